import PyProof.Rows.All
import Wide.All
import OpenK.AllK
import Wide.FinOn
import HandS.ForMost
import HandS.ForExc
import HandS.WideBits
import HandS.TryMany
import HandS.ExcIs
import HandS.IsInst
import HandS.EndBits
import HandS.Flow
import HandS.Zip
import HandS.Defaults
import HandS.Lambda
import HandS.EndTab
import HandS.SortRule
import HandS.SortInts
import HandS.Conv
import HandS.Style
import KE.DataCmp
import HandS.Deep
import HandS.Dict
import KE.DataMinMax
import HandS.More
import HandS.DictSubView
import HandS.Iter
import PyProof.SumWalk
import HandS.SetFor
import PyProof.ReprRoads
import PySem.Challenge.RW_timekernel_k17_lines_refused
set_option Elab.async false
set_option linter.all false
set_option maxRecDepth 100000
set_option maxHeartbeats 4000000
/-! L3: functional mirrors of defs over an own heap (a list of objects), and their walk over the hand layer. -/
namespace L3
open PySem L2

/-- the tables of code objects of the defs that make lambdas; the references that stay while a closure is about -/
class TabT where
  T : List (Addr × Str)
/-- a lambda's words, and the cells that it captured -/
structure LamD where
  qual : Str
  params : Arguments
  body : Expr
  scope : Scope
  cl : List (Str × Addr)
/-- the object at a is the function that a lambda made, its code object stands at c -/
def LamO (a : Addr) (D : LamD) (c : Addr) : HO := .ext fun h => ∃ pm ctv : Value, h.get? a = some (PySem.W.kla_obj "<lambda>" D.qual D.params D.body D.scope D.cl pm c ctv)
class LamT where
  r0 : List Addr
  cs : List (Addr × Str)
  fn : Nat → Nat → Option LamD
variable [TabT] [LamT]
/-- a value of the mirror: ref n, the n-th object of the mirror's heap; gl a, an object of the heap itself, by its address -/
inductive IV where
  | non | bl (b : Bool) | int (i : Int) | str (x : Str) | ref (n : Nat) | gl (a : Addr) | ty (n : String)
  deriving DecidableEq
def IV.toV : IV → V
  | .non => .non
  | .bl b => .bl b
  | .int i => .int i
  | .str x => .str x
  | .ref _ => .non
  | .gl a => .ref a
  | .ty n => .ty n
/-- an object of the mirror's heap; ro: a list that is only read; rot: a tuple of the written part -/
inductive MO where
  | lst (xs : List IV) | tup (xs : List IV) | ro (xs : List IV) | rot (xs : List IV) | dct | clo | dk (kvs : List (Key × IV)) | fn (e j : Nat)
  deriving DecidableEq
abbrev IH := List MO
abbrev Env := List (Option IV)
inductive Res (α : Type) where
  | ok (a : α) (ih : IH) | exc (c : Addr) (ih : IH) | stuck
inductive Fl where
  | next (env : Env) | brk (env : Env) | cont (env : Env) | ret (v : IV)
inductive RS where
  | ok (f : Fl) (ih : IH) | exc (c : Addr) (env : Env) (ih : IH) | stuck
def Res.bind {α β : Type} (r : Res α) (k : α → IH → Res β) : Res β := match r with
  | .ok a ih => k a ih
  | .exc c ih => .exc c ih
  | .stuck => .stuck
@[simp] theorem Res.bind_ok {α β : Type} (a : α) (ih : IH) (k : α → IH → Res β) : (Res.ok a ih).bind k = k a ih := rfl
@[simp] theorem Res.bind_exc {α β : Type} (c : Addr) (ih : IH) (k : α → IH → Res β) : (Res.exc c ih).bind k = .exc c ih := rfl
@[simp] theorem Res.bind_stuck {α β : Type} (k : α → IH → Res β) : (Res.stuck : Res α).bind k = .stuck := rfl
/-- an expression's result within a statement -/
def Res.stm {α : Type} (r : Res α) (env : Env) (k : α → IH → RS) : RS := match r with
  | .ok a ih => k a ih
  | .exc c ih => .exc c env ih
  | .stuck => .stuck
@[simp] theorem Res.stm_ok {α : Type} (a : α) (ih : IH) (env : Env) (k : α → IH → RS) : (Res.ok a ih).stm env k = k a ih := rfl
@[simp] theorem Res.stm_exc {α : Type} (c : Addr) (ih : IH) (env : Env) (k : α → IH → RS) : (Res.exc c ih : Res α).stm env k = .exc c env ih := rfl
@[simp] theorem Res.stm_stuck {α : Type} (env : Env) (k : α → IH → RS) : (Res.stuck : Res α).stm env k = .stuck := rfl

/-! ### what the mirror's heap says of the heap -/
def R (r : List Addr) (x : IV) (y : V) : Prop := match x with
  | .ref n => ∃ a, r[n]? = some a ∧ y = .ref a
  | z => y = z.toV
def Rs (r : List Addr) : List IV → List V → Prop := Paired (R r)
def RK (r : List Addr) : List (Key × IV) → List (Key × V) → Prop := Paired fun p q => p.1 = q.1 ∧ R r p.2 q.2
def RO (K : PySem.W.Frag) (r : List Addr) (H : Hp) (a : Addr) : MO → Prop
  | .lst xs => ∃ ys, H a = some (.lst ys) ∧ Rs r xs ys
  | .tup xs => ∃ ys, H a = some (.tup ys) ∧ Rs r xs ys
  | .ro xs => ∃ ys, ((∃ o, H a = some (.frz o (.lst ys))) ∨ SqL K (fun _ => none) a ys) ∧ Rs r xs ys
  | .rot xs => ∃ ys, SqT K (fun _ => none) a ys ∧ Rs r xs ys
  | .dct => ∃ kvs, H a = some (.dK kvs)
  | .dk kvs => ∃ ys, H a = some (.dK ys) ∧ RK r kvs ys
  | .clo => True
  | .fn e j => ∀ D, LamT.fn e j = some D → ∃ c, H a = some (LamO a D c) ∧ H c = some (LamX.CodeO c D.qual)
def still : MO → Bool
  | .lst _ => false
  | .tup _ => false
  | .ro _ => true
  | .rot _ => true
  | .dct => false
  | .dk _ => false
  | .clo => true
  | .fn _ _ => true
structure Rel (K : PySem.W.Frag) (r : List Addr) (ih : IH) (H : Hp) : Prop where
  len : r.length = ih.length
  get : ∀ (n : Nat) (a : Addr) (o : MO), r[n]? = some a → ih[n]? = some o → RO K r H a o
  inj : ∀ (n m : Nat) (a : Addr) (o u : MO), r[n]? = some a → r[m]? = some a → ih[n]? = some o → ih[m]? = some u → still o = false → still u = false → n = m
  tab : LamX.Tabs TabT.T H
  pre : LamT.r0 <+: r
  cod : ∀ p ∈ LamT.cs, H p.1 = some (LamX.CodeO p.1 p.2)
  ep : ∀ (n e j : Nat), ih[n]? = some (.fn e j) → e ≤ n
  top : ∀ (e j : Nat), ih.length ≤ e → LamT.fn e j = none
def REnv (r : List Addr) (env : Env) (σ : St) : Prop := env.length = σ.length ∧ ∀ (i : Nat) (v : IV), env[i]? = some (some v) → ∃ u, σ[i]? = some (some u) ∧ R r v u

theorem pre_get {r r' : List Addr} (p : r <+: r') {n : Nat} {a : Addr} (h : r[n]? = some a) : r'[n]? = some a := by
  obtain ⟨t, rfl⟩ := p
  rw [List.getElem?_append_left (List.getElem?_eq_some_iff.mp h).1]
  exact h
theorem R.mono {r r' : List Addr} (p : r <+: r') {x : IV} {y : V} (h : R r x y) : R r' x y := by
  cases x with
  | ref n =>
    obtain ⟨a, h1, h2⟩ := h
    exact ⟨a, pre_get p h1, h2⟩
  | _ => exact h
theorem Rs.mono {r r' : List Addr} (p : r <+: r') {xs : List IV} {ys : List V} (h : Rs r xs ys) : Rs r' xs ys := Paired.mapP h fun _ _ q => q.mono p
theorem RK.mono {r r' : List Addr} (p : r <+: r') {xs : List (Key × IV)} {ys : List (Key × V)} (h : RK r xs ys) : RK r' xs ys := Paired.mapP h fun _ _ q => ⟨q.1, q.2.mono p⟩
theorem REnv.mono {r r' : List Addr} (p : r <+: r') {env : Env} {σ : St} (h : REnv r env σ) : REnv r' env σ :=
  ⟨h.1, fun i v e => let ⟨u, h1, h2⟩ := h.2 i v e; ⟨u, h1, h2.mono p⟩⟩
theorem REnv.set {r : List Addr} {env : Env} {σ : St} (h : REnv r env σ) {x : IV} {y : V} (q : R r x y) (i : Nat) : REnv r (env.set i (some x)) (σ.set i (some y)) := by
  refine ⟨by rw [List.length_set, List.length_set, h.1], fun j v e => ?_⟩
  by_cases hj : i = j
  · subst hj
    by_cases hl : i < env.length
    · rw [List.getElem?_set_self hl] at e
      cases e
      exact ⟨y, List.getElem?_set_self (by rw [← h.1]; exact hl), q⟩
    · rw [List.getElem?_eq_none (by simpa using hl)] at e
      cases e
  · rw [List.getElem?_set_ne hj] at e
    obtain ⟨u, h1, h2⟩ := h.2 j v e
    exact ⟨u, by rw [List.getElem?_set_ne hj]; exact h1, h2⟩
theorem REnv.setN {r : List Addr} {env : Env} {σ : St} (h : REnv r env σ) (i : Nat) : REnv r (env.set i none) (σ.set i none) := by
  refine ⟨by rw [List.length_set, List.length_set, h.1], fun j v e => ?_⟩
  by_cases hj : i = j
  · subst hj
    by_cases hl : i < env.length
    · rw [List.getElem?_set_self hl] at e
      cases e
    · rw [List.getElem?_eq_none (by simpa using hl)] at e
      cases e
  · rw [List.getElem?_set_ne hj] at e
    obtain ⟨u, h1, h2⟩ := h.2 j v e
    exact ⟨u, by rw [List.getElem?_set_ne hj]; exact h1, h2⟩
def wipeI (env : Env) : List Nat → Env
  | [] => env
  | v :: vs => (wipeI env vs).set v none
theorem REnv.wipe {r : List Addr} {env : Env} {σ : St} (h : REnv r env σ) : ∀ vs : List Nat, REnv r (wipeI env vs) (wipe σ vs)
  | [] => h
  | v :: vs => (REnv.wipe h vs).setN v
theorem REnv.setO {r : List Addr} {env : Env} {σ : St} (h : REnv r env σ) (i : Nat) (y : Option V) : REnv r (env.set i none) (σ.set i y) := by
  refine ⟨by rw [List.length_set, List.length_set, h.1], fun j v e => ?_⟩
  by_cases hj : i = j
  · subst hj
    by_cases hl : i < env.length
    · rw [List.getElem?_set_self hl] at e
      cases e
    · rw [List.getElem?_eq_none (by simpa using hl)] at e
      cases e
  · rw [List.getElem?_set_ne hj] at e
    obtain ⟨u, h1, h2⟩ := h.2 j v e
    exact ⟨u, by rw [List.getElem?_set_ne hj]; exact h1, h2⟩

theorem Rs.get {r : List Addr} : ∀ {xs : List IV} {ys : List V} {i : Nat} {x : IV}, Rs r xs ys → xs[i]? = some x → ∃ y, ys[i]? = some y ∧ R r x y
  | _, _, _, _, .nil, e => by simp at e
  | _, _, 0, _, .cons q _, e => by simp at e; subst e; exact ⟨_, rfl, q⟩
  | _, _, i + 1, x, .cons _ t, e => by
    obtain ⟨u, h1, h2⟩ := Rs.get (i := i) (x := x) t (by simpa using e)
    exact ⟨u, by simpa using h1, h2⟩
theorem Rs.length {r : List Addr} {xs : List IV} {ys : List V} (h : Rs r xs ys) : xs.length = ys.length := Paired.length h
theorem Rs.append {r : List Addr} : ∀ {xs ys : List IV} {us ws : List V}, Rs r xs us → Rs r ys ws → Rs r (xs ++ ys) (us ++ ws)
  | _, _, _, _, .nil, s => s
  | _, _, _, _, .cons q t, s => .cons q (Rs.append t s)
theorem Rs.set {r : List Addr} {x : IV} {u : V} (q : R r x u) : ∀ {xs : List IV} {us : List V} (i : Nat), Rs r xs us → Rs r (xs.set i x) (us.set i u)
  | _, _, _, .nil => .nil
  | _, _, 0, .cons _ t => .cons q t
  | _, _, i + 1, .cons q' t => .cons q' (Rs.set q i t)
theorem Rs.take {r : List Addr} : ∀ {xs : List IV} {us : List V} (n : Nat), Rs r xs us → Rs r (xs.take n) (us.take n)
  | _, _, 0, _ => .nil
  | _, _, _ + 1, .nil => .nil
  | _, _, n + 1, .cons q t => .cons q (Rs.take n t)
theorem Rs.drop {r : List Addr} : ∀ {xs : List IV} {us : List V} (n : Nat), Rs r xs us → Rs r (xs.drop n) (us.drop n)
  | _, _, 0, q => q
  | _, _, _ + 1, .nil => .nil
  | _, _, n + 1, .cons _ t => Rs.drop n t

theorem SqL.ofK {K : PySem.W.Frag} {H : Hp} {a : Addr} {ys : List V} (h : SqL K (fun _ => none) a ys) : SqL K H a ys := by
  rcases h with (h | ⟨o, h⟩) | h
  · cases h
  · cases h
  · exact .inr h
theorem SqT.ofK {K : PySem.W.Frag} {H : Hp} {a : Addr} {ys : List V} (h : SqT K (fun _ => none) a ys) : SqT K H a ys := by
  rcases h with (h | ⟨o, h⟩) | h
  · cases h
  · cases h
  · exact .inr h

section
variable {K : PySem.W.Frag} {r r' : List Addr} {ih ih' : IH} {H H' : Hp}
theorem Rel.at (h : Rel K r ih H) {n : Nat} {o : MO} (e : ih[n]? = some o) : ∃ a, r[n]? = some a ∧ RO K r H a o := by
  have hl := (List.getElem?_eq_some_iff.mp e).1
  have hr : n < r.length := by rw [h.len]; exact hl
  exact ⟨r[n], List.getElem?_eq_getElem hr, h.get n _ o (List.getElem?_eq_getElem hr) e⟩
theorem RO.mono (p : r <+: r') {a : Addr} {o : MO} (h : RO K r H a o) : RO K r' H a o := by
  cases o with
  | lst xs => obtain ⟨ys, h1, h2⟩ := h; exact ⟨ys, h1, h2.mono p⟩
  | tup xs => obtain ⟨ys, h1, h2⟩ := h; exact ⟨ys, h1, h2.mono p⟩
  | ro xs => obtain ⟨ys, h1, h2⟩ := h; exact ⟨ys, h1, h2.mono p⟩
  | rot xs => obtain ⟨ys, h1, h2⟩ := h; exact ⟨ys, h1, h2.mono p⟩
  | dct => exact h
  | dk kvs => obtain ⟨ys, h1, h2⟩ := h; exact ⟨ys, h1, h2.mono p⟩
  | clo => trivial
  | fn e j => exact h
/-- the object's own entry is all that counts (and what is told of functions) -/
theorem RO.heap {a : Addr} {o : MO} (h : RO K r H a o) (e : still o = true ∨ H' a = H a) (e2 : ∀ o' u, H a = some (.frz o' u) → H' a = some (.frz o' u)) (e3 : ∀ b φ, H b = some (.ext φ) → H' b = some (.ext φ)) : RO K r H' a o := by
  cases o with
  | lst xs =>
    obtain ⟨ys, h1, h2⟩ := h
    rcases e with e | e
    · cases e
    · exact ⟨ys, by rw [e]; exact h1, h2⟩
  | tup xs =>
    obtain ⟨ys, h1, h2⟩ := h
    rcases e with e | e
    · cases e
    · exact ⟨ys, by rw [e]; exact h1, h2⟩
  | ro xs =>
    obtain ⟨ys, h1, h2⟩ := h
    rcases h1 with ⟨o', h1⟩ | h1
    · exact ⟨ys, .inl ⟨o', e2 _ _ h1⟩, h2⟩
    · exact ⟨ys, .inr h1, h2⟩
  | rot xs => obtain ⟨ys, h1, h2⟩ := h; exact ⟨ys, h1, h2⟩
  | dct =>
    obtain ⟨kvs, h1⟩ := h
    rcases e with e | e
    · cases e
    · exact ⟨kvs, by rw [e]; exact h1⟩
  | dk kvs =>
    obtain ⟨ys, h1, h2⟩ := h
    rcases e with e | e
    · cases e
    · exact ⟨ys, by rw [e]; exact h1, h2⟩
  | clo => trivial
  | fn e j =>
    intro D hD
    obtain ⟨c, h1, h2⟩ := h D hD
    exact ⟨c, e3 _ _ h1, e3 _ _ h2⟩
/-- a new object -/
theorem Rel.new (h : Rel K r ih H) {p : Addr} (hp : H p = none) {o : MO} {u : HO} (hs : still o = false) (ho : ∀ H', H' p = some u → RO K r H' p o) : Rel K (r ++ [p]) (ih ++ [o]) (upd H p u) := by
  have pre : r <+: r ++ [p] := ⟨[p], rfl⟩
  have ex3 : ∀ b φ, H b = some (.ext φ) → upd H p u b = some (.ext φ) := fun b φ z => (upd_ne (ne_of_none z hp)).trans z
  have off : ∀ {n : Nat} {b : Addr}, (r ++ [p])[n]? = some b → r[n]? = some b ∨ (n = r.length ∧ b = p) := fun {n b} e => by
    by_cases hn : n < r.length
    · rw [List.getElem?_append_left hn] at e
      exact .inl e
    · rw [List.getElem?_append_right (by omega)] at e
      have hz : n - r.length = 0 := by
        by_cases hz : n - r.length = 0
        · exact hz
        · rw [List.getElem?_eq_none (by simp; omega)] at e
          cases e
      rw [hz] at e
      cases e
      exact .inr ⟨by omega, rfl⟩
  have ofi : ∀ {n : Nat} {x : MO}, n < r.length → (ih ++ [o])[n]? = some x → ih[n]? = some x := fun {n x} hn e => by
    rw [List.getElem?_append_left (by rw [← h.len]; exact hn)] at e
    exact e
  refine ⟨by rw [List.length_append, List.length_append, h.len]; rfl, fun n a x e1 e2 => ?_, fun n m a x y e1 e2 e3 e4 s1 s2 => ?_, h.tab.ext fun b o e => (upd_ne (ne_of_none e hp)).trans e, h.pre.trans pre, fun q hq => (upd_ne (ne_of_none (h.cod q hq) hp)).trans (h.cod q hq), fun n e j g => ?_, fun e j g => h.top e j (by rw [List.length_append] at g; omega)⟩
  rotate_right
  · by_cases hn : n < ih.length
    · rw [List.getElem?_append_left hn] at g
      exact h.ep n e j g
    · rw [List.getElem?_append_right (by omega)] at g
      have hz : n - ih.length = 0 := by
        by_cases hz : n - ih.length = 0
        · exact hz
        · rw [List.getElem?_eq_none (by simp; omega)] at g
          cases g
      rw [hz] at g
      cases g
      cases hs
  · rcases off e1 with e | ⟨e, rfl⟩
    · have hn := (List.getElem?_eq_some_iff.mp e).1
      have q := h.get n a x e (ofi hn e2)
      by_cases ha : a = p
      · subst ha
        refine (q.heap (H' := upd H a u) ?_ (fun o' u' z => by rw [hp] at z; cases z) ex3).mono pre
        cases x with
        | lst xs => obtain ⟨ys, z, _⟩ := q; rw [hp] at z; cases z
        | tup xs => obtain ⟨ys, z, _⟩ := q; rw [hp] at z; cases z
        | ro xs => exact .inl rfl
        | rot xs => exact .inl rfl
        | clo => exact .inl rfl
        | fn e j => exact .inl rfl
        | dct => obtain ⟨kvs, z⟩ := q; rw [hp] at z; cases z
        | dk kvs => obtain ⟨ys, z, _⟩ := q; rw [hp] at z; cases z
      · exact (q.heap (H' := upd H p u) (.inr (upd_ne ha)) (fun o' u' z => by rw [upd_ne ha]; exact z) ex3).mono pre
    · subst e
      rw [h.len, List.getElem?_append_right (Nat.le_refl _), Nat.sub_self] at e2
      cases e2
      exact (ho _ upd_same).mono pre
  · have low : ∀ {n : Nat} {x : MO}, r[n]? = some p → (ih ++ [o])[n]? = some x → still x = false → False := fun {n x} z1 z2 z3 => by
      have hn := (List.getElem?_eq_some_iff.mp z1).1
      have q := h.get n p x z1 (ofi hn z2)
      cases x with
      | lst xs => obtain ⟨ys, z, _⟩ := q; rw [hp] at z; cases z
      | tup xs => obtain ⟨ys, z, _⟩ := q; rw [hp] at z; cases z
      | ro xs => cases z3
      | rot xs => cases z3
      | clo => cases z3
      | fn e j => cases z3
      | dct => obtain ⟨kvs, z⟩ := q; rw [hp] at z; cases z
      | dk kvs => obtain ⟨ys, z, _⟩ := q; rw [hp] at z; cases z
    rcases off e1 with z1 | ⟨z1, rfl⟩
    · rcases off e2 with z2 | ⟨z2, rfl⟩
      · exact h.inj n m a x y z1 z2 (ofi (List.getElem?_eq_some_iff.mp z1).1 e3) (ofi (List.getElem?_eq_some_iff.mp z2).1 e4) s1 s2
      · exact (low z1 e3 s1).elim
    · rcases off e2 with z2 | ⟨z2, _⟩
      · exact (low z2 e4 s2).elim
      · rw [z1, z2]
/-- a list is written -/
theorem Rel.write (h : Rel K r ih H) {n : Nat} {a : Addr} {xs xs' : List IV} {ys : List V} (e1 : r[n]? = some a) (e2 : ih[n]? = some (.lst xs)) (q : Rs r xs' ys) :
    Rel K r (ih.set n (.lst xs')) (upd H a (.lst ys)) := by
  have hn := (List.getElem?_eq_some_iff.mp e2).1
  obtain ⟨zs, hz, _⟩ := h.get n a _ e1 e2
  have ex3 : ∀ b φ, H b = some (.ext φ) → upd H a (.lst ys) b = some (.ext φ) := fun b φ z => (upd_ne (ne_of z hz fun q => nomatch q)).trans z
  refine ⟨by rw [List.length_set]; exact h.len, fun m b x g1 g2 => ?_, fun m l b x y g1 g2 g3 g4 s1 s2 => ?_, fun p hp => ?_, h.pre, fun p hp => (upd_ne (ne_of (h.cod p hp) hz fun z => by unfold LamX.CodeO at z; cases z)).trans (h.cod p hp), fun m e j g => ?_, fun e j g => h.top e j (by rw [List.length_set] at g; exact g)⟩
  rotate_right
  · by_cases hm : n = m
    · subst hm
      rw [List.getElem?_set_self hn] at g
      cases g
    · rw [List.getElem?_set_ne hm] at g
      exact h.ep m e j g
  rotate_right
  · obtain ⟨ps, t1, t2, t3⟩ := h.tab p hp
    have ne : ∀ {b : Addr} {u : HO}, H b = some u → u ≠ .lst zs → upd H a (.lst ys) b = some u := fun {b u} e hu => (upd_ne (ne_of e hz hu)).trans e
    refine ⟨ps, ne t1 (fun z => nomatch z), t2, fun pos cv hc => ?_⟩
    obtain ⟨c, e, ec⟩ := t3 pos cv hc
    exact ⟨c, e, ne ec fun z => by unfold LamX.CodeO at z; cases z⟩
  · by_cases hm : n = m
    · subst hm
      rw [List.getElem?_set_self hn] at g2
      cases g2
      rw [e1] at g1
      cases g1
      exact ⟨ys, upd_same, q⟩
    · rw [List.getElem?_set_ne hm] at g2
      have w := h.get m b x g1 g2
      by_cases hb : b = a
      · subst hb
        refine w.heap ?_ (fun o' u' z => by rw [hz] at z; cases z) ex3
        cases hs : still x with
        | true => exact .inl rfl
        | false => exact absurd (h.inj n m b _ _ e1 g1 e2 g2 rfl hs) hm
      · exact w.heap (.inr (upd_ne hb)) (fun o' u' z => by rw [upd_ne hb]; exact z) ex3
  · have back : ∀ {m : Nat} {x : MO}, (ih.set n (.lst xs'))[m]? = some x → still x = false → ∃ x', ih[m]? = some x' ∧ still x' = false := fun {m x} g s => by
      by_cases hm : n = m
      · subst hm
        exact ⟨_, e2, rfl⟩
      · rw [List.getElem?_set_ne hm] at g
        exact ⟨x, g, s⟩
    obtain ⟨x', z1, z2⟩ := back g3 s1
    obtain ⟨y', z3, z4⟩ := back g4 s2
    exact h.inj m l b _ _ g1 g2 z1 z3 z2 z4
/-- a dict is written -/
theorem Rel.writeD (h : Rel K r ih H) {n : Nat} {a : Addr} {xs xs' : List (Key × IV)} {ys : List (Key × V)} (e1 : r[n]? = some a) (e2 : ih[n]? = some (.dk xs)) (q : RK r xs' ys) :
    Rel K r (ih.set n (.dk xs')) (upd H a (.dK ys)) := by
  have hn := (List.getElem?_eq_some_iff.mp e2).1
  obtain ⟨zs, hz, _⟩ := h.get n a _ e1 e2
  have ex3 : ∀ b φ, H b = some (.ext φ) → upd H a (.dK ys) b = some (.ext φ) := fun b φ z => (upd_ne (ne_of z hz fun q => nomatch q)).trans z
  refine ⟨by rw [List.length_set]; exact h.len, fun m b x g1 g2 => ?_, fun m l b x y g1 g2 g3 g4 s1 s2 => ?_, fun p hp => ?_, h.pre, fun p hp => (upd_ne (ne_of (h.cod p hp) hz fun z => by unfold LamX.CodeO at z; cases z)).trans (h.cod p hp), fun m e j g => ?_, fun e j g => h.top e j (by rw [List.length_set] at g; exact g)⟩
  rotate_right
  · by_cases hm : n = m
    · subst hm
      rw [List.getElem?_set_self hn] at g
      cases g
    · rw [List.getElem?_set_ne hm] at g
      exact h.ep m e j g
  rotate_right
  · obtain ⟨ps, t1, t2, t3⟩ := h.tab p hp
    have ne : ∀ {b : Addr} {u : HO}, H b = some u → u ≠ .dK zs → upd H a (.dK ys) b = some u := fun {b u} e hu => (upd_ne (ne_of e hz hu)).trans e
    refine ⟨ps, ne t1 (fun z => nomatch z), t2, fun pos cv hc => ?_⟩
    obtain ⟨c, e, ec⟩ := t3 pos cv hc
    exact ⟨c, e, ne ec fun z => by unfold LamX.CodeO at z; cases z⟩
  · by_cases hm : n = m
    · subst hm
      rw [List.getElem?_set_self hn] at g2
      cases g2
      rw [e1] at g1
      cases g1
      exact ⟨ys, upd_same, q⟩
    · rw [List.getElem?_set_ne hm] at g2
      have w := h.get m b x g1 g2
      by_cases hb : b = a
      · subst hb
        refine w.heap ?_ (fun o' u' z => by rw [hz] at z; cases z) ex3
        cases hs : still x with
        | true => exact .inl rfl
        | false => exact absurd (h.inj n m b _ _ e1 g1 e2 g2 rfl hs) hm
      · exact w.heap (.inr (upd_ne hb)) (fun o' u' z => by rw [upd_ne hb]; exact z) ex3
  · have back : ∀ {m : Nat} {x : MO}, (ih.set n (.dk xs'))[m]? = some x → still x = false → ∃ x', ih[m]? = some x' ∧ still x' = false := fun {m x} g s => by
      by_cases hm : n = m
      · subst hm
        exact ⟨_, e2, rfl⟩
      · rw [List.getElem?_set_ne hm] at g
        exact ⟨x, g, s⟩
    obtain ⟨x', z1, z2⟩ := back g3 s1
    obtain ⟨y', z3, z4⟩ := back g4 s2
    exact h.inj m l b _ _ g1 g2 z1 z3 z2 z4
end
end L3
/-! L3b: mirrors as readings; expressions. -/
namespace L3
variable [TabT] [LamT]
open PySem L2

/-! ### readings made of mirrors -/
/-- what is wanted of an expression's result -/
def PGen {α β : Type} (rel : List Addr → α → β → Prop) (K : PySem.W.Frag) (W : WX) (σ : St) (r : List Addr) (res : Res α) (Q : β → Hp → Prop) : Prop := match res with
  | .ok v ih => ∀ r' H u, r <+: r' → Rel K r' ih H → rel r' v u → Q u H
  | .exc c ih => ∀ r' H, r <+: r' → Rel K r' ih H → W (.ref c) none σ H
  | .stuck => False
def tG {α β : Type} (rel : List Addr → α → β → Prop) (K : PySem.W.Frag) (W : WX) (m : Env → IH → Res α) : St → Hp → (β → Hp → Prop) → Prop := fun σ H Q =>
  ∃ r ih env, Rel K r ih H ∧ REnv r env σ ∧ PGen rel K W σ r (m env ih) Q
abbrev Bq (_ : List Addr) (a b : Bool) : Prop := b = a
/-- an optional int of a slice -/
abbrev Oq (_ : List Addr) (a b : Option Int) : Prop := b = a
abbrev tM (K : PySem.W.Frag) (W : WX) (m : Env → IH → Res IV) : TE := tG R K W m
abbrev tMT (K : PySem.W.Frag) (W : WX) (m : Env → IH → Res Bool) : TT := tG Bq K W m
abbrev tMA (K : PySem.W.Frag) (W : WX) (m : Env → IH → Res (List IV)) : TA := tG Rs K W m
def PStm (K : PySem.W.Frag) (W : WX) (r : List Addr) (res : RS) (D : Ends) : Prop := match res with
  | .ok (.next env) ih => ∀ r' H σ, r <+: r' → Rel K r' ih H → REnv r' env σ → D.nx σ H
  | .ok (.brk env) ih => ∀ r' H σ, r <+: r' → Rel K r' ih H → REnv r' env σ → D.bk σ H
  | .ok (.cont env) ih => ∀ r' H σ, r <+: r' → Rel K r' ih H → REnv r' env σ → D.ct σ H
  | .ok (.ret v) ih => ∀ r' H u, r <+: r' → Rel K r' ih H → R r' v u → D.rt u H
  | .exc c env ih => ∀ r' H σ, r <+: r' → Rel K r' ih H → REnv r' env σ → W (.ref c) none σ H
  | .stuck => False
def tMS (K : PySem.W.Frag) (W : WX) (m : Env → IH → RS) : TS := fun D σ H => ∃ r ih env, Rel K r ih H ∧ REnv r env σ ∧ PStm K W r (m env ih) D

theorem pre_refl (r : List Addr) : r <+: r := ⟨[], List.append_nil r⟩
theorem pre_trans {a b c : List Addr} (h : a <+: b) (k : b <+: c) : a <+: c := by
  obtain ⟨x, rfl⟩ := h
  obtain ⟨y, rfl⟩ := k
  exact ⟨x ++ y, (List.append_assoc _ _ _).symm⟩
section
variable {K : PySem.W.Frag} {W : WX} {σ : St} {H : Hp} {r r' : List Addr} {ih ih' : IH} {env : Env}
theorem PGen.mono {α β : Type} {rel : List Addr → α → β → Prop} {res : Res α} {Q : β → Hp → Prop} (p : r <+: r') (h : PGen rel K W σ r res Q) : PGen rel K W σ r' res Q := by
  cases res with
  | ok v ih => exact fun r2 H u p2 a b => h r2 H u (pre_trans p p2) a b
  | exc c ih => exact fun r2 H p2 a => h r2 H (pre_trans p p2) a
  | stuck => exact h
theorem PStm.mono {res : RS} {D : Ends} (p : r <+: r') (h : PStm K W r res D) : PStm K W r' res D := by
  cases res with
  | ok f ih =>
    cases f with
    | next e => exact fun r2 H u p2 a b => h r2 H u (pre_trans p p2) a b
    | brk e => exact fun r2 H u p2 a b => h r2 H u (pre_trans p p2) a b
    | cont e => exact fun r2 H u p2 a b => h r2 H u (pre_trans p p2) a b
    | ret e => exact fun r2 H u p2 a b => h r2 H u (pre_trans p p2) a b
  | exc c e ih => exact fun r2 H u p2 a b => h r2 H u (pre_trans p p2) a b
  | stuck => exact h
/-- what is known behind a part -/
def Got {α β : Type} (rel : List Addr → α → β → Prop) (K : PySem.W.Frag) (r : List Addr) (P : List Addr → IH → α → Prop) (u : β) (H : Hp) : Prop := ∃ r1 ih1 v, r <+: r1 ∧ Rel K r1 ih1 H ∧ rel r1 v u ∧ P r1 ih1 v
/-- the first part of a bind -/
theorem tG_bind {α β γ δ : Type} {rel1 : List Addr → α → β → Prop} {rel2 : List Addr → γ → δ → Prop} {m : Env → IH → Res α} {k : α → IH → Res γ} {Q : δ → Hp → Prop} (hr : Rel K r ih H) (he : REnv r env σ)
    (h : PGen rel2 K W σ r ((m env ih).bind k) Q) : tG rel1 K W m σ H (Got rel1 K r fun r1 ih1 v => PGen rel2 K W σ r1 (k v ih1) Q) := by
  refine ⟨r, ih, env, hr, he, ?_⟩
  cases e : m env ih with
  | ok v ih1 =>
    rw [e] at h
    exact fun r1 H1 u p a b => ⟨r1, ih1, v, p, a, b, PGen.mono p h⟩
  | exc c ih1 =>
    rw [e] at h
    exact fun r1 H1 p a => h r1 H1 p a
  | stuck =>
    rw [e] at h
    exact h
theorem tG_stm {α β : Type} {rel1 : List Addr → α → β → Prop} {m : Env → IH → Res α} {k : α → IH → RS} {D : Ends} (hr : Rel K r ih H) (he : REnv r env σ)
    (h : PStm K W r ((m env ih).stm env k) D) : tG rel1 K W m σ H (Got rel1 K r fun r1 ih1 v => PStm K W r1 (k v ih1) D) := by
  refine ⟨r, ih, env, hr, he, ?_⟩
  cases e : m env ih with
  | ok v ih1 =>
    rw [e] at h
    exact fun r1 H1 u p a b => ⟨r1, ih1, v, p, a, b, PStm.mono p h⟩
  | exc c ih1 =>
    rw [e] at h
    exact fun r1 H1 p a => h r1 H1 σ p a (he.mono p)
  | stuck =>
    rw [e] at h
    exact h
theorem tG_end {α β : Type} {rel : List Addr → α → β → Prop} {v : α} {u : β} {Q : β → Hp → Prop} (h : PGen rel K W σ r (.ok v ih) Q) (hr : Rel K r ih H) (q : rel r v u) : Q u H := h r H u (pre_refl r) hr q
end
theorem tG.imp {α β : Type} {rel : List Addr → α → β → Prop} {K : PySem.W.Frag} {W : WX} {m : Env → IH → Res α} {σ : St} {H : Hp} {Q Q' : β → Hp → Prop} (h : tG rel K W m σ H Q) (w : ∀ u H', Q u H' → Q' u H') : tG rel K W m σ H Q' := by
  obtain ⟨r, ih, env, h1, h2, h3⟩ := h
  refine ⟨r, ih, env, h1, h2, ?_⟩
  cases e : m env ih with
  | ok v ih1 => rw [e] at h3; exact fun r' H' u p a b => w _ _ (h3 r' H' u p a b)
  | exc c ih1 => rw [e] at h3; exact h3
  | stuck => rw [e] at h3; exact h3
/-- a reading, weaker -/
theorem PE.of {X : Cx} {e : Expr} {t t' : TE} (h : PE X e t) (w : ∀ σ H Q, t' σ H Q → t σ H Q) : PE X e t' := ⟨fun pins s σ H Q I q => h.run pins s σ H Q I (w σ H Q q)⟩
theorem PT.of {X : Cx} {e : Expr} {t t' : TT} (h : PT X e t) (w : ∀ σ H Q, t' σ H Q → t σ H Q) : PT X e t' := ⟨fun pins s σ H Q I q => h.run pins s σ H Q I (w σ H Q q)⟩
theorem PW.of {X : Cx} {e : Expr} {t t' : TT} (h : PW X e t) (w : ∀ σ H Q, t' σ H Q → t σ H Q) : PW X e t' := ⟨fun wh pins s σ H Q I q => h.run wh pins s σ H Q I (w σ H Q q)⟩
theorem PA.of {X : Cx} {e : List Expr} {t t' : TA} (h : PA X e t) (w : ∀ σ H Q, t' σ H Q → t σ H Q) : PA X e t' := ⟨fun pos pins s σ H Q I q => h.run pos pins s σ H Q I (w σ H Q q)⟩
theorem PS.of {X : Cx} {e : Stmt} {t t' : TS} (h : PS X e t) (w : ∀ D σ H, t' D σ H → t D σ H) : PS X e t' := ⟨fun pins s σ H D I q => h.run pins s σ H D I (w D σ H q)⟩
theorem PSs.of {X : Cx} {e : List Stmt} {t t' : TS} (h : PSs X e t) (w : ∀ D σ H, t' D σ H → t D σ H) : PSs X e t' := ⟨fun pins s σ H D I q => h.run pins s σ H D I (w D σ H q)⟩

/-! ### mirrors of expressions -/
def m_var (i : Nat) (env : Env) (ih : IH) : Res IV := match env[i]? with
  | some (some v) => .ok v ih
  | _ => .stuck
def m_c (v : IV) (_ : Env) (ih : IH) : Res IV := .ok v ih
def m_op (f : IV → IV → IH → Res IV) (ma mb : Env → IH → Res IV) (env : Env) (ih : IH) : Res IV := (ma env ih).bind fun x ih1 => (mb env ih1).bind fun y ih2 => f x y ih2
def m_un (f : IV → IH → Res IV) (ma : Env → IH → Res IV) (env : Env) (ih : IH) : Res IV := (ma env ih).bind f
def m_nil (_ : Env) (ih : IH) : Res (List IV) := .ok [] ih
def m_cons (ma : Env → IH → Res IV) (mr : Env → IH → Res (List IV)) (env : Env) (ih : IH) : Res (List IV) := (ma env ih).bind fun x ih1 => (mr env ih1).bind fun xs ih2 => .ok (x :: xs) ih2
def m_if (mt : Env → IH → Res Bool) (ma mb : Env → IH → Res IV) (env : Env) (ih : IH) : Res IV := (mt env ih).bind fun b ih1 => if b = true then ma env ih1 else mb env ih1
def m_and (ma mb : Env → IH → Res Bool) (env : Env) (ih : IH) : Res Bool := (ma env ih).bind fun b ih1 => if b = true then mb env ih1 else .ok false ih1
def m_or (ma mb : Env → IH → Res Bool) (env : Env) (ih : IH) : Res Bool := (ma env ih).bind fun b ih1 => if b = true then .ok true ih1 else mb env ih1
def m_not (ma : Env → IH → Res Bool) (env : Env) (ih : IH) : Res Bool := (ma env ih).bind fun b ih1 => .ok (!b) ih1
def m_tb (ma : Env → IH → Res IV) (env : Env) (ih : IH) : Res Bool := (ma env ih).bind fun v ih1 => match v with
  | .bl b => .ok b ih1
  | _ => .stuck
def m_andV (ma mb : Env → IH → Res IV) (env : Env) (ih : IH) : Res IV := (ma env ih).bind fun v ih1 => match v with
  | .bl b => if b = true then mb env ih1 else .ok (.bl false) ih1
  | _ => .stuck
def m_orV (ma mb : Env → IH → Res IV) (env : Env) (ih : IH) : Res IV := (ma env ih).bind fun v ih1 => match v with
  | .bl b => if b = true then .ok (.bl true) ih1 else mb env ih1
  | _ => .stuck
def m_notV (ma : Env → IH → Res IV) (env : Env) (ih : IH) : Res IV := (ma env ih).bind fun v ih1 => match v with
  | .bl b => .ok (.bl (!b)) ih1
  | _ => .stuck
/-- a call of values -/
def m_app (f : List IV → IH → Res IV) (ma : Env → IH → Res (List IV)) (env : Env) (ih : IH) : Res IV := (ma env ih).bind f

/-- a two-place rule follows its mirror -/
def Snd2 (K : PySem.W.Frag) (W : WX) (rr : R2) (f : IV → IV → IH → Res IV) : Prop := ∀ (r : List Addr) (ih : IH) (H : Hp) (x y : IV) (u w : V) (σ : St) (Q : VK), Rel K r ih H → R r x u → R r y w → PGen R K W σ r (f x y ih) Q → rr u w H Q
def Snd1 (K : PySem.W.Frag) (W : WX) (rr : V → Hp → VK → Prop) (f : IV → IH → Res IV) : Prop := ∀ (r : List Addr) (ih : IH) (H : Hp) (x : IV) (u : V) (σ : St) (Q : VK), Rel K r ih H → R r x u → PGen R K W σ r (f x ih) Q → rr u H Q
def SndC (K : PySem.W.Frag) (W : WX) (rr : List V → Hp → VK → Prop) (f : List IV → IH → Res IV) : Prop := ∀ (r : List Addr) (ih : IH) (H : Hp) (xs : List IV) (us : List V) (σ : St) (Q : VK), Rel K r ih H → Rs r xs us → PGen R K W σ r (f xs ih) Q → rr us H Q

section
variable {X : Cx} {W : WX} {a b c : Expr} {ma mb mc : Env → IH → Res IV} {na nb : Env → IH → Res Bool} {pos : Pos}
theorem lm_var (i : Nat) {x : Str} (hN : X.N[i]? = some x := by rfl) (hv : Vis X.env.scope x := by first | exact Or.inl rfl | exact Or.inr (Or.inl rfl) | exact Or.inr (Or.inr rfl)) (hd : (x == ("__debug__" : Str)) = false := by decide)
    (hcd : (x == ("__classdict__" : Str)) = false := by decide) : PE X (.Name x pos) (tM X.K W (m_var i)) :=
  PE.of (pe_var hN hv hd hcd) fun σ H Q ⟨r, ih, env, hr, he, q⟩ => by
    unfold m_var at q
    split at q
    · rename_i v e
      obtain ⟨u, h1, h2⟩ := he.2 i v e
      exact ⟨u, h1, tG_end q hr h2⟩
    · exact q.elim
theorem lm_c {e : Expr} {w : V} (v : IV) (h : PE X e (tC w)) (hv : ∀ r, R r v w := by intro _; rfl) : PE X e (tM X.K W (m_c v)) :=
  PE.of h fun σ H Q ⟨r, ih, env, hr, he, q⟩ => tG_end q hr (hv r)
theorem lm_op {op : Operator} {rr : R2} {f : IV → IV → IH → Res IV} (ho : OpR X (binaryOp op) rr) (hf : Snd2 X.K W rr f) (ha : PE X a (tM X.K W ma)) (hb : PE X b (tM X.K W mb)) : PE X (.BinOp a op b pos) (tM X.K W (m_op f ma mb)) :=
  PE.of (pe_op ho ha hb) fun σ H Q ⟨r, ih, env, hr, he, q⟩ => tG.imp (tG_bind hr he q) fun u H1 ⟨r1, ih1, v, p, hr1, hv, q1⟩ =>
    tG.imp (tG_bind hr1 (he.mono p) q1) fun w H2 ⟨r2, ih2, y, p2, hr2, hy, q2⟩ => hf _ _ _ _ _ _ _ _ _ hr2 (hv.mono p2) hy q2
theorem lm_un {op : UnaryOp} {rr : V → Hp → VK → Prop} {f : IV → IH → Res IV} (ho : UnR X (unaryOp op) rr) (hf : Snd1 X.K W rr f) (ha : PE X a (tM X.K W ma)) : PE X (.UnaryOp op a pos) (tM X.K W (m_un f ma)) :=
  PE.of (pe_un ho ha) fun σ H Q ⟨r, ih, env, hr, he, q⟩ => tG.imp (tG_bind hr he q) fun u H1 ⟨r1, ih1, v, p, hr1, hv, q1⟩ => hf _ _ _ _ _ _ _ hr1 hv q1
theorem lm_ix {rr : R2} {f : IV → IV → IH → Res IV} (ho : IxR X rr) (hf : Snd2 X.K W rr f) (ha : PE X a (tM X.K W ma)) (hb : PE X b (tM X.K W mb)) (hs : PlainIx b := by exact fun _ _ => rfl) : PE X (.Subscript a b pos) (tM X.K W (m_op f ma mb)) :=
  PE.of (pe_ix ho ha hb hs) fun σ H Q ⟨r, ih, env, hr, he, q⟩ => tG.imp (tG_bind hr he q) fun u H1 ⟨r1, ih1, v, p, hr1, hv, q1⟩ =>
    tG.imp (tG_bind hr1 (he.mono p) q1) fun w H2 ⟨r2, ih2, y, p2, hr2, hy, q2⟩ => hf _ _ _ _ _ _ _ _ _ hr2 (hv.mono p2) hy q2
theorem lm_cmp {op : CmpOp} {rr : R2} {f : IV → IV → IH → Res IV} (ho : OpR X (compareOp op) rr) (hf : Snd2 X.K W rr f) (ha : PE X a (tM X.K W ma)) (hb : PE X b (tM X.K W mb)) (hm : behindInMarks op b = false := by first | exact nomark _ | rfl) : PE X (.Compare a [op] [b] pos) (tM X.K W (m_op f ma mb)) :=
  PE.of (pe_cmpR ho ha hb hm) fun σ H Q ⟨r, ih, env, hr, he, q⟩ => tG.imp (tG_bind hr he q) fun u H1 ⟨r1, ih1, v, p, hr1, hv, q1⟩ =>
    tG.imp (tG_bind hr1 (he.mono p) q1) fun w H2 ⟨r2, ih2, y, p2, hr2, hy, q2⟩ => hf _ _ _ _ _ _ _ _ _ hr2 (hv.mono p2) hy q2
/-- a value's truth that is a bool -/
theorem tb_core {m : Env → IH → Res IV} {σ : St} {H : Hp} {Q : Bool → Hp → Prop} (h : tMT X.K W (m_tb m) σ H Q) : tM X.K W m σ H fun x H1 => ∃ k, x = .bl k ∧ Q k H1 := by
  obtain ⟨r, ih, env, hr, he, q⟩ := h
  refine tG.imp (tG_bind hr he q) fun u H1 ⟨r1, ih1, v, p, hr1, hv, q1⟩ => ?_
  cases v with
  | bl b =>
    obtain rfl : u = .bl b := hv
    exact ⟨b, rfl, tG_end q1 hr1 rfl⟩
  | _ => exact q1.elim
/-- a test that is a comparison -/
theorem lt_cmp {op : CmpOp} {rr : R2} {f : IV → IV → IH → Res IV} (ho : OpR X (compareOp op) rr) (hf : Snd2 X.K W rr f) (ha : PE X a (tM X.K W ma)) (hb : PE X b (tM X.K W mb)) (hm : behindInMarks op b = false := by first | exact nomark _ | rfl) : PT X (.Compare a [op] [b] pos) (tMT X.K W (m_tb (m_op f ma mb))) :=
  PT.of (pt_cmpR ho ha hb hm) fun σ H Q h => by
    obtain ⟨r, ih, env, hr, he, q⟩ := tb_core h
    exact tG.imp (tG_bind hr he q) fun u H1 ⟨r1, ih1, v, p, hr1, hv, q1⟩ =>
      tG.imp (tG_bind hr1 (he.mono p) q1) fun w H2 ⟨r2, ih2, y, p2, hr2, hy, q2⟩ => hf _ _ _ _ _ _ _ _ _ hr2 (hv.mono p2) hy q2
/-- any expression that gives a bool, as a test -/
theorem lt_val {e : Expr} {m : Env → IH → Res IV} (h : PE X e (tM X.K W m)) (he : ∀ whole, isTrue e X.env whole = (do let v ← whole; standAt e.pos; holding [v] (truthy v)) := by intro _; rfl) : PT X e (tMT X.K W (m_tb m)) :=
  PT.of (pt_val h he) fun σ H Q h => tb_core h
theorem lt_not (h : PT X a (tMT X.K W na)) : PT X (.UnaryOp .Not a pos) (tMT X.K W (m_not na)) :=
  PT.of (pt_not h) fun σ H Q ⟨r, ih, env, hr, he, q⟩ => tG.imp (tG_bind hr he q) fun u H1 ⟨r1, ih1, v, p, hr1, hv, q1⟩ => tG_end q1 hr1 (by rw [show u = v from hv])
theorem lw_and1 (h : PT X a (tMT X.K W na)) : PW X (.BoolOp .And [a] pos) (tMT X.K W na) := pw_and1 h
theorem lw_or1 (h : PT X a (tMT X.K W na)) : PW X (.BoolOp .Or [a] pos) (tMT X.K W na) := pw_or1 h
theorem lw_and {rest : List Expr} (ha : PT X a (tMT X.K W na)) (hb : PW X (.BoolOp .And (b :: rest) pos) (tMT X.K W nb)) : PW X (.BoolOp .And (a :: b :: rest) pos) (tMT X.K W (m_and na nb)) :=
  PW.of (pw_and ha hb) fun σ H Q ⟨r, ih, env, hr, he, q⟩ => tG.imp (tG_bind hr he q) fun u H1 ⟨r1, ih1, v, p, hr1, hv, q1⟩ => by
    obtain rfl : u = v := hv
    cases u with
    | true => exact ⟨r1, ih1, env, hr1, he.mono p, q1⟩
    | false => exact tG_end q1 hr1 rfl
theorem lw_or {rest : List Expr} (ha : PT X a (tMT X.K W na)) (hb : PW X (.BoolOp .Or (b :: rest) pos) (tMT X.K W nb)) : PW X (.BoolOp .Or (a :: b :: rest) pos) (tMT X.K W (m_or na nb)) :=
  PW.of (pw_or ha hb) fun σ H Q ⟨r, ih, env, hr, he, q⟩ => tG.imp (tG_bind hr he q) fun u H1 ⟨r1, ih1, v, p, hr1, hv, q1⟩ => by
    obtain rfl : u = v := hv
    cases u with
    | true => exact tG_end q1 hr1 rfl
    | false => exact ⟨r1, ih1, env, hr1, he.mono p, q1⟩
theorem lm_one {op : BoolOp} (h : PE X a (tM X.K W ma)) : PE X (.BoolOp op [a] pos) (tM X.K W ma) := pe_one h
theorem lm_and {rest : List Expr} (ha : PE X a (tM X.K W ma)) (hb : PE X (.BoolOp .And (b :: rest) pos) (tM X.K W mb)) : PE X (.BoolOp .And (a :: b :: rest) pos) (tM X.K W (m_andV ma mb)) :=
  PE.of (pe_and ha hb) fun σ H Q ⟨r, ih, env, hr, he, q⟩ => tG.imp (tG_bind hr he q) fun u H1 ⟨r1, ih1, v, p, hr1, hv, q1⟩ => by
    cases v with
    | bl k =>
      obtain rfl : u = .bl k := hv
      refine ⟨k, rfl, ?_⟩
      cases k with
      | true => exact ⟨r1, ih1, env, hr1, he.mono p, q1⟩
      | false => exact tG_end q1 hr1 rfl
    | _ => exact q1.elim
theorem lm_or {rest : List Expr} (ha : PE X a (tM X.K W ma)) (hb : PE X (.BoolOp .Or (b :: rest) pos) (tM X.K W mb)) : PE X (.BoolOp .Or (a :: b :: rest) pos) (tM X.K W (m_orV ma mb)) :=
  PE.of (pe_or ha hb) fun σ H Q ⟨r, ih, env, hr, he, q⟩ => tG.imp (tG_bind hr he q) fun u H1 ⟨r1, ih1, v, p, hr1, hv, q1⟩ => by
    cases v with
    | bl k =>
      obtain rfl : u = .bl k := hv
      refine ⟨k, rfl, ?_⟩
      cases k with
      | true => exact tG_end q1 hr1 rfl
      | false => exact ⟨r1, ih1, env, hr1, he.mono p, q1⟩
    | _ => exact q1.elim
theorem lm_not (ha : PE X a (tM X.K W ma)) : PE X (.UnaryOp .Not a pos) (tM X.K W (m_notV ma)) :=
  PE.of (pe_not ha) fun σ H Q ⟨r, ih, env, hr, he, q⟩ => tG.imp (tG_bind hr he q) fun u H1 ⟨r1, ih1, v, p, hr1, hv, q1⟩ => by
    cases v with
    | bl k =>
      obtain rfl : u = .bl k := hv
      exact ⟨k, rfl, tG_end q1 hr1 rfl⟩
    | _ => exact q1.elim
theorem lm_if {t : Expr} {nt : Env → IH → Res Bool} (ht : PT X t (tMT X.K W nt)) (ha : PE X a (tM X.K W ma)) (hb : PE X b (tM X.K W mb)) : PE X (.IfExp t a b pos) (tM X.K W (m_if nt ma mb)) :=
  PE.of (pe_ifExp ht ha hb) fun σ H Q ⟨r, ih, env, hr, he, q⟩ => tG.imp (tG_bind hr he q) fun u H1 ⟨r1, ih1, v, p, hr1, hv, q1⟩ => by
    obtain rfl : u = v := hv
    cases u with
    | true => exact ⟨r1, ih1, env, hr1, he.mono p, q1⟩
    | false => exact ⟨r1, ih1, env, hr1, he.mono p, q1⟩
theorem la_nil : PA X [] (tMA X.K W m_nil) := PA.of pa_nil fun σ H Q ⟨r, ih, env, hr, he, q⟩ => tG_end q hr .nil
theorem la_cons {es : List Expr} {mr : Env → IH → Res (List IV)} (ha : PE X a (tM X.K W ma)) (hr : PA X es (tMA X.K W mr)) (hp : starEach (a :: es) X.env = (false, eval a X.env) :: starEach es X.env := by rfl) : PA X (a :: es) (tMA X.K W (m_cons ma mr)) :=
  PA.of (pa_cons ha hr hp) fun σ H Q ⟨r, ih, env, hr, he, q⟩ => tG.imp (tG_bind hr he q) fun u H1 ⟨r1, ih1, v, p, hr1, hv, q1⟩ =>
    tG.imp (tG_bind hr1 (he.mono p) q1) fun w H2 ⟨r2, ih2, y, p2, hr2, hy, q2⟩ => tG_end q2 hr2 (.cons (hv.mono p2) hy)
/-- a built-in function, a built-in type -/
theorem lm_callB {x : Str} {p : Pos} {es : List Expr} {id : String} {rr : List V → Hp → VK → Prop} {f : List IV → IH → Res IV} {m : Env → IH → Res (List IV)} (hc : CallR X (.builtin id) rr) (hf : SndC X.K W rr f) (hg : Gl X x) (hm : X.mg x = none) (hv : bootBuiltins x = some (.builtin id)) (ha : PA X (a :: es) (tMA X.K W m))
    (hn : x ≠ "__name__" := by decide) (hdb : (x == ("__debug__" : Str)) = false := by decide)
    (he : starEach (a :: es) X.env = (false, eval a X.env) :: starEach es X.env := by rfl) (hpl : (backTo pos (starEach es X.env)).any (·.1) = false := by rfl) : PE X (.Call (.Name x p) (a :: es) [] pos) (tM X.K W (m_app f m)) :=
  PE.of (pe_callB hc hg hm hv ha hn hdb he hpl) fun σ H Q ⟨r, ih, env, hr, he, q⟩ => tG.imp (tG_bind hr he q) fun u H1 ⟨r1, ih1, v, p, hr1, hv, q1⟩ => hf _ _ _ _ _ _ _ hr1 hv q1
theorem lm_callTy {x : Str} {p : Pos} {es : List Expr} {T : String} {rr : List V → Hp → VK → Prop} {f : List IV → IH → Res IV} {m : Env → IH → Res (List IV)} (hc : CallR X (.type T) rr) (hf : SndC X.K W rr f) (hg : Gl X x) (hm : X.mg x = none) (hv : bootBuiltins x = some (.type T)) (ha : PA X (a :: es) (tMA X.K W m))
    (hn : x ≠ "__name__" := by decide) (hdb : (x == ("__debug__" : Str)) = false := by decide)
    (he : starEach (a :: es) X.env = (false, eval a X.env) :: starEach es X.env := by rfl) (hpl : (backTo pos (starEach es X.env)).any (·.1) = false := by rfl) : PE X (.Call (.Name x p) (a :: es) [] pos) (tM X.K W (m_app f m)) :=
  PE.of (pe_callTy hc hg hm hv ha hn hdb he hpl) fun σ H Q ⟨r, ih, env, hr, he, q⟩ => tG.imp (tG_bind hr he q) fun u H1 ⟨r1, ih1, v, p, hr1, hv, q1⟩ => hf _ _ _ _ _ _ _ hr1 hv q1
end
end L3
/-! L3c: the mirrors of operations on values, and that the hand layer's rules follow them. -/
namespace L3
variable [TabT] [LamT]
open PySem L2

/-! ### reading objects -/
def MO.xs : MO → List IV
  | .lst xs => xs
  | .tup xs => xs
  | .ro xs => xs
  | .rot xs => xs
  | .dct => []
  | .dk _ => []
  | .clo => []
  | .fn _ _ => []
def MO.isL : MO → Bool
  | .lst _ => true
  | .tup _ => false
  | .ro _ => true
  | .rot _ => false
  | .dct => false
  | .dk _ => false
  | .clo => false
  | .fn _ _ => false
def MO.isT : MO → Bool
  | .tup _ => true
  | .rot _ => true
  | _ => false
def MO.isS : MO → Bool
  | .dct => false
  | .dk _ => false
  | .clo => false
  | .fn _ _ => false
  | _ => true
theorem MO.lt {o : MO} (h : o.isL = true) (k : o.isT = true) : False := by
  cases o with
  | lst _ => cases k
  | ro _ => cases k
  | _ => cases h
theorem MO.tf {o : MO} (h : o.isL = false) (k : o = .dct → False) (k2 : o = .clo → False) (k3 : ∀ kvs, o = .dk kvs → False) (k4 : ∀ e j, o = .fn e j → False) : o.isT = true := by
  cases o with
  | fn e j => exact (k4 e j rfl).elim
  | dct => exact (k rfl).elim
  | dk kvs => exact (k3 kvs rfl).elim
  | clo => exact (k2 rfl).elim
  | tup _ => rfl
  | rot _ => rfl
  | _ => cases h
theorem MO.xs0 {o : MO} (h : o.isL = false) (k : o.isT = false) : o.xs = [] := by
  cases o with
  | dct => rfl
  | dk _ => rfl
  | clo => rfl
  | fn _ _ => rfl
  | tup _ => cases k
  | rot _ => cases k
  | _ => cases h
section
variable {K : PySem.W.Frag} {W : WX} {r : List Addr} {ih : IH} {H : Hp} {a : Addr} {o : MO}
theorem RO.l (h : RO K r H a o) (e : o.isL = true) : ∃ ys, SqL K H a ys ∧ Rs r o.xs ys := by
  cases o with
  | lst xs => obtain ⟨ys, h1, h2⟩ := h; exact ⟨ys, .inl (.inl h1), h2⟩
  | ro xs =>
    obtain ⟨ys, h1, h2⟩ := h
    rcases h1 with ⟨o, h1⟩ | h1
    · exact ⟨ys, .inl (.inr ⟨o, h1⟩), h2⟩
    · exact ⟨ys, SqL.ofK h1, h2⟩
  | tup xs => cases e
  | rot xs => cases e
  | dct => cases e
  | dk _ => cases e
  | clo => cases e
  | fn _ _ => cases e
theorem RO.t (h : RO K r H a o) (e : o.isT = true) : ∃ ys, SqT K H a ys ∧ Rs r o.xs ys := by
  cases o with
  | tup xs => obtain ⟨ys, h1, h2⟩ := h; exact ⟨ys, .inl (.inl h1), h2⟩
  | rot xs => obtain ⟨ys, h1, h2⟩ := h; exact ⟨ys, SqT.ofK h1, h2⟩
  | lst xs => cases e
  | ro xs => cases e
  | dct => cases e
  | dk _ => cases e
  | clo => cases e
  | fn _ _ => cases e
theorem Rs.atI {xs : List IV} {ys : List V} {i : Int} {v : IV} (h : Rs r xs ys) (e : atI xs i = some v) : ∃ u, atI ys i = some u ∧ R r v u := by
  unfold L2.atI at e ⊢
  rw [← h.length]
  cases q : ixN xs.length i with
  | none => rw [q] at e; cases e
  | some j =>
    rw [q] at e
    obtain ⟨u, h1, h2⟩ := h.get (i := j) e
    exact ⟨u, h1, h2⟩
theorem R.flat {x : IV} {y : V} (h : R r x y) (f : ∀ n, x ≠ .ref n) : y = x.toV := by
  cases x with
  | ref n => exact absurd rfl (f n)
  | _ => exact h
theorem R.ref {n : Nat} {y : V} (h : R r (.ref n) y) : ∃ a, r[n]? = some a ∧ y = .ref a := h
end

/-! ### ints -/
def f_I (C : Int → Int → Bool) (g : Int → Int → IV) (x y : IV) (ih : IH) : Res IV := match x, y with
  | .int i, .int j => if C i j = true then .ok (g i j) ih else .stuck
  | _, _ => .stuck
def f_I0 (g : Int → Int → IV) (x y : IV) (ih : IH) : Res IV := match x, y with
  | .int i, .int j => .ok (g i j) ih
  | _, _ => .stuck
def f_U (g : Int → IV) (x : IV) (ih : IH) : Res IV := match x with
  | .int i => .ok (g i) ih
  | _ => .stuck
abbrev ibits (i : Int) : Nat := Builtin.Int.intBits i
def cMul (i j : Int) : Bool := decide (ibits i + ibits j ≤ 134217728)
def cShl (i j : Int) : Bool := decide (0 ≤ j) && decide ((ibits i : Int) + j ≤ 134217728)
def cShr (_ j : Int) : Bool := decide (0 ≤ j)
def cDiv (_ j : Int) : Bool := decide (0 < j) && decide (j.natAbs.log2 < 9000)
def cMod (_ j : Int) : Bool := decide (0 < j)
def cPow (i j : Int) : Bool := decide (0 ≤ j) && decide (j ≤ 1000000) && decide (i.natAbs < 18446744073709551616)
section
variable {X : Cx} {K : PySem.W.Frag} {W : WX}
theorem snd_I {C : Int → Int → Bool} {D : Int → Int → Prop} {g : Int → Int → IV} {g' : Int → Int → V} (hC : ∀ i j, C i j = true → D i j) (hg : ∀ r i j, R r (g i j) (g' i j)) : Snd2 K W (rI D g') (f_I C g) := by
  intro r ih H x y u w σ Q hr hx hy q
  cases x with
  | int i =>
    cases y with
    | int j =>
      obtain rfl : u = .int i := hx
      obtain rfl : w = .int j := hy
      show ∃ i' j', _
      refine ⟨i, j, rfl, rfl, ?_⟩
      unfold f_I at q
      dsimp only at q
      split at q
      · rename_i hc
        exact ⟨hC i j hc, tG_end q hr (hg r i j)⟩
      · exact q.elim
    | _ => exact q.elim
  | _ => exact q.elim
theorem snd_I0 {g : Int → Int → IV} {g' : Int → Int → V} (hg : ∀ r i j, R r (g i j) (g' i j)) : Snd2 K W (rI0 g') (f_I0 g) := by
  intro r ih H x y u w σ Q hr hx hy q
  cases x with
  | int i =>
    cases y with
    | int j =>
      obtain rfl : u = .int i := hx
      obtain rfl : w = .int j := hy
      exact ⟨i, j, rfl, rfl, tG_end q hr (hg r i j)⟩
    | _ => exact q.elim
  | _ => exact q.elim
theorem snd_U {g : Int → IV} {g' : Int → V} (hg : ∀ r i, R r (g i) (g' i)) : Snd1 K W (rU g') (f_U g) := by
  intro r ih H x u σ Q hr hx q
  cases x with
  | int i =>
    obtain rfl : u = .int i := hx
    exact ⟨i, rfl, tG_end q hr (hg r i)⟩
  | _ => exact q.elim
def f_mul := f_I cMul fun i j => .int (i * j)
def f_sub := f_I0 fun i j => .int (i - j)
def f_fdiv := f_I cDiv fun i j => .int (i / j)
def f_mod := f_I cMod fun i j => .int (i % j)
def f_shl := f_I cShl fun i j => .int (i * 2 ^ j.toNat)
def f_shr := f_I cShr fun i j => .int (i / 2 ^ j.toNat)
def f_pow := f_I cPow fun i j => .int (i ^ j.toNat)
def f_lt := f_I0 fun i j => .bl (decide (i < j))
def f_le := f_I0 fun i j => .bl (decide (i ≤ j))
def f_gt := f_I0 fun i j => .bl (decide (j < i))
def f_ge := f_I0 fun i j => .bl (decide (j ≤ i))
def f_neg := f_U fun i => .int (-i)
theorem s_mul : Snd2 K W (rI CMulX fun i j => .int (i * j)) f_mul := snd_I (fun i j h => by
  have h1 := of_decide_eq_true h
  unfold ibits at h1
  unfold CMulX
  omega) fun _ _ _ => rfl
theorem s_sub : Snd2 K W (rI0 fun i j => .int (i - j)) f_sub := snd_I0 fun _ _ _ => rfl
theorem s_fdiv : Snd2 K W (rI CDivW fun i j => .int (i / j)) f_fdiv := snd_I (fun i j h => by
  unfold cDiv at h
  rw [Bool.and_eq_true] at h
  exact ⟨of_decide_eq_true h.1, of_decide_eq_true h.2⟩) fun _ _ _ => rfl
theorem s_mod : Snd2 K W (rI (fun _ j => 0 < j) fun i j => .int (i % j)) f_mod := snd_I (fun i j h => of_decide_eq_true h) fun _ _ _ => rfl
theorem s_shl : Snd2 K W (rI CShl fun i j => .int (i * 2 ^ j.toNat)) f_shl := snd_I (fun i j h => by
  unfold cShl at h
  rw [Bool.and_eq_true] at h
  exact ⟨of_decide_eq_true h.1, of_decide_eq_true h.2⟩) fun _ _ _ => rfl
theorem s_shr : Snd2 K W (rI (fun _ j => 0 ≤ j) fun i j => .int (i / 2 ^ j.toNat)) f_shr := snd_I (fun i j h => of_decide_eq_true h) fun _ _ _ => rfl
theorem s_pow : Snd2 K W (rI CPow fun i j => .int (i ^ j.toNat)) f_pow := snd_I (fun i j h => by
  unfold cPow at h
  rw [Bool.and_eq_true, Bool.and_eq_true] at h
  exact ⟨of_decide_eq_true h.1.1, of_decide_eq_true h.1.2, of_decide_eq_true h.2⟩) fun _ _ _ => rfl
theorem s_lt : Snd2 K W (rI0 fun i j => .bl (decide (i < j))) f_lt := snd_I0 fun _ _ _ => rfl
theorem s_le : Snd2 K W (rI0 fun i j => .bl (decide (i ≤ j))) f_le := snd_I0 fun _ _ _ => rfl
theorem s_gt : Snd2 K W (rI0 fun i j => .bl (decide (j < i))) f_gt := snd_I0 fun _ _ _ => rfl
theorem s_ge : Snd2 K W (rI0 fun i j => .bl (decide (j ≤ i))) f_ge := snd_I0 fun _ _ _ => rfl
theorem s_neg : Snd1 K W (rU fun i => .int (-i)) f_neg := snd_U fun _ _ => rfl

/-! ### + : ints, lists, tuples, texts -/
def f_add (x y : IV) (ih : IH) : Res IV := match x, y with
  | .int i, .int j => .ok (.int (i + j)) ih
  | .str a, .str b => if a.length + b.length ≤ 1000000 then .ok (.str (a ++ b)) ih else .stuck
  | .ref n, .ref m => match ih[n]?, ih[m]? with
    | some (.lst xs), some (.lst ys) => if xs.length + ys.length ≤ 100000 then .ok (.ref ih.length) (ih ++ [.lst (xs ++ ys)]) else .stuck
    | some (.tup xs), some (.tup ys) => if xs ≠ [] ∧ ys ≠ [] ∧ xs.length + ys.length ≤ 100000 then .ok (.ref ih.length) (ih ++ [.tup (xs ++ ys)]) else .stuck
    | _, _ => .stuck
  | _, _ => .stuck
theorem pre_one {r : List Addr} {p : Addr} : r <+: r ++ [p] := ⟨[p], rfl⟩
theorem R.newest {r : List Addr} {p : Addr} {n : Nat} (h : r.length = n) : R (r ++ [p]) (.ref n) (.ref p) := ⟨p, by rw [← h, List.getElem?_append_right (Nat.le_refl _), Nat.sub_self]; rfl, rfl⟩
/-- a new list, a new tuple is the result -/
theorem end_lst {r : List Addr} {ih : IH} {H : Hp} {σ : St} {Q : VK} {xs : List IV} {ys : List V} (q : PGen R K W σ r (.ok (.ref ih.length) (ih ++ [.lst xs])) Q) (hr : Rel K r ih H) (h : Rs r xs ys) {p : Addr} (hp : H p = none) : Q (.ref p) (upd H p (.lst ys)) :=
  q _ _ _ pre_one (hr.new hp rfl fun H' e => ⟨ys, e, h⟩) (R.newest hr.len)
theorem end_tup {r : List Addr} {ih : IH} {H : Hp} {σ : St} {Q : VK} {xs : List IV} {ys : List V} (q : PGen R K W σ r (.ok (.ref ih.length) (ih ++ [.tup xs])) Q) (hr : Rel K r ih H) (h : Rs r xs ys) {p : Addr} (hp : H p = none) : Q (.ref p) (upd H p (.tup ys)) :=
  q _ _ _ pre_one (hr.new hp rfl fun H' e => ⟨ys, e, h⟩) (R.newest hr.len)
theorem line5 {n : Nat} (h : n ≤ 100000) : n ≤ sizeLine := Nat.le_trans h (by decide)
theorem line6 {n : Nat} (h : n ≤ 1000000) : n ≤ sizeLine := Nat.le_trans h (by decide)
theorem line5l {n : Nat} (h : n < 100000) : n < sizeLine := Nat.lt_of_lt_of_le h (by decide)
abbrev rAddA (K : PySem.W.Frag) : R2 := fun x y H Q => (∃ i j, x = .int i ∧ y = .int j ∧ Q (.int (i + j)) H) ∨ ((∃ i j, x = .str i ∧ y = .str j ∧ i.length + j.length ≤ sizeLine ∧ Q (.str (i ++ j)) H) ∨ (rCat x y H Q ∨ rCatT K x y H Q))
theorem op_addA : OpR X (binaryOp .Add) (rAddA X.K) := op_add.or (op_add_str.or (op_cat.or op_catT))
theorem Rs.ne_nil {r : List Addr} {xs : List IV} {ys : List V} (h : Rs r xs ys) (n : xs ≠ []) : ys ≠ [] := fun e => by
  subst e
  have := h.length
  exact n (List.length_eq_zero_iff.mp this)
theorem s_add : Snd2 K W (rAddA K) f_add := by
  intro r ih H x y u w σ Q hr hx hy q
  unfold f_add at q
  split at q
  · rename_i i j
    obtain rfl : u = .int i := hx
    obtain rfl : w = .int j := hy
    exact .inl ⟨i, j, rfl, rfl, tG_end q hr rfl⟩
  · rename_i i j
    obtain rfl : u = .str i := hx
    obtain rfl : w = .str j := hy
    split at q
    · rename_i hl
      exact .inr (.inl ⟨i, j, rfl, rfl, line6 hl, tG_end q hr rfl⟩)
    · exact q.elim
  · rename_i n m
    obtain ⟨a, ea, rfl⟩ := hx.ref
    obtain ⟨b, eb, rfl⟩ := hy.ref
    split at q
    · rename_i xs ys e1 e2
      obtain ⟨xs', h1, h2⟩ := hr.get n a _ ea e1
      obtain ⟨ys', h3, h4⟩ := hr.get m b _ eb e2
      split at q
      · rename_i hl
        refine .inr (.inr (.inl ⟨a, b, xs', ys', rfl, rfl, h1, h3, ?_, fun p hp => end_lst q hr (h2.append h4) hp⟩))
        rw [← h2.length, ← h4.length]
        exact line5 hl
      · exact q.elim
    · rename_i xs ys e1 e2
      obtain ⟨xs', h1, h2⟩ := hr.get n a _ ea e1
      obtain ⟨ys', h3, h4⟩ := hr.get m b _ eb e2
      split at q
      · rename_i hl
        refine .inr (.inr (.inr ⟨a, b, xs', ys', rfl, rfl, SqT.of h1, SqT.of h3, h2.ne_nil hl.1, ?_, fun z => absurd z (h4.ne_nil hl.2.1), fun _ p hp => end_tup q hr (h2.append h4) hp⟩))
        rw [← h2.length, ← h4.length]
        exact line5 hl.2.2
      · exact q.elim
    · exact q.elim
  · exact q.elim

/-! ### list * int -/
def f_mulA (x y : IV) (ih : IH) : Res IV := match x, y with
  | .int i, .int j => if cMul i j = true then .ok (.int (i * j)) ih else .stuck
  | .ref n, .int k => match ih[n]? with
    | some (.lst xs) => if 0 ≤ k ∧ k ≤ 100000 ∧ xs.length * k.toNat ≤ 100000 then .ok (.ref ih.length) (ih ++ [.lst (List.replicate k.toNat xs).flatten]) else .stuck
    | _ => .stuck
  | _, _ => .stuck
theorem Rs.rep {r : List Addr} {xs : List IV} {ys : List V} (h : Rs r xs ys) : ∀ k : Nat, Rs r (List.replicate k xs).flatten (List.replicate k ys).flatten
  | 0 => .nil
  | k + 1 => by
    rw [List.replicate_succ, List.replicate_succ, List.flatten_cons, List.flatten_cons]
    exact h.append (Rs.rep h k)
abbrev rMulA : R2 := fun x y H Q => rI CMulX (fun i j => .int (i * j)) x y H Q ∨ rRep x y H Q
theorem op_mulA : OpR X (binaryOp .Mult) rMulA := op_mulX.or op_rep
theorem s_mulA : Snd2 K W rMulA f_mulA := by
  intro r ih H x y u w σ Q hr hx hy q
  unfold f_mulA at q
  split at q
  · rename_i i j
    refine .inl (s_mul (W := W) r ih H (.int i) (.int j) u w σ Q hr hx hy ?_)
    exact q
  · rename_i n k
    obtain ⟨a, ea, rfl⟩ := hx.ref
    obtain rfl : w = .int k := hy
    split at q
    · rename_i xs e1
      obtain ⟨xs', h1, h2⟩ := hr.get n a _ ea e1
      split at q
      · rename_i hl
        refine .inr ⟨a, k, xs', rfl, rfl, h1, by omega, by omega, ?_, fun p hp => end_lst q hr (h2.rep _) hp⟩
        rw [← h2.length]
        exact line5 hl.2.2
      · exact q.elim
    · exact q.elim
  · exact q.elim

/-! ### subscripts -/
def f_ix (x y : IV) (ih : IH) : Res IV := match x, y with
  | .ref n, .int i => match ih[n]? with
    | some o => match atI o.xs i with
      | some v => .ok v ih
      | none => .stuck
    | none => .stuck
  | .str z, .int i => if z.length ≤ 1000000 then (match atI z.cps.toList i with
      | some c => .ok (.str ⟨#[c]⟩) ih
      | none => .stuck) else .stuck
  | _, _ => .stuck
theorem s_ix : Snd2 K W (rIx K) f_ix := by
  intro r ih H x y u w σ Q hr hx hy q
  unfold f_ix at q
  split at q
  · rename_i n i
    obtain ⟨a, ea, rfl⟩ := hx.ref
    obtain rfl : w = .int i := hy
    split at q
    · rename_i o e1
      have ho := hr.get n a _ ea e1
      split at q
      · rename_i v e2
        cases hl : o.isL with
        | true =>
          obtain ⟨ys, h1, h2⟩ := ho.l hl
          obtain ⟨z, h3, h4⟩ := h2.atI e2
          exact .inl ⟨a, ys, i, z, rfl, rfl, h1, h3, tG_end q hr h4⟩
        | false =>
          cases ht : o.isT with
          | true =>
            obtain ⟨ys, h1, h2⟩ := ho.t ht
            obtain ⟨z, h3, h4⟩ := h2.atI e2
            exact .inr (.inl ⟨a, ys, i, z, rfl, rfl, h1, h3, tG_end q hr h4⟩)
          | false =>
            rw [MO.xs0 hl ht] at e2
            simp [L2.atI] at e2
      · exact q.elim
    · exact q.elim
  · rename_i z i
    obtain rfl : u = .str z := hx
    obtain rfl : w = .int i := hy
    split at q
    · rename_i hl
      split at q
      · rename_i c e
        exact .inr (.inr ⟨z, i, c, rfl, rfl, line6 hl, e, tG_end q hr rfl⟩)
      · exact q.elim
    · exact q.elim
  · exact q.elim
end

/-! ### == and != -/
mutual
/-- the value is this datum -/
inductive Is (ih : IH) : IV → PyData → Prop
  | non : Is ih .non .none
  | bl (b : Bool) : Is ih (.bl b) (.bool b)
  | int (i : Int) : Is ih (.int i) (.int i)
  | str (x : Str) : Is ih (.str x) (.str x)
  | lst {n : Nat} {o : MO} {ds : List PyData} : ih[n]? = some o → o.isL = true → IsAll ih o.xs ds → Is ih (.ref n) (.list ds)
  | tup {n : Nat} {o : MO} {ds : List PyData} : ih[n]? = some o → o.isT = true → IsAll ih o.xs ds → Is ih (.ref n) (.tuple ds)
inductive IsAll (ih : IH) : List IV → List PyData → Prop
  | nil : IsAll ih [] []
  | cons {v : IV} {vs : List IV} {d : PyData} {ds : List PyData} : Is ih v d → IsAll ih vs ds → IsAll ih (v :: vs) (d :: ds)
end
mutual
theorem Is.uniq {ih : IH} : ∀ (d e : PyData) (v : IV), Is ih v d → Is ih v e → d = e
  | .none, _, _, h, k => by cases h; cases k; rfl
  | .bool _, _, _, h, k => by cases h; cases k; rfl
  | .int _, _, _, h, k => by cases h; cases k; rfl
  | .str _, _, _, h, k => by cases h; cases k; rfl
  | .list ds, _, _, h, k => by
    cases h with
    | lst h1 h2 h3 =>
      cases k with
      | lst k1 k2 k3 =>
        rw [h1] at k1
        cases k1
        rw [Is.uniqAll ds _ _ h3 k3]
      | tup k1 k2 k3 =>
        rw [h1] at k1
        cases k1
        exact (MO.lt h2 k2).elim
  | .tuple ds, _, _, h, k => by
    cases h with
    | tup h1 h2 h3 =>
      cases k with
      | tup k1 k2 k3 =>
        rw [h1] at k1
        cases k1
        rw [Is.uniqAll ds _ _ h3 k3]
      | lst k1 k2 k3 =>
        rw [h1] at k1
        cases k1
        exact (MO.lt k2 h2).elim
  | .dict _, _, _, h, _ => by cases h
theorem Is.uniqAll {ih : IH} : ∀ (ds es : List PyData) (vs : List IV), IsAll ih vs ds → IsAll ih vs es → ds = es
  | [], _, _, h, k => by cases h; cases k; rfl
  | d :: ds, _, _, h, k => by
    cases h with
    | cons h1 h2 =>
      cases k with
      | cons k1 k2 => rw [Is.uniq d _ _ h1 k1, Is.uniqAll ds _ _ h2 k2]
end
mutual
theorem Is.dp {K : PySem.W.Frag} {r : List Addr} {ih : IH} {H : Hp} (hr : Rel K r ih H) : ∀ (d : PyData) (v : IV) (u : V), Is ih v d → R r v u → Dp K H u d
  | .none, _, u, h, q => by cases h; obtain rfl : u = .non := q; exact .non
  | .bool b, _, u, h, q => by cases h; obtain rfl : u = .bl b := q; exact .bl b
  | .int i, _, u, h, q => by cases h; obtain rfl : u = .int i := q; exact .int i
  | .str x, _, u, h, q => by cases h; obtain rfl : u = .str x := q; exact .str x
  | .list ds, _, u, h, q => by
    cases h with
    | lst h1 h2 h3 =>
      obtain ⟨a, ea, rfl⟩ := q.ref
      obtain ⟨ys, h4, h5⟩ := (hr.get _ a _ ea h1).l h2
      exact .lst h4 (Is.dpAll hr ds _ _ h3 h5)
  | .tuple ds, _, u, h, q => by
    cases h with
    | tup h1 h2 h3 =>
      obtain ⟨a, ea, rfl⟩ := q.ref
      obtain ⟨ys, h4, h5⟩ := (hr.get _ a _ ea h1).t h2
      exact .tup h4 (Is.dpAll hr ds _ _ h3 h5)
  | .dict _, _, _, h, _ => by cases h
theorem Is.dpAll {K : PySem.W.Frag} {r : List Addr} {ih : IH} {H : Hp} (hr : Rel K r ih H) : ∀ (ds : List PyData) (vs : List IV) (us : List V), IsAll ih vs ds → Rs r vs us → DpAll K H us ds
  | [], _, _, h, q => by cases h; cases q; exact .nil
  | d :: ds, _, _, h, q => by
    cases h with
    | cons h1 h2 =>
      cases q with
      | cons q1 q2 => exact .cons (Is.dp hr d _ _ h1 q1) (Is.dpAll hr ds _ _ h2 q2)
end
/-- two lists of unlike lengths -/
def lenNe (x y : IV) (ih : IH) : Bool := match x, y with
  | .ref n, .ref m => match ih[n]?, ih[m]? with
    | some o, some u => o.isL && u.isL && (o.xs.length != u.xs.length)
    | _, _ => false
  | _, _ => false
open Classical in
noncomputable def f_eqn (neg : Bool) (x y : IV) (ih : IH) : Res IV :=
  if h : ∃ p : PyData × PyData, Is ih x p.1 ∧ Is ih y p.2 ∧ SeqAt.shaped p.1 = true ∧ SeqAt.shaped p.2 = true then .ok (.bl (if neg = true then !PyData.eqv h.choose.1 h.choose.2 else PyData.eqv h.choose.1 h.choose.2)) ih else if lenNe x y ih = true then .ok (.bl neg) ih else match x, y with
    | .str a, .str b => .ok (.bl (if neg = true then !decide (a = b) else decide (a = b))) ih
    | _, _ => .stuck
noncomputable def f_eq := f_eqn false
noncomputable def f_ne := f_eqn true
theorem f_eqn_of {neg : Bool} {x y : IV} {ih : IH} {d e : PyData} (h1 : Is ih x d) (h2 : Is ih y e) (s1 : SeqAt.shaped d = true) (s2 : SeqAt.shaped e = true) : f_eqn neg x y ih = .ok (.bl (if neg = true then !PyData.eqv d e else PyData.eqv d e)) ih := by
  unfold f_eqn
  have h : ∃ p : PyData × PyData, Is ih x p.1 ∧ Is ih y p.2 ∧ SeqAt.shaped p.1 = true ∧ SeqAt.shaped p.2 = true := ⟨(d, e), h1, h2, s1, s2⟩
  rw [dif_pos h]
  have k := h.choose_spec
  rw [Is.uniq _ _ _ k.1 h1, Is.uniq _ _ _ k.2.1 h2]
theorem f_eq_of {x y : IV} {ih : IH} {d e : PyData} (h1 : Is ih x d) (h2 : Is ih y e) (s1 : SeqAt.shaped d = true) (s2 : SeqAt.shaped e = true) : f_eq x y ih = .ok (.bl (PyData.eqv d e)) ih := f_eqn_of h1 h2 s1 s2
theorem f_ne_of {x y : IV} {ih : IH} {d e : PyData} (h1 : Is ih x d) (h2 : Is ih y e) (s1 : SeqAt.shaped d = true) (s2 : SeqAt.shaped e = true) : f_ne x y ih = .ok (.bl (!PyData.eqv d e)) ih := f_eqn_of h1 h2 s1 s2
theorem IsAll.len {ih : IH} : ∀ {vs : List IV} {ds : List PyData}, IsAll ih vs ds → vs.length = ds.length
  | _, _, .nil => rfl
  | _, _, .cons _ t => congrArg Nat.succ t.len
theorem eqv_lenNe {xs ys : List PyData} (h : xs.length ≠ ys.length) : PyData.eqv (.list xs) (.list ys) = false := by
  refine Bool.eq_false_iff.mpr fun e => h ?_
  unfold PyData.eqv at e
  have key : ∀ (xs ys : List PyData), PyData.eqvAll xs ys = true → xs.length = ys.length := by
    intro xs
    induction xs with
    | nil => intro ys e; cases ys with
      | nil => rfl
      | cons y ys => simp [PyData.eqvAll] at e
    | cons x xs ih => intro ys e; cases ys with
      | nil => simp [PyData.eqvAll] at e
      | cons y ys =>
        simp [PyData.eqvAll] at e
        rw [List.length_cons, List.length_cons, ih ys e.2]
  exact key xs ys e
theorem f_eqn_len {neg : Bool} {n m : Nat} {o u : MO} {ih : IH} (h1 : ih[n]? = some o) (h2 : ih[m]? = some u) (l1 : o.isL = true) (l2 : u.isL = true) (hl : o.xs.length ≠ u.xs.length) : f_eqn neg (.ref n) (.ref m) ih = .ok (.bl neg) ih := by
  have e1 : lenNe (.ref n) (.ref m) ih = true := by
    unfold lenNe
    dsimp only
    rw [h1, h2]
    dsimp only
    rw [l1, l2]
    simpa using hl
  unfold f_eqn
  by_cases h : ∃ p : PyData × PyData, Is ih (.ref n) p.1 ∧ Is ih (.ref m) p.2 ∧ SeqAt.shaped p.1 = true ∧ SeqAt.shaped p.2 = true
  · rw [dif_pos h]
    have k := h.choose_spec
    have e2 : PyData.eqv h.choose.1 h.choose.2 = false := by
      generalize h.choose = z at k ⊢
      obtain ⟨d, e⟩ := z
      obtain ⟨k1, k2, _, _⟩ := k
      dsimp only at k1 k2 ⊢
      cases k1 with
      | lst g1 g2 g3 =>
        rw [h1] at g1
        cases g1
        cases k2 with
        | lst f1 f2 f3 =>
          rw [h2] at f1
          cases f1
          exact eqv_lenNe (by rw [← g3.len, ← f3.len]; exact hl)
        | tup f1 f2 f3 =>
          rw [h2] at f1
          cases f1
          exact (MO.lt l2 f2).elim
      | tup g1 g2 g3 =>
        rw [h1] at g1
        cases g1
        exact (MO.lt l1 g2).elim
    rw [e2]
    cases neg <;> rfl
  · rw [dif_neg h, if_pos e1]
theorem eqv_strD {a b : Str} : PyData.eqv (.str a) (.str b) = decide (a = b) := by
  unfold PyData.eqv
  by_cases h : a = b
  · subst h; simp
  · simp [h]
theorem f_eqn_str {neg : Bool} {a b : Str} {ih : IH} : f_eqn neg (.str a) (.str b) ih = .ok (.bl (if neg = true then !decide (a = b) else decide (a = b))) ih := by
  unfold f_eqn
  by_cases h : ∃ p : PyData × PyData, Is ih (.str a) p.1 ∧ Is ih (.str b) p.2 ∧ SeqAt.shaped p.1 = true ∧ SeqAt.shaped p.2 = true
  · rw [dif_pos h]
    have k := h.choose_spec
    generalize h.choose = z at k ⊢
    obtain ⟨d, e⟩ := z
    obtain ⟨k1, k2, _, _⟩ := k
    dsimp only at k1 k2 ⊢
    cases k1
    cases k2
    rw [eqv_strD]
  · rw [dif_neg h]
    rfl
def rEqL (K : PySem.W.Frag) (b : Bool) : R2 := fun x y H Q => ∃ p q xs ys, x = .ref p ∧ y = .ref q ∧ SqL K H p xs ∧ SqL K H q ys ∧ xs.length ≠ ys.length ∧ Q (.bl b) H
abbrev rEqX (K : PySem.W.Frag) : R2 := fun x y H Q => rEqD K x y H Q ∨ (rEqL K false x y H Q ∨ rEq x y H Q)
abbrev rNeX (K : PySem.W.Frag) : R2 := fun x y H Q => rNeD K x y H Q ∨ (rEqL K true x y H Q ∨ rNe x y H Q)
theorem op_eqL {X : Cx} (hu : X.A.units < cLine) : OpR X (compareOp .Eq) (rEqL X.K false) := by
  intro pins s σ H x y v u Q I rx ry h
  obtain ⟨p, q, xs, ys, rfl, rfl, h1, h2, hl, k⟩ := h
  cases (show v = Value.ref p from rx)
  cases (show u = Value.ref q from ry)
  obtain ⟨us, r1, p1, _⟩ := I.list h1
  obtain ⟨ws, r2, p2, _⟩ := I.list h2
  exact SeqAt.RcAt.lists_lengths p1.isList p2.isList (by simpa [← r1.length, ← r2.length] using hl) hu _ _ _ _ ⟨.bl _, H, I, rfl, k⟩
theorem op_neL {X : Cx} (hu : X.A.units < cLine) : OpR X (compareOp .NotEq) (rEqL X.K true) := by
  intro pins s σ H x y v u Q I rx ry h
  obtain ⟨p, q, xs, ys, rfl, rfl, h1, h2, hl, k⟩ := h
  cases (show v = Value.ref p from rx)
  cases (show u = Value.ref q from ry)
  obtain ⟨us, r1, p1, _⟩ := I.list h1
  obtain ⟨ws, r2, p2, _⟩ := I.list h2
  exact SeqAt.RcNeAt.lists_lengths p1.isList p2.isList (by simpa [← r1.length, ← r2.length] using hl) hu _ _ _ _ ⟨.bl _, H, I, rfl, k⟩
theorem op_eqX {X : Cx} (hu : X.A.units + 64 < cLine) : OpR X (compareOp .Eq) (rEqX X.K) := (op_eqD hu).or ((op_eqL (by omega)).or op_eq)
theorem op_neX {X : Cx} (hu : X.A.units + 64 < cLine) : OpR X (compareOp .NotEq) (rNeX X.K) := (op_neD hu).or ((op_neL (by omega)).or op_ne)
theorem lenNe_R {K : PySem.W.Frag} {r : List Addr} {ih : IH} {H : Hp} {x y : IV} {u w : V} (hr : Rel K r ih H) (hx : R r x u) (hy : R r y w) (h : lenNe x y ih = true) :
    ∃ p q xs ys, u = .ref p ∧ w = .ref q ∧ SqL K H p xs ∧ SqL K H q ys ∧ xs.length ≠ ys.length := by
  unfold lenNe at h
  split at h
  · rename_i n m
    obtain ⟨a, ea, rfl⟩ := hx.ref
    obtain ⟨b, eb, rfl⟩ := hy.ref
    split at h
    · rename_i o v e1 e2
      simp only [Bool.and_eq_true] at h
      obtain ⟨ys, h1, h2⟩ := (hr.get n a _ ea e1).l h.1.1
      obtain ⟨zs, h3, h4⟩ := (hr.get m b _ eb e2).l h.1.2
      exact ⟨a, b, ys, zs, rfl, rfl, h1, h3, by rw [← h2.length, ← h4.length]; simpa using h.2⟩
    · cases h
  · cases h
theorem s_eq {K : PySem.W.Frag} {W : WX} : Snd2 K W (rEqX K) f_eq := by
  intro r ih H x y u w σ Q hr hx hy q
  unfold f_eq f_eqn at q
  split at q
  · rename_i h
    have k := h.choose_spec
    exact .inl ⟨_, _, Is.dp hr _ _ _ k.1 hx, Is.dp hr _ _ _ k.2.1 hy, k.2.2.1, k.2.2.2, tG_end q hr rfl⟩
  · split at q
    · rename_i h
      obtain ⟨a, b, xs, ys, e1, e2, h1, h2, hl⟩ := lenNe_R hr hx hy h
      exact .inr (.inl ⟨a, b, xs, ys, e1, e2, h1, h2, hl, tG_end q hr rfl⟩)
    · split at q
      · rename_i a b _ _
        obtain rfl : u = .str a := hx
        obtain rfl : w = .str b := hy
        have e : decide (V.str a = V.str b) = decide (a = b) := by simp
        refine .inr (.inr ⟨rfl, tG_end q hr ?_⟩)
        rw [e]
        rfl
      · exact q.elim
theorem s_ne {K : PySem.W.Frag} {W : WX} : Snd2 K W (rNeX K) f_ne := by
  intro r ih H x y u w σ Q hr hx hy q
  unfold f_ne f_eqn at q
  split at q
  · rename_i h
    have k := h.choose_spec
    exact .inl ⟨_, _, Is.dp hr _ _ _ k.1 hx, Is.dp hr _ _ _ k.2.1 hy, k.2.2.1, k.2.2.2, tG_end q hr rfl⟩
  · split at q
    · rename_i h
      obtain ⟨a, b, xs, ys, e1, e2, h1, h2, hl⟩ := lenNe_R hr hx hy h
      exact .inr (.inl ⟨a, b, xs, ys, e1, e2, h1, h2, hl, tG_end q hr rfl⟩)
    · split at q
      · rename_i a b _ _
        obtain rfl : u = .str a := hx
        obtain rfl : w = .str b := hy
        have e : decide (V.str a = V.str b) = decide (a = b) := by simp
        refine .inr (.inr ⟨rfl, tG_end q hr ?_⟩)
        rw [e]
        rfl
      · exact q.elim
/-! ### is None -/
def f_isN (x y : IV) (ih : IH) : Res IV := if y = .non then .ok (.bl (decide (x = .non))) ih else .stuck
def f_notN (x y : IV) (ih : IH) : Res IV := if y = .non then .ok (.bl (!decide (x = .non))) ih else .stuck
theorem R.non {r : List Addr} {x : IV} {u : V} (h : R r x u) : decide (x = IV.non) = decide (u = V.non) := by
  cases x with
  | ref n =>
    obtain ⟨a, _, rfl⟩ := h.ref
    rfl
  | _ => rw [h.flat fun _ => IV.noConfusion]; rfl
theorem s_isN {K : PySem.W.Frag} {W : WX} : Snd2 K W (fun x y H Q => y = .non ∧ Q (.bl (decide (x = .non))) H) f_isN := by
  intro r ih H x y u w σ Q hr hx hy q
  unfold f_isN at q
  split at q
  · rename_i h
    subst h
    exact ⟨hy, tG_end q hr (by rw [hx.non]; rfl)⟩
  · exact q.elim
theorem s_notN {K : PySem.W.Frag} {W : WX} : Snd2 K W (fun x y H Q => y = .non ∧ Q (.bl (!decide (x = .non))) H) f_notN := by
  intro r ih H x y u w σ Q hr hx hy q
  unfold f_notN at q
  split at q
  · rename_i h
    subst h
    exact ⟨hy, tG_end q hr (by rw [hx.non]; rfl)⟩
  · exact q.elim
end L3
/-! L3d: displays, slices, built-in calls, methods; targets, statements, loops, comprehensions. -/
namespace L3
variable [TabT] [LamT]
open PySem L2

/-! ### displays -/
def f_tup (xs : List IV) (ih : IH) : Res IV := if xs.length ≤ 100000 then .ok (.ref ih.length) (ih ++ [.tup xs]) else .stuck
def f_lst (xs : List IV) (ih : IH) : Res IV := if xs.length ≤ 100000 then .ok (.ref ih.length) (ih ++ [.lst xs]) else .stuck
section
variable {X : Cx} {K : PySem.W.Frag} {W : WX} {es : List Expr} {m : Env → IH → Res (List IV)} {pos : Pos}
theorem s_tup : SndC K W (fun xs H Q => xs.length ≤ sizeLine ∧ ∀ p, H p = none → Q (.ref p) (upd H p (.tup xs))) f_tup := by
  intro r ih H xs us σ Q hr hx q
  unfold f_tup at q
  split at q
  · rename_i hl
    exact ⟨by rw [← hx.length]; exact line5 hl, fun p hp => end_tup q hr hx hp⟩
  · exact q.elim
theorem s_lst : SndC K W (fun xs H Q => xs.length ≤ sizeLine ∧ ∀ p, H p = none → Q (.ref p) (upd H p (.lst xs))) f_lst := by
  intro r ih H xs us σ Q hr hx q
  unfold f_lst at q
  split at q
  · rename_i hl
    exact ⟨by rw [← hx.length]; exact line5 hl, fun p hp => end_lst q hr hx hp⟩
  · exact q.elim
theorem lm_tup {x1} (h : PA X es (tMA X.K W m)) : PE X (.Tuple es x1 pos) (tM X.K W (m_app f_tup m)) :=
  PE.of (pe_tup h) fun σ H Q ⟨r, ih, env, hr, he, q⟩ => tG.imp (tG_bind hr he q) fun u H1 ⟨r1, ih1, v, p, hr1, hv, q1⟩ => s_tup _ _ _ _ _ _ _ hr1 hv q1
theorem lm_lst (h : PA X es (tMA X.K W m)) : PE X (.List es pos) (tM X.K W (m_app f_lst m)) :=
  PE.of (pe_lst h) fun σ H Q ⟨r, ih, env, hr, he, q⟩ => tG.imp (tG_bind hr he q) fun u H1 ⟨r1, ih1, v, p, hr1, hv, q1⟩ => s_lst _ _ _ _ _ _ _ hr1 hv q1
end

/-! ### slices -/
def m_none (_ : Env) (ih : IH) : Res (Option Int) := .ok none ih
def m_some (ma : Env → IH → Res IV) (env : Env) (ih : IH) : Res (Option Int) := (ma env ih).bind fun v ih1 => match v with
  | .int i => .ok (some i) ih1
  | _ => .stuck
def cutI (xs : List IV) (lo hi : Option Int) : List IV := (xs.drop (HT.sIx xs.length 0 lo)).take (HT.sIx xs.length xs.length hi - HT.sIx xs.length 0 lo)
def f_sl (x : IV) (lo hi : Option Int) (ih : IH) : Res IV := match x with
  | .ref n => match ih[n]? with
    | some (.lst xs) => .ok (.ref ih.length) (ih ++ [.lst (cutI xs lo hi)])
    | some (.ro xs) => .ok (.ref ih.length) (ih ++ [.lst (cutI xs lo hi)])
    | some (.tup xs) => if ¬ (HT.sIx xs.length 0 lo = 0 ∧ HT.sIx xs.length xs.length hi = xs.length) then .ok (.ref ih.length) (ih ++ [.tup (cutI xs lo hi)]) else .stuck
    | _ => .stuck
  | _ => .stuck
def m_sl (ma : Env → IH → Res IV) (ml mh : Env → IH → Res (Option Int)) (env : Env) (ih : IH) : Res IV := (ma env ih).bind fun x ih1 => (ml env ih1).bind fun l ih2 => (mh env ih2).bind fun h ih3 => f_sl x l h ih3
theorem Rs.cut {r : List Addr} {xs : List IV} {ys : List V} (h : Rs r xs ys) (lo hi : Option Int) : Rs r (cutI xs lo hi) (cutV ys lo hi) := by
  unfold cutV cutI
  rw [h.length]
  exact (h.drop _).take _
abbrev rSlA (K : PySem.W.Frag) : V → Option Int → Option Int → Hp → VK → Prop := fun x lo hi H Q => rSlL K x lo hi H Q ∨ rSlT K x lo hi H Q
section
variable {X : Cx} {K : PySem.W.Frag} {W : WX} {e : Expr} {lo hi : Option Expr} {ma : Env → IH → Res IV} {ml mh : Env → IH → Res (Option Int)} {pos p2 : Pos}
theorem sl_A : SlR X (rSlA X.K) := sl_list.or sl_tup
theorem s_sl {r : List Addr} {ih : IH} {H : Hp} {x : IV} {u : V} {l h : Option Int} {σ : St} {Q : VK} (hr : Rel K r ih H) (hx : R r x u) (q : PGen R K W σ r (f_sl x l h ih) Q) : rSlA K u l h H Q := by
  unfold f_sl at q
  split at q
  · rename_i n
    obtain ⟨a, ea, rfl⟩ := hx.ref
    split at q
    · rename_i xs e1
      obtain ⟨ys, h1, h2⟩ := (hr.get n a _ ea e1).l rfl
      exact .inl ⟨a, ys, rfl, h1, fun p hp => end_lst q hr (h2.cut l h) hp⟩
    · rename_i xs e1
      obtain ⟨ys, h1, h2⟩ := (hr.get n a _ ea e1).l rfl
      exact .inl ⟨a, ys, rfl, h1, fun p hp => end_lst q hr (h2.cut l h) hp⟩
    · rename_i xs e1
      obtain ⟨ys, h1, h2⟩ := (hr.get n a _ ea e1).t rfl
      split at q
      · rename_i hc
        refine .inr ⟨a, ys, rfl, h1, ?_, fun p hp => end_tup q hr (h2.cut l h) hp⟩
        have hl : xs.length = ys.length := h2.length
        rw [← hl]
        exact hc
      · exact q.elim
    · exact q.elim
  · exact q.elim
theorem lo_none : PO X none (tG Oq X.K W m_none) := ⟨fun pins s σ H Q I ⟨r, ih, env, hr, he, q⟩ => po_none.run pins s σ H Q I (tG_end q hr rfl)⟩
theorem lo_some (h : PE X e (tM X.K W ma)) : PO X (some e) (tG Oq X.K W (m_some ma)) := ⟨fun pins s σ H Q I ⟨r, ih, env, hr, he, q⟩ => (po_some h).run pins s σ H Q I (tG.imp (tG_bind hr he q) fun u H1 ⟨r1, ih1, v, p, hr1, hv, q1⟩ => by
  cases v with
  | int i =>
    obtain rfl : u = .int i := hv
    exact ⟨i, rfl, tG_end q1 hr1 rfl⟩
  | _ => exact q1.elim)⟩
theorem lm_sl (ha : PE X e (tM X.K W ma)) (hl : PO X lo (tG Oq X.K W ml)) (hh : PO X hi (tG Oq X.K W mh)) : PE X (.Subscript e (.Slice lo hi none p2) pos) (tM X.K W (m_sl ma ml mh)) :=
  PE.of (pe_slice sl_A ha hl hh) fun σ H Q ⟨r, ih, env, hr, he, q⟩ => tG.imp (tG_bind hr he q) fun u H1 ⟨r1, ih1, v, p, hr1, hv, q1⟩ =>
    tG.imp (tG_bind hr1 (he.mono p) q1) fun w H2 ⟨r2, ih2, y, p2, hr2, hy, q2⟩ => tG.imp (tG_bind hr2 ((he.mono p).mono p2) q2) fun z H3 ⟨r3, ih3, y3, p3, hr3, hy3, q3⟩ => by
      obtain rfl : w = y := hy
      obtain rfl : z = y3 := hy3
      exact s_sl hr3 ((hv.mono p2).mono p3) q3
end

theorem Rs.one {r : List Addr} {x : IV} {us : List V} (h : Rs r [x] us) : ∃ u, us = [u] ∧ R r x u := by
  cases h with
  | cons a b =>
    cases b
    exact ⟨_, rfl, a⟩
theorem Rs.two {r : List Addr} {x y : IV} {us : List V} (h : Rs r [x, y] us) : ∃ u w, us = [u, w] ∧ R r x u ∧ R r y w := by
  cases h with
  | cons a b =>
    obtain ⟨w, rfl, c⟩ := Rs.one b
    exact ⟨_, w, rfl, a, c⟩
/-! ### built-in calls -/
def f_len (xs : List IV) (ih : IH) : Res IV := match xs with
  | [.ref n] => match ih[n]? with
    | some .dct => .stuck
    | some (.dk _) => .stuck
    | some .clo => .stuck
    | some (.fn _ _) => .stuck
    | some o => .ok (.int o.xs.length) ih
    | none => .stuck
  | [.str z] => if z.length ≤ 1000000 then .ok (.int z.length) ih else .stuck
  | _ => .stuck
def f_int (xs : List IV) (ih : IH) : Res IV := match xs with
  | [.int i] => .ok (.int i) ih
  | [.bl b] => .ok (.int (if b then 1 else 0)) ih
  | _ => .stuck
def f_abs (xs : List IV) (ih : IH) : Res IV := match xs with
  | [.int i] => .ok (.int (if i < 0 then -i else i)) ih
  | _ => .stuck
def f_max2 (xs : List IV) (ih : IH) : Res IV := match xs with
  | [.int i, .int j] => .ok (.int (if j > i then j else i)) ih
  | _ => .stuck
def f_min2 (xs : List IV) (ih : IH) : Res IV := match xs with
  | [.int i, .int j] => .ok (.int (if j < i then j else i)) ih
  | _ => .stuck
/-- the ints of values that are ints; the bools -/
def ints? : List IV → Option (List Int)
  | [] => some []
  | .int i :: r => (ints? r).map (i :: ·)
  | _ :: _ => none
def bls? : List IV → Option (List Bool)
  | [] => some []
  | .bl i :: r => (bls? r).map (i :: ·)
  | _ :: _ => none
theorem ints?_of {xs : List IV} {ns : List Int} : ints? xs = some ns → xs = ns.map IV.int := by
  induction xs generalizing ns with
  | nil => intro h; cases h; rfl
  | cons x r ihh =>
    intro h
    cases x with
    | int i =>
      unfold ints? at h
      obtain ⟨ms, e, rfl⟩ := Option.map_eq_some_iff.mp h
      rw [ihh e]
      rfl
    | _ => cases h
theorem ints?_map (ns : List Int) : ints? (ns.map IV.int) = some ns := by
  induction ns with
  | nil => rfl
  | cons n r ihh =>
    rw [List.map_cons]
    unfold ints?
    rw [ihh]
    rfl
theorem bls?_of {xs : List IV} {ns : List Bool} : bls? xs = some ns → xs = ns.map IV.bl := by
  induction xs generalizing ns with
  | nil => intro h; cases h; rfl
  | cons x r ihh =>
    intro h
    cases x with
    | bl i =>
      unfold bls? at h
      obtain ⟨ms, e, rfl⟩ := Option.map_eq_some_iff.mp h
      rw [ihh e]
      rfl
    | _ => cases h
theorem bls?_map (ns : List Bool) : bls? (ns.map IV.bl) = some ns := by
  induction ns with
  | nil => rfl
  | cons n r ihh =>
    rw [List.map_cons]
    unfold bls?
    rw [ihh]
    rfl
theorem Rs.flats {r : List Addr} {α : Type} {f : α → IV} (hf : ∀ a n, f a ≠ .ref n) : ∀ {ns : List α} {ys : List V}, Rs r (ns.map f) ys → ys = ns.map fun a => (f a).toV
  | [], _, h => by cases h; rfl
  | n :: r, _, h => by
    cases h with
    | cons h1 h2 => rw [List.map_cons, h1.flat (hf n), Rs.flats hf h2]
theorem Rs.flats_mk {r : List Addr} {α : Type} {f : α → IV} {g : α → V} (hf : ∀ a, R r (f a) (g a)) : ∀ ns : List α, Rs r (ns.map f) (ns.map g)
  | [] => .nil
  | n :: l => .cons (hf n) (Rs.flats_mk hf l)
/-- a call of a list of ints (or of bools) -/
def f_ints (g : List Int → IH → Res IV) (xs : List IV) (ih : IH) : Res IV := match xs with
  | [.ref n] => match ih[n]? with
    | some o => if o.isL = true then (match ints? o.xs with
      | some ns => g ns ih
      | none => .stuck) else .stuck
    | none => .stuck
  | _ => .stuck
def f_bls (g : List Bool → IH → Res IV) (xs : List IV) (ih : IH) : Res IV := match xs with
  | [.ref n] => match ih[n]? with
    | some o => if o.isL = true then (match bls? o.xs with
      | some ns => g ns ih
      | none => .stuck) else .stuck
    | none => .stuck
  | _ => .stuck
def f_sum := f_ints fun ns ih => .ok (.int ns.sum) ih
def f_all := f_bls fun ns ih => .ok (.bl (ns.all id)) ih
def f_any := f_bls fun ns ih => .ok (.bl (ns.any id)) ih
def maxI : List Int → Int
  | [] => 0
  | [a] => a
  | a :: b :: r => max a (maxI (b :: r))
def minI : List Int → Int
  | [] => 0
  | [a] => a
  | a :: b :: r => min a (minI (b :: r))
theorem maxI_spec : ∀ {ns : List Int}, 0 < ns.length → maxI ns ∈ ns ∧ ∀ y ∈ ns, y ≤ maxI ns
  | [a], _ => ⟨List.mem_singleton.mpr rfl, fun y hy => by rw [List.mem_singleton.mp hy]; exact Int.le_refl _⟩
  | a :: b :: r, _ => by
    obtain ⟨h1, h2⟩ := maxI_spec (ns := b :: r) (by simp)
    show max a (maxI (b :: r)) ∈ _ ∧ _
    refine ⟨?_, fun y hy => ?_⟩
    · by_cases h : a ≤ maxI (b :: r)
      · rw [Int.max_eq_right h]
        exact List.mem_cons_of_mem _ h1
      · rw [Int.max_eq_left (by omega)]
        exact List.mem_cons_self
    · show y ≤ max a (maxI (b :: r))
      rcases List.mem_cons.mp hy with e | e
      · omega
      · have := h2 y e
        omega
theorem minI_spec : ∀ {ns : List Int}, 0 < ns.length → minI ns ∈ ns ∧ ∀ y ∈ ns, minI ns ≤ y
  | [a], _ => ⟨List.mem_singleton.mpr rfl, fun y hy => by rw [List.mem_singleton.mp hy]; exact Int.le_refl _⟩
  | a :: b :: r, _ => by
    obtain ⟨h1, h2⟩ := minI_spec (ns := b :: r) (by simp)
    show min a (minI (b :: r)) ∈ _ ∧ _
    refine ⟨?_, fun y hy => ?_⟩
    · by_cases h : a ≤ minI (b :: r)
      · rw [Int.min_eq_left h]
        exact List.mem_cons_self
      · rw [Int.min_eq_right (by omega)]
        exact List.mem_cons_of_mem _ h1
    · show min a (minI (b :: r)) ≤ y
      rcases List.mem_cons.mp hy with e | e
      · omega
      · have := h2 y e
        omega
def f_max1 := f_ints fun ns ih => if 0 < ns.length then .ok (.int (maxI ns)) ih else .stuck
def f_min1 := f_ints fun ns ih => if 0 < ns.length then .ok (.int (minI ns)) ih else .stuck
def f_list (xs : List IV) (ih : IH) : Res IV := match xs with
  | [.ref n] => match ih[n]? with
    | some .dct => .stuck
    | some (.dk _) => .stuck
    | some .clo => .stuck
    | some (.fn _ _) => .stuck
    | some o => .ok (.ref ih.length) (ih ++ [.lst o.xs])
    | none => .stuck
  | _ => .stuck
def f_tuple (xs : List IV) (ih : IH) : Res IV := match xs with
  | [.ref n] => match ih[n]? with
    | some o => if o.isL = true then .ok (.ref ih.length) (ih ++ [.tup o.xs]) else if o.isT = true then .ok (.ref n) ih else .stuck
    | none => .stuck
  | _ => .stuck
/-- the type of a value -/
def tyN (x : IV) (ih : IH) : Option String := match x with
  | .non => some "NoneType"
  | .bl _ => some "bool"
  | .int _ => some "int"
  | .str _ => some "str"
  | .ref n => match ih[n]? with
    | some (.lst _) => some "list"
    | some (.tup _) => some "tuple"
    | some .dct => some "dict"
    | some (.dk _) => some "dict"
    | _ => none
  | _ => none
def f_isi (xs : List IV) (ih : IH) : Res IV := match xs with
  | [x, .ty T] => match tyN x ih with
    | some t => match kitB t T with
      | some b => .ok (.bl b) ih
      | none => .stuck
    | none => .stuck
  | _ => .stuck
section
variable {X : Cx} {K : PySem.W.Frag} {W : WX}
theorem s_len : SndC K W (fun xs H Q => (∃ p ys, xs = [.ref p] ∧ (SqL K H p ys ∨ SqT K H p ys) ∧ Q (.int ys.length) H) ∨ (∃ z, xs = [.str z] ∧ z.length ≤ sizeLine ∧ Q (.int z.length) H)) f_len := by
  intro r ih H xs us σ Q hr hx q
  unfold f_len at q
  split at q
  · rename_i n
    cases hx with
    | cons h1 h2 =>
      cases h2
      obtain ⟨a, ea, rfl⟩ := h1.ref
      split at q
      · exact q.elim
      · exact q.elim
      · exact q.elim
      · exact q.elim
      · rename_i o nd nk nc nf e1
        have ho := hr.get n a _ ea e1
        refine .inl ?_
        cases hl : o.isL with
        | true =>
          obtain ⟨ys, h3, h4⟩ := ho.l hl
          exact ⟨a, ys, rfl, .inl h3, by rw [← h4.length]; exact tG_end q hr rfl⟩
        | false =>
          obtain ⟨ys, h3, h4⟩ := ho.t (MO.tf hl nd nc nk nf)
          exact ⟨a, ys, rfl, .inr h3, by rw [← h4.length]; exact tG_end q hr rfl⟩
      · exact q.elim
  · rename_i z
    cases hx with
    | cons h1 h2 =>
      cases h2
      obtain rfl := h1.flat fun _ => IV.noConfusion
      split at q
      · rename_i hl
        exact .inr ⟨z, rfl, line6 hl, tG_end q hr rfl⟩
      · exact q.elim
  · exact q.elim
theorem call_lenA : CallR X (.builtin "len") (fun xs H Q => (∃ p ys, xs = [.ref p] ∧ (SqL X.K H p ys ∨ SqT X.K H p ys) ∧ Q (.int ys.length) H) ∨ (∃ z, xs = [.str z] ∧ z.length ≤ sizeLine ∧ Q (.int z.length) H)) := call_len_seq.or call_len_str
theorem s_int : SndC K W (fun xs H Q => (∃ i, xs = [.int i] ∧ Q (.int i) H) ∨ ∃ k, xs = [.bl k] ∧ Q (.int (if k then 1 else 0)) H) f_int := by
  intro r ih H xs us σ Q hr hx q
  unfold f_int at q
  split at q
  · rename_i i
    obtain rfl := Rs.flats (f := IV.int) (fun _ _ => IV.noConfusion) (ns := [i]) hx
    exact .inl ⟨i, rfl, tG_end q hr rfl⟩
  · rename_i b
    obtain rfl := Rs.flats (f := IV.bl) (fun _ _ => IV.noConfusion) (ns := [b]) hx
    exact .inr ⟨b, rfl, tG_end q hr rfl⟩
  · exact q.elim
theorem s_abs : SndC K W (fun xs H Q => ∃ i, xs = [.int i] ∧ Q (.int (if i < 0 then -i else i)) H) f_abs := by
  intro r ih H xs us σ Q hr hx q
  unfold f_abs at q
  split at q
  · rename_i i
    obtain rfl := Rs.flats (f := IV.int) (fun _ _ => IV.noConfusion) (ns := [i]) hx
    exact ⟨i, rfl, tG_end q hr rfl⟩
  · exact q.elim
theorem s_max2 : SndC K W (fun xs H Q => ∃ i j, xs = [.int i, .int j] ∧ Q (.int (if j > i then j else i)) H) f_max2 := by
  intro r ih H xs us σ Q hr hx q
  unfold f_max2 at q
  split at q
  · rename_i i j
    obtain rfl := Rs.flats (f := IV.int) (fun _ _ => IV.noConfusion) (ns := [i, j]) hx
    exact ⟨i, j, rfl, tG_end q hr rfl⟩
  · exact q.elim
theorem s_min2 : SndC K W (fun xs H Q => ∃ i j, xs = [.int i, .int j] ∧ Q (.int (if j < i then j else i)) H) f_min2 := by
  intro r ih H xs us σ Q hr hx q
  unfold f_min2 at q
  split at q
  · rename_i i j
    obtain rfl := Rs.flats (f := IV.int) (fun _ _ => IV.noConfusion) (ns := [i, j]) hx
    exact ⟨i, j, rfl, tG_end q hr rfl⟩
  · exact q.elim
/-- one list of ints: what is known -/
theorem ints_got {r : List Addr} {ih : IH} {H : Hp} {xs : List IV} {us : List V} {σ : St} {Q : VK} {g : List Int → IH → Res IV} (hr : Rel K r ih H) (hx : Rs r xs us) (q : PGen R K W σ r (f_ints g xs ih) Q) :
    ∃ (a : Addr) (ns : List Int), us = [.ref a] ∧ SqL K H a (ns.map V.int) ∧ PGen R K W σ r (g ns ih) Q := by
  unfold f_ints at q
  split at q
  · rename_i n
    cases hx with
    | cons h1 h2 =>
      cases h2
      obtain ⟨a, ea, rfl⟩ := h1.ref
      split at q
      · rename_i o e1
        split at q
        · rename_i hl
          split at q
          · rename_i ns e2
            obtain ⟨ys, h3, h4⟩ := (hr.get n a _ ea e1).l hl
            rw [ints?_of e2] at h4
            obtain rfl := h4.flats fun _ _ => IV.noConfusion
            exact ⟨a, ns, rfl, h3, q⟩
          · exact q.elim
        · exact q.elim
      · exact q.elim
  · exact q.elim
theorem bls_got {r : List Addr} {ih : IH} {H : Hp} {xs : List IV} {us : List V} {σ : St} {Q : VK} {g : List Bool → IH → Res IV} (hr : Rel K r ih H) (hx : Rs r xs us) (q : PGen R K W σ r (f_bls g xs ih) Q) :
    ∃ (a : Addr) (ns : List Bool), us = [.ref a] ∧ SqL K H a (ns.map V.bl) ∧ PGen R K W σ r (g ns ih) Q := by
  unfold f_bls at q
  split at q
  · rename_i n
    cases hx with
    | cons h1 h2 =>
      cases h2
      obtain ⟨a, ea, rfl⟩ := h1.ref
      split at q
      · rename_i o e1
        split at q
        · rename_i hl
          split at q
          · rename_i ns e2
            obtain ⟨ys, h3, h4⟩ := (hr.get n a _ ea e1).l hl
            rw [bls?_of e2] at h4
            obtain rfl := h4.flats fun _ _ => IV.noConfusion
            exact ⟨a, ns, rfl, h3, q⟩
          · exact q.elim
        · exact q.elim
      · exact q.elim
  · exact q.elim
theorem s_sum : SndC K W (rSum K) f_sum := fun r ih H xs us σ Q hr hx q => let ⟨a, ns, e, h, q2⟩ := ints_got hr hx q; ⟨a, ns, e, h, tG_end q2 hr rfl⟩
theorem s_all : SndC K W (rAll K) f_all := fun r ih H xs us σ Q hr hx q => let ⟨a, ns, e, h, q2⟩ := bls_got hr hx q; ⟨a, ns, e, h, tG_end q2 hr rfl⟩
theorem s_any : SndC K W (rAny K) f_any := fun r ih H xs us σ Q hr hx q => let ⟨a, ns, e, h, q2⟩ := bls_got hr hx q; ⟨a, ns, e, h, tG_end q2 hr rfl⟩
theorem s_max1 : SndC K W (rMax K) f_max1 := fun r ih H xs us σ Q hr hx q => by
  obtain ⟨a, ns, e, h, q2⟩ := ints_got hr hx q
  split at q2
  · rename_i hl
    refine ⟨a, ns, e, h, hl, fun m hm hle => ?_⟩
    obtain ⟨h1, h2⟩ := maxI_spec hl
    have e2 : m = maxI ns := Int.le_antisymm (h2 m hm) (hle _ h1)
    rw [e2]
    exact tG_end q2 hr rfl
  · exact q2.elim
theorem s_min1 : SndC K W (rMin K) f_min1 := fun r ih H xs us σ Q hr hx q => by
  obtain ⟨a, ns, e, h, q2⟩ := ints_got hr hx q
  split at q2
  · rename_i hl
    refine ⟨a, ns, e, h, hl, fun m hm hle => ?_⟩
    obtain ⟨h1, h2⟩ := minI_spec hl
    have e2 : m = minI ns := Int.le_antisymm (hle _ h1) (h2 m hm)
    rw [e2]
    exact tG_end q2 hr rfl
  · exact q2.elim
theorem s_list : SndC K W (fun xs H Q => ∃ p ys, xs = [.ref p] ∧ (SqL K H p ys ∨ SqT K H p ys) ∧ ∀ l, H l = none → Q (.ref l) (upd H l (.lst ys))) f_list := by
  intro r ih H xs us σ Q hr hx q
  unfold f_list at q
  split at q
  · rename_i n
    cases hx with
    | cons h1 h2 =>
      cases h2
      obtain ⟨a, ea, rfl⟩ := h1.ref
      split at q
      · exact q.elim
      · exact q.elim
      · exact q.elim
      · exact q.elim
      · rename_i o nd nk nc nf e1
        have ho := hr.get n a _ ea e1
        cases hl : o.isL with
        | true =>
          obtain ⟨ys, h3, h4⟩ := ho.l hl
          exact ⟨a, ys, rfl, .inl h3, fun l hp => end_lst q hr h4 hp⟩
        | false =>
          obtain ⟨ys, h3, h4⟩ := ho.t (MO.tf hl nd nc nk nf)
          exact ⟨a, ys, rfl, .inr h3, fun l hp => end_lst q hr h4 hp⟩
      · exact q.elim
  · exact q.elim
theorem s_tuple : SndC K W (fun xs H Q => ∃ p ys, xs = [.ref p] ∧ ((SqL K H p ys ∧ ∀ l, H l = none → Q (.ref l) (upd H l (.tup ys))) ∨ (SqT K H p ys ∧ Q (.ref p) H))) f_tuple := by
  intro r ih H xs us σ Q hr hx q
  unfold f_tuple at q
  split at q
  · rename_i n
    cases hx with
    | cons h1 h2 =>
      cases h2
      have h1' := h1
      obtain ⟨a, ea, rfl⟩ := h1.ref
      split at q
      · rename_i o e1
        have ho := hr.get n a _ ea e1
        split at q
        · rename_i hl
          obtain ⟨ys, h3, h4⟩ := ho.l hl
          exact ⟨a, ys, rfl, .inl ⟨h3, fun l hp => end_tup q hr h4 hp⟩⟩
        · split at q
          · rename_i hl
            obtain ⟨ys, h3, h4⟩ := ho.t hl
            exact ⟨a, ys, rfl, .inr ⟨h3, tG_end q hr h1'⟩⟩
          · exact q.elim
      · exact q.elim
  · exact q.elim
theorem s_isi : SndC K W (rIsi K) f_isi := by
  intro r ih H xs us σ Q hr hx q
  unfold f_isi at q
  split at q
  · rename_i x T
    obtain ⟨u, w, rfl, h1, h3⟩ := hx.two
    obtain rfl := h3.flat fun _ => IV.noConfusion
    · · split at q
        · rename_i t e1
          split at q
          · rename_i b e2
            have ty : TyX K H u (.type t) := by
              unfold tyN at e1
              split at e1
              · cases e1; obtain rfl := h1.flat fun _ => IV.noConfusion; exact .base .non
              · cases e1; obtain rfl := h1.flat fun _ => IV.noConfusion; exact .base (.bl _)
              · cases e1; obtain rfl := h1.flat fun _ => IV.noConfusion; exact .base (.int _)
              · cases e1; obtain rfl := h1.flat fun _ => IV.noConfusion; exact .base (.str _)
              · rename_i n
                obtain ⟨a, ea, rfl⟩ := h1.ref
                split at e1
                · rename_i xs e3
                  cases e1
                  obtain ⟨ys, h5, _⟩ := hr.get n a _ ea e3
                  exact .base (.lst h5)
                · rename_i xs e3
                  cases e1
                  obtain ⟨ys, h5, _⟩ := hr.get n a _ ea e3
                  exact .base (.tup h5)
                · rename_i e3
                  cases e1
                  obtain ⟨kvs, h5⟩ := hr.get n a _ ea e3
                  exact .base (.dK h5)
                · rename_i kvs e3
                  cases e1
                  obtain ⟨ys, h5, _⟩ := hr.get n a _ ea e3
                  exact .base (.dK h5)
                · cases e1
              · cases e1
            exact ⟨u, .ty T, .type t, .type T, b, rfl, .ty T, ty, kit_ty e2, tG_end q hr rfl⟩
          · exact q.elim
        · exact q.elim
  · exact q.elim
end
end L3
/-! L3e: methods; targets, statements, loops, comprehensions, calls, defs. -/
namespace L3
variable [TabT] [LamT]
open PySem L2

/-! ### methods of lists -/
def isLst (x : IV) (ih : IH) : Bool := match x with
  | .ref n => match ih[n]? with
    | some o => o.isL
    | none => false
  | _ => false
def m_mL (f : IV → List IV → IH → Res IV) (ma : Env → IH → Res IV) (mr : Env → IH → Res (List IV)) (env : Env) (ih : IH) : Res IV := (ma env ih).bind fun x ih1 => if isLst x ih1 = true then (mr env ih1).bind fun xs ih2 => f x xs ih2 else .stuck
def m_mL0 (f : IV → List IV → IH → Res IV) (ma : Env → IH → Res IV) (env : Env) (ih : IH) : Res IV := (ma env ih).bind fun x ih1 => if isLst x ih1 = true then f x [] ih1 else .stuck
def SndM (K : PySem.W.Frag) (W : WX) (rr : V → List V → Hp → VK → Prop) (f : IV → List IV → IH → Res IV) : Prop := ∀ (r : List Addr) (ih : IH) (H : Hp) (x : IV) (u : V) (xs : List IV) (us : List V) (σ : St) (Q : VK), Rel K r ih H → R r x u → Rs r xs us → PGen R K W σ r (f x xs ih) Q → rr u us H Q
def f_append (x : IV) (vs : List IV) (ih : IH) : Res IV := match x, vs with
  | .ref n, [y] => match ih[n]? with
    | some (.lst xs) => if xs.length < 100000 then .ok .non (ih.set n (.lst (xs ++ [y]))) else .stuck
    | _ => .stuck
  | _, _ => .stuck
def f_pop (x : IV) (vs : List IV) (ih : IH) : Res IV := match x, vs with
  | .ref n, [] => match ih[n]? with
    | some (.lst xs) => match xs[xs.length - 1]? with
      | some y => .ok y (ih.set n (.lst xs.dropLast))
      | none => .stuck
    | _ => .stuck
  | _, _ => .stuck
section
variable {X : Cx} {K : PySem.W.Frag} {W : WX} {a : Expr} {ma : Env → IH → Res IV}
theorem isLst_ty {r : List Addr} {ih : IH} {H : Hp} {x : IV} {u : V} (hr : Rel K r ih H) (hx : R r x u) (h : isLst x ih = true) : tyV K "list" u H := by
  unfold isLst at h
  split at h
  · rename_i n
    obtain ⟨a, ea, rfl⟩ := hx.ref
    split at h
    · rename_i o e1
      obtain ⟨ys, h1, _⟩ := (hr.get n a _ ea e1).l h
      exact .inl ⟨rfl, ys, h1⟩
    · cases h
  · cases h
theorem lm_mL {name : Str} {apos cpos : Pos} {id : String} {e : Expr} {es : List Expr} {rr : V → List V → Hp → VK → Prop} {f : IV → List IV → IH → Res IV} {mr : Env → IH → Res (List IV)} (slot : Slot "list" name id) (hty : typeOf (.builtin id) = pure (.type "method_descriptor")) (hm : MtR X id rr) (hf : SndM X.K W rr f)
    (ho : PE X a (tM X.K W ma)) (ha : PA X (e :: es) (tMA X.K W mr))
    (hbase : attributeBase a name X.env (eval a X.env) = eval a X.env := by rfl)
    (hfew : ((backTo cpos (starEach (e :: es) X.env)).all (fun x => !x.1) && (backToKw cpos (keywordEach [] X.env)).all (fun x => x.1.isSome)
      && decide ((e :: es).length + ([] : List Keyword).length + (if ([] : List Keyword).isEmpty then 0 else 1) < 30)) = true := by rfl)
    (hline : (apos.endLine == cpos.line) = true := by rfl) (hs : starEach (e :: es) X.env = (false, eval e X.env) :: starEach es X.env := by rfl) (hplain : (backTo cpos (starEach es X.env)).any (·.1) = false := by rfl) :
    PE X (.Call (.Attribute a name apos) (e :: es) [] cpos) (tM X.K W (m_mL f ma mr)) :=
  PE.of (pe_bm PySem.F.plainAttrs_list slot hty hm ho ha hbase hfew hline hs hplain) fun σ H Q ⟨r, ih, env, hr, he, q⟩ => tG.imp (tG_bind hr he q) fun u H1 ⟨r1, ih1, v, p, hr1, hv, q1⟩ => by
    dsimp only at q1
    by_cases hl : isLst v ih1 = true
    · rw [if_pos hl] at q1
      refine ⟨isLst_ty hr1 hv hl, ?_⟩
      exact tG.imp (tG_bind hr1 (he.mono p) q1) fun w H2 ⟨r2, ih2, y, p2, hr2, hy, q3⟩ => hf _ _ _ _ _ _ _ _ _ hr2 (hv.mono p2) hy q3
    · rw [if_neg hl] at q1
      exact q1.elim
theorem lm_mL0 {name : Str} {apos cpos : Pos} {id : String} {rr : V → List V → Hp → VK → Prop} {f : IV → List IV → IH → Res IV} (slot : Slot "list" name id) (hty : typeOf (.builtin id) = pure (.type "method_descriptor")) (hm : MtR X id rr) (hf : SndM X.K W rr f)
    (ho : PE X a (tM X.K W ma)) (hbase : attributeBase a name X.env (eval a X.env) = eval a X.env := by rfl) (hline : (apos.endLine == cpos.line) = true := by rfl) :
    PE X (.Call (.Attribute a name apos) [] [] cpos) (tM X.K W (m_mL0 f ma)) :=
  PE.of (pe_bm0 PySem.F.plainAttrs_list slot hty hm ho hbase hline) fun σ H Q ⟨r, ih, env, hr, he, q⟩ => tG.imp (tG_bind hr he q) fun u H1 ⟨r1, ih1, v, p, hr1, hv, q1⟩ => by
    dsimp only at q1
    by_cases hl : isLst v ih1 = true
    · rw [if_pos hl] at q1
      exact ⟨isLst_ty hr1 hv hl, hf _ _ _ _ _ _ _ _ _ hr1 hv .nil q1⟩
    · rw [if_neg hl] at q1
      exact q1.elim
/-- a list written -/
theorem end_set {r : List Addr} {ih : IH} {H : Hp} {σ : St} {Q : VK} {n : Nat} {a : Addr} {xs xs' : List IV} {ys : List V} {v : IV} {w : V} (q : PGen R K W σ r (.ok v (ih.set n (.lst xs'))) Q) (hr : Rel K r ih H) (e1 : r[n]? = some a) (e2 : ih[n]? = some (.lst xs)) (h : Rs r xs' ys) (hv : R r v w) : Q w (upd H a (.lst ys)) :=
  q _ _ _ (pre_refl r) (hr.write e1 e2 h) hv
theorem s_append : SndM K W rAppend f_append := by
  intro r ih H x u xs us σ Q hr hx hxs q
  unfold f_append at q
  split at q
  · rename_i n y
    obtain ⟨a, ea, rfl⟩ := hx.ref
    obtain ⟨w, rfl, hy⟩ := hxs.one
    split at q
    · rename_i zs e1
      obtain ⟨ys, h1, h2⟩ := hr.get n a _ ea e1
      split at q
      · rename_i hl
        exact ⟨a, ys, w, rfl, rfl, h1, by rw [← h2.length]; exact line5l hl, end_set q hr ea e1 (h2.append (.cons hy .nil)) rfl⟩
      · exact q.elim
    · exact q.elim
  · exact q.elim
theorem Rs.dropLast {r : List Addr} {xs : List IV} {us : List V} (h : Rs r xs us) : Rs r xs.dropLast us.dropLast := by
  rw [List.dropLast_eq_take, List.dropLast_eq_take, h.length]
  exact h.take _
theorem s_pop : SndM K W rPop f_pop := by
  intro r ih H x u xs us σ Q hr hx hxs q
  unfold f_pop at q
  split at q
  · rename_i n
    obtain ⟨a, ea, rfl⟩ := hx.ref
    cases hxs
    split at q
    · rename_i zs e1
      obtain ⟨ys, h1, h2⟩ := hr.get n a _ ea e1
      split at q
      · rename_i y e2
        obtain ⟨w, h3, h4⟩ := h2.get e2
        exact ⟨a, ys, w, rfl, rfl, h1, by rw [← h2.length]; exact h3, end_set q hr ea e1 h2.dropLast h4⟩
      · exact q.elim
    · exact q.elim
  · exact q.elim
end

/-! ### targets -/
/-- a target's rule follows its mirror; ks: the slots that it sets -/
def SndG (K : PySem.W.Frag) (ks : List Nat) (g : TG) (f : IV → Env → IH → Option Env) : Prop := ∀ (r : List Addr) (ih : IH) (H : Hp) (v : IV) (u : V) (env : Env) (σ : St) (Q : St → Hp → Prop), Rel K r ih H → R r v u → REnv r env σ →
  (∃ env', f v env ih = some env' ∧ ∀ σ', REnv r env' σ' → σ'.length = σ.length → (∀ j, j ∉ ks → σ'[j]? = σ[j]?) → Q σ' H) → g u σ H Q
def SndGs (K : PySem.W.Frag) (ks : List Nat) (g : TGs) (f : List IV → Env → IH → Option Env) : Prop := ∀ (r : List Addr) (ih : IH) (H : Hp) (v : List IV) (u : List V) (env : Env) (σ : St) (Q : St → Hp → Prop), Rel K r ih H → Rs r v u → REnv r env σ →
  (∃ env', f v env ih = some env' ∧ ∀ σ', REnv r env' σ' → σ'.length = σ.length → (∀ j, j ∉ ks → σ'[j]? = σ[j]?) → Q σ' H) → g u σ H Q
def g_nm (i : Nat) (v : IV) (env : Env) (_ : IH) : Option Env := some (env.set i (some v))
def g_nil (vs : List IV) (env : Env) (_ : IH) : Option Env := match vs with
  | [] => some env
  | _ :: _ => none
def g_cons (f : IV → Env → IH → Option Env) (g : List IV → Env → IH → Option Env) (vs : List IV) (env : Env) (ih : IH) : Option Env := match vs with
  | v :: r => (f v env ih).bind fun env' => g r env' ih
  | [] => none
def g_tup (n : Nat) (f : List IV → Env → IH → Option Env) (v : IV) (env : Env) (ih : IH) : Option Env := match v with
  | .ref k => match ih[k]? with
    | some o => if o.isT = true ∧ o.xs.length = n then f o.xs env ih else none
    | none => none
  | _ => none
def g_lst (n : Nat) (f : List IV → Env → IH → Option Env) (v : IV) (env : Env) (ih : IH) : Option Env := match v with
  | .ref k => match ih[k]? with
    | some o => if o.isL = true ∧ o.xs.length = n then f o.xs env ih else none
    | none => none
  | _ => none
section
variable {K : PySem.W.Frag}
theorem sg_nm (i : Nat) : SndG K [i] (gName i) (g_nm i) := fun r ih H v u env σ Q hr hv he ⟨env', e, q⟩ => by
  cases e
  exact q _ (he.set hv i) (by rw [List.length_set]) fun j hj => List.getElem?_set_ne (fun z => hj (by rw [z]; exact List.mem_singleton.mpr rfl))
theorem sg_nil : SndGs K [] gNil g_nil := fun r ih H v u env σ Q hr hv he ⟨env', e, q⟩ => by
  cases v with
  | nil =>
    cases hv
    cases e
    exact ⟨rfl, q σ he rfl fun _ _ => rfl⟩
  | cons a b => cases e
theorem sg_cons {ks ls : List Nat} {t : TG} {u : TGs} {f : IV → Env → IH → Option Env} {g : List IV → Env → IH → Option Env} (h1 : SndG K ks t f) (h2 : SndGs K ls u g) : SndGs K (ks ++ ls) (gCons t u) (g_cons f g) := fun r ih H v u env σ Q hr hv he ⟨env', e, q⟩ => by
  cases hv with
  | nil => cases e
  | cons a b =>
    obtain ⟨env1, e1, e2⟩ := Option.bind_eq_some_iff.mp e
    refine ⟨_, _, rfl, h1 r ih H _ _ env σ _ hr a he ⟨env1, e1, fun σ1 he1 l1 k1 => ?_⟩⟩
    exact h2 r ih H _ _ env1 σ1 _ hr b he1 ⟨env', e2, fun σ2 he2 l2 k2 => q σ2 he2 (l2.trans l1) fun j hj => (k2 j fun z => hj (List.mem_append_right _ z)).trans (k1 j fun z => hj (List.mem_append_left _ z))⟩
theorem sg_tup {n : Nat} {ks : List Nat} {t : TGs} {f : List IV → Env → IH → Option Env} (h : SndGs K ks t f) : SndG K ks (gTup K n t) (g_tup n f) := fun r ih H v u env σ Q hr hv he ⟨env', e, q⟩ => by
  unfold g_tup at e
  split at e
  · rename_i k _
    obtain ⟨a, ea, rfl⟩ := hv.ref
    split at e
    · rename_i o e1
      split at e
      · rename_i hl
        obtain ⟨ys, h3, h4⟩ := (hr.get k a _ ea e1).t hl.1
        exact ⟨a, ys, rfl, h3, by rw [← h4.length]; exact hl.2, h r ih H _ _ env σ _ hr h4 he ⟨env', e, q⟩⟩
      · cases e
    · cases e
  · cases e
theorem sg_lst {n : Nat} {ks : List Nat} {t : TGs} {f : List IV → Env → IH → Option Env} (h : SndGs K ks t f) : SndG K ks (gLst K n t) (g_lst n f) := fun r ih H v u env σ Q hr hv he ⟨env', e, q⟩ => by
  unfold g_lst at e
  split at e
  · rename_i k _
    obtain ⟨a, ea, rfl⟩ := hv.ref
    split at e
    · rename_i o e1
      split at e
      · rename_i hl
        obtain ⟨ys, h3, h4⟩ := (hr.get k a _ ea e1).l hl.1
        exact ⟨a, ys, rfl, h3, by rw [← h4.length]; exact hl.2, h r ih H _ _ env σ _ hr h4 he ⟨env', e, q⟩⟩
      · cases e
    · cases e
  · cases e
end

/-! ### statements -/
def ms_set (g : IV → Env → IH → Option Env) (m : Env → IH → Res IV) (env : Env) (ih : IH) : RS := (m env ih).stm env fun v ih1 => match g v env ih1 with
  | some env' => .ok (.next env') ih1
  | none => .stuck
def ms_expr (m : Env → IH → Res IV) (env : Env) (ih : IH) : RS := (m env ih).stm env fun _ ih1 => .ok (.next env) ih1
def ms_ret (m : Env → IH → Res IV) (env : Env) (ih : IH) : RS := (m env ih).stm env fun v ih1 => .ok (.ret v) ih1
def ms_retN (_ : Env) (ih : IH) : RS := .ok (.ret .non) ih
def ms_pass (env : Env) (ih : IH) : RS := .ok (.next env) ih
def ms_brk (env : Env) (ih : IH) : RS := .ok (.brk env) ih
def ms_cont (env : Env) (ih : IH) : RS := .ok (.cont env) ih
def ms_if (n : Env → IH → Res Bool) (ma mb : Env → IH → RS) (env : Env) (ih : IH) : RS := (n env ih).stm env fun b ih1 => if b = true then ma env ih1 else mb env ih1
def RS.seq (r : RS) (k : Env → IH → RS) : RS := match r with
  | .ok (.next env) ih => k env ih
  | z => z
@[simp] theorem RS.seq_next (env : Env) (ih : IH) (k : Env → IH → RS) : (RS.ok (.next env) ih).seq k = k env ih := rfl
@[simp] theorem RS.seq_ret (v : IV) (ih : IH) (k : Env → IH → RS) : (RS.ok (.ret v) ih).seq k = .ok (.ret v) ih := rfl
@[simp] theorem RS.seq_brk (v : Env) (ih : IH) (k : Env → IH → RS) : (RS.ok (.brk v) ih).seq k = .ok (.brk v) ih := rfl
@[simp] theorem RS.seq_cont (v : Env) (ih : IH) (k : Env → IH → RS) : (RS.ok (.cont v) ih).seq k = .ok (.cont v) ih := rfl
@[simp] theorem RS.seq_exc (c : Addr) (env : Env) (ih : IH) (k : Env → IH → RS) : (RS.exc c env ih).seq k = .exc c env ih := rfl
@[simp] theorem RS.seq_stuck (k : Env → IH → RS) : RS.stuck.seq k = .stuck := rfl
def ms_seq (ma mb : Env → IH → RS) (env : Env) (ih : IH) : RS := (ma env ih).seq mb
def ms_aug (i : Nat) (f : IV → IV → IH → Res IV) (m : Env → IH → Res IV) (env : Env) (ih : IH) : RS := match env[i]? with
  | some (some x) => (m env ih).stm env fun y ih1 => (f x y ih1).stm env fun z ih2 => .ok (.next (env.set i (some z))) ih2
  | _ => .stuck
def ms_par (i j : Nat) (m : Env → IH → Res (List IV)) (env : Env) (ih : IH) : RS := (m env ih).stm env fun vs ih1 => match vs with
  | [v, w] => .ok (.next ((env.set i (some v)).set j (some w))) ih1
  | _ => .stuck
/-- o[i] = v for a list -/
def f_setL (o i v : IV) (ih : IH) : Option IH := match o, i with
  | .ref n, .int k => match ih[n]? with
    | some (.lst xs) => match ixN xs.length k with
      | some j => some (ih.set n (.lst (xs.set j v)))
      | none => none
    | _ => none
  | _, _ => none
def ms_setL (m mo mi : Env → IH → Res IV) (env : Env) (ih : IH) : RS := (m env ih).stm env fun v ih1 => (mo env ih1).stm env fun o ih2 => (mi env ih2).stm env fun i ih3 => match f_setL o i v ih3 with
  | some ih4 => .ok (.next env) ih4
  | none => .stuck
def ms_raise (c : Addr) (env : Env) (ih : IH) : RS := .exc c env ih
section
variable {X : Cx} {K : PySem.W.Frag} {W : WX} {e : Expr} {m mo mi : Env → IH → Res IV} {n : Env → IH → Res Bool} {sa sb : Env → IH → RS} {pos : Pos} {r : List Addr} {ih : IH} {env : Env} {H : Hp} {σ : St} {D : Ends}
theorem st_end (h : PStm K W r (.ok (.next env) ih) D) (hr : Rel K r ih H) (he : REnv r env σ) : D.nx σ H := h r H σ (pre_refl r) hr he
theorem st_ret {v : IV} {u : V} (h : PStm K W r (.ok (.ret v) ih) D) (hr : Rel K r ih H) (hv : R r v u) : D.rt u H := h r H u (pre_refl r) hr hv
/-- the core of an assignment -/
theorem set_core {ks : List Nat} {g : TG} {f : IV → Env → IH → Option Env} (hg : SndG X.K ks g f) (h : tMS X.K W (ms_set f m) D σ H) : tM X.K W m σ H fun x H1 => g x σ H1 D.nx := by
  obtain ⟨r, ih, env, hr, he, q⟩ := h
  refine tG.imp (tG_stm hr he q) fun u H1 ⟨r1, ih1, v, p, hr1, hv, q1⟩ => ?_
  dsimp only at q1
  refine hg r1 ih1 H1 v u env σ _ hr1 hv (he.mono p) ?_
  cases e : f v env ih1 with
  | some env' =>
    rw [e] at q1
    exact ⟨env', rfl, fun σ' he' _ _ => st_end q1 hr1 he'⟩
  | none =>
    rw [e] at q1
    exact q1.elim
theorem ls_set {i : Nat} {x : Str} {pos' : Pos} (hN : X.N.Nodup) (hi : X.N[i]? = some x) (hx : Loc X.env.scope x) (he : PE X e (tM X.K W m)) (hs : swapsWith e (some (.Name x pos')) pos.line X.env = pure false := by rfl)
    (hf : X.fn x = true ∨ X.env.scope.names.lookup x = some .local := by first | exact .inl rfl | exact .inr rfl | assumption) : PS X (.Assign [.Name x pos'] e pos) (tMS X.K W (ms_set (g_nm i) m)) :=
  PS.of (ps_set hN hi hx he hs hf) fun D σ H h => set_core (sg_nm i) h
theorem ls_asg {tg : Expr} {ks : List Nat} {g : TG} {f : IV → Env → IH → Option Env} (he : PE X e (tM X.K W m)) (hg : PG X tg g) (sg : SndG X.K ks g f) (hs : swapsWithSole [tg] e pos.line X.env = pure false := by rfl) (hw : swappedStores [tg] e X.env = pure none := by rfl) (h1 : (assignEach [tg] X.env).map (·.2) = [assign tg X.env] := by rfl) :
    PS X (.Assign [tg] e pos) (tMS X.K W (ms_set f m)) := PS.of (ps_asg he hg hs hw h1) fun D σ H h => set_core sg h
theorem ls_expr (he : PE X e (tM X.K W m)) (hs : swapsWith e none pos.line X.env = pure false := by rfl) : PS X (.Expr e pos) (tMS X.K W (ms_expr m)) :=
  PS.of (ps_expr he hs) fun D σ H ⟨r, ih, env, hr, he, q⟩ => tG.imp (tG_stm hr he q) fun u H1 ⟨r1, ih1, v, p, hr1, hv, q1⟩ => st_end q1 hr1 (he.mono p)
theorem ls_ret (he : PE X e (tM X.K W m)) : PS X (.Return (some e) pos) (tMS X.K W (ms_ret m)) :=
  PS.of (ps_ret he) fun D σ H ⟨r, ih, env, hr, he, q⟩ => tG.imp (tG_stm hr he q) fun u H1 ⟨r1, ih1, v, p, hr1, hv, q1⟩ => st_ret q1 hr1 hv
theorem ls_retN : PS X (.Return none pos) (tMS X.K W ms_retN) := PS.of ps_retN fun D σ H ⟨r, ih, env, hr, he, q⟩ => st_ret q hr rfl
theorem ls_pass : PS X (.Pass pos) (tMS X.K W ms_pass) := PS.of ps_pass fun D σ H ⟨r, ih, env, hr, he, q⟩ => st_end q hr he
theorem ls_brk : PS X (.Break pos) (tMS X.K W ms_brk) := PS.of ps_break fun D σ H ⟨r, ih, env, hr, he, q⟩ => q r H σ (pre_refl r) hr he
theorem ls_cont : PS X (.Continue pos) (tMS X.K W ms_cont) := PS.of ps_continue fun D σ H ⟨r, ih, env, hr, he, q⟩ => q r H σ (pre_refl r) hr he
theorem ls_if {c : Expr} {a b : List Stmt} (hc : PT X c (tMT X.K W n)) (ha : PSs X a (tMS X.K W sa)) (hb : PSs X b (tMS X.K W sb)) : PS X (.If c a b pos) (tMS X.K W (ms_if n sa sb)) :=
  PS.of (ps_if hc ha hb) fun D σ H ⟨r, ih, env, hr, he, q⟩ => tG.imp (tG_stm hr he q) fun u H1 ⟨r1, ih1, v, p, hr1, hv, q1⟩ => by
    obtain rfl : u = v := hv
    cases u with
    | true => exact ⟨r1, ih1, env, hr1, he.mono p, q1⟩
    | false => exact ⟨r1, ih1, env, hr1, he.mono p, q1⟩
theorem lss_nil : PSs X [] (tMS X.K W ms_pass) := PSs.of pss_nil fun D σ H ⟨r, ih, env, hr, he, q⟩ => st_end q hr he
theorem lss_one {st : Stmt} (h : PS X st (tMS X.K W sa)) : PSs X [st] (tMS X.K W sa) := pss_one h
theorem lss_cons {st : Stmt} {rest : List Stmt} (h1 : PS X st (tMS X.K W sa)) (h2 : PSs X rest (tMS X.K W sb)) : PSs X (st :: rest) (tMS X.K W (ms_seq sa sb)) :=
  PSs.of (pss_cons h1 h2) fun D σ H ⟨r, ih, env, hr, he, q⟩ => by
    refine ⟨r, ih, env, hr, he, ?_⟩
    unfold ms_seq at q
    cases e : sa env ih with
    | ok f ih1 =>
      rw [e] at q
      cases f with
      | next env1 => exact fun r' H' σ' p hr' he' => ⟨r', ih1, env1, hr', he', PStm.mono p q⟩
      | brk env1 => exact q
      | cont env1 => exact q
      | ret v => exact q
    | exc c env1 ih1 => rw [e] at q; exact q
    | stuck => rw [e] at q; exact q
theorem ls_aug {i : Nat} {x : Str} {op : Operator} {rr : R2} {f : IV → IV → IH → Res IV} {pos' : Pos} (hN : X.N.Nodup) (hi : X.N[i]? = some x) (hx : Loc X.env.scope x) (ho : OpR X (inplaceOp op) rr) (hf : Snd2 X.K W rr f) (he : PE X e (tM X.K W m))
    (hfn : X.fn x = true ∨ X.env.scope.names.lookup x = some .local := by first | exact .inl rfl | exact .inr rfl | assumption) : PS X (.AugAssign (.Name x pos') op e pos) (tMS X.K W (ms_aug i f m)) :=
  PS.of (ps_aug (ti := rr) hN hi hx he (fun pins s σ H x y v u Q I rx ry q => ho pins s σ H x y v u Q I rx ry q) hfn) fun D σ H ⟨r, ih, env, hr, he, q⟩ => by
    unfold ms_aug at q
    split at q
    · rename_i v0 e0
      obtain ⟨u0, h1, h2⟩ := he.2 i v0 e0
      refine ⟨u0, h1, tG.imp (tG_stm hr he q) fun u H1 ⟨r1, ih1, v, p, hr1, hv, q1⟩ => ?_⟩
      dsimp only at q1
      refine hf r1 ih1 H1 v0 v u0 u σ _ hr1 (h2.mono p) hv ?_
      cases e : f v0 v ih1 with
      | ok z ih2 =>
        rw [e] at q1
        exact fun r' H' w p' hr' hw => q1 r' H' _ p' hr' ((he.mono (pre_trans p p')).set hw i)
      | exc c ih2 =>
        rw [e] at q1
        exact fun r' H' p' hr' => q1 r' H' σ p' hr' (he.mono (pre_trans p p'))
      | stuck =>
        rw [e] at q1
        exact q1
    · exact q.elim
theorem ls_par {i j : Nat} {x y : Str} {a b : Expr} {mm : Env → IH → Res (List IV)} {px py pt : Pos} {kt k2 : Nat} {pt2 : Pos} (hP : ∀ {ta : TA}, PA X [a, b] ta → PS X (.Assign [.Tuple [.Name x px, .Name y py] kt pt] (.Tuple [a, b] k2 pt2) pos) (tPar i j ta))
    (ha : PA X [a, b] (tMA X.K W mm)) : PS X (.Assign [.Tuple [.Name x px, .Name y py] kt pt] (.Tuple [a, b] k2 pt2) pos) (tMS X.K W (ms_par i j mm)) :=
  PS.of (hP ha) fun D σ H ⟨r, ih, env, hr, he, q⟩ => tG.imp (tG_stm hr he q) fun us H1 ⟨r1, ih1, vs, p, hr1, hv, q1⟩ => by
    dsimp only at q1
    split at q1
    · rename_i v w
      obtain ⟨u1, u2, rfl, h1, h2⟩ := hv.two
      exact ⟨u1, u2, rfl, st_end q1 hr1 (((he.mono p).set h1 i).set h2 j)⟩
    · exact q1.elim
theorem ls_setL {o i : Expr} {tpos : Pos} (he : PE X e (tM X.K W m)) (hg : ∀ {to ti : TE}, PE X o to → PE X i ti → PG X (.Subscript o i tpos) (gSub to ti rSetL)) (ho : PE X o (tM X.K W mo)) (hi : PE X i (tM X.K W mi))
    (hs : swapsWithSole [.Subscript o i tpos] e pos.line X.env = pure false := by rfl) (hw : swappedStores [.Subscript o i tpos] e X.env = pure none := by rfl) : PS X (.Assign [.Subscript o i tpos] e pos) (tMS X.K W (ms_setL m mo mi)) :=
  PS.of (ps_asg he (hg ho hi) hs hw) fun D σ H ⟨r, ih, env, hr, he, q⟩ => tG.imp (tG_stm hr he q) fun u H1 ⟨r1, ih1, v, p, hr1, hv, q1⟩ =>
    tG.imp (tG_stm hr1 (he.mono p) q1) fun u2 H2 ⟨r2, ih2, v2, p2, hr2, hv2, q2⟩ => tG.imp (tG_stm hr2 ((he.mono p).mono p2) q2) fun u3 H3 ⟨r3, ih3, v3, p3, hr3, hv3, q3⟩ => by
      dsimp only at q3
      cases e : f_setL v2 v3 v ih3 with
      | some ih4 =>
        rw [e] at q3
        unfold f_setL at e
        split at e
        · rename_i n k _
          obtain ⟨a, ea, rfl⟩ := (hv2.mono p3).ref
          obtain rfl : u3 = .int k := hv3
          split at e
          · rename_i xs e1
            obtain ⟨ys, h1, h2⟩ := hr3.get n a _ ea e1
            split at e
            · rename_i j ej
              cases e
              refine ⟨a, ys, k, j, rfl, rfl, h1, by rw [← h2.length]; exact ej, ?_⟩
              exact q3 r3 _ σ (pre_refl r3) (hr3.write ea e1 (h2.set ((hv.mono p2).mono p3) j)) (((he.mono p).mono p2).mono p3)
            · cases e
          · cases e
        · cases e
      | none =>
        rw [e] at q3
        exact q3.elim
theorem ls_raise {C : Addr} {bmB : List Value} {B newId initId : String} {x mm : Str} {j : Nat} {p p2 pos pos2 : Pos} (hc : X.calm = true) (tk : Takes X W) (F : ExcBaseFacts B newId initId bmB) (q : PySem.W.excIn X.K C bmB newId = true) (gC : X.mg x = some (.ref C)) (kC : PySem.W.keepIn X.K (.ref C) = true) (r : Raises X (.ref C)) (hg : Gl X x)
    (hdb : (x == ("__debug__" : Str)) = false := by decide) : PS X (.Raise (some (.Call (.Name x p) [.Constant (.str mm) j p2] [] pos)) none pos2) (tMS X.K W (ms_raise C)) :=
  PS.of (ps_raise hc tk (pmk_own F q gC kC r hg hdb)) fun D σ H ⟨r, ih, env, hr, he, q⟩ => q r H σ (pre_refl r) hr he
end
end L3
/-! L3f: what is walked, loops, comprehensions. -/
namespace L3
variable [TabT] [LamT]
open PySem L2

/-! ### what is walked -/
inductive Src where
  | lst (n : Nat) | tup (n : Nat) | rng (lo c : Int) (k : Nat) | enm (n : Nat) | zip (n m : Nat)
/-- the i-th turn: stuck, the end, or an item (the heap may grow) -/
inductive Tr where
  | stuck | stop | item (v : IV) (ih : IH)
def MO.isK (o : MO) : Bool → Bool
  | true => o.isL
  | false => o.isT
def lAt (ih : IH) (n : Nat) (l : Bool) : Option (List IV) := match ih[n]? with
  | some o => if o.isK l = true then some o.xs else none
  | none => none
def Src.turn (s : Src) (i : Nat) (ih : IH) : Tr := match s with
  | .lst n => match lAt ih n true with
    | some xs => match xs[i]? with
      | some v => .item v ih
      | none => .stop
    | none => .stuck
  | .tup n => match lAt ih n false with
    | some xs => match xs[i]? with
      | some v => .item v ih
      | none => .stop
    | none => .stuck
  | .rng lo c k => if i < k then .item (.int (lo + (i : Int) * c)) ih else .stop
  | .enm n => match lAt ih n true with
    | some xs => match xs[i]? with
      | some v => .item (.ref ih.length) (ih ++ [.tup [.int (i : Int), v]])
      | none => .stop
    | none => .stuck
  | .zip n m => match lAt ih n true, lAt ih m true with
    | some xs, some ys => match xs[i]?, ys[i]? with
      | some v, some w => .item (.ref ih.length) (ih ++ [.tup [v, w]])
      | _, _ => .stop
    | _, _ => .stuck
/-- how many turns there are at most -/
def Src.size (s : Src) (ih : IH) : Nat := match s with
  | .lst n => match ih[n]? with
    | some o => o.xs.length
    | none => 0
  | .tup n => match ih[n]? with
    | some o => o.xs.length
    | none => 0
  | .rng _ _ k => k
  | .enm n => match ih[n]? with
    | some o => o.xs.length
    | none => 0
  | .zip n _ => match ih[n]? with
    | some o => o.xs.length
    | none => 0
def SRel (K : PySem.W.Frag) (r : List Addr) (s : Src) (J : It) : Prop := match s with
  | .lst n => ∃ a, r[n]? = some a ∧ J = Itl K a
  | .tup n => ∃ a, r[n]? = some a ∧ J = Itt K a
  | .rng lo c k => J.go = (fun i _ => i < k) ∧ J.yld = (fun i H x H' => H' = H ∧ x = .int (lo + (i : Int) * c)) ∧ J.stop = fun i _ => k ≤ i
  | .enm n => ∃ a, r[n]? = some a ∧ J = Ite K a
  | .zip n m => ∃ a b, r[n]? = some a ∧ r[m]? = some b ∧ J = Itz K a b
section
variable {K : PySem.W.Frag} {r r' : List Addr} {ih : IH} {H : Hp}
theorem lAt_l {n : Nat} {xs : List IV} {a : Addr} (hr : Rel K r ih H) (ea : r[n]? = some a) (h : lAt ih n true = some xs) : ∃ ys, SqL K H a ys ∧ Rs r xs ys := by
  unfold lAt at h
  split at h
  · rename_i o e
    split at h
    · rename_i hl
      cases h
      exact (hr.get n a _ ea e).l hl
    · cases h
  · cases h
theorem lAt_t {n : Nat} {xs : List IV} {a : Addr} (hr : Rel K r ih H) (ea : r[n]? = some a) (h : lAt ih n false = some xs) : ∃ ys, SqT K H a ys ∧ Rs r xs ys := by
  unfold lAt at h
  split at h
  · rename_i o e
    split at h
    · rename_i hl
      cases h
      exact (hr.get n a _ ea e).t hl
    · cases h
  · cases h
theorem Rs.none {xs : List IV} {ys : List V} {i : Nat} (h : Rs r xs ys) (e : xs[i]? = none) : ys.length ≤ i := by
  rw [← h.length]
  exact List.getElem?_eq_none_iff.mp e
/-- a turn of the mirror is a turn of the iterator -/
theorem turn_ok {s : Src} {J : It} {i : Nat} (hj : SRel K r s J) (hr : Rel K r ih H) : match s.turn i ih with
    | .stuck => True
    | .stop => J.stop i H
    | .item v ih1 => J.go i H ∧ ∀ x H', J.yld i H x H' → ∃ r1, r <+: r1 ∧ Rel K r1 ih1 H' ∧ R r1 v x := by
  cases s with
  | lst n =>
    obtain ⟨a, ea, rfl⟩ := hj
    unfold Src.turn
    dsimp only
    cases e : lAt ih n true with
    | none => trivial
    | some xs =>
      obtain ⟨ys, h1, h2⟩ := lAt_l hr ea e
      dsimp only
      cases e2 : xs[i]? with
      | none => exact ⟨ys, h1, h2.none e2⟩
      | some v =>
        obtain ⟨y, h3, h4⟩ := h2.get e2
        refine ⟨⟨ys, y, h1, h3⟩, fun x H' hy => ?_⟩
        obtain ⟨rfl, hy⟩ := hy
        have := (hy _ h1).symm.trans h3
        cases this
        exact ⟨r, pre_refl r, hr, h4⟩
  | tup n =>
    obtain ⟨a, ea, rfl⟩ := hj
    unfold Src.turn
    dsimp only
    cases e : lAt ih n false with
    | none => trivial
    | some xs =>
      obtain ⟨ys, h1, h2⟩ := lAt_t hr ea e
      dsimp only
      cases e2 : xs[i]? with
      | none => exact ⟨ys, h1, h2.none e2⟩
      | some v =>
        obtain ⟨y, h3, h4⟩ := h2.get e2
        refine ⟨⟨ys, y, h1, h3⟩, fun x H' hy => ?_⟩
        obtain ⟨rfl, hy⟩ := hy
        have := (hy _ h1).symm.trans h3
        cases this
        exact ⟨r, pre_refl r, hr, h4⟩
  | rng lo c k =>
    obtain ⟨h1, h2, h3⟩ := hj
    unfold Src.turn
    dsimp only
    by_cases hk : i < k
    · rw [if_pos hk]
      dsimp only
      rw [h1, h2]
      refine ⟨hk, fun x H' hy => ?_⟩
      obtain ⟨rfl, rfl⟩ := hy
      exact ⟨r, pre_refl r, hr, rfl⟩
    · rw [if_neg hk]
      dsimp only
      rw [h3]
      exact Nat.le_of_not_lt hk
  | enm n =>
    obtain ⟨a, ea, rfl⟩ := hj
    unfold Src.turn
    dsimp only
    cases e : lAt ih n true with
    | none => trivial
    | some xs =>
      obtain ⟨ys, h1, h2⟩ := lAt_l hr ea e
      dsimp only
      cases e2 : xs[i]? with
      | none => exact ⟨ys, h1, h2.none e2⟩
      | some v =>
        obtain ⟨y, h3, h4⟩ := h2.get e2
        refine ⟨⟨ys, y, h1, h3⟩, fun x H' hy => ?_⟩
        obtain ⟨T, z, rfl, hT, rfl, hy⟩ := hy
        have := (hy _ h1).symm.trans h3
        cases this
        exact ⟨r ++ [T], pre_one, hr.new hT rfl fun H' e => ⟨_, e, .cons rfl (.cons h4 .nil)⟩, R.newest hr.len⟩
  | zip n m =>
    obtain ⟨a, b, ea, eb, rfl⟩ := hj
    unfold Src.turn
    dsimp only
    cases e : lAt ih n true with
    | none => trivial
    | some xs =>
      cases e' : lAt ih m true with
      | none => trivial
      | some zs =>
        obtain ⟨ys, h1, h2⟩ := lAt_l hr ea e
        obtain ⟨ws, k1, k2⟩ := lAt_l hr eb e'
        dsimp only
        cases e2 : xs[i]? with
        | none => exact ⟨ys, ws, h1, k1, .inl (h2.none e2)⟩
        | some v =>
          cases e3 : zs[i]? with
          | none => exact ⟨ys, ws, h1, k1, .inr (k2.none e3)⟩
          | some w =>
            obtain ⟨y, h3, h4⟩ := h2.get e2
            obtain ⟨z, k3, k4⟩ := k2.get e3
            refine ⟨⟨ys, ws, y, z, h1, k1, h3, k3⟩, fun x H' hy => ?_⟩
            obtain ⟨T, p, q, rfl, hT, rfl, hy, hz⟩ := hy
            have g1 := (hy _ h1).symm.trans h3
            have g2 := (hz _ k1).symm.trans k3
            cases g1
            cases g2
            exact ⟨r ++ [T], pre_one, hr.new hT rfl fun H' e => ⟨_, e, .cons h4 (.cons k4 .nil)⟩, R.newest hr.len⟩
theorem SRel.mono {s : Src} {J : It} (p : r <+: r') (h : SRel K r s J) : SRel K r' s J := by
  cases s with
  | lst n => obtain ⟨a, e, h⟩ := h; exact ⟨a, pre_get p e, h⟩
  | tup n => obtain ⟨a, e, h⟩ := h; exact ⟨a, pre_get p e, h⟩
  | rng lo c k => exact h
  | enm n => obtain ⟨a, e, h⟩ := h; exact ⟨a, pre_get p e, h⟩
  | zip n m => obtain ⟨a, b, e, e2, h⟩ := h; exact ⟨a, b, pre_get p e, pre_get p e2, h⟩
end
abbrev tMI (K : PySem.W.Frag) (W : WX) (m : Env → IH → Res Src) : TI := tG (SRel K) K W m
def mi_lst (m : Env → IH → Res IV) (env : Env) (ih : IH) : Res Src := (m env ih).bind fun v ih1 => match v with
  | .ref n => match lAt ih1 n true with
    | some _ => .ok (.lst n) ih1
    | none => .stuck
  | _ => .stuck
def mi_tup (m : Env → IH → Res IV) (env : Env) (ih : IH) : Res Src := (m env ih).bind fun v ih1 => match v with
  | .ref n => match lAt ih1 n false with
    | some _ => .ok (.tup n) ih1
    | none => .stuck
  | _ => .stuck
def mi_enm (m : Env → IH → Res (List IV)) (env : Env) (ih : IH) : Res Src := (m env ih).bind fun vs ih1 => match vs with
  | [.ref n] => match lAt ih1 n true with
    | some _ => .ok (.enm n) ih1
    | none => .stuck
  | _ => .stuck
def mi_zip (m : Env → IH → Res (List IV)) (env : Env) (ih : IH) : Res Src := (m env ih).bind fun vs ih1 => match vs with
  | [.ref n, .ref k] => match lAt ih1 n true, lAt ih1 k true with
    | some _, some _ => .ok (.zip n k) ih1
    | _, _ => .stuck
  | _ => .stuck
def smallI (i : Int) : Bool := decide (-(2 ^ 62) ≤ i) && decide (i < 2 ^ 62)
def mi_rng1 (m : Env → IH → Res (List IV)) (env : Env) (ih : IH) : Res Src := (m env ih).bind fun vs ih1 => match vs with
  | [.int j] => if smallI j = true then .ok (.rng 0 1 j.toNat) ih1 else .stuck
  | _ => .stuck
def mi_rng2 (m : Env → IH → Res (List IV)) (env : Env) (ih : IH) : Res Src := (m env ih).bind fun vs ih1 => match vs with
  | [.int i, .int j] => if smallI i = true ∧ smallI j = true then .ok (.rng i 1 (j - i).toNat) ih1 else .stuck
  | _ => .stuck
theorem smallI_of {i : Int} (h : smallI i = true) : -(2 ^ 62) ≤ i ∧ i < 2 ^ 62 := by
  unfold smallI at h
  rw [Bool.and_eq_true] at h
  exact ⟨of_decide_eq_true h.1, of_decide_eq_true h.2⟩
section
variable {X : Cx} {W : WX} {tg e e2 : Expr} {m : Env → IH → Res IV} {ml : Env → IH → Res (List IV)} {p pos tpos : Pos} {elts : List Expr} {kk : Nat}
theorem PI.of {t t' : TI} (h : PI X tg e t) (w : ∀ σ H Q, t' σ H Q → t σ H Q) : PI X tg e t' := ⟨fun pins s σ H Q I q => h.run pins s σ H Q I (w σ H Q q)⟩
theorem li_lst (h : PE X e (tM X.K W m)) : PI X tg e (tMI X.K W (mi_lst m)) := PI.of (pi_list h) fun σ H Q ⟨r, ih, env, hr, he, q⟩ => tG.imp (tG_bind hr he q) fun u H1 ⟨r1, ih1, v, p, hr1, hv, q1⟩ => by
  dsimp only at q1
  split at q1
  · rename_i n _
    obtain ⟨a, ea, rfl⟩ := hv.ref
    split at q1
    · rename_i xs e1
      obtain ⟨ys, h1, _⟩ := lAt_l hr1 ea e1
      exact ⟨a, rfl, ⟨ys, h1⟩, tG_end q1 hr1 ⟨a, ea, rfl⟩⟩
    · exact q1.elim
  · exact q1.elim
theorem li_tup (h : PE X e (tM X.K W m)) : PI X tg e (tMI X.K W (mi_tup m)) := PI.of (pi_tup h) fun σ H Q ⟨r, ih, env, hr, he, q⟩ => tG.imp (tG_bind hr he q) fun u H1 ⟨r1, ih1, v, p, hr1, hv, q1⟩ => by
  dsimp only at q1
  split at q1
  · rename_i n _
    obtain ⟨a, ea, rfl⟩ := hv.ref
    split at q1
    · rename_i xs e1
      obtain ⟨ys, h1, _⟩ := lAt_t hr1 ea e1
      exact ⟨a, rfl, ⟨ys, h1⟩, tG_end q1 hr1 ⟨a, ea, rfl⟩⟩
    · exact q1.elim
  · exact q1.elim
theorem li_enm (hg : Gl X "enumerate") (hm : X.mg "enumerate" = none) (ha : PA X [e] (tMA X.K W ml)) (hs : starEach [e] X.env = [(false, eval e X.env)] := by rfl) : PI X (.Tuple elts kk tpos) (.Call (.Name "enumerate" p) [e] [] pos) (tMI X.K W (mi_enm ml)) :=
  PI.of (pi_enum hg hm ha hs) fun σ H Q ⟨r, ih, env, hr, he, q⟩ => tG.imp (tG_bind hr he q) fun u H1 ⟨r1, ih1, v, p, hr1, hv, q1⟩ => by
    dsimp only at q1
    split at q1
    · rename_i n _
      obtain ⟨w, rfl, hw⟩ := hv.one
      obtain ⟨a, ea, rfl⟩ := hw.ref
      split at q1
      · rename_i xs e1
        obtain ⟨ys, h1, _⟩ := lAt_l hr1 ea e1
        exact ⟨a, ys, rfl, h1, tG_end q1 hr1 ⟨a, ea, rfl⟩⟩
      · exact q1.elim
    · exact q1.elim
theorem li_zip (hg : Gl X "zip") (hm : X.mg "zip" = none) (ha : PA X [e, e2] (tMA X.K W ml)) (hs : starEach [e, e2] X.env = (false, eval e X.env) :: starEach [e2] X.env := by rfl) (hpl : (backTo pos (starEach [e2] X.env)).any (·.1) = false := by rfl) :
    PI X (.Tuple elts kk tpos) (.Call (.Name "zip" p) [e, e2] [] pos) (tMI X.K W (mi_zip ml)) :=
  PI.of (pi_zip hg hm ha hs hpl) fun σ H Q ⟨r, ih, env, hr, he, q⟩ => tG.imp (tG_bind hr he q) fun u H1 ⟨r1, ih1, v, p, hr1, hv, q1⟩ => by
    dsimp only at q1
    split at q1
    · rename_i n k _
      obtain ⟨w, w2, rfl, hw, hw2⟩ := hv.two
      obtain ⟨a, ea, rfl⟩ := hw.ref
      obtain ⟨b, eb, rfl⟩ := hw2.ref
      split at q1
      · rename_i xs zs e1 e2
        obtain ⟨ys, h1, _⟩ := lAt_l hr1 ea e1
        obtain ⟨ws, h2, _⟩ := lAt_l hr1 eb e2
        exact ⟨a, b, ys, ws, rfl, h1, h2, tG_end q1 hr1 ⟨a, b, ea, eb, rfl⟩⟩
      · exact q1.elim
    · exact q1.elim
theorem li_rng1 (hg : Gl X "range") (hm : X.mg "range" = none) (ha : PA X [e] (tMA X.K W ml)) (hs : starEach [e] X.env = [(false, eval e X.env)] := by rfl) : PI X tg (.Call (.Name "range" p) [e] [] pos) (tMI X.K W (mi_rng1 ml)) :=
  PI.of (pi_range1 hg hm ha hs) fun σ H Q ⟨r, ih, env, hr, he, q⟩ => tG.imp (tG_bind hr he q) fun u H1 ⟨r1, ih1, v, p, hr1, hv, q1⟩ => by
    dsimp only at q1
    split at q1
    · obtain ⟨w, rfl, hw⟩ := hv.one
      obtain rfl : w = .int _ := hw
      split at q1
      · rename_i hj
        obtain ⟨h1, h2⟩ := smallI_of hj
        refine ⟨_, rfl, h1, h2, tG_end q1 hr1 ⟨rfl, ?_, rfl⟩⟩
        funext i H x H'
        rw [Int.mul_one]
        rfl
      · exact q1.elim
    · exact q1.elim
theorem li_rng2 (hg : Gl X "range") (hm : X.mg "range" = none) (ha : PA X [e, e2] (tMA X.K W ml)) (hs : starEach [e, e2] X.env = [(false, eval e X.env), (false, eval e2 X.env)] := by rfl) (hs2 : starEach [e2] X.env = [(false, eval e2 X.env)] := by rfl) :
    PI X tg (.Call (.Name "range" p) [e, e2] [] pos) (tMI X.K W (mi_rng2 ml)) :=
  PI.of (pi_range2 hg hm ha hs hs2) fun σ H Q ⟨r, ih, env, hr, he, q⟩ => tG.imp (tG_bind hr he q) fun u H1 ⟨r1, ih1, v, p, hr1, hv, q1⟩ => by
    dsimp only at q1
    split at q1
    · obtain ⟨w, w2, rfl, hw, hw2⟩ := hv.two
      obtain rfl : w = .int _ := hw
      obtain rfl : w2 = .int _ := hw2
      split at q1
      · rename_i hj
        obtain ⟨h1, h2⟩ := smallI_of hj.1
        obtain ⟨h3, h4⟩ := smallI_of hj.2
        refine ⟨_, _, rfl, ⟨h1, h2, h3, h4⟩, tG_end q1 hr1 ⟨rfl, ?_, rfl⟩⟩
        funext i H x H'
        rw [Int.mul_one]
        rfl
      · exact q1.elim
    · exact q1.elim
end

/-! ### for, while -/
/-- behind a loop's body: the next turn, or the end -/
def RS.loop (r : RS) (k : Env → IH → RS) : RS := match r with
  | .ok (.next env) ih => k env ih
  | .ok (.cont env) ih => k env ih
  | .ok (.brk env) ih => .ok (.next env) ih
  | .ok (.ret v) ih => .ok (.ret v) ih
  | .exc c env ih => .exc c env ih
  | .stuck => .stuck
@[simp] theorem RS.loop_next (env : Env) (ih : IH) (k : Env → IH → RS) : (RS.ok (.next env) ih).loop k = k env ih := rfl
@[simp] theorem RS.loop_cont (env : Env) (ih : IH) (k : Env → IH → RS) : (RS.ok (.cont env) ih).loop k = k env ih := rfl
@[simp] theorem RS.loop_brk (env : Env) (ih : IH) (k : Env → IH → RS) : (RS.ok (.brk env) ih).loop k = .ok (.next env) ih := rfl
@[simp] theorem RS.loop_ret (v : IV) (ih : IH) (k : Env → IH → RS) : (RS.ok (.ret v) ih).loop k = .ok (.ret v) ih := rfl
@[simp] theorem RS.loop_exc (c : Addr) (env : Env) (ih : IH) (k : Env → IH → RS) : (RS.exc c env ih).loop k = .exc c env ih := rfl
@[simp] theorem RS.loop_stuck (k : Env → IH → RS) : RS.stuck.loop k = .stuck := rfl
def forGo (s : Src) (g : IV → Env → IH → Option Env) (mb : Env → IH → RS) : Nat → Nat → Env → IH → RS
  | 0, _, _, _ => .stuck
  | f + 1, i, env, ih => match s.turn i ih with
    | .stuck => .stuck
    | .stop => .ok (.next env) ih
    | .item v ih1 => match g v env ih1 with
      | some env1 => (mb env1 ih1).loop fun env2 ih2 => forGo s g mb f (i + 1) env2 ih2
      | none => .stuck
def ms_for (mi : Env → IH → Res Src) (g : IV → Env → IH → Option Env) (mb : Env → IH → RS) (env : Env) (ih : IH) : RS := (mi env ih).stm env fun s ih1 => forGo s g mb (s.size ih1 + 1) 0 env ih1
def whileGo (n : Env → IH → Res Bool) (mb : Env → IH → RS) : Nat → Env → IH → RS
  | 0, _, _ => .stuck
  | f + 1, env, ih => (n env ih).stm env fun b ih1 => if b = true then (mb env ih1).loop fun env2 ih2 => whileGo n mb f env2 ih2 else .ok (.next env) ih1
def ms_while (fuel : Nat) (n : Env → IH → Res Bool) (mb : Env → IH → RS) (env : Env) (ih : IH) : RS := whileGo n mb fuel env ih
section
variable {X : Cx} {K : PySem.W.Frag} {W : WX} {r : List Addr} {D : Ends}
/-- a body's end within a loop -/
theorem loop_body {res : RS} {k : Env → IH → RS} {N : St → Hp → Prop} (h : PStm K W r (res.loop k) D) (hN : ∀ r1 ih env σ H, r <+: r1 → Rel K r1 ih H → REnv r1 env σ → PStm K W r1 (k env ih) D → N σ H) : PStm K W r res { D with nx := N, ct := N, bk := D.nx } := by
  cases res with
  | ok f ih =>
    cases f with
    | next env => exact fun r' H' σ' p hr he => hN r' ih env σ' H' p hr he (PStm.mono p h)
    | cont env => exact fun r' H' σ' p hr he => hN r' ih env σ' H' p hr he (PStm.mono p h)
    | brk env => exact h
    | ret v => exact h
  | exc c env ih => exact h
  | stuck => exact h
theorem ls_for {iter tg : Expr} {body : List Stmt} {ks : List Nat} {g : TG} {f : IV → Env → IH → Option Env} {mi : Env → IH → Res Src} {mb : Env → IH → RS} {pos : Pos} (hp : PassesOwn (model X.prog X.w) X.A X.env X.xe) (hc : X.calm = true) (hi : PI X tg iter (tMI X.K W mi)) (hg : PG X tg g) (sg : SndG X.K ks g f)
    (hb : PSs X body (tMS X.K W mb)) (hs : ∀ x, foldedSetIterable iter X.env x = pure x := by intro _; rfl) : PS X (.For tg iter body [] pos) (tMS X.K W (ms_for mi f mb)) :=
  PS.of (ps_for hp hc hi hg hb hs) fun D σ H ⟨r, ih, env, hr, he, q⟩ => tG.imp (tG_stm hr he q) fun J H1 ⟨r1, ih1, s, p, hr1, hj, q1⟩ => by
    dsimp only at q1
    refine ⟨fun i m σ H => ∃ r2 ih2 env2, r1 <+: r2 ∧ Rel X.K r2 ih2 H ∧ REnv r2 env2 σ ∧ PStm X.K W r2 (forGo s f mb m i env2 ih2) D, ⟨_, r1, ih1, env, pre_refl r1, hr1, he.mono p, q1⟩, fun i m σ2 H2 ⟨r2, ih2, env2, p2, hr2, he2, q2⟩ => ?_⟩
    cases m with
    | zero => exact q2.elim
    | succ m =>
      unfold forGo at q2
      have t := turn_ok (i := i) (hj.mono p2) hr2
      split at q2
      · exact q2.elim
      · rename_i e
        rw [e] at t
        exact .inl ⟨t, st_end q2 hr2 he2⟩
      · rename_i v ih3 e
        rw [e] at t
        refine .inr ⟨t.1, fun σ3 H3 => ∃ r3 ih3 env3, r1 <+: r3 ∧ Rel X.K r3 ih3 H3 ∧ REnv r3 env3 σ3 ∧ PStm X.K W r3 (forGo s f mb m (i + 1) env3 ih3) D, fun σ3 H3 h => ⟨m, Nat.lt_succ_self m, h⟩, fun x H3 hy => ?_⟩
        obtain ⟨r3, p3, hr3, hv⟩ := t.2 x H3 hy
        cases eg : f v env2 ih3 with
        | none =>
          rw [eg] at q2
          exact q2.elim
        | some env3 =>
          rw [eg] at q2
          refine sg r3 ih3 H3 v x env2 σ2 _ hr3 hv (he2.mono p3) ⟨env3, eg, fun σ3 he3 _ _ => ?_⟩
          exact ⟨r3, ih3, env3, hr3, he3, loop_body (PStm.mono p3 q2) fun r4 ih4 env4 σ4 H4 p4 hr4 he4 q4 => ⟨r4, ih4, env4, pre_trans (pre_trans p2 p3) p4, hr4, he4, q4⟩⟩
theorem ls_while {c : Expr} {body : List Stmt} {n : Env → IH → Res Bool} {mb : Env → IH → RS} {pos : Pos} (fuel : Nat) (hp : PassesOwn (model X.prog X.w) X.A X.env X.xe) (hc : PT X c (tMT X.K W n)) (hb : PSs X body (tMS X.K W mb)) : PS X (.While c body [] pos) (tMS X.K W (ms_while fuel n mb)) :=
  PS.of (ps_while hp hc hb) fun D σ H ⟨r, ih, env, hr, he, q⟩ => by
    refine ⟨fun m σ H => ∃ r2 ih2 env2, Rel X.K r2 ih2 H ∧ REnv r2 env2 σ ∧ PStm X.K W r2 (whileGo n mb m env2 ih2) D, ⟨fuel, r, ih, env, hr, he, q⟩, fun m σ2 H2 ⟨r2, ih2, env2, hr2, he2, q2⟩ => ?_⟩
    cases m with
    | zero => exact q2.elim
    | succ m =>
      unfold whileGo at q2
      refine tG.imp (tG_stm hr2 he2 q2) fun u H3 ⟨r3, ih3, b, p3, hr3, hb3, q3⟩ => ?_
      obtain rfl : u = b := hb3
      cases u with
      | true =>
        rw [if_pos rfl] at q3
        show if true = true then _ else _
        rw [if_pos rfl]
        exact ⟨fun σ4 H4 => ∃ r4 ih4 env4, Rel X.K r4 ih4 H4 ∧ REnv r4 env4 σ4 ∧ PStm X.K W r4 (whileGo n mb m env4 ih4) D, fun σ4 H4 h => ⟨m, Nat.lt_succ_self m, h⟩,
          ⟨r3, ih3, env2, hr3, he2.mono p3, loop_body q3 fun r4 ih4 env4 σ4 H4 p4 hr4 he4 q4 => ⟨r4, ih4, env4, hr4, he4, q4⟩⟩⟩
      | false =>
        rw [if_neg Bool.false_ne_true] at q3
        show if false = true then _ else _
        rw [if_neg Bool.false_ne_true]
        exact st_end q3 hr3 (he2.mono p3)
end

/-! ### comprehensions -/
def lcGo (s : Src) (g : IV → Env → IH → Option Env) (n : Env → IH → Res Bool) (me : Env → IH → Res IV) (d : Nat) (env : Env) : Nat → Nat → IH → Res IV
  | 0, _, _ => .stuck
  | f + 1, i, ih => match s.turn i ih with
    | .stuck => .stuck
    | .stop => .ok (.ref d) ih
    | .item v ih1 => match g v env ih1 with
      | some env1 => match n env1 ih1 with
        | .ok true ih2 => match me env1 ih2 with
          | .ok y ih3 => match ih3[d]? with
            | some (.lst acc) => if acc.length < 100000 then lcGo s g n me d env f (i + 1) (ih3.set d (.lst (acc ++ [y]))) else .stuck
            | _ => .stuck
          | _ => .stuck
        | .ok false ih2 => lcGo s g n me d env f (i + 1) ih2
        | _ => .stuck
      | none => .stuck
def m_lc (vs : List Nat) (mi : Env → IH → Res Src) (g : IV → Env → IH → Option Env) (n : Env → IH → Res Bool) (me : Env → IH → Res IV) (env : Env) (ih : IH) : Res IV := (mi env ih).bind fun s ih1 => lcGo s g n me ih1.length (wipeI env vs) (s.size ih1 + 1) 0 (ih1 ++ [.lst []])
def n_yes (_ : Env) (ih : IH) : Res Bool := .ok true ih
abbrev W0 : WX := fun _ _ _ _ => False
theorem wipe_get {σ : St} : ∀ {vs : List Nat} {j : Nat}, j ∈ vs → j < σ.length → (wipe σ vs)[j]? = some none
  | v :: vs, j, h, hl => by
    unfold wipe
    by_cases e : v = j
    · rw [e, List.getElem?_set_self (by rw [wipe_length]; exact hl)]
    · rw [List.getElem?_set_ne e]
      exact wipe_get ((List.mem_cons.mp h).resolve_left fun z => e z.symm) hl
theorem wipe_agree {σ σ' : St} {vs ks : List Nat} (hk : ∀ k ∈ ks, k ∈ vs) (hl : σ'.length = (wipe σ vs).length) (h : ∀ j, j ∉ ks → σ'[j]? = (wipe σ vs)[j]?) : wipe σ' vs = wipe σ vs := by
  apply List.ext_getElem?
  intro j
  by_cases hj : j ∈ vs
  · by_cases hb : j < σ.length
    · rw [wipe_get hj hb, wipe_get hj (by rw [hl, wipe_length]; exact hb)]
    · rw [List.getElem?_eq_none (by rw [wipe_length, hl, wipe_length]; omega), List.getElem?_eq_none (by rw [wipe_length]; omega)]
  · rw [wipe_out hj, h j fun z => hj (hk j z)]
section
variable {X : Cx} {W : WX} {K : PySem.W.Frag}
theorem lc_weak {ks vs : List Nat} {g : TG} {f : IV → Env → IH → Option Env} {mi : Env → IH → Res Src} {n : Env → IH → Res Bool} {me : Env → IH → Res IV} {σ : St} {H : Hp} {Q : VK} (sg : SndG K ks g f) (hk : ∀ k ∈ ks, k ∈ vs) (h : tM K W (m_lc vs mi f n me) σ H Q) :
    tLc (tMI K W mi) g (tMT K W0 n) (tM K W0 me) vs σ H Q := by
  obtain ⟨r, ih, env, hr, he, q⟩ := h
  refine tG.imp (tG_bind hr he q) fun J H1 ⟨r1, ih1, s, p, hr1, hj, q1⟩ D hD => ?_
  dsimp only at q1
  have hr1' : Rel K (r1 ++ [D]) (ih1 ++ [.lst []]) (upd H1 D (.lst [])) := hr1.new hD rfl fun H' e => ⟨[], e, .nil⟩
  have hd : (r1 ++ [D])[ih1.length]? = some D := by
    obtain ⟨a, e, z⟩ := R.newest (p := D) hr1.len
    cases z
    exact e
  have hw := (he.mono (pre_trans p (pre_one (p := D)))).wipe vs
  refine ⟨fun i m H => ∃ r2 ih2, r1 ++ [D] <+: r2 ∧ Rel K r2 ih2 H ∧ PGen R K W σ r2 (lcGo s f n me ih1.length (wipeI env vs) m i ih2) Q, ⟨_, r1 ++ [D], _, pre_refl _, hr1', PGen.mono pre_one q1⟩, fun i m H2 ⟨r2, ih2, p2, hr2, q2⟩ => ?_⟩
  cases m with
  | zero => exact q2.elim
  | succ m =>
    unfold lcGo at q2
    have t := turn_ok (i := i) (hj.mono (pre_trans pre_one p2)) hr2
    split at q2
    · exact q2.elim
    · rename_i e
      rw [e] at t
      exact .inl ⟨t, tG_end q2 hr2 ⟨D, pre_get p2 hd, rfl⟩⟩
    · rename_i v ih3 e
      rw [e] at t
      refine .inr ⟨t.1, fun H3 => ∃ r3 ih3, r1 ++ [D] <+: r3 ∧ Rel K r3 ih3 H3 ∧ PGen R K W σ r3 (lcGo s f n me ih1.length (wipeI env vs) m (i + 1) ih3) Q, fun H3 h => ⟨m, Nat.lt_succ_self m, h⟩, fun x H3 hy => ?_⟩
      obtain ⟨r3, p3, hr3, hv⟩ := t.2 x H3 hy
      cases eg : f v (wipeI env vs) ih3 with
      | none =>
        rw [eg] at q2
        exact q2.elim
      | some env3 =>
        rw [eg] at q2
        refine sg r3 ih3 H3 v x (wipeI env vs) (wipe σ vs) _ hr3 hv (hw.mono (pre_trans p2 p3)) ⟨env3, eg, fun σ3 he3 l3 k3 => ⟨wipe_agree hk l3 k3, r3, ih3, env3, hr3, he3, ?_⟩⟩
        dsimp only at q2
        cases en : n env3 ih3 with
        | stuck => rw [en] at q2; exact q2.elim
        | exc c ih4 => rw [en] at q2; exact q2.elim
        | ok b ih4 =>
          rw [en] at q2
          intro r4 H4 b' p4 hr4 hb
          obtain rfl : b' = b := hb
          cases b' with
          | false => exact ⟨r4, ih4, pre_trans (pre_trans p2 p3) p4, hr4, PGen.mono (pre_trans p3 p4) q2⟩
          | true =>
            show if true = true then _ else _
            rw [if_pos rfl]
            refine ⟨r4, ih4, env3, hr4, he3.mono p4, ?_⟩
            dsimp only at q2
            cases em : me env3 ih4 with
            | stuck => rw [em] at q2; exact q2.elim
            | exc c ih5 => rw [em] at q2; exact q2.elim
            | ok y ih5 =>
              rw [em] at q2
              intro r5 H5 u p5 hr5 hu
              dsimp only at q2
              split at q2
              · rename_i acc ea
                split at q2
                · rename_i hl
                  have hD5 := pre_get (pre_trans (pre_trans (pre_trans p2 p3) p4) p5) hd
                  obtain ⟨ys, h1, h2⟩ := hr5.get _ D _ hD5 ea
                  exact ⟨ys, h1, by rw [← h2.length]; exact line5l hl, r5, _, pre_trans (pre_trans (pre_trans p2 p3) p4) p5, hr5.write hD5 ea (h2.append (.cons hu .nil)), PGen.mono (pre_trans (pre_trans p3 p4) p5) q2⟩
                · exact q2.elim
              · exact q2.elim
theorem lts_nil : PTs X [] (tMT X.K W n_yes) := ⟨fun pins s σ H Q I ⟨r, ih, env, hr, he, q⟩ => pts_nil.run pins s σ H Q I (tG_end q hr rfl)⟩
theorem lts_one {c : Expr} {n : Env → IH → Res Bool} (h : PT X c (tMT X.K W n)) : PTs X [c] (tMT X.K W n) := pts_one h
theorem lm_lc {elt tg iter : Expr} {ifs : List Expr} {scope : Scope} {own : List (Str × Nat)} {pos : Pos} {ks : List Nat} {g : TG} {f : IV → Env → IH → Option Env} {mi : Env → IH → Res Src} {n : Env → IH → Res Bool} {me : Env → IH → Res IV} (hc : X.calm = true) (hN : X.N.Nodup) (hi : PI X tg iter (tMI X.K W mi))
    (ok : BlkOk X.N X.env.scope scope own) (sg : SndG X.K ks g f) (hk : ∀ k ∈ ks, k ∈ own.map (·.2))
    (hg : ∀ (s : Shared) (H : Hp) (C : Addr) (cl : List (Str × Addr)) (fp : List Addr), PG (X.blk s H scope (compEnvC scope cl C X.env) fp) tg g) (ht : ∀ (s : Shared) (H : Hp) (C : Addr) (cl : List (Str × Addr)) (fp : List Addr), PTs (X.blk s H scope (compEnvC scope cl C X.env) fp) ifs (tMT X.K W0 n))
    (he : ∀ (s : Shared) (H : Hp) (C : Addr) (cl : List (Str × Addr)) (fp : List Addr), PE (X.blk s H scope (compEnvC scope cl C X.env) fp) elt (tM X.K W0 me)) (hs : ∀ x, foldedSetIterable iter X.env x = pure x := by intro _; rfl) :
    PE X (.ListComp elt [⟨tg, iter, ifs, 0⟩] scope pos) (tM X.K W (m_lc (own.map (·.2)) mi f n me)) := PE.of (pe_lc hc hN hi ok hg ht he hs) fun σ H Q h => lc_weak sg hk h
/-- name = [..] on one line, the name a local -/
theorem ls_lc {i : Nat} {y : Str} {py spos : Pos} {elt tg iter : Expr} {ifs : List Expr} {scope : Scope} {own : List (Str × Nat)} {pos : Pos} {ks : List Nat} {g : TG} {f : IV → Env → IH → Option Env} {mi : Env → IH → Res Src} {n : Env → IH → Res Bool} {me : Env → IH → Res IV} (hc : X.calm = true) (hN : X.N.Nodup) (hy : X.N[i]? = some y)
    (hyl : X.env.scope.names.lookup y = some .local) (hsw : swapsWith (.ListComp elt [⟨tg, iter, ifs, 0⟩] scope pos) (some (.Name y py)) spos.line X.env = pure true) (hi : PI X tg iter (tMI X.K W mi))
    (ok : BlkOk X.N X.env.scope scope own) (sg : SndG X.K ks g f) (hk : ∀ k ∈ ks, k ∈ own.map (·.2))
    (hg : ∀ (s : Shared) (H : Hp) (C : Addr) (cl : List (Str × Addr)) (fp : List Addr), PG (X.blk s H scope (compEnvC scope cl C X.env) fp) tg g) (ht : ∀ (s : Shared) (H : Hp) (C : Addr) (cl : List (Str × Addr)) (fp : List Addr), PTs (X.blk s H scope (compEnvC scope cl C X.env) fp) ifs (tMT X.K W0 n))
    (he : ∀ (s : Shared) (H : Hp) (C : Addr) (cl : List (Str × Addr)) (fp : List Addr), PE (X.blk s H scope (compEnvC scope cl C X.env) fp) elt (tM X.K W0 me)) (hs : ∀ x, foldedSetIterable iter X.env x = pure x := by intro _; rfl) :
    PS X (.Assign [.Name y py] (.ListComp elt [⟨tg, iter, ifs, 0⟩] scope pos) spos) (tMS X.K W (ms_set (g_nm i) (m_lc (own.map (·.2)) mi f n me))) := PS.of (ps_setLc hc hN hy hyl hsw hi ok hg ht he hs) fun D σ H h => lc_weak sg hk (set_core (sg_nm i) h)
end
end L3
/-! L3g: defs, their calls, try, the law's end. -/
namespace L3
variable [TabT] [LamT]
open PySem PySem.Spec PyProof.Rows L2

/-- a def's promise: it does what its mirror m does -/
def spM (K : PySem.W.Frag) (n : Nat) (m : List IV → IH → Res IV) : Sp := fun vs H Q E => ∃ r ih args, args.length = n ∧ Rel K r ih H ∧ Rs r args vs ∧ PGen R K (fun cls d _ H => E cls d H) [] r (m args ih) Q
/-- a def of the text: x its name, dvs its defaults, n the number of its parameters -/
structure Df (P : Program) (w : World) (K : PySem.W.Frag) (mg : Str → Option Value) (base : Heap) (k : Nat) (x : Str) (n : Nat) (dvs : List IV) (m : List IV → IH → Res IV) : Prop where
  flat : ∀ d ∈ dvs, ∀ i, d ≠ .ref i
  ex : ∃ (f : Addr) (fd : FuncData) (ps : List Str), ps.length = n ∧ mg x = some (.ref f) ∧ PySem.W.keepIn K (.ref f) = true ∧ FnOk P w K mg base (L2.CX P w) k f fd ps (spM K n m) ∧ ∀ j, j ≤ dvs.length → ∃ ds, Vals ((dvs.drop j).map IV.toV) ds ∧ Binds K fd ps ds
/-- the call with the defaults behind the first j filled up -/
def f_call (n : Nat) (ds : List IV) (m : List IV → IH → Res IV) (xs : List IV) (ih : IH) : Res IV := if (xs ++ ds).length = n then m (xs ++ ds) ih else .stuck
section
variable {X : Cx} {W : WX} {k n j : Nat} {x : Str} {dvs : List IV} {m : List IV → IH → Res IV} {a : Expr} {es : List Expr} {p pos : Pos} {ma : Env → IH → Res (List IV)}
theorem run_fnD {CX : CXT} {f : Addr} {fd : FuncData} {ps : List Str} {sp : Sp} {pins : List (Addr × Obj)} {σ : L2.St} {H : Hp} {s : Shared} {Q : VK} {us : List Value} {vs dv : List V} {ds : List Value} {E : L2.St → XK} (F : FnOk X.prog X.w X.K X.mg X.base CX k f fd ps sp) (hr : Room k X.A) (hb : Binds X.K fd ps ds) (hd : Vals dv ds)
    (hx : PassesAt CX X σ (E σ)) (I : L2.Inv X pins σ H s) (r : Vals vs us) (h : sp (vs ++ dv) H Q (E σ)) : wpAny (model X.prog X.w) X.A (call (.ref f) us) (EP X pins σ Q) X.xe s := by
  have r2 : Vals (vs ++ dv) (us ++ ds) := r.append hd
  have hl : (us ++ ds).length = ps.length := by rw [← r2.length]; exact F.len _ _ _ _ h
  refine wpAny_call (codeAny_mono (F.run X.A X.stack s H ⟨us, []⟩ (us ++ ds) (vs ++ dv) Q (E σ) hr I.env0 (hb s us I.kIn hl) r2 h) fun r s' hq => ?_)
  cases r with
  | error e => exact hx pins H s e s' I hq
  | ok fl =>
    cases fl with
    | ret u => exact I.after hq
    | next => exact False.elim hq
    | brk => exact False.elim hq
    | cont => exact False.elim hq
theorem pe_callD {CX : CXT} {f : Addr} {fd : FuncData} {ps : List Str} {sp : Sp} {dv : List V} {ds : List Value} {E : L2.St → XK} {t : TA} (F : FnOk X.prog X.w X.K X.mg X.base CX k f fd ps sp) (hr : Room k X.A) (hg : Gl X x) (hm : X.mg x = some (.ref f)) (hk : PySem.W.keepIn X.K (.ref f) = true) (hb : Binds X.K fd ps ds) (hd : Vals dv ds) (hx : ∀ σ, PassesAt CX X σ (E σ))
    (ha : PA X (a :: es) t) (hdb : (x == ("__debug__" : Str)) = false := by decide) (he : starEach (a :: es) X.env = (false, eval a X.env) :: starEach es X.env := by rfl) (hpl : (backTo pos (starEach es X.env)).any (·.1) = false := by rfl) :
    PE X (.Call (.Name x p) (a :: es) [] pos) (fun σ H Q => t σ H fun vs H1 => sp (vs ++ dv) H1 Q (E σ)) := by
  refine ⟨fun pins s σ H Q I h => ?_⟩
  refine wpAny_Call_Name_kw (ld_glob I hg hm ?_ hdb)
  refine PySem.W.callWith_K (h₀ := X.base) I.ok.mod.kin hk (thn (ha.run pos pins s σ H _ I h) fun us s1 ⟨vs, H1, I1, r, q⟩ => ⟨I1.kIn, ?_⟩) he hpl
  exact run_fnD F hr hb hd (hx σ) I1 r q
theorem Rs.toV {r : List Addr} : ∀ {ds : List IV}, (∀ d ∈ ds, ∀ i, d ≠ .ref i) → Rs r ds (ds.map IV.toV)
  | [], _ => .nil
  | d :: ds, h => .cons (by
      have := h d List.mem_cons_self
      cases d with
      | ref i => exact absurd rfl (this i)
      | _ => rfl) (Rs.toV fun e he => h e (List.mem_cons_of_mem _ he))
theorem lm_call (D : Df X.prog X.w X.K X.mg X.base k x n dvs m) (j : Nat) (hj : j ≤ dvs.length) (hr : Room k X.A) (hg : Gl X x) (tk : Takes X W) (ha : PA X (a :: es) (tMA X.K W ma)) (hdb : (x == ("__debug__" : Str)) = false := by decide)
    (he : starEach (a :: es) X.env = (false, eval a X.env) :: starEach es X.env := by rfl) (hpl : (backTo pos (starEach es X.env)).any (·.1) = false := by rfl) : PE X (.Call (.Name x p) (a :: es) [] pos) (tM X.K W (m_app (f_call n (dvs.drop j) m) ma)) := by
  obtain ⟨f, fd, ps, hn, hm, hk, F, hB⟩ := D.ex
  obtain ⟨ds, hd, hb⟩ := hB j hj
  refine PE.of (pe_callD F hr hg hm hk hb hd (fun σ => passAt tk σ) ha hdb he hpl) fun σ H Q ⟨r, ih, env, hr, he, q⟩ => tG.imp (tG_bind hr he q) fun u H1 ⟨r1, ih1, v, p, hr1, hv, q1⟩ => ?_
  dsimp only at q1
  unfold f_call at q1
  split at q1
  · rename_i hl
    refine ⟨r1, ih1, v ++ dvs.drop j, hl, hr1, hv.append (Rs.toV fun d hd => D.flat d (List.mem_of_mem_drop hd)), ?_⟩
    cases e : m (v ++ dvs.drop j) ih1 with
    | ok y ih2 => rw [e] at q1; exact q1
    | exc c ih2 => rw [e] at q1; exact q1
    | stuck => rw [e] at q1; exact q1
  · exact q1.elim
end

/-- a def's run by its body's mirror -/
def startI (N : Nat) (args : List IV) : Env := args.map some ++ List.replicate (N - args.length) none
def RS.out (r : RS) : Res IV := match r with
  | .ok (.ret v) ih => .ok v ih
  | .ok (.next _) ih => .ok .non ih
  | .ok (.brk _) _ => .stuck
  | .ok (.cont _) _ => .stuck
  | .exc c _ ih => .exc c ih
  | .stuck => .stuck
@[simp] theorem RS.out_ret (v : IV) (ih : IH) : (RS.ok (.ret v) ih).out = .ok v ih := rfl
@[simp] theorem RS.out_next (v : Env) (ih : IH) : (RS.ok (.next v) ih).out = .ok .non ih := rfl
@[simp] theorem RS.out_exc (c : Addr) (v : Env) (ih : IH) : (RS.exc c v ih).out = .exc c ih := rfl
def defRun (N : Nat) (mb : Env → IH → RS) (args : List IV) (ih : IH) : Res IV := (mb (startI N args) ih).out
theorem start_rel {r : List Addr} {args : List IV} {vs : List V} {N : List Str} (h : Rs r args vs) : REnv r (startI N.length args) (L2.start N vs) := by
  unfold startI L2.start
  refine ⟨by rw [List.length_append, List.length_append, List.length_map, List.length_map, List.length_replicate, List.length_replicate, h.length], fun i v e => ?_⟩
  by_cases hi : i < args.length
  · rw [List.getElem?_append_left (by simpa using hi), List.getElem?_map] at e
    obtain ⟨w, e1, e2⟩ := Option.map_eq_some_iff.mp e
    cases e2
    obtain ⟨u, h1, h2⟩ := h.get e1
    exact ⟨u, by rw [List.getElem?_append_left (by rw [List.length_map, ← h.length]; exact hi), List.getElem?_map, h1]; rfl, h2⟩
  · rw [List.getElem?_append_right (by simpa using hi), List.getElem?_replicate] at e
    split at e <;> cases e
section
variable {P : Program} {w : World} {K : PySem.W.Frag} {mg : Str → Option Value} {base : Heap} {k : Nat} {x qual : Str} {st : Stmt} {dv : List V} {f : Addr} {fd : FuncData} {N ps : List Str} {mb : Env → IH → RS}
theorem df_fn (F : FunD K x qual (defArgs st) (defBody st) (defScope st) dv [] f fd) (S : FnScope N ps (defScope st))
    (hbody : ∀ (cdv : Value) (A : Around) (outer : List PySem.Env) (s : Shared) (H : Hp) (E : XK), Room k (A.deeper (envOfC qual (defScope st) s.heap.objs.size f cdv)) →
      PSs (cxOf (L2.CX P w) P w K mg base N qual (defScope st) f cdv A outer s H E) (defBody st) (tMS K (fun cls d _ H => E cls d H) mb)) :
    FnOk P w K mg base (L2.CX P w) (k + 1) f fd ps (spM K ps.length (defRun N.length mb)) := by
  refine F.ok S (fun vs H Q E ⟨r, ih, args, e, _, rs, _⟩ => rs.length ▸ e) fun cdv A outer s H vs Q E hr ⟨r, ih, args, e, hrel, rs, q⟩ => ⟨_, hbody cdv A outer s H E hr, r, ih, _, hrel, start_rel rs, ?_⟩
  unfold defRun at q
  cases z : mb (startI N.length args) ih with
  | ok fl ih2 =>
    rw [z] at q
    cases fl with
    | ret v => exact q
    | next env => exact fun r' H' σ' p hr' he' => q r' H' .non p hr' rfl
    | brk env => exact q.elim
    | cont env => exact q.elim
  | exc c env ih2 =>
    rw [z] at q
    exact fun r' H' σ' p hr' he' => q r' H' p hr'
  | stuck => rw [z] at q; exact q
/-- a def without defaults -/
theorem df_mk0 (F : FunD K x qual (defArgs st) (defBody st) (defScope st) [] [] f fd) (S : FnScope N ps (defScope st)) (hm : mg x = some (.ref f))
    (h : ∀ (kV doc pm : Value) (an : Option Addr) (cdv ct : Value) (us : List Value), us.length = ps.length → bindArgs (PySem.W.fnOf x qual (defArgs st) (defBody st) (defScope st) .none kV doc pm an cdv ct) ⟨us, []⟩ = pure (ps.zip us))
    (hbody : ∀ (cdv : Value) (A : Around) (outer : List PySem.Env) (s : Shared) (H : Hp) (E : XK), Room k (A.deeper (envOfC qual (defScope st) s.heap.objs.size f cdv)) →
      PSs (cxOf (L2.CX P w) P w K mg base N qual (defScope st) f cdv A outer s H E) (defBody st) (tMS K (fun cls d _ H => E cls d H) mb)) :
    Df P w K mg base (k + 1) x ps.length [] (defRun N.length mb) :=
  ⟨fun _ h => (nomatch h), f, fd, ps, rfl, hm, F.kp, df_fn F S hbody, fun j _ => ⟨[], by rw [List.drop_nil]; exact .nil, F.bindsN h⟩⟩
end

/-! ### try -/
/-- behind an except suite: its name goes -/
def RS.unset (r : RS) (i : Nat) : RS := match r with
  | .ok (.next env) ih => .ok (.next (env.set i none)) ih
  | .ok (.brk env) ih => .ok (.brk (env.set i none)) ih
  | .ok (.cont env) ih => .ok (.cont (env.set i none)) ih
  | .ok (.ret v) ih => .ok (.ret v) ih
  | .exc _ _ _ => .stuck
  | .stuck => .stuck
open Classical in
noncomputable def ms_try (i : Nat) (exm : Addr → Option Bool) (mb : Env → IH → RS) (ms : Addr → Addr → Env → IH → RS) (env : Env) (ih : IH) : RS := match mb env ih with
  | .exc c env1 ih1 => match exm c with
    | some true => if ∀ a, (ms a c (env1.set i (some (.gl a))) ih1).unset i = (ms 0 c (env1.set i (some (.gl 0))) ih1).unset i then (ms 0 c (env1.set i (some (.gl 0))) ih1).unset i else .stuck
    | some false => .exc c env1 ih1
    | none => .stuck
  | z => z
section
variable {X : Cx} {W : WX} {mb : Env → IH → RS} {ms : Addr → Addr → Env → IH → RS} {x n : Str} {c : Value} {i : Nat} {body suite : List Stmt} {b₀ : Stmt} {np pos pos' : Pos}
theorem ls_try (hs : X.stack = X.env :: X.outer) (hf : X.env.frame = some X.env.locals) (hN : X.N.Nodup) (hi : X.N[i]? = some n) (hln : X.env.kindOf n = some .local) (hc : Names X x c) (tk : Takes X W)
    (hb : ∀ (W : WX) (pn : List (Addr × Obj)) (xe : Value → Shared → Prop), Takes (X.tr pn xe) W → PassesOwn (model X.prog X.w) X.A X.env xe → PSs (X.tr pn xe) body (tMS X.K W mb))
    (hsu : ∀ (a cl : Addr) (oe : Obj) (pn : List (Addr × Obj)), Zc (.ref cl) none oe → (∃ vs, oe.data = .fields vs) → PSs (X.suite a ((a, oe) :: pn)) (b₀ :: suite) (tMS X.K W0 (ms a cl))) :
    PS X (.Try body [.ExceptHandler (some (.Name x np)) (some n) (b₀ :: suite) pos'] [] [] pos) (tMS X.K W (ms_try i (fun cl => PySem.W.exmOne X.K (.ref cl) c) mb ms)) := by
  refine PS.of (ps_try_as (tb := fun W => tMS X.K W mb) (ts := fun a cls d D σ H => ∃ cl, cls = .ref cl ∧ d = none ∧ tMS X.K W0 (ms a cl) D σ H) hs hf hN hi hln hc tk hb fun a oe cls d pn hz hd => ⟨fun pins s σ H D I ⟨cl, e1, e2, h⟩ => ?_⟩) fun D σ H ⟨r, ih, env, hr, he, q⟩ => ?_
  · subst e1
    subst e2
    exact (hsu a cl oe pn hz hd).run pins s σ H D I h
  · refine ⟨r, ih, env, hr, he, ?_⟩
    unfold ms_try at q
    cases e : mb env ih with
    | ok f ih1 =>
      rw [e] at q
      cases f with
      | next _ => exact q
      | brk _ => exact q
      | cont _ => exact q
      | ret _ => exact q
    | stuck => rw [e] at q; exact q
    | exc cl env1 ih1 =>
      rw [e] at q
      intro r1 H1 σ1 p1 hr1 he1
      dsimp only at q
      cases z : PySem.W.exmOne X.K (.ref cl) c with
      | none => rw [z] at q; exact q.elim
      | some b =>
        rw [z] at q
        refine ⟨b, z, fun hb1 a ha => ?_, fun hb0 => ?_⟩
        · subst hb1
          dsimp only at q
          split at q
          · rename_i hall
            rw [← hall a] at q
            refine ⟨cl, rfl, rfl, r1, ih1, env1.set i (some (.gl a)), hr1, he1.set (x := IV.gl a) (y := V.ref a) rfl i, ?_⟩
            cases z2 : ms a cl (env1.set i (some (.gl a))) ih1 with
            | ok f ih2 =>
              rw [z2] at q
              cases f with
              | next env2 => exact fun r2 H2 σ2 p2 hr2 he2 => q r2 H2 _ (pre_trans p1 p2) hr2 (he2.setN i)
              | brk env2 => exact fun r2 H2 σ2 p2 hr2 he2 => q r2 H2 _ (pre_trans p1 p2) hr2 (he2.setN i)
              | cont env2 => exact fun r2 H2 σ2 p2 hr2 he2 => q r2 H2 _ (pre_trans p1 p2) hr2 (he2.setN i)
              | ret v => exact fun r2 H2 u p2 hr2 hv => q r2 H2 u (pre_trans p1 p2) hr2 hv
            | exc c2 env2 ih2 => rw [z2] at q; exact q.elim
            | stuck => rw [z2] at q; exact q.elim
          · exact q.elim
        · subst hb0
          exact q r1 H1 σ1 p1 hr1 he1
end
/-- isinstance of the exception that the suite holds -/
def clsOf : IV → Option Value
  | .gl C => some (.ref C)
  | .ty T => some (.type T)
  | _ => none
open Classical in
noncomputable def f_isE (K : PySem.W.Frag) (a c : Addr) (xs : List IV) (ih : IH) : Res IV := match xs with
  | [.gl b, y] => if b = a ∧ ExcC K c then (match clsOf y with
    | some cv => match PySem.W.kitOne K (.ref c) cv with
      | some k => .ok (.bl k) ih
      | none => .stuck
    | none => .stuck) else .stuck
  | _ => .stuck
section
variable {X : Cx} {K : PySem.W.Frag} {W : WX} {a c : Addr} {oe : Obj} {pn : List (Addr × Obj)}
theorem call_isEA (hz : Zc (.ref c) none oe) (hf : ∃ vs, oe.data = .fields vs) : CallR (X.suite a ((a, oe) :: pn)) (.builtin "isinstance") (fun xs H Q => ExcC X.K c ∧ rIsE X.K c a xs H Q) :=
  fun pins s σ H xs us Q I r ⟨h1, h2⟩ => call_isE h1 hz hf pins s σ H xs us Q I r h2
theorem s_isE : SndC K W (fun xs H Q => ExcC K c ∧ rIsE K c a xs H Q) (f_isE K a c) := by
  intro r ih H xs us σ Q hr hx q
  unfold f_isE at q
  split at q
  · obtain ⟨u, v, rfl, h1, h2⟩ := hx.two
    split at q
    · rename_i hb
      split at q
      · rename_i cv e1
        split at q
        · rename_i k e2
          obtain rfl : u = .ref _ := h1
          refine ⟨hb.2, v, cv, k, by rw [hb.1], fun w hw => ?_, e2, tG_end q hr rfl⟩
          unfold clsOf at e1
          split at e1
          · cases e1
            obtain rfl : v = .ref _ := h2
            exact hw
          · cases e1
            obtain rfl : v = .ty _ := h2
            exact hw
          · cases e1
        · exact q.elim
      · exact q.elim
    · exact q.elim
  · exact q.elim
end

end L3
/-! L3h: the text's facts; defs, once more. -/
namespace L3
variable [TabT] [LamT]
open PySem PySem.Spec PyProof.Rows L2

/-- the program's own classes by their addresses -/
structure Cs where
  K : PySem.W.Frag
  KernelError : Addr
  NoWidth : Addr
  NoLooks : Addr
  NoCycle : Addr
  NoRate : Addr
  NoReading : Addr
  NoLine : Addr
  NoProcessor : Addr
  NoTick : Addr
  NoLevels : Addr
  NoClock : Addr
  NoSlew : Addr
  Stopped : Addr
  NotStopped : Addr
  NoSlack : Addr
  NoPeriod : Addr
  NoFragile : Addr
  NoTimer : Addr
  NoWindow : Addr
  NoSpan : Addr
  NoProcess : Addr
  NoThread : Addr
  NoQuantum : Addr
  NoKernel : Addr
  NoCall : Addr
  TooMany : Addr
  NoRow : Addr
def IV.flat : IV → Bool
  | .ref _ => false
  | _ => true
/-- an own error class of the text -/
structure ExcX (K : PySem.W.Frag) (mg : Str → Option Value) (x : Str) (C : Addr) : Prop where
  g : mg x = some (.ref C)
  q : PySem.W.excIn K C [.type "ValueError", .type "Exception", .type "BaseException", .type "object"] "ValueError.__new__" = true
  k : PySem.W.keepIn K (.ref C) = true
  b : PySem.W.subIn K (.ref C) (.type "BaseException") = some true
  t : PySem.W.typeIn K (.ref C) = some (.type "type")
theorem lg_glob {X : Cx} {x : Str} {v : V} {pos : Pos} (h : ∃ u, X.mg x = some u ∧ RelV v u) (hg : Gl X x) (hd : (x == ("__debug__" : Str)) = false := by decide) : PE X (.Name x pos) (tC v) := by
  obtain ⟨u, h1, h2⟩ := h
  exact pe_glob hg h1 h2 hd
def f_addI := f_I0 fun i j => .int (i + j)
theorem s_addI {K : PySem.W.Frag} {W : WX} : Snd2 K W (rI0 fun i j => .int (i + j)) f_addI := snd_I0 fun _ _ _ => rfl
theorem iop_mulX {X : Cx} : OpR X (inplaceOp .Mult) (rI CMulX fun i j => .int (i * j)) := opI fun _ _ _ _ _ _ _ hc q => imul_int q hc.ok
/-- a chain of two comparisons -/
def m_chain (f g : IV → IV → IH → Res IV) (ma mb mc : Env → IH → Res IV) (env : Env) (ih : IH) : Res IV := (ma env ih).bind fun x ih1 => (mb env ih1).bind fun y ih2 => (f x y ih2).bind fun z ih3 => match z with
  | .bl k => if k = true then (mc env ih3).bind fun u ih4 => g y u ih4 else .ok (.bl false) ih3
  | _ => .stuck
section
variable {P : Program} {w : World} {K : PySem.W.Frag} {mg : Str → Option Value} {base : Heap} {k : Nat} {x qual : Str} {st : Stmt} {dv : List V} {f : Addr} {fd : FuncData} {N ps : List Str} {mb : Env → IH → RS}
/-- what a body may use: its context is a def's -/
abbrev BodyOk (P : Program) (w : World) (K : PySem.W.Frag) (mg : Str → Option Value) (base : Heap) (k : Nat) (N : List Str) (qual : Str) (st : Stmt) (f : Addr) (mb : Env → IH → RS) : Prop :=
  ∀ (cdv : Value) (A : Around) (outer : List PySem.Env) (s : Shared) (H : Hp) (E : XK), Room k (cxOf (L2.CX P w) P w K mg base N qual (defScope st) f cdv A outer s H E).A →
    Takes (cxOf (L2.CX P w) P w K mg base N qual (defScope st) f cdv A outer s H E) (fun cls d _ H => E cls d H) →
    PassesOwn (model P w) (cxOf (L2.CX P w) P w K mg base N qual (defScope st) f cdv A outer s H E).A (cxOf (L2.CX P w) P w K mg base N qual (defScope st) f cdv A outer s H E).env (cxOf (L2.CX P w) P w K mg base N qual (defScope st) f cdv A outer s H E).xe →
    (cxOf (L2.CX P w) P w K mg base N qual (defScope st) f cdv A outer s H E).A.units + 64 < cLine →
    PSs (cxOf (L2.CX P w) P w K mg base N qual (defScope st) f cdv A outer s H E) (defBody st) (tMS K (fun cls d _ H => E cls d H) mb)
theorem df_fn2 (F : FunD K x qual (defArgs st) (defBody st) (defScope st) dv [] f fd) (S : FnScope N ps (defScope st)) (hbody : BodyOk P w K mg base k N qual st f mb) : FnOk P w K mg base (L2.CX P w) (k + 1) f fd ps (spM K ps.length (defRun N.length mb)) :=
  df_fn F S fun cdv A outer s H E hr => hbody cdv A outer s H E hr (takes_of rfl rfl rfl rfl) (passes_of rfl) (by
    have h := hr.un
    show (A.deeper (envOfC qual (defScope st) s.heap.objs.size f cdv)).units + 64 < cLine
    omega)
theorem df0 (F : FunD K x qual (defArgs st) (defBody st) (defScope st) [] [] f fd) (S : FnScope N ps (defScope st)) (hm : mg x = some (.ref f))
    (h : ∀ (kV doc pm : Value) (an : Option Addr) (cdv ct : Value) (us : List Value), us.length = ps.length → bindArgs (PySem.W.fnOf x qual (defArgs st) (defBody st) (defScope st) .none kV doc pm an cdv ct) ⟨us, []⟩ = pure (ps.zip us))
    (hbody : BodyOk P w K mg base k N qual st f mb) : Df P w K mg base (k + 1) x ps.length [] (defRun N.length mb) :=
  ⟨fun _ h => (nomatch h), f, fd, ps, rfl, hm, F.kp, df_fn2 F S hbody, fun j _ => ⟨[], by rw [List.drop_nil]; exact .nil, F.bindsN h⟩⟩
theorem dfD {dvs : List IV} (F : FunD K x qual (defArgs st) (defBody st) (defScope st) dv [] f fd) (S : FnScope N ps (defScope st)) (hm : mg x = some (.ref f)) (hf : dvs.all IV.flat = true) (hd : dvs.map IV.toV = dv) (hn : dvs.length = dv.length)
    (hB : ∀ j, j ≤ dv.length → ∃ ds, Vals (dv.drop j) ds ∧ Binds K fd ps ds)
    (hbody : BodyOk P w K mg base k N qual st f mb) : Df P w K mg base (k + 1) x ps.length dvs (defRun N.length mb) :=
  ⟨fun d h i e => (by
    have z := List.all_eq_true.mp hf d h
    rw [e] at z
    cases z), f, fd, ps, rfl, hm, F.kp, df_fn2 F S hbody, fun j hj => by
    rw [List.map_drop, hd]
    exact hB j (by rw [← hn]; exact hj)⟩
/-- from the facts of the head -/
theorem fun0 {oc : Value} {od an : Option Addr} {osl : Array (Option Value)} {kV doc pm cdv ct : Value} (l : K.lookup f = some ⟨oc, od, .func (PySem.W.fnOf x qual (defArgs st) (defBody st) (defScope st) .none kV doc pm an cdv ct), osl⟩)
    (c : PySem.W.codeIn K cdv qual = true) (k : PySem.W.keepIn K (.ref f) = true) : FunD K x qual (defArgs st) (defBody st) (defScope st) [] [] f (PySem.W.fnOf x qual (defArgs st) (defBody st) (defScope st) .none kV doc pm an cdv ct) :=
  ⟨⟨oc, od, .none, kV, doc, pm, an, cdv, ct, osl, rfl, l, c, .inl ⟨rfl, rfl⟩, .inl rfl⟩, k⟩
theorem funD {oc : Value} {od an : Option Addr} {osl : Array (Option Value)} {kV doc pm cdv ct : Value} {T : Addr} {o : Obj} {its : List Value} {n : Nat} (l : K.lookup f = some ⟨oc, od, .func (PySem.W.fnOf x qual (defArgs st) (defBody st) (defScope st) (.ref T) kV doc pm an cdv ct), osl⟩)
    (c : PySem.W.codeIn K cdv qual = true) (k : PySem.W.keepIn K (.ref f) = true) (lT : K.lookup T = some o) (oT : o.data = .seq its.toArray n) (hv : Vals dv its) (hd : dv ≠ []) : FunD K x qual (defArgs st) (defBody st) (defScope st) dv [] f (PySem.W.fnOf x qual (defArgs st) (defBody st) (defScope st) (.ref T) kV doc pm an cdv ct) :=
  ⟨⟨oc, od, .ref T, kV, doc, pm, an, cdv, ct, osl, rfl, l, c, .inr ⟨hd, T, o, its, n, rfl, lT, oT, hv⟩, .inl rfl⟩, k⟩
end
end L3
/-! L3i: the law's promise, from its mirror. -/
namespace L3
variable [TabT] [LamT]
open PySem PySem.Spec PyProof.Rows L2

/-- the law's promise: True of every script -/
def spLaw (K : PySem.W.Frag) : Sp := fun vs H Q _ => ∃ (a : Addr) (ns : List Int), vs = [.ref a] ∧ ns.length ≤ 63 ∧ (∀ z ∈ ns, Builtin.Int.intBits z ≤ 1048576) ∧ Only H ∧ SqL K H a (ns.map V.int) ∧ ∀ H', Q (.bl true) H'
theorem law_imp {K : PySem.W.Frag} {m : List IV → IH → Res IV} (hT : TabT.T = []) (hr0 : LamT.r0 = [] ∧ LamT.cs = [] ∧ ∀ e j, LamT.fn e j = none) (h : ∀ ns : List Int, ns.length ≤ 63 → (∀ z ∈ ns, Builtin.Int.intBits z ≤ 1048576) → ∃ ih, m [.ref 0] [.ro (ns.map IV.int)] = .ok (.bl true) ih) :
    ∀ vs H Q E, spLaw K vs H Q E → spM K 1 m vs H Q E := fun vs H Q E ⟨a, ns, e, h1, h2, hO, hS, q⟩ => by
  subst e
  obtain ⟨ih, h⟩ := h ns h1 h2
  refine ⟨[a], [.ro (ns.map IV.int)], [.ref 0], rfl, ⟨rfl, fun n b o e1 e2 => ?_, fun n k b o u e1 e2 e3 e4 s1 s2 => ?_, (by rw [hT]; exact fun p hp => nomatch hp), (by rw [hr0.1]; exact List.nil_prefix), (by rw [hr0.2.1]; exact fun p hp => nomatch hp), (fun n e j g => by
    cases n with
    | zero => cases g
    | succ n => cases g), (fun e j _ => hr0.2.2 e j)⟩, .cons ⟨a, rfl, rfl⟩ .nil, ?_⟩
  · cases n with
    | succ n => cases e1
    | zero =>
      cases e1
      cases e2
      refine ⟨ns.map V.int, ?_, Rs.flats_mk (f := IV.int) (g := V.int) (fun _ => rfl) ns⟩
      rcases hS with (z | ⟨o, z⟩) | z
      · rcases hO a with y | ⟨o, xs, y⟩
        · rw [y] at z; cases z
        · rw [y] at z; cases z
      · exact .inl ⟨o, z⟩
      · exact .inr (.inr z)
  · cases n with
    | succ n => cases e1
    | zero =>
      cases e3
      cases s1
  · rw [h]
    exact fun r' H' u p hr hv => by
      obtain rfl : u = .bl true := hv
      exact q H'
theorem cx_none {P : Program} {w : World} {H : Hp} {s : Shared} {e : Value} {s' : Shared} (h : L2.CX P w [] H s (fun _ _ _ => False) e s') : False := by
  obtain ⟨_, _, _, _, _, _, _, _, _, _, _, _, z⟩ := h
  exact z
end L3
/-! L3j: chains of two comparisons. -/
namespace L3
variable [TabT] [LamT]
open PySem L2
def mi_rng3 (m : Env → IH → Res (List IV)) (env : Env) (ih : IH) : Res Src := (m env ih).bind fun vs ih1 => match vs with
  | [.int i, .int j, .int k] => if k = -1 ∧ smallI i = true ∧ smallI j = true then .ok (.rng i (-1) (i - j).toNat) ih1 else .stuck
  | _ => .stuck
section
variable {X : Cx} {W : WX} {a b c : Expr} {ma mb mc : Env → IH → Res IV} {pos : Pos}
theorem chain_core {rr rr' : R2} {f g : IV → IV → IH → Res IV} (hf : Snd2 X.K W rr f) (hg : Snd2 X.K W rr' g) {σ : St} {H : Hp} {Q : VK} (h : tM X.K W (m_chain f g ma mb mc) σ H Q) : tChain rr rr' (tM X.K W ma) (tM X.K W mb) (tM X.K W mc) σ H Q := by
  obtain ⟨r, ih, env, hr, he, q⟩ := h
  refine tG.imp (tG_bind hr he q) fun u H1 ⟨r1, ih1, v, p, hr1, hv, q1⟩ => tG.imp (tG_bind hr1 (he.mono p) q1) fun w H2 ⟨r2, ih2, y, p2, hr2, hy, q2⟩ => hf r2 ih2 H2 v y u w σ _ hr2 (hv.mono p2) hy ?_
  dsimp only at q2
  cases e : f v y ih2 with
  | ok z ih3 =>
    rw [e] at q2
    intro r3 H3 z' p3 hr3 hz
    cases z with
    | bl k =>
      obtain rfl : z' = .bl k := hz
      refine ⟨k, rfl, ?_⟩
      cases k with
      | true =>
        rw [if_pos rfl]
        have q3 : PGen R X.K W σ r2 ((mc env ih3).bind fun u ih4 => g y u ih4) Q := q2
        exact tG.imp (tG_bind hr3 (he.mono (pre_trans p (pre_trans p2 p3))) (PGen.mono p3 q3)) fun u4 H4 ⟨r4, ih4, v4, p4, hr4, hv4, q4⟩ => hg _ _ _ _ _ _ _ _ _ hr4 (hy.mono (pre_trans p3 p4)) hv4 q4
      | false =>
        rw [if_neg (by decide)]
        have q3 : PGen R X.K W σ r2 (.ok (.bl false) ih3) Q := q2
        exact q3 r3 H3 _ p3 hr3 rfl
    | _ => exact (q2 : False).elim
  | exc c ih3 =>
    rw [e] at q2
    exact q2
  | stuck =>
    rw [e] at q2
    exact q2
theorem lm_chain {op op' : CmpOp} {rr rr' : R2} {f g : IV → IV → IH → Res IV} (ho : OpR X (compareOp op) rr) (hf : Snd2 X.K W rr f) (ho' : OpR X (compareOp op') rr') (hg : Snd2 X.K W rr' g) (ha : PE X a (tM X.K W ma)) (hb : PE X b (tM X.K W mb)) (hc : PE X c (tM X.K W mc))
    (hm : lastMarks [op, op'] [b, c] = false := by with_unfolding_all rfl) : PE X (.Compare a [op, op'] [b, c] pos) (tM X.K W (m_chain f g ma mb mc)) := PE.of (pe_chain ho ho' ha hb hc hm) fun σ H Q h => chain_core hf hg h
theorem lt_chain {op op' : CmpOp} {rr rr' : R2} {f g : IV → IV → IH → Res IV} (ho : OpR X (compareOp op) rr) (hf : Snd2 X.K W rr f) (ho' : OpR X (compareOp op') rr') (hg : Snd2 X.K W rr' g) (ha : PE X a (tM X.K W ma)) (hb : PE X b (tM X.K W mb)) (hc : PE X c (tM X.K W mc))
    (hm : lastMarks [op, op'] [b, c] = false := by with_unfolding_all rfl) : PT X (.Compare a [op, op'] [b, c] pos) (tMT X.K W (m_tb (m_chain f g ma mb mc))) := PT.of (pt_chain ho ho' ha hb hc hm) fun σ H Q h => chain_core hf hg (tb_core h)
theorem li_rng3 {tg a b d : Expr} {ml : Env → IH → Res (List IV)} {p pos : Pos} (hg : Gl X "range") (hm : X.mg "range" = none) (ha : PA X [a, b, d] (tMA X.K W ml))
    (hs : starEach [a, b, d] X.env = (false, eval a X.env) :: starEach [b, d] X.env := by rfl) (hpl : (backTo pos (starEach [b, d] X.env)).any (·.1) = false := by rfl) : PI X tg (.Call (.Name "range" p) [a, b, d] [] pos) (tMI X.K W (mi_rng3 ml)) :=
  PI.of (pi_range3 hg hm ha hs hpl) fun σ H Q ⟨r, ih, env, hr, he, q⟩ => tG.imp (tG_bind hr he q) fun u H1 ⟨r1, ih1, v, p, hr1, hv, q1⟩ => by
    dsimp only at q1
    split at q1
    · rename_i i j k
      cases hv with
      | cons v1 t1 =>
        cases t1 with
        | cons v2 t2 =>
          cases t2 with
          | cons v3 t3 =>
            cases t3
            obtain rfl := (show _ = V.int i from v1)
            obtain rfl := (show _ = V.int j from v2)
            obtain rfl := (show _ = V.int k from v3)
            split at q1
            · rename_i hj
              obtain ⟨rfl, hi, hj⟩ := hj
              obtain ⟨h1, h2⟩ := smallI_of hi
              obtain ⟨h3, h4⟩ := smallI_of hj
              exact ⟨i, j, -1, _, rfl, RgC.neg h1 h2 h3 h4, tG_end q1 hr1 ⟨rfl, rfl, rfl⟩⟩
            · exact q1.elim
    · exact q1.elim
end
end L3
/-! L3k: sorted. -/
namespace L3
variable [TabT] [LamT]
open PySem L2
/-- y put in behind all that it is not before -/
def insB {α : Type} (lt : α → α → Bool) (y : α) : List α → List α
  | [] => [y]
  | x :: l => if lt y x = true then y :: x :: l else x :: insB lt y l
def isB {α : Type} (lt : α → α → Bool) : List α → List α → List α
  | acc, [] => acc
  | acc, y :: r => isB lt (insB lt y acc) r
section
variable {α : Type} {lt : α → α → Bool}
theorem insB_split (O : SrtO.Swo lt) (y : α) : ∀ {l : List α}, SrtO.Srtd lt l → ∃ M N, l = M ++ N ∧ insB lt y l = M ++ y :: N ∧ (∀ x ∈ M, lt y x = false) ∧ ∀ x ∈ N, lt y x = true
  | [], _ => ⟨[], [], rfl, rfl, (fun _ h => nomatch h), fun _ h => nomatch h⟩
  | x :: l, h => by
    unfold insB
    split
    · rename_i hx
      exact ⟨[], x :: l, rfl, rfl, (fun _ h => nomatch h), O.lt_all h hx⟩
    · rename_i hx
      obtain ⟨M, N, e1, e2, h1, h2⟩ := insB_split O y (List.pairwise_cons.mp h).2
      refine ⟨x :: M, N, by rw [e1]; rfl, by rw [e2]; rfl, fun z hz => ?_, h2⟩
      rcases List.mem_cons.mp hz with e | e
      · rw [e]
        cases hh : lt y x with
        | true => exact absurd hh hx
        | false => rfl
      · exact h1 z e
theorem isB_spec (O : SrtO.Swo lt) : ∀ (r acc pre : List α), SrtO.Srtd lt acc → SrtO.Stb lt acc pre → SrtO.Srtd lt (isB lt acc r) ∧ SrtO.Stb lt (isB lt acc r) (pre ++ r)
  | [], acc, pre, h, s => ⟨h, by rw [List.append_nil]; exact s⟩
  | y :: r, acc, pre, h, s => by
    obtain ⟨M, N, e1, e2, h1, h2⟩ := insB_split O y h
    subst e1
    have k := isB_spec O r (insB lt y (M ++ N)) (pre ++ [y]) (by rw [e2]; exact SrtO.ins_srtd O h h1 h2) (by rw [e2]; exact SrtO.ins_stb O h2 s)
    rw [List.append_assoc] at k
    exact k
theorem isB_all (O : SrtO.Swo lt) (l : List α) : SrtO.Srtd lt (isB lt [] l) ∧ SrtO.Stb lt (isB lt [] l) l := isB_spec O l [] [] List.Pairwise.nil (SrtO.Stb.refl [])
end
theorem Stb.symm {α : Type} {lt : α → α → Bool} {l m : List α} (h : SrtO.Stb lt l m) : SrtO.Stb lt m l := ⟨h.perm.symm, fun x => (h.cls x).symm⟩
/-- the same steps on both sides -/
theorem ins_par {α β : Type} {T : α → β → Prop} {l1 : α → α → Bool} {l2 : β → β → Bool} (hT : ∀ x y u w, T x u → T y w → l1 x y = l2 u w) {y : α} {w : β} (hy : T y w) : ∀ {xs : List α} {us : List β}, Paired T xs us → Paired T (insB l1 y xs) (insB l2 w us)
  | _, _, .nil => .cons hy .nil
  | _, _, .cons (a := x) (b := u) q t => by
    unfold insB
    rw [hT y x w u hy q]
    split
    · exact .cons hy (.cons q t)
    · exact .cons q (ins_par hT hy t)
theorem is_par {α β : Type} {T : α → β → Prop} {l1 : α → α → Bool} {l2 : β → β → Bool} (hT : ∀ x y u w, T x u → T y w → l1 x y = l2 u w) : ∀ {xs : List α} {us : List β} {as : List α} {bs : List β}, Paired T as bs → Paired T xs us → Paired T (isB l1 as xs) (isB l2 bs us)
  | _, _, _, _, h, .nil => h
  | _, _, _, _, h, .cons q t => by
    unfold isB
    exact is_par hT (ins_par hT q h) t
/-! ### ints -/
def isI (ns : List Int) : List Int := isB (fun a b : Int => decide (a < b)) [] ns
theorem swoI : SrtO.Swo (fun a b : Int => decide (a < b)) := ⟨fun x y h => by
    simp only [decide_eq_true_eq, decide_eq_false_iff_not] at *
    omega, fun x y z h1 h2 => by
    simp only [decide_eq_true_eq, decide_eq_false_iff_not] at *
    omega⟩
theorem isI_perm (ns : List Int) : (isI ns).Perm ns := (isB_all swoI ns).2.perm
theorem isI_le (ns : List Int) : (isI ns).Pairwise (· ≤ ·) := ((isB_all swoI ns).1).imp fun h => by
  simp only [decide_eq_false_iff_not] at h
  omega
def f_sorted : List IV → IH → Res IV := f_ints fun ns ih => .ok (.ref ih.length) (ih ++ [.lst ((isI ns).map IV.int)])
theorem Rs.ints (r : List Addr) : ∀ ns : List Int, Rs r (ns.map IV.int) (ns.map V.int)
  | [] => .nil
  | _ :: l => .cons rfl (Rs.ints r l)
section
variable {K : PySem.W.Frag} {W : WX}
theorem s_sorted : SndC K W (rSortedI K) f_sorted := fun r ih H xs us σ Q hr hx q => by
  obtain ⟨a, ns, e, h, q2⟩ := ints_got hr hx q
  refine ⟨a, ns, e, h, fun ns' p hp hle hn => ?_⟩
  have e2 : ns' = isI ns := List.Perm.eq_of_pairwise (le := (· ≤ ·)) (fun a b _ _ h1 h2 => Int.le_antisymm h1 h2) hle (isI_le ns) (hp.trans (isI_perm ns).symm)
  rw [e2]
  exact end_lst q2 hr (Rs.ints r _) hn
end
/-! ### pairs of ints -/
def kI (ih : IH) : IV → Int × Int
  | .ref n => match ih[n]? with
    | some (.tup [.int i, .int j]) => (i, j)
    | _ => (0, 0)
  | _ => (0, 0)
def isPr (ih : IH) : IV → Bool
  | .ref n => match ih[n]? with
    | some (.tup [.int i, .int j]) => true
    | _ => false
  | _ => false
def ltI (ih : IH) (x y : IV) : Bool := SrtO.lexB (kI ih x) (kI ih y)
def f_sortP (xs : List IV) (ih : IH) : Res IV := match xs with
  | [.ref n] => match ih[n]? with
    | some o => if o.isL = true ∧ o.xs.all (isPr ih) = true then .ok (.ref ih.length) (ih ++ [.lst (isB (ltI ih) [] o.xs)]) else .stuck
    | none => .stuck
  | _ => .stuck
def kV (H : Hp) : V → Int × Int
  | .ref a => match H a with
    | some (.tup [.int i, .int j]) => (i, j)
    | _ => (0, 0)
  | _ => (0, 0)
theorem isPr_of {ih : IH} {x : IV} (h : isPr ih x = true) : ∃ n i j, x = .ref n ∧ ih[n]? = some (.tup [.int i, .int j]) := by
  unfold isPr at h
  split at h
  · rename_i n
    split at h
    · rename_i i j e
      exact ⟨n, i, j, rfl, e⟩
    · cases h
  · cases h
section
variable {K : PySem.W.Frag} {W : WX}
theorem pr_rel {r : List Addr} {ih : IH} {H : Hp} (hr : Rel K r ih H) {x : IV} {u : V} (h : R r x u) (hp : isPr ih x = true) : kI ih x = kV H u ∧ ∃ t, u = V.ref t ∧ H t = some (.tup [.int (kV H u).1, .int (kV H u).2]) := by
  obtain ⟨n, i, j, rfl, e⟩ := isPr_of hp
  obtain ⟨a, ea, rfl⟩ := h
  obtain ⟨ys, h1, h2⟩ := hr.get n a _ ea e
  have h3 : ys = [V.int i, V.int j] := by
    cases h2 with
    | cons q1 t =>
      cases t with
      | cons q2 t =>
        cases t
        cases q1
        cases q2
        rfl
  subst h3
  have e1 : kI ih (.ref n) = (i, j) := by
    unfold kI
    dsimp only
    rw [e]
  have e2 : kV H (.ref a) = (i, j) := by
    unfold kV
    dsimp only
    rw [h1]
  rw [e1, e2]
  exact ⟨rfl, a, rfl, h1⟩
theorem s_sortP : SndC K W (rSortedPO K) f_sortP := fun r ih H xs us σ Q hr hx q => by
  unfold f_sortP at q
  split at q
  · rename_i n
    cases hx with
    | cons h1 h2 =>
      cases h2
      obtain ⟨a, ea, rfl⟩ := h1.ref
      split at q
      · rename_i o e1
        split at q
        · rename_i hl
          obtain ⟨ys, h3, h4⟩ := (hr.get n a _ ea e1).l hl.1
          have hall := List.all_eq_true.mp hl.2
          have par : ∀ {zs : List IV} {ws : List V}, (∀ z ∈ zs, isPr ih z = true) → Rs r zs ws → Paired (fun x u => R r x u ∧ isPr ih x = true) zs ws := by
            intro zs ws hz h
            induction h with
            | nil => exact .nil
            | cons q t ihh => exact .cons ⟨q, hz _ List.mem_cons_self⟩ (ihh fun z h => hz z (List.mem_cons_of_mem _ h))
          have P4 := par hall h4
          have mem : ∀ {zs : List IV} {ws : List V}, Paired (fun x u => R r x u ∧ isPr ih x = true) zs ws → ∀ u ∈ ws, ∃ x, R r x u ∧ isPr ih x = true := by
            intro zs ws h
            induction h with
            | nil => intro u h; cases h
            | cons q t ihh =>
              intro u h
              rcases List.mem_cons.mp h with e | e
              · rw [e]; exact ⟨_, q⟩
              · exact ihh u e
          refine ⟨a, ys, kV H, rfl, h3, fun u hu => ?_, fun zs p s1 s2 hn => ?_⟩
          · obtain ⟨x, q1, q2⟩ := mem P4 u hu
            exact (pr_rel hr q1 q2).2
          · obtain ⟨k1, k2⟩ := isB_all (ltP_swo (kV H)) ys
            have e2 : zs = isB (ltP (kV H)) [] ys := SrtO.stb_uniq (ltP_swo (kV H)) s1 k1 (s2.trans (Stb.symm k2))
            rw [e2]
            have P5 := is_par (l1 := ltI ih) (l2 := ltP (kV H)) (fun x y u w h1 h2 => by
              show SrtO.lexB (kI ih x) (kI ih y) = SrtO.lexB (kV H u) (kV H w)
              rw [(pr_rel hr h1.1 h1.2).1, (pr_rel hr h2.1 h2.2).1]) .nil P4
            exact end_lst q hr (Paired.mapP P5 fun _ _ h => h.1) hn
        · exact q.elim
      · exact q.elim
  · exact q.elim
end
end L3
/-! L3l: list(range(a, b)), xs[::-1], x & 1, lists compared. -/
namespace L3
variable [TabT] [LamT]
open PySem L2
theorem Rs.reverse {r : List Addr} : ∀ {xs : List IV} {ys : List V}, Rs r xs ys → Rs r xs.reverse ys.reverse
  | _, _, .nil => .nil
  | _, _, .cons q t => by
    rw [List.reverse_cons, List.reverse_cons]
    exact Rs.append (Rs.reverse t) (.cons q .nil)
def f_rev (x : IV) (ih : IH) : Res IV := match x with
  | .ref n => match ih[n]? with
    | some o => if o.isL = true then .ok (.ref ih.length) (ih ++ [.lst o.xs.reverse]) else .stuck
    | none => .stuck
  | _ => .stuck
def rgI (a b : Int) : List IV := (List.range (b - a).toNat).map fun i : Nat => IV.int (a + (i : Int))
instance (a b : Int) : Decidable (RgOk a b) := by unfold RgOk; infer_instance
def f_lrg (xs : List IV) (ih : IH) : Res IV := match xs with
  | [.int i, .int j] => if RgOk i j then .ok (.ref ih.length) (ih ++ [.lst (rgI i j)]) else .stuck
  | _ => .stuck
def f_odd (x y : IV) (ih : IH) : Res IV := match x, y with
  | .int i, .int j => if 0 ≤ i ∧ j = 1 then .ok (.int (i % 2)) ih else .stuck
  | _, _ => .stuck
open Classical in
noncomputable def f_gtD (x y : IV) (ih : IH) : Res IV :=
  if h : ∃ p : PyData × PyData, Is ih x p.1 ∧ Is ih y p.2 ∧ PySem.W.alike p.1 p.2 = true ∧ p.1 ≠ .none ∧ p.1.depth ≤ 64 then .ok (.bl (PySem.W.dataLt h.choose.2 h.choose.1)) ih else .stuck
theorem f_gtD_of {x y : IV} {ih : IH} {d e : PyData} (h1 : Is ih x d) (h2 : Is ih y e) (s1 : PySem.W.alike d e = true) (s2 : d ≠ .none) (s3 : d.depth ≤ 64) : f_gtD x y ih = .ok (.bl (PySem.W.dataLt e d)) ih := by
  unfold f_gtD
  have h : ∃ p : PyData × PyData, Is ih x p.1 ∧ Is ih y p.2 ∧ PySem.W.alike p.1 p.2 = true ∧ p.1 ≠ .none ∧ p.1.depth ≤ 64 := ⟨(d, e), h1, h2, s1, s2, s3⟩
  rw [dif_pos h]
  have k := h.choose_spec
  rw [Is.uniq _ _ _ k.1 h1, Is.uniq _ _ _ k.2.1 h2]
def rGtD (K : PySem.W.Frag) : R2 := fun x y H Q => ∃ d e, Dp K H x d ∧ Dp K H y e ∧ PySem.W.alike d e = true ∧ d ≠ .none ∧ d.depth ≤ 64 ∧ Q (.bl (PySem.W.dataLt e d)) H
section
variable {X : Cx} {W : WX} {a b : Expr} {ma mb : Env → IH → Res IV} {pos : Pos}
theorem op_gtD (hu : X.A.units + 64 < cLine) : OpR X (compareOp .Gt) (rGtD X.K) := by
  intro pins s σ H x y v u Q I rx ry h
  obtain ⟨d, e, hd, he, sd, se, sz, q⟩ := h
  obtain ⟨as, r1⟩ := Dp.reads I d x v hd rx
  obtain ⟨bs, r2⟩ := Dp.reads I e y u he ry
  exact PySem.W.gt_data r1 r2 sd se (by have := Nat.min_le_left d.depth e.depth; omega) ⟨.bl _, H, I, rfl, q⟩
theorem s_gtD {K : PySem.W.Frag} {W : WX} : Snd2 K W (rGtD K) f_gtD := by
  intro r ih H x y u w σ Q hr hx hy q
  unfold f_gtD at q
  split at q
  · rename_i h
    have k := h.choose_spec
    exact ⟨_, _, Is.dp hr _ _ _ k.1 hx, Is.dp hr _ _ _ k.2.1 hy, k.2.2.1, k.2.2.2.1, k.2.2.2.2, tG_end q hr rfl⟩
  · exact q.elim
theorem s_odd {K : PySem.W.Frag} {W : WX} : Snd2 K W (fun x y H Q => ∃ n : Nat, x = .int (n : Int) ∧ y = .int 1 ∧ Q (.int ((n % 2 : Nat) : Int)) H) f_odd := by
  intro r ih H x y u w σ Q hr hx hy q
  unfold f_odd at q
  split at q
  · rename_i i j
    split at q
    · rename_i hh
      obtain ⟨n, rfl⟩ := Int.eq_ofNat_of_zero_le hh.1
      obtain rfl := hh.2
      cases hx
      cases hy
      refine ⟨n, rfl, rfl, ?_⟩
      exact tG_end q hr (by show V.int _ = V.int _; rw [Int.natCast_emod]; rfl)
    · exact q.elim
  · exact q.elim
theorem lm_rev {k : Nat} {p1 p2 p3 : Pos} (ha : PE X a (tM X.K W ma)) : PE X (.Subscript a (.Slice none none (some (.UnaryOp .USub (.Constant (.int 1) k p1) p2)) p3) pos) (tM X.K W (m_un f_rev ma)) :=
  PE.of (pe_revL ha) fun σ H Q ⟨r, ih, env, hr, he, q⟩ => tG.imp (tG_bind hr he q) fun u H1 ⟨r1, ih1, v, p, hr1, hv, q1⟩ => by
    replace q1 : PGen R X.K W σ r1 (f_rev v ih1) Q := q1
    unfold f_rev at q1
    split at q1
    · rename_i n
      obtain ⟨c, ec, rfl⟩ := hv.ref
      split at q1
      · rename_i o e1
        split at q1
        · rename_i hl
          obtain ⟨ys, h3, h4⟩ := (hr1.get n c _ ec e1).l hl
          exact ⟨c, ys, rfl, h3, fun l hp => end_lst q1 hr1 h4.reverse hp⟩
        · exact q1.elim
      · exact q1.elim
    · exact q1.elim
theorem app2 {f : List IV → IH → Res IV} {env : Env} {ih : IH} : m_app f (m_cons ma (m_cons mb m_nil)) env ih = (ma env ih).bind fun x ih1 => (mb env ih1).bind fun y ih2 => f [x, y] ih2 := by
  unfold m_app m_cons m_nil
  cases ma env ih with
  | ok x ih1 =>
    dsimp only [Res.bind]
    cases mb env ih1 <;> rfl
  | exc c ih1 => rfl
  | stuck => rfl
theorem Rs.rg (r : List Addr) (i j : Int) : Rs r (rgI i j) (rgV i j) := by
  unfold rgI rgV
  generalize List.range (j - i).toNat = l
  induction l with
  | nil => exact .nil
  | cons k l ihl => exact .cons rfl ihl
theorem lm_lrg {p q qos : Pos} (hc : X.calm = true) (h1 : Gl X "list") (h2 : X.mg "list" = none) (h3 : Gl X "range") (h4 : X.mg "range" = none) (ha : PE X a (tM X.K W ma)) (hb : PE X b (tM X.K W mb))
    (na : starEach [a, b] X.env = (false, eval a X.env) :: starEach [b] X.env := by rfl) (nb : starEach [b] X.env = (false, eval b X.env) :: starEach [] X.env := by rfl) (hp : (backTo qos (starEach [b] X.env)).any (·.1) = false := by rfl)
    (nc : starEach [.Call (.Name "range" q) [a, b] [] qos] X.env = (false, eval (.Call (.Name "range" q) [a, b] [] qos) X.env) :: starEach [] X.env := by rfl) :
    PE X (.Call (.Name "list" p) [.Call (.Name "range" q) [a, b] [] qos] [] pos) (tM X.K W (m_app f_lrg (m_cons ma (m_cons mb m_nil)))) :=
  PE.of (pe_listRg hc h1 h2 (prg_2 h3 h4 ha hb na nb hp) nc) fun σ H Q ⟨r, ih, env, hr, he, q⟩ => by
    rw [app2] at q
    exact tG.imp (tG_bind hr he q) fun u H1 ⟨r1, ih1, v, p, hr1, hv, q1⟩ => tG.imp (tG_bind hr1 (he.mono p) q1) fun w H2 ⟨r2, ih2, y, p2, hr2, hy, q2⟩ => by
      have hv2 := hv.mono p2
      replace q2 : PGen R X.K W σ r2 (f_lrg [v, y] ih2) Q := q2
      unfold f_lrg at q2
      split at q2
      · rename_i i j e
        cases e
        split at q2
        · rename_i ok
          cases hv2
          cases hy
          exact ⟨i, j, rfl, rfl, ok, fun l hp => end_lst q2 hr2 (Rs.rg _ i j) hp⟩
        · exact q2.elim
      · exact q2.elim
end
end L3
/-! L3n: chains of three comparisons, in, {}. -/
namespace L3
variable [TabT] [LamT]
open PySem L2 PyProof.Rows
theorem room65 {k : Nat} {A : Around} (h : Room k A) : A.units + 65 < cLine := by
  have := h.un
  omega
/-! ### {} -/
def m_dct (_ : Env) (ih : IH) : Res IV := .ok (.ref ih.length) (ih ++ [.dct])
theorem lm_dct {X : Cx} {W : WX} {pos : Pos} : PE X (.Dict [] [] pos) (tM X.K W m_dct) := PE.of pe_dnewK fun σ H Q ⟨r, ih, env, hr, he, q⟩ p hp =>
  q (r ++ [p]) _ _ pre_one (hr.new hp rfl fun H' e => ⟨_, e⟩) (R.newest hr.len)
/-! ### in -/
open Classical in
noncomputable def f_inn (neg : Bool) (x y : IV) (ih : IH) : Res IV :=
  if h : ∃ p : PyData × List PyData, Is ih x p.1 ∧ Is ih y (.list p.2) ∧ SeqAt.shaped p.1 = true ∧ SeqAt.shaped (.list p.2) = true then .ok (.bl (if neg = true then !(h.choose.2.any fun z => PyData.eqv z h.choose.1) else h.choose.2.any fun z => PyData.eqv z h.choose.1)) ih else .stuck
noncomputable def f_in := f_inn false
noncomputable def f_nin := f_inn true
theorem f_inn_of {neg : Bool} {x y : IV} {ih : IH} {d : PyData} {ds : List PyData} (h1 : Is ih x d) (h2 : Is ih y (.list ds)) (s1 : SeqAt.shaped d = true) (s2 : SeqAt.shaped (.list ds) = true) : f_inn neg x y ih = .ok (.bl (if neg = true then !(ds.any fun z => PyData.eqv z d) else ds.any fun z => PyData.eqv z d)) ih := by
  unfold f_inn
  have h : ∃ p : PyData × List PyData, Is ih x p.1 ∧ Is ih y (.list p.2) ∧ SeqAt.shaped p.1 = true ∧ SeqAt.shaped (.list p.2) = true := ⟨(d, ds), h1, h2, s1, s2⟩
  rw [dif_pos h]
  have k := h.choose_spec
  have e2 : h.choose.2 = ds := by
    have := Is.uniq _ _ _ k.2.1 h2
    cases this
    rfl
  rw [Is.uniq _ _ _ k.1 h1, e2]
theorem s_in {K : PySem.W.Frag} {W : WX} : Snd2 K W (rInD K) f_in := by
  intro r ih H x y u w σ Q hr hx hy q
  unfold f_in f_inn at q
  split at q
  · rename_i h
    have k := h.choose_spec
    exact ⟨_, _, Is.dp hr _ _ _ k.1 hx, Is.dp hr _ _ _ k.2.1 hy, k.2.2.1, k.2.2.2, tG_end q hr rfl⟩
  · exact q.elim
theorem s_nin {K : PySem.W.Frag} {W : WX} : Snd2 K W (rNotInD K) f_nin := by
  intro r ih H x y u w σ Q hr hx hy q
  unfold f_nin f_inn at q
  split at q
  · rename_i h
    have k := h.choose_spec
    exact ⟨_, _, Is.dp hr _ _ _ k.1 hx, Is.dp hr _ _ _ k.2.1 hy, k.2.2.1, k.2.2.2, tG_end q hr rfl⟩
  · exact q.elim
/-! ### a < b <= c < d -/
def m_chain3 (f g h : IV → IV → IH → Res IV) (ma mb mc md : Env → IH → Res IV) (env : Env) (ih : IH) : Res IV := (ma env ih).bind fun x ih1 => (mb env ih1).bind fun y ih2 => (f x y ih2).bind fun z ih3 => match z with
  | .bl k => if k = true then ((mc env ih3).bind fun u ih4 => (g y u ih4).bind fun z ih5 => match z with
    | .bl k => if k = true then (md env ih5).bind fun v ih6 => h u v ih6 else .ok (.bl false) ih5
    | _ => .stuck) else .ok (.bl false) ih3
  | _ => .stuck
def tChain3 (r r' r2 : R2) (ta tb tc td : TE) : TE := fun σ H Q => ta σ H fun x H1 => tb σ H1 fun y H2 => r x y H2 fun z H3 => ∃ k, z = .bl k ∧
  (if k = true then tc σ H3 fun u H4 => r' y u H4 fun z H5 => ∃ k, z = .bl k ∧ (if k = true then td σ H5 fun v H6 => r2 u v H6 Q else Q (.bl false) H5) else Q (.bl false) H3)
section
variable {X : Cx} {W : WX} {a b c d : Expr} {ta tb tc td : TE} {ma mb mc md : Env → IH → Res IV} {pos : Pos}
theorem pe_chain3 {o1 o2 o3 : CmpOp} {r1 r2 r3 : R2} (h1 : OpR X (compareOp o1) r1) (h2 : OpR X (compareOp o2) r2) (h3 : OpR X (compareOp o3) r3) (ha : PE X a ta) (hb : PE X b tb) (hc : PE X c tc) (hd : PE X d td)
    (hm : lastMarks [o1, o2, o3] [b, c, d] = false := by with_unfolding_all rfl) : PE X (.Compare a [o1, o2, o3] [b, c, d] pos) (tChain3 r1 r2 r3 ta tb tc td) := by
  refine ⟨fun pins s σ H Q I h => ?_⟩
  refine Compare_chain (thn (ha.run pins s σ H _ I h) fun v s1 ⟨x, H1, I1, q1, p1⟩ => chain_link (thn (hb.run pins s1 σ H1 _ I1 p1) fun u s2 ⟨y, H2, I2, q2, p2⟩ => thn (h1 pins s2 σ H2 x y v u _ I2 q1 q2 p2) fun e s3 ⟨z, H3, I3, q3, k, ez, p3⟩ => ?_)) hm
  subst ez
  cases q3
  refine wpAny_truthy_bool ?_
  cases k with
  | false => exact ite_ff ⟨.bl false, H3, I3, rfl, p3⟩
  | true =>
    refine ite_tt (chain_link (thn (hc.run pins s3 σ H3 _ I3 p3) fun w s4 ⟨y2, H4, I4, q4, p4⟩ => thn (h2 pins s4 σ H4 y y2 u w _ I4 q2 q4 p4) fun e s5 ⟨z, H5, I5, q5, k, ez, p5⟩ => ?_))
    subst ez
    cases q5
    refine wpAny_truthy_bool ?_
    cases k with
    | false => exact ite_ff ⟨.bl false, H5, I5, rfl, p5⟩
    | true => exact ite_tt (chain_last (thn (hd.run pins s5 σ H5 _ I5 p5) fun w2 s6 ⟨y3, H6, I6, q6, p6⟩ => h3 pins s6 σ H6 y2 y3 w w2 Q I6 q4 q6 p6))
theorem pt_chain3 {o1 o2 o3 : CmpOp} {r1 r2 r3 : R2} (h1 : OpR X (compareOp o1) r1) (h2 : OpR X (compareOp o2) r2) (h3 : OpR X (compareOp o3) r3) (ha : PE X a ta) (hb : PE X b tb) (hc : PE X c tc) (hd : PE X d td)
    (hm : lastMarks [o1, o2, o3] [b, c, d] = false := by with_unfolding_all rfl) : PT X (.Compare a [o1, o2, o3] [b, c, d] pos) (tTest (tChain3 r1 r2 r3 ta tb tc td)) := by
  refine ⟨fun pins s σ H Q I h => ?_⟩
  refine isTrue_chain (thn (ha.run pins s σ H _ I h) fun v s1 ⟨x, H1, I1, q1, p1⟩ => test_link (thn (hb.run pins s1 σ H1 _ I1 p1) fun u s2 ⟨y, H2, I2, q2, p2⟩ => thn (h1 pins s2 σ H2 x y v u _ I2 q1 q2 p2) fun e s3 ⟨z, H3, I3, q3, k, ez, p3⟩ => ?_)) hm
  subst ez
  cases q3
  refine wpAny_truthy_bool ?_
  cases k with
  | false =>
    obtain ⟨k', e', q'⟩ := p3
    cases e'
    exact ite_ff ⟨H3, I3, q'⟩
  | true =>
    refine ite_tt (test_link (thn (hc.run pins s3 σ H3 _ I3 p3) fun w s4 ⟨y2, H4, I4, q4, p4⟩ => thn (h2 pins s4 σ H4 y y2 u w _ I4 q2 q4 p4) fun e s5 ⟨z, H5, I5, q5, k, ez, p5⟩ => ?_))
    subst ez
    cases q5
    refine wpAny_truthy_bool ?_
    cases k with
    | false =>
      obtain ⟨k', e', q'⟩ := p5
      cases e'
      exact ite_ff ⟨H5, I5, q'⟩
    | true =>
      refine ite_tt (test_last (thn (hd.run pins s5 σ H5 _ I5 p5) fun w2 s6 ⟨y3, H6, I6, q6, p6⟩ => thn (h3 pins s6 σ H6 y2 y3 w w2 _ I6 q4 q6 p6) fun d' s7 ⟨z2, H7, I7, q7, k2, e2, p7⟩ => ?_))
      subst e2
      cases q7
      exact wpAny_truthy_bool ⟨H7, I7, p7⟩
theorem chain3_core {r1 r2 r3 : R2} {f g e : IV → IV → IH → Res IV} (hf : Snd2 X.K W r1 f) (hg : Snd2 X.K W r2 g) (he' : Snd2 X.K W r3 e) {σ : L2.St} {H : Hp} {Q : VK} (h : tM X.K W (m_chain3 f g e ma mb mc md) σ H Q) : tChain3 r1 r2 r3 (tM X.K W ma) (tM X.K W mb) (tM X.K W mc) (tM X.K W md) σ H Q := by
  obtain ⟨r, ih, env, hr, he, q⟩ := h
  refine tG.imp (tG_bind hr he q) fun u H1 ⟨r1, ih1, v, p, hr1, hv, q1⟩ => tG.imp (tG_bind hr1 (he.mono p) q1) fun w H2 ⟨r2, ih2, y, p2, hr2, hy, q2⟩ => hf r2 ih2 H2 v y u w σ _ hr2 (hv.mono p2) hy ?_
  dsimp only at q2
  cases e1 : f v y ih2 with
  | ok z ih3 =>
    rw [e1] at q2
    intro r3 H3 z' p3 hr3 hz
    cases z with
    | bl k =>
      obtain rfl : z' = .bl k := hz
      refine ⟨k, rfl, ?_⟩
      cases k with
      | true =>
        rw [if_pos rfl]
        have q3 : PGen R X.K W σ r2 ((mc env ih3).bind fun u ih4 => (g y u ih4).bind fun z ih5 => match z with
          | .bl k => if k = true then (md env ih5).bind fun v ih6 => e u v ih6 else .ok (.bl false) ih5
          | _ => .stuck) Q := q2
        have P3 := pre_trans p (pre_trans p2 p3)
        refine tG.imp (tG_bind hr3 (he.mono P3) (PGen.mono p3 q3)) fun u4 H4 ⟨r4, ih4, v4, p4, hr4, hv4, q4⟩ => hg r4 ih4 H4 y v4 w u4 σ _ hr4 (hy.mono (pre_trans p3 p4)) hv4 ?_
        dsimp only at q4
        cases e2 : g y v4 ih4 with
        | ok z ih5 =>
          rw [e2] at q4
          intro r5 H5 z' p5 hr5 hz
          cases z with
          | bl k =>
            obtain rfl : z' = .bl k := hz
            refine ⟨k, rfl, ?_⟩
            cases k with
            | true =>
              rw [if_pos rfl]
              have q5 : PGen R X.K W σ r4 ((md env ih5).bind fun v ih6 => e v4 v ih6) Q := q4
              exact tG.imp (tG_bind hr5 (he.mono (pre_trans P3 (pre_trans p4 p5))) (PGen.mono p5 q5)) fun u6 H6 ⟨r6, ih6, v6, p6, hr6, hv6, q6⟩ => he' _ _ _ _ _ _ _ _ _ hr6 (hv4.mono (pre_trans p5 p6)) hv6 q6
            | false =>
              rw [if_neg (by decide)]
              have q5 : PGen R X.K W σ r4 (.ok (.bl false) ih5) Q := q4
              exact q5 r5 H5 _ p5 hr5 rfl
          | _ => exact (q4 : False).elim
        | exc c ih5 =>
          rw [e2] at q4
          exact q4
        | stuck =>
          rw [e2] at q4
          exact q4
      | false =>
        rw [if_neg (by decide)]
        have q3 : PGen R X.K W σ r2 (.ok (.bl false) ih3) Q := q2
        exact q3 r3 H3 _ p3 hr3 rfl
    | _ => exact (q2 : False).elim
  | exc c ih3 =>
    rw [e1] at q2
    exact q2
  | stuck =>
    rw [e1] at q2
    exact q2
theorem lm_chain3 {o1 o2 o3 : CmpOp} {r1 r2 r3 : R2} {f g e : IV → IV → IH → Res IV} (h1 : OpR X (compareOp o1) r1) (hf : Snd2 X.K W r1 f) (h2 : OpR X (compareOp o2) r2) (hg : Snd2 X.K W r2 g) (h3 : OpR X (compareOp o3) r3) (he : Snd2 X.K W r3 e) (ha : PE X a (tM X.K W ma)) (hb : PE X b (tM X.K W mb)) (hc : PE X c (tM X.K W mc)) (hd : PE X d (tM X.K W md))
    (hm : lastMarks [o1, o2, o3] [b, c, d] = false := by with_unfolding_all rfl) : PE X (.Compare a [o1, o2, o3] [b, c, d] pos) (tM X.K W (m_chain3 f g e ma mb mc md)) := PE.of (pe_chain3 h1 h2 h3 ha hb hc hd hm) fun σ H Q h => chain3_core hf hg he h
theorem lt_chain3 {o1 o2 o3 : CmpOp} {r1 r2 r3 : R2} {f g e : IV → IV → IH → Res IV} (h1 : OpR X (compareOp o1) r1) (hf : Snd2 X.K W r1 f) (h2 : OpR X (compareOp o2) r2) (hg : Snd2 X.K W r2 g) (h3 : OpR X (compareOp o3) r3) (he : Snd2 X.K W r3 e) (ha : PE X a (tM X.K W ma)) (hb : PE X b (tM X.K W mb)) (hc : PE X c (tM X.K W mc)) (hd : PE X d (tM X.K W md))
    (hm : lastMarks [o1, o2, o3] [b, c, d] = false := by with_unfolding_all rfl) : PT X (.Compare a [o1, o2, o3] [b, c, d] pos) (tMT X.K W (m_tb (m_chain3 f g e ma mb mc md))) := PT.of (pt_chain3 h1 h2 h3 ha hb hc hd hm) fun σ H Q h => chain3_core hf hg he (tb_core h)
end
end L3
/-! L3p: a def called by its parameters' names alone. -/
namespace L3
variable [TabT] [LamT]
open PySem PySem.Spec PyProof.Rows L2
/-- g puts the keywords' values, as they are written, in the parameters' order -/
structure DfK (P : Program) (w : World) (K : PySem.W.Frag) (mg : Str → Option Value) (base : Heap) (k : Nat) (x : Str) (n : Nat) (ks : List Str) (g : {α : Type} → List α → List α) (m : List IV → IH → Res IV) : Prop where
  par : ∀ {α β : Type} {T : α → β → Prop} {xs : List α} {ys : List β}, Paired T xs ys → Paired T (g xs) (g ys)
  ex : ∃ (f : Addr) (fd : FuncData) (ps : List Str), ps.length = n ∧ mg x = some (.ref f) ∧ PySem.W.keepIn K (.ref f) = true ∧ FnOk P w K mg base (L2.CX P w) k f fd ps (spM K n m) ∧ KBn K fd ps 0 ks (fun _ ws => g ws) (fun _ zs => g zs)
def f_callK (n l : Nat) (g : {α : Type} → List α → List α) (m : List IV → IH → Res IV) (xs : List IV) (ih : IH) : Res IV := if xs.length = l ∧ (g xs).length = n then m (g xs) ih else .stuck
section
variable {X : Cx} {W : WX} {k n : Nat} {x : Str} {ks : List Str} {g : {α : Type} → List α → List α} {m : List IV → IH → Res IV} {kws : List Keyword} {p pos : Pos} {ma : Env → IH → Res (List IV)}
theorem lk_nil : PK X [] (tMA X.K W m_nil) := ⟨fun pos pins s σ H Q I ⟨r, ih, env, hr, he, q⟩ => pk_nil.run pos pins s σ H Q I (tG_end q hr .nil)⟩
theorem lk_cons {e : Expr} {nm : Option Str} {kpos : Pos} {mx : Env → IH → Res IV} {mr : Env → IH → Res (List IV)} (hx : PE X e (tM X.K W mx)) (hr : PK X kws (tMA X.K W mr)) : PK X (⟨nm, e, kpos⟩ :: kws) (tMA X.K W (m_cons mx mr)) :=
  ⟨fun pos pins s σ H Q I ⟨r, ih, env, h, he, q⟩ => (pk_cons hx hr).run pos pins s σ H Q I (tG.imp (tG_bind h he q) fun u H1 ⟨r1, ih1, v, p1, hr1, hv, q1⟩ => tG.imp (tG_bind hr1 (he.mono p1) q1) fun us H2 ⟨r2, ih2, vs, p2, hr2, hvs, q2⟩ => tG_end q2 hr2 (.cons (hv.mono p2) hvs))⟩
theorem run_fnK {CX : CXT} {f : Addr} {fd : FuncData} {ps : List Str} {sp : Sp} {pins : List (Addr × Obj)} {σ : L2.St} {H : Hp} {s : Shared} {Q : VK} {ws : List Value} {zs : List V} {E : L2.St → XK} {gl : List Value → List Value → List Value} {gV : List V → List V → List V} (F : FnOk X.prog X.w X.K X.mg X.base CX k f fd ps sp) (hr : Room k X.A) (hb : KBn X.K fd ps 0 ks gl gV)
    (hx : PassesAt CX X σ (E σ)) (I : L2.Inv X pins σ H s) (rz : Vals zs ws) (l2 : zs.length = ks.length) (h : sp (gV [] zs) H Q (E σ)) : wpAny (model X.prog X.w) X.A (call (.ref f) [] (ks.zip ws)) (EP X pins σ Q) X.xe s := by
  have r2 := hb.rel (vs := []) (us := []) .nil rz
  refine wpAny_call (codeAny_mono (F.run X.A X.stack s H ⟨[], ks.zip ws⟩ (gl [] ws) (gV [] zs) Q (E σ) hr I.env0 (hb.to s [] ws I.kIn rfl (rz.length.symm.trans l2)) r2 h) fun r s' hq => ?_)
  cases r with
  | error e => exact hx pins H s e s' I hq
  | ok fl =>
    cases fl with
    | ret u => exact I.after hq
    | next => exact False.elim hq
    | brk => exact False.elim hq
    | cont => exact False.elim hq
theorem lm_callK (D : DfK X.prog X.w X.K X.mg X.base k x n ks g m) (hr : Room k X.A) (hg : Gl X x) (tk : Takes X W) (ha : PK X kws (tMA X.K W ma)) (hall : (backToKw pos (keywordEach kws X.env)).all (·.1.isSome) = true := by rfl) (hks : (backToKw pos (keywordEach kws X.env)).filterMap (·.1) = ks := by rfl)
    (hdb : (x == ("__debug__" : Str)) = false := by decide) (hpl : ((backTo pos (starEach [] X.env)).any (·.1) || (backToKw pos (keywordEach kws X.env)).any (·.1.isNone)) = false := by rfl) :
    PE X (.Call (.Name x p) [] kws pos) (tM X.K W (m_app (f_callK n ks.length g m) ma)) := by
  obtain ⟨f, fd, ps, hn, hm, hk, F, hB⟩ := D.ex
  refine ⟨fun pins s σ H Q I ⟨r, ih, env, hrl, he, q⟩ => ?_⟩
  refine wpAny_Call_Name_kw (ld_glob I hg hm ?_ hdb)
  refine PySem.W.callWith_KW0 (h₀ := X.base) I.ok.mod.kin hk hall (thn (ha.run pos pins s σ H _ I (tG_bind hrl he q)) fun ws s2 ⟨zs, H2, I2, rz, r1, ih1, v, p1, hr1, hv, q1⟩ => ⟨I2.kIn, ?_⟩) hpl
  rw [hks]
  dsimp only at q1
  unfold f_callK at q1
  split at q1
  · rename_i hl
    refine run_fnK F hr hB (passAt tk σ) I2 rz (hv.length.symm.trans hl.1) ⟨r1, ih1, g v, hl.2, hr1, D.par hv, ?_⟩
    cases e : m (g v) ih1 with
    | ok y ih2 => rw [e] at q1; exact q1
    | exc c ih2 => rw [e] at q1; exact q1
    | stuck => rw [e] at q1; exact q1
  · exact q1.elim
end
/-- four parameters, written the other way about -/
def rev4 : {α : Type} → List α → List α
  | _, [a, b, c, d] => [d, c, b, a]
  | _, l => l
theorem rev4_par {α β : Type} {T : α → β → Prop} {xs : List α} {ys : List β} (h : Paired T xs ys) : Paired T (rev4 xs) (rev4 ys) := by
  cases h with
  | nil => exact .nil
  | cons a h =>
    cases h with
    | nil => exact .cons a .nil
    | cons b h =>
      cases h with
      | nil => exact .cons a (.cons b .nil)
      | cons c h =>
        cases h with
        | nil => exact .cons a (.cons b (.cons c .nil))
        | cons d h =>
          cases h with
          | nil => exact .cons d (.cons c (.cons b (.cons a .nil)))
          | cons e h => exact .cons a (.cons b (.cons c (.cons d (.cons e h))))
section
variable {P : Program} {w : World} {K : PySem.W.Frag} {mg : Str → Option Value} {base : Heap} {k : Nat} {x qual : Str} {st : Stmt} {f : Addr} {fd : FuncData} {N ps ks : List Str} {mb : Env → IH → RS}
theorem dfK4 (F : FunD K x qual (defArgs st) (defBody st) (defScope st) [] [] f fd) (S : FnScope N ps (defScope st)) (hm : mg x = some (.ref f)) (h4 : ks.length = 4)
    (h : ∀ (kV doc pm : Value) (an : Option Addr) (cdv ct : Value) (a b c d : Value), bindArgs (PySem.W.fnOf x qual (defArgs st) (defBody st) (defScope st) .none kV doc pm an cdv ct) ⟨[], ks.zip [a, b, c, d]⟩ = pure (ps.zip [d, c, b, a]))
    (hbody : BodyOk P w K mg base k N qual st f mb) : DfK P w K mg base (k + 1) x ps.length ks rev4 (defRun N.length mb) := by
  refine ⟨fun h => rev4_par h, f, fd, ps, rfl, hm, F.kp, df_fn2 F S hbody, ⟨fun s us ws _ h1 h2 => ?_, fun _ r2 => rev4_par r2⟩⟩
  obtain ⟨oc, od, dV, kV, doc, pm, an, cdv, ct, osl, rfl, lk, hcd, hD, hK⟩ := F.ex
  rw [h4] at h2
  match us, ws, h1, h2 with
  | [], [a, b, c, d], _, _ =>
    rcases hD with ⟨_, rfl⟩ | ⟨e, _⟩
    · exact .of_eq (h kV doc pm an cdv ct a b c d)
    · exact absurd rfl e
end
end L3
/-! L3q: a lambda of one parameter, handed to a def behind its other arguments. -/
namespace L3
variable [TabT] [LamT]
open PySem PySem.Spec PyProof.Rows L2

abbrev XN : XK := fun _ _ _ => False
/-- fits(e): the closure is the object n, in slot i -/
def m_fits (i n : Nat) (lam : IV → IH → Res IV) (me : Env → IH → Res IV) (env : Env) (ih : IH) : Res IV := match env[i]? with
  | some (some (.ref m)) => if m = n then (me env ih).bind fun x ih1 => (match lam x ih1 with
      | .ok v ih2 => .ok v ih2
      | _ => .stuck) else .stuck
  | _ => .stuck
/-- x(es, lambda a: body) -/
def m_callL (g : Nat → (IV → IH → Res IV) → List IV → IH → Res IV) (lam : Env → IV → IH → Res IV) (ma : Env → IH → Res (List IV)) (env : Env) (ih : IH) : Res IV :=
  (ma env ih).bind fun xs ih1 => match g ih1.length (lam env) (xs ++ [.ref ih1.length]) (ih1 ++ [.clo]) with
    | .ok v ih2 => .ok v ih2
    | _ => .stuck
/-- the lambda's body, by its parameter's slot -/
def lamB (p : Nat) (ml : Env → IH → Res IV) (env : Env) (x : IV) (ih : IH) : Res IV := ml (env.set p (some x)) ih

/-! ### its names -/
structure LamP (sc scope : Scope) (a : Str) : Prop where
  kd : scope.kind = .function
  nco : scope.isCoroutine = false
  ngn : scope.isGenerator = false
  par : scope.names.lookup a = some .local
  loc : ∀ y ∈ scope.names, y.2 = .local → y.1 = a
  ncl : ∀ y ∈ scope.names, y.2 ≠ .cell
  fre : ∀ y ∈ scope.names, y.2 = .free → sc.names.lookup y.1 = some .cell ∨ sc.names.lookup y.1 = some .free
def lamPB (sc scope : Scope) (a : Str) : Bool :=
  decide (scope.kind = .function) && !scope.isCoroutine && !scope.isGenerator && decide (scope.names.lookup a = some .local) &&
    scope.names.all fun y => (!decide (y.2 = .local) || decide (y.1 = a)) && !decide (y.2 = .cell) && (!decide (y.2 = .free) || (decide (sc.names.lookup y.1 = some .cell) || decide (sc.names.lookup y.1 = some .free)))
theorem lamP_by {sc scope : Scope} {a : Str} (h : lamPB sc scope a = true) : LamP sc scope a := by
  unfold lamPB at h
  simp only [Bool.and_eq_true, Bool.or_eq_true, Bool.not_eq_true', decide_eq_true_eq, decide_eq_false_iff_not, List.all_eq_true] at h
  obtain ⟨⟨⟨⟨h1, h2⟩, h3⟩, h4⟩, h5⟩ := h
  exact ⟨h1, h2, h3, h4, fun y hy e => (h5 y hy).1.1.resolve_left fun z => z e, fun y hy => (h5 y hy).1.2, fun y hy e => (h5 y hy).2.resolve_left fun z => z e⟩
section
variable {X : Cx} {pins : List (Addr × Obj)} {σ : L2.St} {H HZ : Hp} {s s1 : Shared} {scope : Scope} {a : Str}
theorem LamP.has (L : LamP X.env.scope scope a) (ok : X.Ok) : ∀ y ∈ scope.names, y.2 = .free → ∃ c, X.env.cells.lookup y.1 = some c := fun y hy e =>
  (L.fre y hy e).elim (fun k => ok.has y.1 (.inl k)) fun k => ok.has y.1 (.inr k)
/-- the lambda's frame, entered from the frames outer with the argument u -/
theorem lam_enter {A : Around} {outer : List PySem.Env} {E : XK} {f c' : Addr} {h₁ : Heap} {tk p : Nat} {y : V} {u : Value} (I : L2.Inv X pins σ H s) (L : LamP X.env.scope scope a) (e0 : Env0 X.prog X.w X.K X.mg X.base A outer s1 HZ) (hd : A.handled = none)
    (hN : X.N.Nodup) (hp : X.N[p]? = some a) (ry : RelV y u) (un : ∀ z c v, X.env.cells.lookup z = some c → s.heap.IsCell c v → s1.heap.IsCell c v ∧ HZ c = none) (hns : h₁.Ns s1.heap.objs.size fun z => ([(a, u)] : List (Str × Value)).reverse.lookup z) (kp : ∀ b o, s1.heap.get? b = some o → h₁.get? b = some o) :
    L2.Inv (LamX.lamCx X A outer s1 HZ E scope f c') [] (σ.set p (some y)) HZ { s1 with heap := h₁, toks := tk } := by
  have hfree := L.has I.ok
  have inX : ∀ {z : Str} {c : Addr}, (cloFrom X.env.cells scope.names []).lookup z = some c → X.env.cells.lookup z = some c := fun {z c} e => by
    rcases cloFrom_mem (PySem.mem_of_lookup e) with hm | ⟨h1, h2⟩
    · cases hm
    · obtain ⟨c1, hc⟩ := hfree _ h1 rfl
      have hc' : X.env.cells.lookup z = some c1 := hc
      have ec : c = c1 := by
        rw [h2, hc'] <;> rfl
      rw [ec]
      exact hc'
  have got : ∀ {z : Str}, scope.names.lookup z = some .free → ∃ c, (cloFrom X.env.cells scope.names []).lookup z = some c := fun {z} hl =>
    mem_lookup (cloFrom_has (cells := X.env.cells) (acc := []) (show (z, NameKind.free) ∈ scope.names from PySem.mem_of_lookup hl))
  have held : ∀ {z : Str} {c : Addr} {v : Option Value}, X.env.cells.lookup z = some c → s.heap.IsCell c v → h₁.IsCell c v := fun {z c v} n q => by
    obtain ⟨o, ho, hdat⟩ := (un z c v n q).1
    exact ⟨o, kp _ _ ho, hdat⟩
  have noA : ∀ b : Addr, b ∉ (LamX.lamCx X A outer s1 HZ E scope f c').ex := fun b z => absurd (show b ∈ ([] : List Addr) from z) (by simp)
  have okL : (LamX.lamCx X A outer s1 HZ E scope f c').Ok := {
    mod := e0.mod
    kind := L.kd
    glob := rfl
    blt := rfl
    above := Nat.le_refl _
    inj := fun y1 y2 c e1 e2 => I.ok.inj y1 y2 c (inX e1) (inX e2)
    has := fun z hz => (show scope.names.lookup z = some .cell ∨ scope.names.lookup z = some .free from hz).elim (fun k => absurd rfl (L.ncl _ (PySem.mem_of_lookup k))) fun k => got k
    cab := fun z c hz _ => absurd (show false = true from hz) Bool.false_ne_true
    hd := fun _ => hd
    frames := Around.frames_deeper e0.frames
    stk := .inr ⟨rfl, rfl⟩
    exf := fun b z => absurd z (noA b)
    bs := e0.bs
    bsz := e0.bsz
    noex := fun b _ _ => noA b
    exfs := fun b z => absurd z (noA b)
    funs := e0.funs
    frf := e0.frf }
  refine ⟨okL, rfl, e0.bare, Un.kept kp, ⟨_, hns, fun i z v e1 e2 e3 => ?_⟩, fun z c e => ?_, e0.hok.fresh (Nat.le_refl _), fun z c e => ?_, fun q hq => absurd (show q ∈ ([] : List (Addr × Obj)) ++ [] from hq) (by simp), e0.hok.kept kp, by rw [List.length_set]; exact I.len⟩
  · have e1' : X.N[i]? = some z := e1
    have e3' : Vis scope z := e3
    by_cases hz : z = a
    · subst hz
      obtain rfl : i = p := nodup_ix hN e1' hp
      have hl : i < σ.length := by rw [I.len]; exact (List.getElem?_eq_some_iff.mp hp).1
      rw [List.getElem?_set_self hl] at e2
      cases e2
      exact ⟨u, ry, .inl ⟨L.par, by simp⟩⟩
    · have hip : p ≠ i := fun e => hz (by rw [← e, hp] at e1'; exact (Option.some.inj e1').symm)
      rw [List.getElem?_set_ne hip] at e2
      rcases e3' with k | k | k
      · exact absurd (L.loc _ (PySem.mem_of_lookup k) rfl) hz
      · exact absurd rfl (L.ncl _ (PySem.mem_of_lookup k))
      · obtain ⟨m, hn, hl⟩ := I.loc
        have sees := L.fre _ (PySem.mem_of_lookup k) rfl
        obtain ⟨w', rw', q⟩ := hl i z v e1' e2 (sees.elim (fun k2 => .inr (.inl k2)) fun k2 => .inr (.inr k2))
        obtain ⟨c2, h2⟩ := got k
        refine ⟨w', rw', .inr ⟨.inr k, c2, h2, ?_⟩⟩
        have c1 := inX h2
        rcases q with ⟨k', _⟩ | ⟨_, c3, e', zc⟩
        · have k2' : X.env.scope.names.lookup z = some .local := k'
          rcases sees with k2 | k2
          · have k3 : X.env.scope.names.lookup z = _ := k2
            rw [k3] at k2'
            cases k2'
          · have k3 : X.env.scope.names.lookup z = _ := k2
            rw [k3] at k2'
            cases k2'
        · rw [c1] at e'
          cases e'
          exact held c1 zc
  · obtain ⟨w', zc⟩ := I.cell z c (inX e)
    exact ⟨w', held (inX e) zc⟩
  · obtain ⟨v, zc⟩ := I.cell z c (inX e)
    exact (un z c v (inX e) zc).2
end
theorem takes_none {X : Cx} : Takes X W0 := fun _ _ x => by
  obtain ⟨_, _, _, _, _, _, _, _, _, _, _, _, _, _, _, _, z⟩ := x
  exact z.elim
/-- a heap of which only some objects are told -/
noncomputable def keepH (h : Heap) (P : Addr → Prop) : Heap := by
  classical
  exact ⟨h.objs.mapIdx fun i o => if P i then o else { cls := .none, data := .freed }, h.life⟩
theorem keepH_size {h : Heap} {P : Addr → Prop} : (keepH h P).objs.size = h.objs.size := by
  unfold keepH
  exact Array.size_mapIdx
theorem keepH_in {h : Heap} {P : Addr → Prop} {b : Addr} (hb : P b) : (keepH h P).get? b = h.get? b := by
  unfold keepH Heap.get?
  dsimp only
  rw [Array.getElem?_mapIdx]
  cases h.objs[b]? with
  | none => rfl
  | some o => rw [Option.map_some, if_pos hb]
theorem keepH_out {h : Heap} {P : Addr → Prop} {b : Addr} (hb : ¬ P b) : (keepH h P).get? b = none := by
  unfold keepH Heap.get?
  dsimp only
  rw [Array.getElem?_mapIdx]
  cases h.objs[b]? with
  | none => rfl
  | some o => rw [Option.map_some, if_neg hb]
theorem keepH_sub {h : Heap} {P : Addr → Prop} {b : Addr} {o : Obj} (e : (keepH h P).get? b = some o) : P b ∧ h.get? b = some o := by
  by_cases hb : P b
  · rw [keepH_in hb] at e
    exact ⟨hb, e⟩
  · rw [keepH_out hb] at e
    cases e
theorem mod_keeps {K : PySem.W.Frag} {mg : Str → Option Value} {b1 b2 : Heap} (M : Mod K mg b1) (k : ∀ b o, b1.get? b = some o → b2.get? b = some o) : Mod K mg b2 :=
  ⟨M.kin.keeps k, M.glob.keeps k, M.blt.elim fun mb q => ⟨mb, q.1.keeps k, q.2⟩, M.nolimit.keeps k⟩
theorem funs_base {h b1 b2 : Heap} : ∀ {l : List PySem.Env}, h.FunFrames b1 l → (∀ L ∈ frs l, b1.get? L = none → b2.get? L = none) → h.FunFrames b2 l
  | [], _, _ => trivial
  | env :: rest, ⟨hk, ⟨L, o, hf, hn, ho, hd⟩, hr⟩, k => by
    have e : frs (env :: rest) = L :: frs rest := by
      show (env :: rest).filterMap (·.frame) = L :: rest.filterMap (·.frame)
      rw [List.filterMap_cons, hf]
    exact ⟨hk, ⟨L, o, hf, k L (by rw [e]; exact List.mem_cons_self) hn, ho, hd⟩, funs_base hr fun M hM => k M (by rw [e]; exact List.mem_cons_of_mem _ hM)⟩
section
variable {X : Cx} {pins : List (Addr × Obj)} {σ : L2.St} {H : Hp} {s : Shared}
/-- the context of the def that got the lambda, entered at s; base2: what is known to stay there -/
abbrev Zx (X : Cx) (base2 : Heap) (Ng : List Str) (qg : Str) (sg : Scope) (g : Addr) (cdg : Value) (s : Shared) (H : Hp) : Cx := cxOf (L2.CX X.prog X.w) X.prog X.w X.K X.mg base2 Ng qg sg g cdg X.A X.stack s H XN
/-- a context of that def: its own, or a block's -/
abbrev Zin (Z : Cx) (s0 : Shared) (H0 : Hp) (env : PySem.Env) (outer : List PySem.Env) (ex : List Addr) (fn : Str → Bool) (calm : Bool) (pn : List (Addr × Obj)) (xe : Value → Shared → Prop) : Cx :=
  Cx.mk Z.prog Z.w Z.K Z.mg Z.base Z.A Z.N s0 H0 env outer Z.stack ex fn calm pn xe
/-- what a lambda's call does there -/
abbrev ActOk (Z : Cx) (i n : Nat) (a : Str) (lam : IV → IH → Res IV) : Prop :=
  ∀ {s0 : Shared} {H0 : Hp} {env : PySem.Env} {outer : List PySem.Env} {ex : List Addr} {fn : Str → Bool} {calm : Bool} {pn : List (Addr × Obj)} {xe : Value → Shared → Prop} {e : Expr} {me : Env → IH → Res IV} {p1 p2 : Pos},
    PE (Zin Z s0 H0 env outer ex fn calm pn xe) e (tM Z.K W0 me) → Vis env.scope a → (starEach [e] env = [(false, eval e env)]) → PE (Zin Z s0 H0 env outer ex fn calm pn xe) (.Call (.Name a p1) [e] [] p2) (tM Z.K W0 (m_fits i n lam me))
theorem act_ok {base2 : Heap} {Ng : List Str} {qg : Str} {sg : Scope} {g f c' : Addr} {cdg pm ctv : Value} {params : Arguments} {body : Expr} {scope : Scope} {k i n p : Nat} {a b : Str} {ml : Env → IH → Res IV} {env0 : Env}
    (I : L2.Inv X pins σ H s) (L : LamP X.env.scope scope b) (hN : X.N.Nodup) (hp : X.N[p]? = some b) (he0 : REnv LamT.r0 env0 σ) (hn : LamT.r0[n]? = some f) (hcs : (c', X.env.qual ++ "<lambda>") ∈ LamT.cs)
    (hf : base2.get? f = some (PySem.W.kla_obj "<lambda>" (X.env.qual ++ "<lambda>") params body scope (cloFrom X.env.cells scope.names []) pm c' ctv)) (hcl : ∀ z c o, X.env.cells.lookup z = some c → s.heap.get? c = some o → base2.get? c = some o)
    (hb2 : ∀ b o, X.base.get? b = some o → base2.get? b = some o) (hz2 : X.base.objs.size ≤ base2.objs.size)
    (hbind : ∀ v : Value, bindArgs (PySem.W.kla_fn "<lambda>" (X.env.qual ++ "<lambda>") params body scope (cloFrom X.env.cells scope.names []) pm (.ref c') ctv) ⟨[v], []⟩ = pure [(b, v)])
    (hr : Room (k + 1) (X.A.deeper (envOfC qg sg s.heap.objs.size g cdg)))
    (hbody : ∀ (A : Around) (outer : List PySem.Env) (s' : Shared) (H' : Hp), Room k (A.deeper (LamX.lamEnv X scope s'.heap.objs.size f c')) → PE (LamX.lamCx X A outer s' H' XN scope f c') body (tM X.K W0 ml))
    (hNg : Ng[i]? = some a) (hd : (a == ("__debug__" : Str)) = false := by decide) (hcd : (a == ("__classdict__" : Str)) = false := by decide) : ActOk (Zx X base2 Ng qg sg g cdg s H) i n a (lamB p ml env0) := by
  intro s0 H0 env1 outer ex fn calm pn xe e me p1 p2 he hv hst
  generalize hZ : Zin (Zx X base2 Ng qg sg g cdg s H) s0 H0 env1 outer ex fn calm pn xe = Z at he ⊢
  have zb : Z.base = base2 := by rw [← hZ]; rfl
  have zA : Z.A = X.A.deeper (envOfC qg sg s.heap.objs.size g cdg) := by rw [← hZ]; rfl
  have zs : Z.stack = envOfC qg sg s.heap.objs.size g cdg :: X.stack := by rw [← hZ]; rfl
  have zN : Z.N = Ng := by rw [← hZ]; rfl
  have zp : Z.prog = X.prog := by rw [← hZ]; rfl
  have zw : Z.w = X.w := by rw [← hZ]; rfl
  have zK : Z.K = X.K := by rw [← hZ]; rfl
  have zm : Z.mg = X.mg := by rw [← hZ]; rfl
  have zv : Vis Z.env.scope a := by rw [← hZ]; exact hv
  have hst : starEach [e] Z.env = [(false, eval e Z.env)] := by rw [← hZ]; exact hst
  have he : PE Z e (tM X.K W0 me) := he
  show PE Z (.Call (.Name a p1) [e] [] p2) (tM X.K W0 (m_fits i n (lamB p ml env0) me))
  clear hZ
  obtain ⟨Zprog, Zw, ZK, Zmg, Zbase, ZA, ZN, Zs0, ZH0, Zenv, Zouter, Zstack, Zex, Zfn, Zcalm, Zpn, Zxe⟩ := Z
  dsimp only at zb zA zs zN zp zw zK zm zv hst
  replace zb := zb.symm
  subst zb
  subst zA
  subst zs
  replace zN := zN.symm
  subst zN
  subst zp
  subst zw
  subst zK
  subst zm
  refine ⟨fun pinsZ sZ σZ HZ Q IZ ⟨r, ih, env, hrl, hen, q⟩ => ?_⟩
  unfold m_fits at q
  split at q
  · rename_i m hm
    split at q
    · rename_i hmn
      subst hmn
      obtain ⟨u0, hu0, a0, ha0, hu1⟩ := hen.2 i _ hm
      subst hu1
      have ha1 : r[m]? = some f := pre_get hrl.pre hn
      rw [ha1] at ha0
      cases ha0
      refine wpAny_Call_Name_kw (thn ((pe_var (pos := p1) (i := i) hNg zv hd hcd).run pinsZ sZ σZ HZ (fun v H1 => v = .ref f ∧ H1 = HZ) IZ ⟨.ref f, hu0, rfl, rfl⟩) fun w1 s1 ⟨v, H1, I1, rv, ev, eH⟩ => ?_)
      subst ev
      rw [eH] at I1
      obtain rfl : w1 = Value.ref f := rv
      refine PySem.W.callWith_F ⟨_, _, _, _, (I1.bs f _ hf).1⟩ ?_ hst (by rfl)
      rw [hst]
      refine Calls.spliced_cons (thn (he.run pinsZ s1 σZ HZ _ I1 (tG_bind hrl hen q)) fun w s2 ⟨x2, H2, I2, rx, r2, ih2, v2, pre2, hr2, hv2, q2⟩ => ?_)
      refine Calls.spliced_nil ⟨⟨_, _, _, _, (I2.bs f _ hf).1⟩, ?_⟩
      have fAt := (I2.bs f _ hf).1
      obtain ⟨⟨oc, vs, t, hoc, hdc, hvc⟩, _, _⟩ := I2.hok c' _ (hr2.cod _ hcs)
      dsimp only at q2
      cases z : lamB p ml env0 v2 ih2 with
      | exc cc ihc => rw [z] at q2; exact q2.elim
      | stuck => rw [z] at q2; exact q2.elim
      | ok v3 ih3 =>
        rw [z] at q2
        have e02 := I2.env0
        have e0 : Env0 X.prog X.w X.K X.mg X.base (X.A.deeper (envOfC qg sg s.heap.objs.size g cdg)) (envOfC qg sg s.heap.objs.size g cdg :: X.stack) s2 H2 := by
          have fb : ∀ L, base2.get? L = none → X.base.get? L = none := fun L z => by
            cases z1 : X.base.get? L with
            | none => rfl
            | some o =>
              rw [hb2 L o z1] at z
              cases z
          exact ⟨e02.frames, I.ok.mod, fun b o z => e02.bs b o (hb2 b o z), Nat.le_trans hz2 e02.bsz, funs_base e02.funs (fun L _ z => fb L z), e02.frf, e02.hok, e02.bare⟩
        have rc : codeAny (model X.prog X.w) (X.A.deeper (envOfC qg sg s.heap.objs.size g cdg)) (.call (.ref f) ⟨[w], []⟩) (CR (L2.CX X.prog X.w) (envOfC qg sg s.heap.objs.size g cdg :: X.stack) X.prog X.w H2 s2 Q XN) s2 := by
          refine PySem.W.kla_callFunE hr.depth fAt rfl L.nco L.ngn rfl ⟨c', oc, vs, t, rfl, hoc, hdc, hvc⟩ ?_
          rw [hbind w]
          refine wpAny_pure (wpAny_newFunctionEnv L.ncl (fun y hy => by rw [List.mem_singleton.mp hy]; exact L.par) (fun h₁ hns hsb => ⟨I2.nolimit.fresh _ hsb, ?_⟩) L.kd)
          show codeAny _ _ (.expr body (LamX.lamEnv X scope s2.heap.objs.size f c')) _ _
          have kp : ∀ d o, s2.heap.get? d = some o → h₁.get? d = some o := fun d o ed => hsb.extBut d o (Nat.ne_of_lt (Heap.lt_size ed)) (Heap.get?_push_of_some _ ed)
          have J := lam_enter (E := XN) (f := f) (c' := c') (tk := s2.toks + ([(b, w)] : List (Str × Value)).length) I L e0 hr.hd hN hp rx (fun z c v e1 ⟨o, e2, e3⟩ => ⟨⟨o, (I2.bs c o (hcl z c o e1 e2)).1, e3⟩, (I2.bs c o (hcl z c o e1 e2)).2⟩) hns kp
          have rd : tM X.K W0 ml (σ.set p (some x2)) H2 Q := ⟨r2, ih2, env0.set p (some v2), hr2, (he0.mono hr2.pre).set hv2 p, by
            show PGen R X.K W0 (σ.set p (some x2)) r2 (lamB p ml env0 v2 ih2) Q
            rw [z]
            exact q2⟩
          refine PySem.W.kla_codeExpr (wpAny_mono ((hbody _ _ s2 H2 (hr.deeper _)).run [] _ _ H2 Q J rd) (fun v s' hq => ?_) fun e' s' hq => hq)
          obtain ⟨w', H', J', rv', q'⟩ := hq
          exact ⟨w', H', J'.os, J'.bare, J'.base, J'.hok, rv', q'⟩
        refine wpAny_call (codeAny_mono rc fun res s' hq => ?_)
        cases res with
        | error e' => exact passes_call (E := XN) takes_none (fun _ _ _ _ h => h) pinsZ σZ H2 s2 e' s' I2 hq
        | ok fl =>
          cases fl with
          | ret u => exact I2.after hq
          | next => exact False.elim hq
          | brk => exact False.elim hq
          | cont => exact False.elim hq
    · exact q.elim
  · exact q.elim
end
theorem RO.stays {K : PySem.W.Frag} {r : List Addr} {H H2 : Hp} {a : Addr} {o : MO} (h : RO K r H a o) (e : LamX.ExtN H H2) : RO K r H2 a o := by
  cases o with
  | lst xs => obtain ⟨ys, h1, h2⟩ := h; exact ⟨ys, e _ _ h1 (fun ps z => nomatch z), h2⟩
  | tup xs => obtain ⟨ys, h1, h2⟩ := h; exact ⟨ys, e _ _ h1 (fun ps z => nomatch z), h2⟩
  | ro xs =>
    obtain ⟨ys, h1, h2⟩ := h
    rcases h1 with ⟨o, h1⟩ | h1
    · exact ⟨ys, .inl ⟨o, e _ _ h1 (fun ps z => nomatch z)⟩, h2⟩
    · exact ⟨ys, .inr h1, h2⟩
  | rot xs => exact h
  | dct => obtain ⟨kvs, h1⟩ := h; exact ⟨kvs, e _ _ h1 (fun ps z => nomatch z)⟩
  | dk kvs => obtain ⟨ys, h1, h2⟩ := h; exact ⟨ys, e _ _ h1 (fun ps z => nomatch z), h2⟩
  | clo => trivial
  | fn e' j =>
    intro D hD
    obtain ⟨c, h1, h2⟩ := h D hD
    exact ⟨c, e _ _ h1 (fun ps z => by unfold LamO at z; cases z), e _ _ h2 (fun ps z => by unfold LamX.CodeO at z; cases z)⟩
/-- the closure at f is an object of the mirror, too -/
theorem Rel.lam {K : PySem.W.Frag} {r : List Addr} {ih : IH} {H H2 : Hp} {f c' : Addr} {q : Str} (h : Rel K r ih H) (e : LamX.ExtN H H2) (t : LamX.Tabs TabT.T H2) (hc : H2 c' = some (LamX.CodeO c' q)) :
    @Rel _ ⟨r ++ [f], (c', q) :: LamT.cs, LamT.fn⟩ K (r ++ [f]) (ih ++ [.clo]) H2 := by
  have low : ∀ {n : Nat} {b : Addr} {o : MO}, (r ++ [f])[n]? = some b → (ih ++ [MO.clo])[n]? = some o → (r[n]? = some b ∧ ih[n]? = some o) ∨ o = .clo := fun {n b o} e1 e2 => by
    by_cases hn : n < r.length
    · rw [List.getElem?_append_left hn] at e1
      rw [List.getElem?_append_left (by rw [← h.len]; exact hn)] at e2
      exact .inl ⟨e1, e2⟩
    · right
      rw [List.getElem?_append_right (by rw [← h.len]; omega)] at e2
      cases hz : n - ih.length with
      | zero => rw [hz] at e2; exact (Option.some.inj e2).symm
      | succ j => rw [hz] at e2; cases e2
  refine @Rel.mk _ ⟨r ++ [f], (c', q) :: LamT.cs, LamT.fn⟩ _ _ _ _ (by rw [List.length_append, List.length_append, h.len]; rfl) (fun n a o e1 e2 => ?_) (fun n m a o u e1 e2 e3 e4 s1 s2 => ?_) t (pre_refl _) (fun p hp => ?_) (fun n e j g => ?_) (fun e j g => h.top e j (by rw [List.length_append] at g; omega))
  · rcases low e1 e2 with ⟨g1, g2⟩ | g
    · exact ((h.get n a o g1 g2).stays e).mono ⟨[f], rfl⟩
    · subst g
      trivial
  · rcases low e1 e3 with ⟨g1, g3⟩ | g
    · rcases low e2 e4 with ⟨g2, g4⟩ | g
      · exact h.inj n m a o u g1 g2 g3 g4 s1 s2
      · subst g
        cases s2
    · subst g
      cases s1
  · rcases List.mem_cons.mp hp with z | z
    · subst z
      exact hc
    · refine e _ _ (h.cod p z) fun ps y => ?_
      unfold LamX.CodeO at y
      cases y
  · by_cases hn : n < ih.length
    · rw [List.getElem?_append_left hn] at g
      exact h.ep n e j g
    · rw [List.getElem?_append_right (by omega)] at g
      cases hz : n - ih.length with
      | zero => rw [hz] at g; cases g
      | succ m => rw [hz] at g; cases g
theorem Rel.back {K : PySem.W.Frag} {r r' : List Addr} {ih' : IH} {H' : Hp} {f c' : Addr} {q : Str} (h : @Rel _ ⟨r ++ [f], (c', q) :: LamT.cs, LamT.fn⟩ K r' ih' H') (hp : LamT.r0 <+: r) : Rel K r' ih' H' := by
  obtain ⟨g1, g2, g3, g4, g5, g6, g7, g8⟩ := h
  exact ⟨g1, g2, g3, g4, hp.trans (pre_trans ⟨[f], rfl⟩ g5), fun p z => g6 p (List.mem_cons_of_mem _ z), g7, g8⟩
omit [LamT] in
/-- a def that is handed a lambda as its last argument -/
structure DfL (P : Program) (w : World) (K : PySem.W.Frag) (mg : Str → Option Value) (base : Heap) (k : Nat) (x : Str) (n N : Nat) (mb : Nat → (IV → IH → Res IV) → Env → IH → RS) : Prop where
  ex : ∃ (g : Addr) (qual : Str) (pg : Arguments) (bg : List Stmt) (sg : Scope) (dV kV doc pm cdv ct oc : Value) (an od : Option Addr) (osl : Array (Option Value)) (Ng ps : List Str) (a : Str),
    (ps.length = n + 1 ∧ Ng.length = N ∧ mg x = some (.ref g) ∧ PySem.W.keepIn K (.ref g) = true) ∧
    (K.lookup g = some ⟨oc, od, .func (PySem.W.fnOf x qual pg bg sg dV kV doc pm an cdv ct), osl⟩ ∧ PySem.W.codeIn K cdv qual = true ∧ Binds K (PySem.W.fnOf x qual pg bg sg dV kV doc pm an cdv ct) ps []) ∧
    (FnScope Ng ps sg ∧ Ng[n]? = some a ∧ Vis sg a ∧ (a == ("__debug__" : Str)) = false ∧ (a == ("__classdict__" : Str)) = false) ∧
    ∀ (I : LamT) (base2 : Heap) (A : Around) (outer : List PySem.Env) (s : Shared) (H : Hp) (m : Nat) (lam : IV → IH → Res IV), Room k (A.deeper (envOfC qual sg s.heap.objs.size g cdv)) →
      @ActOk _ I (cxOf (L2.CX P w) P w K mg base2 Ng qual sg g cdv A outer s H XN) n m a lam → PSs (cxOf (L2.CX P w) P w K mg base2 Ng qual sg g cdv A outer s H XN) bg (@tMS _ I K W0 (mb m lam))
section
variable {P : Program} {w : World} {K : PySem.W.Frag} {mg : Str → Option Value} {base : Heap} {k n : Nat} {x qual a : Str} {st : Stmt} {f : Addr} {fd : FuncData} {N ps : List Str}
omit [LamT] in
theorem dfL {mb : Nat → (IV → IH → Res IV) → Env → IH → RS} (F : FunD K x qual (defArgs st) (defBody st) (defScope st) [] [] f fd) (S : FnScope N ps (defScope st)) (hm : mg x = some (.ref f)) (hn : ps.length = n + 1) (ha : N[n]? = some a) (hv : Vis (defScope st) a)
    (h : ∀ (kV doc pm : Value) (an : Option Addr) (cdv ct : Value) (us : List Value), us.length = ps.length → bindArgs (PySem.W.fnOf x qual (defArgs st) (defBody st) (defScope st) .none kV doc pm an cdv ct) ⟨us, []⟩ = pure (ps.zip us))
    (hbody : ∀ (I : LamT) (base2 : Heap) (cdv : Value) (A : Around) (outer : List PySem.Env) (s : Shared) (H : Hp) (m : Nat) (lam : IV → IH → Res IV), Room k (cxOf (L2.CX P w) P w K mg base2 N qual (defScope st) f cdv A outer s H XN).A →
      Takes (cxOf (L2.CX P w) P w K mg base2 N qual (defScope st) f cdv A outer s H XN) W0 →
      PassesOwn (model P w) (cxOf (L2.CX P w) P w K mg base2 N qual (defScope st) f cdv A outer s H XN).A (cxOf (L2.CX P w) P w K mg base2 N qual (defScope st) f cdv A outer s H XN).env (cxOf (L2.CX P w) P w K mg base2 N qual (defScope st) f cdv A outer s H XN).xe →
      (cxOf (L2.CX P w) P w K mg base2 N qual (defScope st) f cdv A outer s H XN).A.units + 64 < cLine →
      @ActOk _ I (cxOf (L2.CX P w) P w K mg base2 N qual (defScope st) f cdv A outer s H XN) n m a lam → PSs (cxOf (L2.CX P w) P w K mg base2 N qual (defScope st) f cdv A outer s H XN) (defBody st) (@tMS _ I K W0 (mb m lam)))
    (hd : (a == ("__debug__" : Str)) = false := by decide) (hcd : (a == ("__classdict__" : Str)) = false := by decide) : DfL P w K mg base k x n N.length mb := by
  have hB := F.bindsN h
  obtain ⟨oc, od, dV, kV, doc, pm, an, cdv, ct, osl, rfl, lk, hc, hD, hK⟩ := F.ex
  exact ⟨f, qual, defArgs st, defBody st, defScope st, dV, kV, doc, pm, cdv, ct, oc, an, od, osl, N, ps, a, ⟨hn, rfl, hm, F.kp⟩, ⟨lk, hc, hB⟩, ⟨S, ha, hv, hd, hcd⟩, fun I base2 A outer s H m lam hr act => hbody I base2 cdv A outer s H m lam hr takes_none (passes_of rfl) (by
    have hu := hr.un
    show (A.deeper (envOfC qual (defScope st) s.heap.objs.size f cdv)).units + 64 < cLine
    omega) act⟩
/-- a def that makes lambdas: its code object is known -/
theorem df0M {c : Addr} {mb : Env → IH → RS} (F : FunD K x qual (defArgs st) (defBody st) (defScope st) [] [] f fd) (hc : fd.code = .ref c) (S : FnScope N ps (defScope st)) (hm : mg x = some (.ref f))
    (h : ∀ (kV doc pm : Value) (an : Option Addr) (cdv ct : Value) (us : List Value), us.length = ps.length → bindArgs (PySem.W.fnOf x qual (defArgs st) (defBody st) (defScope st) .none kV doc pm an cdv ct) ⟨us, []⟩ = pure (ps.zip us))
    (hbody : ∀ (A : Around) (outer : List PySem.Env) (s : Shared) (H : Hp) (E : XK), Room k (cxOf (L2.CX P w) P w K mg base N qual (defScope st) f (.ref c) A outer s H E).A →
      Takes (cxOf (L2.CX P w) P w K mg base N qual (defScope st) f (.ref c) A outer s H E) (fun cls d _ H => E cls d H) →
      PassesOwn (model P w) (cxOf (L2.CX P w) P w K mg base N qual (defScope st) f (.ref c) A outer s H E).A (cxOf (L2.CX P w) P w K mg base N qual (defScope st) f (.ref c) A outer s H E).env (cxOf (L2.CX P w) P w K mg base N qual (defScope st) f (.ref c) A outer s H E).xe →
      (cxOf (L2.CX P w) P w K mg base N qual (defScope st) f (.ref c) A outer s H E).A.units + 64 < cLine →
      PSs (cxOf (L2.CX P w) P w K mg base N qual (defScope st) f (.ref c) A outer s H E) (defBody st) (tMS K (fun cls d _ H => E cls d H) mb)) : Df P w K mg base (k + 1) x ps.length [] (defRun N.length mb) := by
  refine ⟨fun _ h => (nomatch h), f, fd, ps, rfl, hm, F.kp, ?_, fun j _ => ⟨[], by rw [List.drop_nil]; exact .nil, F.bindsN h⟩⟩
  obtain ⟨oc, od, dV, kV, doc, pm, an, cdv, ct, osl, rfl, lk, hcd, _, _⟩ := F.ex
  have hc' : cdv = .ref c := hc
  subst hc'
  refine fn_of lk hcd S (fun vs H Q E ⟨r, ih, args, e, _, rs, _⟩ => rs.length ▸ e) fun A outer s H vs Q E hr ⟨r, ih, args, e, hrel, rs, q⟩ => ⟨_, hbody A outer s H E hr (takes_of rfl rfl rfl rfl) (passes_of rfl) (by
    have hu := hr.un
    show (A.deeper (envOfC qual (defScope st) s.heap.objs.size f (.ref c))).units + 64 < cLine
    omega), r, ih, _, hrel, start_rel rs, ?_⟩
  unfold defRun at q
  cases z : mb (startI N.length args) ih with
  | ok fl ih2 =>
    rw [z] at q
    cases fl with
    | ret v => exact q
    | next env => exact fun r' H' σ' p hr' he' => q r' H' .non p hr' rfl
    | brk env => exact q.elim
    | cont env => exact q.elim
  | exc c env ih2 =>
    rw [z] at q
    exact fun r' H' σ' p hr' he' => q r' H' p hr'
  | stuck => rw [z] at q; exact q
end
/-- written arguments, one by one -/
inductive AL (X : Cx) (W : WX) : List Expr → (Env → IH → Res (List IV)) → Prop
  | nil : AL X W [] m_nil
  | cons {a : Expr} {es : List Expr} {ma : Env → IH → Res IV} {mr : Env → IH → Res (List IV)} (h : PE X a (tM X.K W ma)) (hs : ∀ rest, starEach (a :: rest) X.env = (false, eval a X.env) :: starEach rest X.env) (t : AL X W es mr) : AL X W (a :: es) (m_cons ma mr)
theorem AL.run {X : Cx} {W : WX} {es : List Expr} {m : Env → IH → Res (List IV)} (h : AL X W es m) {le : Expr} (hle : starEach [le] X.env = [(false, eval le X.env)]) : ∀ {pos : Pos} {pins : List (Addr × Obj)} {s : Shared} {σ : L2.St} {H : Hp} {r : List Addr} {ih : IH} {env : Env} {Q : List Value → Shared → Prop},
    L2.Inv X pins σ H s → Rel X.K r ih H → REnv r env σ → (match m env ih with
      | .ok vs ih1 => ∀ r1 H1 zs us s1, r <+: r1 → Rel X.K r1 ih1 H1 → Rs r1 vs zs → Vals zs us → L2.Inv X pins σ H1 s1 → wpAny (model X.prog X.w) X.A (eval le X.env) (fun w s2 => Q (us ++ [w]) s2) X.xe s1
      | .exc c ih1 => ∀ r1 H1, r <+: r1 → Rel X.K r1 ih1 H1 → W (.ref c) none σ H1
      | .stuck => False) → wpAny (model X.prog X.w) X.A (spliced (backTo pos (starEach (es ++ [le]) X.env))) Q X.xe s := by
  induction h with
  | nil =>
    intro pos pins s σ H r ih env Q I hr he k
    have k' : ∀ r1 H1 zs us s1, r <+: r1 → Rel X.K r1 ih H1 → Rs r1 [] zs → Vals zs us → L2.Inv X pins σ H1 s1 → wpAny (model X.prog X.w) X.A (eval le X.env) (fun w s2 => Q (us ++ [w]) s2) X.xe s1 := k
    rw [List.nil_append, hle]
    show wpAny _ _ (spliced [(false, eval le X.env)]) _ _ s
    exact Calls.spliced_cons (thn (k' r H [] [] s (pre_refl r) hr .nil .nil I) fun w s2 hq => Calls.spliced_nil hq)
  | @cons a es ma mr h hs t iht =>
    intro pos pins s σ H r ih env Q I hr he k
    rw [List.cons_append, hs]
    show wpAny _ _ (spliced ((false, eval a X.env) :: backTo pos (starEach (es ++ [le]) X.env))) _ _ s
    unfold m_cons at k
    have rd : tG R X.K W ma σ H (Got R X.K r fun r1 ih1 v => ∀ {s1 : Shared} {H1 : Hp} {w1 : Value} {x1 : V}, Rel X.K r1 ih1 H1 → R r1 v x1 → RelV x1 w1 → L2.Inv X pins σ H1 s1 → wpAny (model X.prog X.w) X.A (spliced (backTo pos (starEach (es ++ [le]) X.env))) (fun us s2 => Q (w1 :: us) s2) X.xe s1) := by
      refine ⟨r, ih, env, hr, he, ?_⟩
      cases e : ma env ih with
      | stuck => rw [e] at k; exact k
      | exc c ih1 => rw [e] at k; exact fun r1 H1 p1 q1 => k r1 H1 p1 q1
      | ok v ih1 =>
        rw [e] at k
        refine fun r1 H1 u p1 q1 hv => ⟨r1, ih1, v, p1, q1, hv, fun {s1 H1' w1 x1} hrel hv1 rv1 I1 => ?_⟩
        refine iht I1 hrel (he.mono p1) ?_
        have k2 := k
        simp only [Res.bind_ok] at k2
        cases e2 : mr env ih1 with
        | stuck => rw [e2] at k2; exact k2
        | exc c ih2 => rw [e2] at k2; exact fun r2 H2 p2 q2 => k2 r2 H2 (pre_trans p1 p2) q2
        | ok vs ih2 =>
          rw [e2] at k2
          exact fun r2 H2 zs us s2 p2 q2 hvs rvs I2 => k2 r2 H2 (x1 :: zs) (w1 :: us) s2 (pre_trans p1 p2) q2 (.cons (hv1.mono p2) hvs) (.cons rv1 rvs) I2
    refine Calls.spliced_cons (thn (h.run pins s σ H _ I rd) fun w1 s1 ⟨x1, H1, I1, rv1, r1, ih1, v, p1, hr1, hv1, q1⟩ => q1 hr1 hv1 rv1 I1)
section
variable {X : Cx} {W : WX} {k n N p : Nat} {x b : Str} {mb : Nat → (IV → IH → Res IV) → Env → IH → RS} {es : List Expr} {ma : Env → IH → Res (List IV)} {ml : Env → IH → Res IV} {params : Arguments} {body : Expr} {scope : Scope} {np lpos pos : Pos} {c P : Addr}
/-- what the making of a lambda asks of its maker -/
structure MkL (base : Heap) (mg : Str → Option Value) (c P : Addr) (q : Str) : Prop where
  tb : LamX.TabB base mg c P
  mem : (P, q) ∈ TabT.T
  one : ∀ z ∈ TabT.T, z.1 = P → z.2 = q
theorem lm_callL (D : DfL X.prog X.w X.K X.mg X.base (k + 1) x n N mb) (hr : Room (k + 2) X.A) (hg : Gl X x) (ha : AL X W es ma) (tk : Takes X W) (M : MkL X.base X.mg c P (X.env.qual ++ "<lambda>")) (hcode : X.env.code = .ref c) (L : LamP X.env.scope scope b) (hN : X.N.Nodup) (hp : X.N[p]? = some b)
    (hdef : defaultsOf params X.env = ([], [])) (hbind : ∀ (q : Str) (cl : List (Str × Addr)) (pm cv ctv v : Value), bindArgs (PySem.W.kla_fn "<lambda>" q params body scope cl pm cv ctv) ⟨[v], []⟩ = pure [(b, v)]) (hen : es.length = n)
    (hlam : ∀ (I : LamT) (A : Around) (outer : List PySem.Env) (s : Shared) (H : Hp) (f c' : Addr), Room k (A.deeper (LamX.lamEnv X scope s.heap.objs.size f c')) → PE (LamX.lamCx X A outer s H XN scope f c') body (@tM _ I X.K W0 ml))
    (hfnA : ∀ z, X.fn z = true := by intro _; rfl) (hle : starEach [.Lambda params body scope lpos] X.env = [(false, eval (.Lambda params body scope lpos) X.env)] := by rfl) (hdb : (x == ("__debug__" : Str)) = false := by decide)
    (hpl : ∀ {first : Expr} {rest : List Expr}, es ++ [.Lambda params body scope lpos] = first :: rest → starEach (first :: rest) X.env = (false, eval first X.env) :: starEach rest X.env ∧ (backTo pos (starEach rest X.env)).any (·.1) = false) :
    PE X (.Call (.Name x np) (es ++ [.Lambda params body scope lpos]) [] pos) (tM X.K W (m_callL (fun m lam => defRun N (mb m lam)) (lamB p ml) ma)) := by
  obtain ⟨g, qual, pg, bg, sg, dV, kV, doc, pm, cdv, ct, oc, an, od, osl, Ng, ps, a, ⟨hps, hNg, hm, hk⟩, ⟨lk, hcd, hB⟩, ⟨Sg, hNa, hva, hda, hca⟩, hbody⟩ := D.ex
  refine ⟨fun pins s σ H Q I ⟨r, ih, env, hrl, he, q⟩ => ?_⟩
  refine wpAny_Call_Name_kw (ld_glob I hg hm ?_ hdb)
  obtain ⟨first, rest, hfr⟩ : ∃ first rest, es ++ [Expr.Lambda params body scope lpos] = first :: rest := by
    cases es with
    | nil => exact ⟨_, _, rfl⟩
    | cons e es => exact ⟨_, _, rfl⟩
  obtain ⟨hs1, hs2⟩ := hpl hfr
  have run := ha.run hle (pos := pos) (Q := fun us s1 => X.K.In s1.heap ∧ wpAny (model X.prog X.w) X.A (call (.ref g) us) (EP X pins σ Q) X.xe s1) I hrl he ?_
  · rw [hfr] at run ⊢
    exact PySem.W.callWith_K (h₀ := X.base) I.ok.mod.kin hk run hs1 hs2
  unfold m_callL at q
  cases em : ma env ih with
  | stuck => rw [em] at q; exact q.elim
  | exc cc ih1 => rw [em] at q; exact fun r1 H1 p1 q1 => q r1 H1 p1 q1
  | ok vs ih1 =>
    rw [em] at q
    simp only [Res.bind_ok] at q
    intro r1 H1 zs us s1 p1 hr1 hvs rvs I1
    refine LamX.lam_make2 I1 M.tb hcode M.mem M.one hr1.tab hdef (L.has I.ok) fun f c' pm' ctv H2 s2 I2 eN T2 hf hfn hfo hco => ⟨I2.kIn, ?_⟩
    have hrel := hr1.lam (f := f) eN T2 hco
    have hnf : (r1 ++ [f])[ih1.length]? = some f := by
      rw [← hr1.len, List.getElem?_append_right (Nat.le_refl _), Nat.sub_self]
      rfl
    have lus : (us ++ [Value.ref f]).length = ps.length := by
      rw [List.length_append, hps, ← rvs.length, ← hvs.length, ← hen]
      have : vs.length = es.length := by
        have key : ∀ {es : List Expr} {ma : Env → IH → Res (List IV)}, AL X W es ma → ∀ {env : Env} {ih ih1 : IH} {vs : List IV}, ma env ih = .ok vs ih1 → vs.length = es.length := by
          intro es ma h
          induction h with
          | nil => intro env ih ih1 vs e; cases e; rfl
          | @cons a es ma mr h hs t iht =>
            intro env ih ih1 vs e
            unfold m_cons at e
            cases e1 : ma env ih with
            | stuck => rw [e1] at e; cases e
            | exc c ih2 => rw [e1] at e; cases e
            | ok v ih2 =>
              rw [e1] at e
              simp only [Res.bind_ok] at e
              cases e2 : mr env ih2 with
              | stuck => rw [e2] at e; cases e
              | exc c ih3 => rw [e2] at e; cases e
              | ok ws ih3 =>
                rw [e2] at e
                simp only [Res.bind_ok] at e
                cases e
                rw [List.length_cons, List.length_cons, iht e2]
        exact key ha em
      rw [this]
      rfl
    obtain ⟨PK, hPK⟩ : ∃ P : Addr → Prop, P = fun b => (∃ o, X.base.get? b = some o) ∨ b = f ∨ ∃ z, X.env.cells.lookup z = some b := ⟨_, rfl⟩
    have pk1 : ∀ b o, X.base.get? b = some o → PK b := fun b o z => by rw [hPK]; exact .inl ⟨o, z⟩
    have pk2 : PK f := by rw [hPK]; exact .inr (.inl rfl)
    have pk3 : ∀ z c, X.env.cells.lookup z = some c → PK c := fun z c e => by rw [hPK]; exact .inr (.inr ⟨z, e⟩)
    have hb2 : ∀ b o, X.base.get? b = some o → (keepH s2.heap PK).get? b = some o := fun b o z => by rw [keepH_in (pk1 b o z)]; exact I2.bk b o z
    have e02 : Env0 X.prog X.w X.K X.mg (keepH s2.heap PK) X.A X.stack s2 H2 := by
      have e0 := I2.env0
      refine ⟨e0.frames, mod_keeps e0.mod hb2, fun b o z => ?_, Nat.le_of_eq keepH_size, funs_base e0.funs fun L hL hn => ?_, e0.frf, e0.hok, e0.bare⟩
      · obtain ⟨z1, z2⟩ := keepH_sub z
        refine ⟨z2, ?_⟩
        rw [hPK] at z1
        rcases z1 with ⟨o', z1⟩ | z1 | ⟨y, z1⟩
        · exact (e0.bs b o' z1).2
        · rw [z1]; exact hfn
        · exact I2.freeC y b z1
      · refine keepH_out fun z1 => ?_
        rw [hPK] at z1
        rcases z1 with ⟨o', z1⟩ | z1 | ⟨y, z1⟩
        · rw [hn] at z1; cases z1
        · rw [z1] at hL; exact hfo hL
        · rcases List.mem_cons.mp (I2.stkSub L hL) with z2 | z2
          · exact I2.cne y L z1 z2
          · obtain ⟨_, o, ho, _⟩ := I2.ok.funs.mem z2
            exact absurd (Nat.lt_of_lt_of_le (Heap.lt_size ho) (I2.ok.cab y L (hfnA y) z1)) (Nat.lt_irrefl _)
    have rc : codeAny (model X.prog X.w) X.A (.call (.ref g) ⟨us ++ [.ref f], []⟩) (CR (L2.CX X.prog X.w) X.stack X.prog X.w H2 s2 Q XN) s2 := by
      refine LamX.run_ofS (N := Ng) (ps := ps) (us := us ++ [.ref f]) (vs := zs ++ [.ref f]) lk hcd Sg hr e02 (by have hb := hB s2 (us ++ [.ref f]) I2.kIn (by rw [List.append_nil]; exact lus); rw [List.append_nil] at hb; exact hb) (rvs.append (.cons (show RelV (.ref f) (.ref f) from rfl) .nil)) (by rw [List.length_append, rvs.length]; rw [List.length_append] at lus; exact lus) fun hr' => ?_
      have act := @act_ok _ ⟨r1 ++ [f], (c', X.env.qual ++ "<lambda>") :: LamT.cs, LamT.fn⟩ X pins σ H2 s2 (keepH s2.heap PK) Ng qual sg g f c' cdv pm' ctv params body scope k n ih1.length p a b ml env I2 L hN hp (he.mono (pre_trans p1 ⟨[f], rfl⟩)) hnf List.mem_cons_self (by rw [keepH_in pk2]; exact hf) (fun z c o e1 e2 => by rw [keepH_in (pk3 z c e1)]; exact e2) hb2 (by rw [keepH_size]; exact Nat.le_trans I2.ok.bsz I2.sz) (hbind _ _ _ _ _) hr'
        (fun A outer s' H' hr2 => hlam _ A outer s' H' f c' hr2) hNa hda hca
      refine ⟨_, hbody ⟨r1 ++ [f], (c', X.env.qual ++ "<lambda>") :: LamT.cs, LamT.fn⟩ (keepH s2.heap PK) X.A X.stack s2 H2 ih1.length (lamB p ml env) hr' act, r1 ++ [f], ih1 ++ [.clo], startI N (vs ++ [.ref ih1.length]), hrel, ?_, ?_⟩
      · rw [← hNg]
        exact start_rel ((hvs.mono ⟨[f], rfl⟩).append (.cons ⟨f, hnf, rfl⟩ .nil))
      · unfold defRun at q
        cases z : mb ih1.length (lamB p ml env) (startI N (vs ++ [.ref ih1.length])) (ih1 ++ [.clo]) with
        | stuck => rw [z] at q; exact q
        | exc cc env2 ih2 => rw [z] at q; exact q.elim
        | ok fl ih2 =>
          rw [z] at q
          cases fl with
          | ret v => exact fun r' H' u p' hr' hv' => q r' H' u (pre_trans p1 (pre_trans ⟨[f], rfl⟩ p')) (hr'.back hr1.pre) hv'
          | next env2 => exact fun r' H' σ' p' hr' he' => q r' H' .non (pre_trans p1 (pre_trans ⟨[f], rfl⟩ p')) (hr'.back hr1.pre) rfl
          | brk env2 => exact q.elim
          | cont env2 => exact q.elim
    have hx : Passes (L2.CX X.prog X.w) X XN := passes_call tk fun _ _ _ _ h => h.elim
    refine wpAny_call (codeAny_mono rc fun res s' hq => ?_)
    cases res with
    | error e' => exact hx pins σ H2 s2 e' s' I2 hq
    | ok fl =>
      cases fl with
      | ret u => exact I2.after hq
      | next => exact False.elim hq
      | brk => exact False.elim hq
      | cont => exact False.elim hq
end
end L3
/-! L3r: the law's promise, where tables of code objects are about. -/
namespace L3
variable [TabT] [LamT]
open PySem PySem.Spec PyProof.Rows L2

/-- the law's promise: True of every script; the tables at Ps are empty at first -/
def spLawT (K : PySem.W.Frag) (Ps : List Addr) : Sp := fun vs H Q _ => ∃ (a : Addr) (ns : List Int), vs = [.ref a] ∧ ns.length ≤ 63 ∧ (∀ z ∈ ns, Builtin.Int.intBits z ≤ 1048576) ∧ (∀ P ∈ Ps, H P = some (.tbl #[])) ∧ SqL K H a (ns.map V.int) ∧ ∀ H', Q (.bl true) H'
section
variable {P : Program} {w : World} {K : PySem.W.Frag} {mg : Str → Option Value} {base : Heap} {k : Nat} {f a : Addr} {fd : FuncData} {m : List IV → IH → Res IV} {H : Hp} {ys : List V} {o : Obj} {Ps : List Addr}
theorem frz_env {A : Around} {outer : List PySem.Env} {s : Shared} (e0 : Env0 P w K mg base A outer s H) (h : H a = some (.lst ys)) (ho : s.heap.get? a = some o) : Env0 P w K mg base A outer s (upd H a (.frz o (.lst ys))) := by
  have off : ∀ {b : Addr}, H b = none → b ≠ a := fun {b} e z => by rw [z, h] at e; cases e
  refine ⟨e0.frames, e0.mod, fun b u e => ⟨(e0.bs b u e).1, (upd_ne (off (e0.bs b u e).2)).trans (e0.bs b u e).2⟩, e0.bsz, e0.funs, fun b e => (upd_ne (off (e0.frf b e))).trans (e0.frf b e), fun b u e => ?_, e0.bare⟩
  have own : ∀ {c d : Addr}, H c = some (.own d) → upd H a (.frz o (.lst ys)) c = some (.own d) := fun {c d} z => (upd_ne (ne_of z h fun y => nomatch y)).trans z
  have tup : ∀ {c : Addr} {xs : List V}, H c = some (.tup xs) → upd H a (.frz o (.lst ys)) c = some (.tup xs) := fun {c xs} z => (upd_ne (ne_of z h fun y => nomatch y)).trans z
  by_cases hb : b = a
  · subst hb
    rw [upd_same] at e
    cases e
    exact ⟨ho, (e0.hok b _ h).stay (fun _ _ _ q => q) (fun _ q => own q) fun _ _ q => tup q⟩
  · rw [upd_ne hb] at e
    exact (e0.hok b u e).stay (fun _ _ _ q => q) (fun _ q => own q) fun _ _ q => tup q
theorem frz_back {outer : List PySem.Env} {s s' : Shared} {Q : VK} {u : Value} (h : H a = some (.lst ys)) (e : CE outer P w (upd H a (.frz o (.lst ys))) s Q u s') : CE outer P w H s Q u s' := by
  obtain ⟨v, H', os, bare, un, hok, rv, q⟩ := e
  have off : ∀ {b : Addr}, H b = none → upd H a (.frz o (.lst ys)) b = none := fun {b} e => (upd_ne (fun z => by rw [z, h] at e; cases e)).trans e
  refine ⟨v, H', os, bare, ⟨fun b x g n => un.keep b x g (off n), fun b x g n => un.slot b x g (off n), fun b x g n => un.free b x g (off n), un.there, fun b xs z => ?_, fun b x y z => ?_, fun b ps z => ?_⟩, hok, rv, q⟩
  · exact un.tups b xs ((upd_ne (ne_of z h fun y => nomatch y)).trans z)
  · exact un.frzs b x y ((upd_ne (ne_of z h fun y => nomatch y)).trans z)
  · exact un.tbls b ps ((upd_ne (ne_of z h fun y => nomatch y)).trans z)
/-- the mirror's heap at the law's start -/
theorem rel_law {ns : List Int} (hr0 : LamT.r0 = [] ∧ LamT.cs = [] ∧ ∀ e j, LamT.fn e j = none) (hT : ∀ p ∈ TabT.T, H p.1 = some (.tbl #[])) (h : (∃ o, H a = some (.frz o (.lst (ns.map V.int)))) ∨ SqL K (fun _ => none) a (ns.map V.int)) : Rel K [a] [.ro (ns.map IV.int)] H := by
  refine ⟨rfl, fun n b o e1 e2 => ?_, fun n k b o u e1 e2 e3 e4 s1 s2 => ?_, fun p hp => LamX.TabS.nil (hT p hp), (by rw [hr0.1]; exact List.nil_prefix), (by rw [hr0.2.1]; exact fun p hp => nomatch hp), (fun n e j g => by
    cases n with
    | zero => cases g
    | succ n => cases g), (fun e j _ => hr0.2.2 e j)⟩
  · cases n with
    | succ n => cases e1
    | zero =>
      cases e1
      cases e2
      exact ⟨ns.map V.int, h, Rs.flats_mk (f := IV.int) (g := V.int) (fun _ => rfl) ns⟩
  · cases n with
    | succ n => cases e1
    | zero =>
      cases e3
      cases s1
theorem fn_lawT (hr0 : LamT.r0 = [] ∧ LamT.cs = [] ∧ ∀ e j, LamT.fn e j = none) (hP : ∀ p ∈ TabT.T, p.1 ∈ Ps) (F : FnOk P w K mg base (L2.CX P w) k f fd ["script"] (spM K 1 m))
    (h : ∀ ns : List Int, ns.length ≤ 63 → (∀ z ∈ ns, Builtin.Int.intBits z ≤ 1048576) → ∃ ih, m [.ref 0] [.ro (ns.map IV.int)] = .ok (.bl true) ih) : FnOk P w K mg base (L2.CX P w) k f fd ["script"] (spLawT K Ps) := by
  refine ⟨fun vs H Q E ⟨a, ns, e, _⟩ => by rw [e]; rfl, fun A outer s H args us vs Q E hr e0 hb hv ⟨a, ns, e, h1, h2, hT, hS, q⟩ => ?_⟩
  subst e
  obtain ⟨ih, hm⟩ := h ns h1 h2
  have sp : ∀ {H2 : Hp}, (∀ p ∈ TabT.T, H2 p.1 = some (.tbl #[])) → ((∃ o, H2 a = some (.frz o (.lst (ns.map V.int)))) ∨ SqL K (fun _ => none) a (ns.map V.int)) → spM K 1 m [.ref a] H2 Q XN := fun {H2} t z =>
    ⟨[a], _, [.ref 0], rfl, rel_law hr0 t z, .cons ⟨a, rfl, rfl⟩ .nil, by
      rw [hm]
      exact fun r' H' u p hr hv => by
        obtain rfl : u = .bl true := hv
        exact q H'⟩
  have noX : ∀ {H2 : Hp} {e : Value} {s' : Shared}, L2.CX P w outer H2 s XN e s' → False := fun {H2 e s'} z => by
    obtain ⟨_, _, _, _, _, _, _, _, _, _, _, _, z⟩ := z
    exact z
  have conv : ∀ {H2 : Hp} {r : Result} {s' : Shared}, (∀ {u : Value} {s' : Shared}, CE outer P w H2 s Q u s' → CE outer P w H s Q u s') → CR (L2.CX P w) outer P w H2 s Q XN r s' → CR (L2.CX P w) outer P w H s Q E r s' := fun {H2 r s'} c z => by
    cases r with
    | error e => exact (noX z).elim
    | ok fl =>
      cases fl with
      | ret u => exact c z
      | next => exact z
      | brk => exact z
      | cont => exact z
  have hT' : ∀ p ∈ TabT.T, H p.1 = some (.tbl #[]) := fun p hp => hT _ (hP p hp)
  rcases hS with (z | z) | z
  · obtain ⟨zl, its, n, rv, ho⟩ := e0.hok a _ z
    exact codeAny_mono (F.run A outer s _ args us _ Q XN hr (frz_env e0 z ho) hb hv (sp (fun p hp => (upd_ne (ne_of (hT' p hp) z fun y => nomatch y)).trans (hT' p hp)) (.inl ⟨_, upd_same⟩))) fun r s' hq => conv (fun {u s'} c => frz_back z c) hq
  · exact codeAny_mono (F.run A outer s H args us _ Q XN hr e0 hb hv (sp hT' (.inl z))) fun r s' hq => conv (fun {u s'} c => c) hq
  · exact codeAny_mono (F.run A outer s H args us _ Q XN hr e0 hb hv (sp hT' (.inr (.inr z)))) fun r s' hq => conv (fun {u s'} c => c) hq
end
end L3
/-! L3s: min(xs, default=None). -/
namespace L3
variable [TabT] [LamT]
open PySem PySem.Spec PyProof.Rows L2

def f_minD (x : IV) (ih : IH) : Res IV := match x with
  | .ref n => match ih[n]? with
    | some (.lst xs) => match ints? xs with
      | some [] => .ok .non ih
      | some (a :: r) => .ok (.int (minI (a :: r))) ih
      | none => .stuck
    | _ => .stuck
  | _ => .stuck
theorem foldl_minI (a : Int) : ∀ r : List Int, r.foldl min a = minI (a :: r)
  | [] => rfl
  | b :: r => by
    rw [List.foldl_cons, foldl_minI]
    cases r with
    | nil => rfl
    | cons c r =>
      show min (min a b) (minI (c :: r)) = min a (min b (minI (c :: r)))
      omega
theorem reads_intsD {h : Heap} : ∀ {its : List Value} {ns : List Int}, Vals (ns.map V.int) its → ReadsAll h its (ns.map PyData.int) []
  | its, [], r => by cases r; exact .nil
  | its, n :: ns, r => by
    cases r with
    | cons a b =>
      obtain ⟨t, rfl⟩ := a
      exact .cons (.int n t) (reads_intsD b)
theorem alike_intsD (ns : List Int) : PySem.W.AlikeAll (ns.map PyData.int) := by
  refine ⟨fun x hx y hy => ?_, fun x hx e => ?_⟩
  · obtain ⟨a, _, rfl⟩ := List.mem_map.mp hx
    obtain ⟨b, _, rfl⟩ := List.mem_map.mp hy
    rfl
  · obtain ⟨a, _, rfl⟩ := List.mem_map.mp hx
    cases e
theorem depth_intsD : ∀ ns : List Int, PyData.depthAll (ns.map PyData.int) ≤ 2
  | [] => by decide
  | n :: ns => by
    have h := depth_intsD ns
    show max (PyData.depth (.int n)) (PyData.depthAll (ns.map PyData.int)) ≤ 2
    have h2 : PyData.depth (.int n) ≤ 2 := by unfold PyData.depth; decide
    omega
section
variable {X : Cx} {W : WX} {e : Expr} {ma : Env → IH → Res IV} {p pos kpos cpos : Pos} {j : Nat}
theorem lm_minD (hc : X.calm = true) (hu : X.A.units + 64 < cLine) (hg : Gl X "min") (hm : X.mg "min" = none) (h : PE X e (tM X.K W ma)) (hs : starEach [e] X.env = [(false, eval e X.env)] := by rfl) :
    PE X (.Call (.Name "min" p) [e] [⟨some "default", .Constant .none j cpos, kpos⟩] pos) (tM X.K W (m_un f_minD ma)) := by
  refine PE.of ⟨fun pins s σ H Q I q => ?_⟩ fun σ H Q h => h
  obtain ⟨r, ih, env, hr, he, q⟩ := q
  refine wpAny_Call_Name_kw (ld_blt I hg hm rfl ?_)
  refine callWith_kw ?_ (by rw [hs]; rfl) (by rw [hs]; rfl)
  rw [hs]
  refine Calls.spliced_cons (thn (h.run pins s σ H _ I (tG_bind hr he q)) fun u s1 ⟨x, H1, I1, rx, r1, ih1, v, p1, hr1, hv, q1⟩ => ?_)
  refine Calls.spliced_nil ?_
  refine thn ((pk_cons (X := X) (nm := some "default") (kpos := kpos) (pe_non (X := X)) pk_nil).run pos pins s1 σ H1 (fun vs H2 => vs = [.non] ∧ H2 = H1) I1 ⟨rfl, rfl⟩) fun us s2 ⟨vs, H2, I2, rv, e1, e2⟩ => ?_
  subst e1 e2
  obtain ⟨w, rfl⟩ : ∃ w, us = [w] := by
    cases rv with
    | cons a b => cases b; exact ⟨_, rfl⟩
  have hw : w = Value.none := by
    cases rv with
    | cons a b => exact a
  subst hw
  dsimp only at q1
  unfold f_minD at q1
  split at q1
  · rename_i n
    obtain ⟨a, ea, hx⟩ := hv
    subst hx
    obtain rfl : u = Value.ref a := rx
    split at q1
    · rename_i xs e3
      split at q1
      · rename_i e4
        obtain ⟨ys, h3, h4⟩ := hr1.get n a _ ea e3
        rw [ints?_of e4] at h4
        have hy := h4.flats fun _ _ => IV.noConfusion
        subst hy
        obtain ⟨its, rvs, hl, _⟩ := I2.list (.inl (.inl h3))
        exact PySem.W.min_list_default (I2.ok.hd hc) hl.isList (reads_intsD (ns := []) rvs) (alike_intsD []) (by have := depth_intsD []; omega) (fun _ h' tk hk => ⟨.non, H2, I2.kept hk, rfl, tG_end q1 hr1 rfl⟩) fun y ys i v h' tk bs z => by cases z
      · rename_i a0 r0 e4
        obtain ⟨ys, h3, h4⟩ := hr1.get n a _ ea e3
        rw [ints?_of e4] at h4
        have hy := h4.flats fun _ _ => IV.noConfusion
        subst hy
        obtain ⟨its, rvs, hl, _⟩ := I2.list (.inl (.inl h3))
        refine PySem.W.min_list_default (I2.ok.hd hc) hl.isList (reads_intsD (ns := a0 :: r0) rvs) (alike_intsD (a0 :: r0)) (by have := depth_intsD (a0 :: r0); omega) (fun z => by cases z) fun y ys i v h' tk bs z hi hrd hk => ?_
        cases z
        rw [PySem.W.minD_ints, foldl_minI] at hrd
        cases hrd with
        | int _ t => exact ⟨.int _, H2, I2.kept hk, ⟨_, rfl⟩, tG_end q1 hr1 rfl⟩
      · exact q1.elim
    · exact q1.elim
  · exact q1.elim
end
end L3
/-! L3t: an or of a whole number or None. -/
namespace L3
variable [TabT] [LamT]
open PySem PySem.Spec PyProof.Rows L2

def m_orI (ma mb : Env → IH → Res IV) (env : Env) (ih : IH) : Res IV := (ma env ih).bind fun v ih1 => match v with
  | .int i => if i = 0 then mb env ih1 else .ok (.int i) ih1
  | .non => mb env ih1
  | _ => .stuck
section
variable {X : Cx} {a b : Expr} {rest : List Expr} {pos : Pos} {ta tb : TE}
def tOrI (ta tb : TE) : TE := fun σ H Q => ta σ H fun x H1 => (∃ i, x = .int i ∧ if i = 0 then tb σ H1 Q else Q (.int i) H1) ∨ (x = .non ∧ tb σ H1 Q)
theorem pe_orI (ha : PE X a ta) (hb : PE X (.BoolOp .Or (b :: rest) pos) tb) : PE X (.BoolOp .Or (a :: b :: rest) pos) (tOrI ta tb) := by
  refine ⟨fun pins s σ H Q I h => ?_⟩
  refine BoolOp_or (thn (ha.run pins s σ H _ I h) fun v s1 ⟨x, H1, I1, r1, q1⟩ => ?_)
  rcases q1 with ⟨i, rfl, q1⟩ | ⟨rfl, q1⟩
  · obtain ⟨t, rfl⟩ := r1
    refine P.truthy_int ?_
    by_cases hi : i = 0
    · rw [if_pos hi] at q1
      rw [show (i != 0) = false by simp [hi]]
      exact hb.run pins s1 σ H1 Q I1 q1
    · rw [if_neg hi] at q1
      rw [show (i != 0) = true by simp [hi]]
      exact ⟨.int i, H1, I1, ⟨_, rfl⟩, q1⟩
  · cases r1
    refine truthy_none ?_
    exact hb.run pins s1 σ H1 Q I1 q1
end
section
variable {X : Cx} {W : WX} {a b : Expr} {rest : List Expr} {pos : Pos} {ma mb : Env → IH → Res IV}
theorem lm_orI (ha : PE X a (tM X.K W ma)) (hb : PE X (.BoolOp .Or (b :: rest) pos) (tM X.K W mb)) : PE X (.BoolOp .Or (a :: b :: rest) pos) (tM X.K W (m_orI ma mb)) :=
  PE.of (pe_orI ha hb) fun σ H Q ⟨r, ih, env, hr, he, q⟩ => tG.imp (tG_bind hr he q) fun u H1 ⟨r1, ih1, v, p, hr1, hv, q1⟩ => by
    cases v with
    | int i =>
      obtain rfl : u = .int i := hv
      refine .inl ⟨i, rfl, ?_⟩
      dsimp only at q1
      split at q1
      · rename_i h
        rw [if_pos h]
        exact ⟨r1, ih1, env, hr1, he.mono p, q1⟩
      · rename_i h
        rw [if_neg h]
        exact tG_end q1 hr1 rfl
    | non =>
      obtain rfl : u = .non := hv
      exact .inr ⟨rfl, ⟨r1, ih1, env, hr1, he.mono p, q1⟩⟩
    | _ => exact q1.elim
end
/-! ### min of a tuple of whole numbers -/
def f_minT (xs : List IV) (ih : IH) : Res IV := match xs with
  | [.ref n] => match ih[n]? with
    | some (.tup ys) => match ints? ys with
      | some (a :: r) => .ok (.int (minI (a :: r))) ih
      | _ => .stuck
    | _ => .stuck
  | _ => .stuck
def rMinT (K : PySem.W.Frag) : List V → Hp → VK → Prop := fun vs H Q => ∃ (a : Addr) (n : Int) (ns : List Int), vs = [V.ref a] ∧ SqT K H a ((n :: ns).map V.int) ∧ Q (.int (minI (n :: ns))) H
section
variable {X : Cx} {K : PySem.W.Frag} {W : WX}
theorem cr_minT (hc : X.calm = true) (hu : X.A.units + 64 < cLine) : CallR X (.builtin "min") (rMinT X.K) := by
  intro pins s σ H vs us Q I r h
  obtain ⟨a, n, ns, rfl, hs, q⟩ := h
  obtain ⟨its, rv, hl, _⟩ := I.tuple hs
  rw [Vals.ref1 r]
  refine PySem.W.min_tuple_data (I.ok.hd hc) (show s.heap.IsTuple a its.toArray from hl) (reads_intsD (ns := n :: ns) rv) (alike_intsD (n :: ns)) (by have := depth_intsD (n :: ns); show X.A.units + 1 + PyData.depthAll ((n :: ns).map PyData.int) < cLine; omega) fun i v h' tk bs hi hrd hk => ?_
  rw [PySem.W.minD_ints, foldl_minI] at hrd
  cases hrd with
  | int _ t => exact ⟨.int _, H, I.kept hk, ⟨_, rfl⟩, q⟩
theorem s_minT : SndC K W (rMinT K) f_minT := fun r ih H xs us σ Q hr hx q => by
  unfold f_minT at q
  split at q
  · rename_i n
    obtain ⟨b, rfl, hb⟩ : ∃ b, us = [V.ref b] ∧ r[n]? = some b := by
      cases hx with
      | cons h1 h2 =>
        cases h2
        obtain ⟨a, ea, rfl⟩ := h1.ref
        exact ⟨a, rfl, ea⟩
    split at q
    · rename_i ys e1
      split at q
      · rename_i a0 r0 e4
        obtain ⟨zs, h3, h4⟩ := hr.get n b _ hb e1
        rw [ints?_of e4] at h4
        have hy := h4.flats fun _ _ => IV.noConfusion
        subst hy
        exact ⟨b, a0, r0, rfl, .inl (.inl h3), tG_end q hr rfl⟩
      · exact q.elim
    · exact q.elim
  · exact q.elim
end
end L3
/-! L3u: dicts by their keys. -/
namespace L3
variable [TabT] [LamT]
open PySem PySem.Spec PyProof.Rows L2
theorem hu1 {A : Around} (h : A.units + 64 < cLine) : A.units + 1 < cLine := by omega
def keyM : IV → Option Key
  | .int i => some (.inl i)
  | .str x => some (.inr x)
  | _ => none
def getM (kvs : List (Key × IV)) (k : Key) : Option IV := (kvs.find? fun kv => decide (kv.1 = k)).map (·.2)
def putM (kvs : List (Key × IV)) (k : Key) (v : IV) : List (Key × IV) :=
  if (kvs.any fun kv => decide (kv.1 = k)) = true then kvs.map fun kv => if kv.1 = k then (kv.1, v) else kv else kvs ++ [(k, v)]
theorem keyM_kV {r : List Addr} {x : IV} {y : V} {k : Key} (h : R r x y) (e : keyM x = some k) : y = L2.kV k := by
  cases x with
  | int i => cases e; exact h
  | str z => cases e; exact h
  | _ => cases e
theorem RK.val {r : List Addr} {kvs : List (Key × IV)} {ys : List (Key × V)} (h : RK r kvs ys) (k : Key) : (getM kvs k = none ∧ valV ys k = none) ∨ ∃ v u, getM kvs k = some v ∧ valV ys k = some u ∧ R r v u := by
  unfold RK at h
  induction h with
  | nil => exact .inl ⟨rfl, rfl⟩
  | @cons p q ps qs h t ih =>
    obtain ⟨h1, h2⟩ := h
    by_cases e : p.1 = k
    · refine .inr ⟨p.2, q.2, ?_, valV_pos (h1.symm.trans e), h2⟩
      unfold getM
      rw [List.find?_cons, decide_eq_true e]
      rfl
    · have e2 : getM (p :: ps) k = getM ps k := by
        unfold getM
        rw [List.find?_cons, decide_eq_false e]
      rw [e2, valV_neg (fun z => e (h1.trans z))]
      exact ih
theorem RK.put {r : List Addr} {kvs : List (Key × IV)} {ys : List (Key × V)} (h : RK r kvs ys) (k : Key) {v : IV} {u : V} (hv : R r v u) : RK r (putM kvs k v) (putK ys k u) := by
  have ha : (kvs.any fun kv => decide (kv.1 = k)) = ys.any fun kv => decide (kv.1 = k) := by
    unfold RK at h
    induction h with
    | nil => rfl
    | @cons p q ps qs h t ih =>
      rw [List.any_cons, List.any_cons, ih, h.1]
  unfold putM putK
  rw [ha]
  split
  · rename_i hq
    clear hq ha
    unfold RK at h ⊢
    induction h with
    | nil => exact .nil
    | @cons p q ps qs h t ih =>
      rw [List.map_cons, List.map_cons]
      refine .cons ?_ ih
      obtain ⟨h1, h2⟩ := h
      by_cases e : p.1 = k
      · rw [if_pos e, if_pos (h1.symm.trans e)]
        exact ⟨h1, hv⟩
      · rw [if_neg e, if_neg (fun z => e (h1.trans z))]
        exact ⟨h1, h2⟩
  · rename_i hq
    clear hq ha
    unfold RK at h ⊢
    induction h with
    | nil => exact .cons ⟨rfl, hv⟩ .nil
    | @cons p q ps qs h t ih => exact .cons h ih
theorem RK.keys {r : List Addr} {kvs : List (Key × IV)} {ys : List (Key × V)} (h : RK r kvs ys) : kvs.map (·.1) = ys.map (·.1) := by
  unfold RK at h
  induction h with
  | nil => rfl
  | @cons p q ps qs h t ih => rw [List.map_cons, List.map_cons, ih, h.1]
theorem RK.length {r : List Addr} {kvs : List (Key × IV)} {ys : List (Key × V)} (h : RK r kvs ys) : kvs.length = ys.length := Paired.length h
/-! ### {} -/
def m_dnew (_ : Env) (ih : IH) : Res IV := .ok (.ref ih.length) (ih ++ [.dk []])
section
variable {X : Cx} {W : WX} {pos : Pos} {a b : Expr} {ma mb mc : Env → IH → Res IV}
theorem lm_dnew : PE X (.Dict [] [] pos) (tM X.K W m_dnew) := PE.of pe_dnewK fun σ H Q ⟨r, ih, env, hr, he, q⟩ p hp =>
  q (r ++ [p]) _ _ pre_one (hr.new hp rfl fun H' e => ⟨[], e, .nil⟩) (R.newest hr.len)
/-! ### d[k] -/
def f_dget (x y : IV) (ih : IH) : Res IV := match x with
  | .ref n => match ih[n]?, keyM y with
    | some (.dk kvs), some k => match getM kvs k with
      | some v => .ok v ih
      | none => .stuck
    | _, _ => .stuck
  | _ => .stuck
theorem lm_dget (hu : X.A.units + 1 < cLine) (ha : PE X a (tM X.K W ma)) (hb : PE X b (tM X.K W mb)) (hs : NoSl b := by intro _ _; rfl) : PE X (.Subscript a b pos) (tM X.K W (m_op f_dget ma mb)) :=
  PE.of (pe_dget hu ha hb hs) fun σ H Q ⟨r, ih, env, hr, he, q⟩ => tG.imp (tG_bind hr he q) fun u H1 ⟨r1, ih1, v, p, hr1, hv, q1⟩ =>
    tG.imp (tG_bind hr1 (he.mono p) q1) fun w H2 ⟨r2, ih2, y, p2, hr2, hy, q2⟩ => by
      cases v with
      | ref n =>
        obtain ⟨ad, ea, rfl⟩ := (hv.mono p2).ref
        unfold f_dget at q2
        dsimp only at q2
        split at q2
        · rename_i kvs k e1 e2
          obtain ⟨ys, h1, h2⟩ := hr2.get n ad _ ea e1
          obtain rfl := keyM_kV hy e2
          split at q2
          · rename_i z e3
            rcases h2.val k with ⟨g1, g2⟩ | ⟨v1, u1, g1, g2, g3⟩
            · rw [e3] at g1
              cases g1
            · rw [e3] at g1
              cases g1
              exact ⟨ad, u1, rfl, by rw [← g2]; exact DGet.k h1, tG_end q2 hr2 g3⟩
          · exact q2.elim
        · exact q2.elim
      | _ => exact q2.elim
/-! ### d.get(k, z) -/
def m_dget2 (mo mi mz : Env → IH → Res IV) (env : Env) (ih : IH) : Res IV := (mo env ih).bind fun x ih1 => match x with
  | .ref n => match ih1[n]? with
    | some (.dk _) => (mi env ih1).bind fun y ih2 => (mz env ih2).bind fun z ih3 => match ih3[n]?, keyM y with
      | some (.dk kvs), some k => .ok ((getM kvs k).getD z) ih3
      | _, _ => .stuck
    | _ => .stuck
  | _ => .stuck
theorem lm_dget2 {o e f : Expr} {apos cpos : Pos} {mo mi mz : Env → IH → Res IV} (hu : X.A.units + 1 < cLine) (ho : PE X o (tM X.K W mo)) (he : PE X e (tM X.K W mi)) (hf : PE X f (tM X.K W mz)) (m : M2 X o "get" apos e f cpos) : PE X (.Call (.Attribute o "get" apos) [e, f] [] cpos) (tM X.K W (m_dget2 mo mi mz)) :=
  PE.of (pe_dget2 hu ho he hf m) fun σ H Q ⟨r, ih, env, hr, he, q⟩ => tG.imp (tG_bind hr he q) fun u H1 ⟨r1, ih1, v, p, hr1, hv, q1⟩ => by
    cases v with
    | ref n =>
      obtain ⟨ad, ea, rfl⟩ := hv.ref
      dsimp only at q1
      split at q1
      · rename_i kvs0 e0
        obtain ⟨ys0, h0, _⟩ := hr1.get n ad _ ea e0
        refine ⟨ad, rfl, .inl ⟨ys0, .inl h0⟩, ?_⟩
        refine tG.imp (tG_bind hr1 (he.mono p) q1) fun w H2 ⟨r2, ih2, y, p2, hr2, hy, q2⟩ => tG.imp (tG_bind hr2 ((he.mono p).mono p2) q2) fun w3 H3 ⟨r3, ih3, z, p3, hr3, hz, q3⟩ => ?_
        dsimp only at q3
        split at q3
        · rename_i kvs k e1 e2
          obtain ⟨ys, h1, h2⟩ := hr3.get n ad _ (pre_get (pre_trans p2 p3) ea) e1
          obtain rfl := keyM_kV (hy.mono p3) e2
          refine ⟨valV ys k, DGet.k h1, ?_⟩
          rcases h2.val k with ⟨g1, g2⟩ | ⟨v1, u1, g1, g2, g3⟩
          · rw [g1] at q3
            rw [g2]
            exact tG_end q3 hr3 hz
          · rw [g1] at q3
            rw [g2]
            exact tG_end q3 hr3 g3
        · exact q3.elim
      · exact q1.elim
    | _ => exact q1.elim
/-! ### d[k] = v -/
def f_dput (o i v : IV) (ih : IH) : Option IH := match o with
  | .ref n => match ih[n]?, keyM i with
    | some (.dk kvs), some k => if kvs.length < 100000 then some (ih.set n (.dk (putM kvs k v))) else none
    | _, _ => none
  | _ => none
def ms_dput (m mo mi : Env → IH → Res IV) (env : Env) (ih : IH) : RS := (m env ih).stm env fun v ih1 => (mo env ih1).stm env fun o ih2 => (mi env ih2).stm env fun i ih3 => match f_dput o i v ih3 with
  | some ih4 => .ok (.next env) ih4
  | none => .stuck
theorem ls_dput {o i e : Expr} {tpos : Pos} {m mo mi : Env → IH → Res IV} (hu : X.A.units + 1 < cLine) (he : PE X e (tM X.K W m)) (ho : PE X o (tM X.K W mo)) (hi : PE X i (tM X.K W mi)) (hs : swapsWith e (some (.Subscript o i tpos)) pos.line X.env = pure false := by rfl) :
    PS X (.Assign [.Subscript o i tpos] e pos) (tMS X.K W (ms_dput m mo mi)) :=
  PS.of (ps_dput hu ho hi he hs) fun D σ H ⟨r, ih, env, hr, he, q⟩ => tG.imp (tG_stm hr he q) fun u H1 ⟨r1, ih1, v, p, hr1, hv, q1⟩ =>
    tG.imp (tG_stm hr1 (he.mono p) q1) fun u2 H2 ⟨r2, ih2, v2, p2, hr2, hv2, q2⟩ => tG.imp (tG_stm hr2 ((he.mono p).mono p2) q2) fun u3 H3 ⟨r3, ih3, v3, p3, hr3, hv3, q3⟩ => by
      dsimp only at q3
      cases e : f_dput v2 v3 v ih3 with
      | some ih4 =>
        rw [e] at q3
        cases v2 with
        | ref n =>
          obtain ⟨ad, ea, rfl⟩ := (hv2.mono p3).ref
          unfold f_dput at e
          dsimp only at e
          split at e
          · rename_i kvs k e1 e2
            obtain ⟨ys, h1, h2⟩ := hr3.get n ad _ ea e1
            obtain rfl := keyM_kV hv3 e2
            split at e
            · rename_i hl
              cases e
              refine ⟨ad, _, rfl, DPut.k h1 (by rw [← h2.length]; exact line5l hl), ?_⟩
              exact q3 r3 _ σ (pre_refl r3) (hr3.writeD ea e1 (h2.put k ((hv.mono p2).mono p3))) (((he.mono p).mono p2).mono p3)
            · cases e
          · cases e
        | _ => cases e
      | none =>
        rw [e] at q3
        exact q3.elim
end
end L3
/-! L3v: sum(d.values()), sorted(d), a dict of one pair. -/
namespace L3
variable [TabT] [LamT]
open PySem PySem.Spec PyProof.Rows L2
/-- the ints that the values are -/
def valsI : List (Key × IV) → Option (List Int)
  | [] => some []
  | (_, .int i) :: r => (valsI r).map (i :: ·)
  | _ :: _ => none
def keysI : List (Key × IV) → Option (List Int)
  | [] => some []
  | (.inl i, _) :: r => (keysI r).map (i :: ·)
  | _ :: _ => none
theorem valsI_of {r : List Addr} : ∀ {kvs : List (Key × IV)} {ys : List (Key × V)} {ns : List Int}, RK r kvs ys → valsI kvs = some ns → ys.map (·.2) = ns.map V.int
  | [], _, ns, h, e => by
    cases h
    cases e
    rfl
  | (k, v) :: kvs, _, ns, h, e => by
    cases h with
    | @cons p q ps qs a b =>
      cases v with
      | int i =>
        unfold valsI at e
        cases e2 : valsI kvs with
        | none => rw [e2] at e; cases e
        | some ms =>
          rw [e2] at e
          cases e
          rw [List.map_cons, List.map_cons, valsI_of b e2]
          congr 1
          exact a.2
      | _ => cases e
theorem keysI_of : ∀ {kvs : List (Key × IV)} {ns : List Int}, keysI kvs = some ns → kvs.map (·.1) = ns.map Sum.inl
  | [], ns, e => by
    cases e
    rfl
  | (k, v) :: kvs, ns, e => by
    cases k with
    | inl i =>
      unfold keysI at e
      cases e2 : keysI kvs with
      | none => rw [e2] at e; cases e
      | some ms =>
        rw [e2] at e
        cases e
        rw [List.map_cons, List.map_cons, keysI_of e2]
    | inr x => cases e
def f_sortedD (xs : List IV) (ih : IH) : Res IV := match xs with
  | [.ref n] => match ih[n]? with
    | some (.dk kvs) => match keysI kvs with
      | some ks => if ks.length < 64 then .ok (.ref ih.length) (ih ++ [.lst ((isI ks).map IV.int)]) else .stuck
      | none => .stuck
    | _ => .stuck
  | _ => .stuck
abbrev rSortedDI : List V → Hp → VK → Prop := fun xs H Q => ∃ (a : Addr) (kvs : List (Key × V)) (ks : List Int), xs = [.ref a] ∧ Rd H a (.dK kvs) ∧ kvs.map (·.1) = ks.map Sum.inl ∧ ks.length < 64 ∧
    ∀ (ys : List Int) (p : Addr), ys.Perm ks → ys.Pairwise (· ≤ ·) → H p = none → Q (.ref p) (upd H p (.lst (ys.map V.int)))
section
variable {K : PySem.W.Frag} {W : WX}
theorem s_sortedD : SndC K W rSortedDI f_sortedD := fun r ih H xs us σ Q hr hx q => by
  unfold f_sortedD at q
  split at q
  · rename_i n
    obtain ⟨b, rfl, hb⟩ : ∃ b, us = [V.ref b] ∧ r[n]? = some b := by
      cases hx with
      | cons h1 h2 =>
        cases h2
        obtain ⟨a, ea, rfl⟩ := h1.ref
        exact ⟨a, rfl, ea⟩
    split at q
    · rename_i kvs e1
      split at q
      · rename_i ks e2
        split at q
        · rename_i hl
          obtain ⟨ys, h1, h2⟩ := hr.get n b _ hb e1
          refine ⟨b, ys, ks, rfl, .inl h1, by rw [← h2.keys]; exact keysI_of e2, hl, fun ns' p hp hle hn => ?_⟩
          have e3 : ns' = isI ks := List.Perm.eq_of_pairwise (le := (· ≤ ·)) (fun a b _ _ h1 h2 => Int.le_antisymm h1 h2) hle (isI_le ks) (hp.trans (isI_perm ks).symm)
          subst e3
          exact end_lst q hr (Rs.ints r _) hn
        · exact q.elim
      · exact q.elim
    · exact q.elim
  · exact q.elim
end
/-! ### {k: v} -/
theorem PGen.pre {α β : Type} {rel : List Addr → α → β → Prop} {K : PySem.W.Frag} {W : WX} {σ : L2.St} {r r' : List Addr} {res : Res α} {Q : β → Hp → Prop} (p : r <+: r') (h : PGen rel K W σ r res Q) : PGen rel K W σ r' res Q := by
  cases res with
  | ok v ih => exact fun r2 H u p2 => h r2 H u (pre_trans p p2)
  | exc c ih => exact fun r2 H p2 => h r2 H (pre_trans p p2)
  | stuck => exact h
def m_disp1 (ma mb : Env → IH → Res IV) (env : Env) (ih : IH) : Res IV := (ma env (ih ++ [.dk []])).bind fun x ih1 => (mb env ih1).bind fun y ih2 => match keyM x, ih2[ih.length]? with
  | some k, some (.dk []) => .ok (.ref ih.length) (ih2.set ih.length (.dk [(k, y)]))
  | _, _ => .stuck
section
variable {X : Cx} {W : WX} {pos p apos cpos : Pos} {a b e : Expr} {ma mb : Env → IH → Res IV}
theorem lm_disp1 (ha : PE X a (tM X.K W ma)) (hb : PE X b (tM X.K W mb)) : PE X (.Dict [some a] [b] pos) (tM X.K W (m_disp1 ma mb)) :=
  PE.of (pe_disp (pps_cons ha hb pps_nil) rfl rfl (by simp) (by simp)) fun σ H Q ⟨r, ih, env, hr, he, q⟩ p hp => by
    have hr0 : Rel X.K (r ++ [p]) (ih ++ [.dk []]) (upd H p (.dK [])) := hr.new hp rfl fun H' e => ⟨[], e, .nil⟩
    have hl : r[ih.length]? = none := List.getElem?_eq_none (by rw [hr.len]; exact Nat.le_refl _)
    have hp0 : (r ++ [p])[ih.length]? = some p := by
      rw [List.getElem?_append_right (by rw [hr.len]; exact Nat.le_refl _), hr.len, Nat.sub_self]
      rfl
    have q := q.pre (pre_one (p := p))
    unfold m_disp1 at q
    show tM X.K W ma σ (upd H p (.dK [])) (fun x H1 => tM X.K W mb σ H1 (fun y H2 => tPairs [] σ H2 (fun ps H3 => _)))
    refine tG.imp (tG_bind hr0 (he.mono pre_one) q) fun u H1 ⟨r1, ih1, x, p1, hr1, hx, q1⟩ => tG.imp (tG_bind hr1 ((he.mono pre_one).mono p1) q1) fun w H2 ⟨r2, ih2, y, p2, hr2, hy, q2⟩ => ?_
    dsimp only at q2
    split at q2
    · rename_i k e1 e2
      have hp2 := pre_get (pre_trans p1 p2) hp0
      obtain ⟨ys, h1, h2⟩ := hr2.get _ p _ hp2 e2
      cases h2
      obtain rfl := keyM_kV (hx.mono p2) e1
      refine ⟨h1, [(k, w)], rfl, by simp, ?_⟩
      exact q2 r2 _ _ (pre_refl r2) (hr2.writeD hp2 e2 (.cons ⟨rfl, hy⟩ .nil)) ⟨p, hp2, rfl⟩
    · exact q2.elim
/-! ### sum(d.values()) -/
def okSum (ns : List Int) : Bool := ns.all (fun x => decide (0 ≤ x)) && decide (ns.sum < 2 ^ 62)
def f_sumV (x : IV) (ih : IH) : Res IV := match x with
  | .ref n => match ih[n]? with
    | some (.dk kvs) => match valsI kvs with
      | some ns => if okSum ns = true then .ok (.int ns.sum) ih else .stuck
      | none => .stuck
    | _ => .stuck
  | _ => .stuck
theorem okSum_of {ns : List Int} (h : okSum ns = true) : (∀ x ∈ ns, 0 ≤ x) ∧ ns.sum < 2 ^ 62 := by
  unfold okSum at h
  rw [Bool.and_eq_true, List.all_eq_true, decide_eq_true_eq] at h
  exact ⟨fun x hx => of_decide_eq_true (h.1 x hx), h.2⟩
theorem sum_take : ∀ (ns : List Int) (j : Nat), (∀ x ∈ ns, 0 ≤ x) → 0 ≤ (ns.take j).sum ∧ (ns.take j).sum ≤ ns.sum ∧ 0 ≤ ns.getD j 0 ∧ ns.getD j 0 ≤ ns.sum
  | [], j, _ => by simp
  | a :: ns, 0, h => by
    have h0 := h a (by simp)
    have i := sum_take ns 0 fun x hx => h x (List.mem_cons_of_mem _ hx)
    simp only [List.take_zero, List.sum_nil] at i
    rw [List.take_zero, List.sum_nil, List.sum_cons]
    show 0 ≤ 0 ∧ 0 ≤ a + ns.sum ∧ 0 ≤ a ∧ a ≤ a + ns.sum
    omega
  | a :: ns, j + 1, h => by
    have h0 := h a (by simp)
    have i := sum_take ns j fun x hx => h x (List.mem_cons_of_mem _ hx)
    rw [List.take_succ_cons, List.sum_cons, List.sum_cons, List.getD_cons_succ]
    omega
theorem preSum_take (ns : List Int) : ∀ j, preSum (fun i => ns.getD i 0) j = (ns.take j).sum
  | 0 => by rw [List.take_zero]; rfl
  | j + 1 => by
    show preSum (fun i => ns.getD i 0) j + ns.getD j 0 = _
    rw [preSum_take ns j, List.take_add_one, List.sum_append, List.getD_eq_getElem?_getD]
    cases ns[j]? with
    | none => rfl
    | some x => show _ + x = _ + (x + 0); omega
theorem lm_sumV (hc : X.calm = true) (hg : Gl X "sum") (hm : X.mg "sum" = none) (he : PE X e (tM X.K W ma)) (hbase : attributeBase e "values" X.env (eval e X.env) = eval e X.env := by rfl) (hline : (apos.endLine == cpos.line) = true := by rfl)
    (hs : starEach [.Call (.Attribute e "values" apos) [] [] cpos] X.env = [(false, eval (.Call (.Attribute e "values" apos) [] [] cpos) X.env)] := by rfl) :
    PE X (.Call (.Name "sum" p) [.Call (.Attribute e "values" apos) [] [] cpos] [] pos) (tM X.K W (m_un f_sumV ma)) := by
  refine PE.of ⟨fun pins s σ H Q I q => ?_⟩ fun σ H Q h => h
  obtain ⟨r, ih, env, hr, hE, q⟩ := q
  refine wpAny_Call_Name_kw (ld_blt I hg hm rfl ?_)
  refine PyProof.Rows.callWith_builtin1 ?_ hs (by rfl)
  refine Calls.spliced_cons ?_
  refine wpAny_Call_method (T := "dict") (id := "dict.values") hbase rfl hline PySem.F.plainAttrs_dict PySem.F.slot_dict_values PySem.F.type_dict_values (thn (he.run pins s σ H _ I (tG_bind hr hE q)) fun u s1 ⟨x, H1, I1, rx, r1, ih1, v, p1, hr1, hv, q1⟩ => ?_)
  dsimp only at q1
  cases v with
  | ref n =>
    obtain ⟨ad, ea, hx⟩ := hv
    subst hx
    obtain rfl : u = Value.ref ad := rx
    unfold f_sumV at q1
    dsimp only at q1
    split at q1
    · rename_i kvs e1
      split at q1
      · rename_i ns e2
        split at q1
        · rename_i hok
          obtain ⟨ys, h1, h2⟩ := hr1.get n ad _ ea e1
          have hv2 := valsI_of h2 e2
          obtain ⟨z, hsm, vs, rel, dd⟩ := dk_of I1.hok h1
          refine ⟨dd.typeIs, dd.mapOf.noDict, ?_⟩
          have I2 : Inv X pins σ H1 { s1 with heap := s1.heap.push { cls := .type "dict_values", data := .fields #[.ref ad] } } := I1.kept (t' := s1.toks) fun b ob q => Heap.get?_push_of_some _ q
          refine method_meetsIn PySem.F.slot_dict_values PySem.F.entry_dict_values rfl (PySem.evalArgs_none ⟨rfl, dd.typeIs, PySem.F.args_dict_values_1 _, _, meets_dict_values (mixKind X.prog X.w) ad hsm, ⟨vs, dd⟩, ?_⟩)
          refine Calls.spliced_nil ?_
          obtain ⟨ob, es, ep, hget, hex, hdt, hkeys, hprs, hnd⟩ := dd
          have l1 := hprs.length
          rw [Array.length_toList] at l1
          have l2 : ys.length = vs.length := rel.length
          have l3 : ys.length = ns.length := by
            have e := congrArg List.length hv2
            rw [List.length_map, List.length_map] at e
            exact e
          have hsz : es.size = ns.length := by omega
          have hP : ∀ (i : Nat) (e : DictEntry), es[i]? = some e → ∃ t, e.val = .int (ns.getD i 0) t := fun i e he => by
            have hi : i < es.size := (Array.getElem?_eq_some_iff.mp he).1
            have hi2 : i < ys.length := by omega
            have hi3 : i < ns.length := by omega
            obtain ⟨u, hu, ru⟩ := kv_get rel (i := i) (k := ys[i].1) (v := ys[i].2) (List.getElem?_eq_getElem hi2)
            obtain ⟨g1, g2⟩ := hprs.get? (e := e) (by rw [Array.getElem?_toList]; exact he) hu
            have e2 : ys[i].2 = V.int ns[i] := by
              have z : (ys.map (·.2))[i]? = (ns.map V.int)[i]? := by rw [hv2]
              rw [List.getElem?_map, List.getElem?_map, List.getElem?_eq_getElem hi2, List.getElem?_eq_getElem hi3] at z
              exact Option.some.inj z
            have e3 : ns.getD i 0 = ns[i] := by rw [List.getD_eq_getElem?_getD, List.getElem?_eq_getElem hi3] <;> rfl
            rw [e2] at ru
            rw [e3, g2]
            exact ru
          have ha : ad < s1.heap.objs.size := Heap.lt_size hget
          have hget2 : (s1.heap.push { cls := .type "dict_values", data := .fields #[.ref ad] }).get? ad = some ob := Heap.get?_push_of_some _ hget
          obtain ⟨hpos, hlt⟩ := okSum_of hok
          show wpAny _ _ (call (.builtin "sum") _) _ _ _
          refine call_sum_walk ?_
          refine DSub.iter_vals (v := s1.heap.objs.size) (a := ad) (Heap.get?_push_size _ rfl) hget2 hdt ?_
          refine ⟨(s1.heap.push { cls := .type "dict_values", data := .fields #[.ref ad] }).objs.size, [(s1.heap.push { cls := .type "dict_values", data := .fields #[.ref ad] }).objs.size, ad], [(s1.heap.push { cls := .type "dict_values", data := .fields #[.ref ad] }).objs.size], es.size, fun i v => ∃ t, v = .int (ns.getD i 0) t, _, fun i => ns.getD i 0, rfl, DSub.walksVal (a := ad) (show X.A.in1.handled = none from I1.ok.hd hc) (by
            rw [size_push']
            exact Nat.ne_of_lt (Nat.lt_succ_of_lt ha)) hdt hP, ⟨Heap.get?_push_size _ rfl, Heap.get?_push_of_some _ hget2⟩, fun b hb => ?_, fun i v h => h, fun j hj => ?_, fun h' tk t' hk => ?_⟩
          · show b < ((s1.heap.push _).push _).objs.size
            rw [size_push', size_push']
            rcases List.mem_cons.mp hb with z | z
            · rw [z, size_push']
              exact Nat.lt_succ_self _
            · rw [List.mem_singleton.mp z]
              exact Nat.lt_succ_of_lt (Nat.lt_succ_of_lt ha)
          · rw [preSum_take]
            have h1 := sum_take ns j hpos
            have h2 := sum_take ns (j + 1) hpos
            unfold InLong
            dsimp only
            omega
          · have hk2 : ∀ b o, s1.heap.get? b = some o → h'.get? b = some o := fun b o e => hk b o (fun z => by
              rw [List.mem_singleton.mp z, size_push'] at e
              exact absurd (Heap.lt_size e) (Nat.not_lt_of_lt (Nat.lt_succ_self _))) (Heap.get?_push_of_some _ (Heap.get?_push_of_some _ e))
            refine ⟨.int ns.sum, H1, I1.kept (t' := tk) hk2, ⟨t', ?_⟩, tG_end q1 hr1 rfl⟩
            rw [preSum_take, hsz, List.take_length]
        · exact q1.elim
      · exact q1.elim
    · exact q1.elim
  | _ => exact q1.elim
end
end L3
/-! L3y: xs.count(x), xs.index(x) of flat items. -/
namespace L3
variable [TabT] [LamT]
open PySem PySem.Spec PyProof.Rows L2
theorem cnt_eqU {x : V} : ∀ {xs : List V} {us : List Value}, Vals xs us → xs.all flatV = true → us.countP (eqU x) = xs.countP fun y => eqV y x
  | _, _, .nil, _ => rfl
  | y :: xs, u :: us, .cons r t, f => by
    rw [List.all_cons, Bool.and_eq_true] at f
    rw [List.countP_cons, List.countP_cons, cnt_eqU t f.2, eqU_of r f.1]
section
variable {X : Cx}
def rCount (K : PySem.W.Frag) : V → List V → Hp → VK → Prop := fun x xs H Q => ∃ (a : Addr) (ys : List V) (y : V), x = V.ref a ∧ xs = [y] ∧ SqL K H a ys ∧ flatV y = true ∧ ys.all flatV = true ∧ Q (.int (ys.countP fun z => eqV z y : Nat)) H
theorem mt_count : MtR X "list.count" (rCount X.K) := by
  intro pins s σ H x xs v us Q I rx rxs h
  obtain ⟨a, ys, y, rfl, rfl, hs, fy, fys, q⟩ := h
  cases rx
  cases rxs with
  | cons ry rt =>
    rename_i uy ut
    cases rt
    obtain ⟨its, rv, ⟨⟨cls, dd, data, sl⟩, n, ho, hc, hdn, hd⟩, hlen⟩ := I.list hs
    simp only at hc hd
    subst hc hd
    refine call_meets PySem.F.slot_list_count ⟨_, ho, rfl⟩ PySem.F.entry_list_count (PySem.F.args_list_count_2 _ _)
      (SeqAt.list_countAt a its.toArray n dd sl uy (eqU y)) ⟨ho, fun u' hu' => mem_eqAt ry fy rv fys u' (by simpa using hu'), ?_⟩
    have ec : its.toArray.toList.countP (eqU y) = ys.countP fun z => eqV z y := cnt_eqU rv fys
    refine ⟨.int (ys.countP fun z => eqV z y : Nat), H, I.tok _, ⟨s.toks, ?_⟩, q⟩
    show Value.int ((its.toArray.toList.countP (eqU y) : Nat) : Int) s.toks = Value.int ((ys.countP fun z => eqV z y : Nat) : Int) s.toks
    rw [ec]
end
def flatI : IV → Bool
  | .non => true
  | .bl _ => true
  | .int _ => true
  | .str _ => true
  | _ => false
theorem flatI_R {r : List Addr} {x : IV} {u : V} (h : R r x u) (f : flatI x = true) : u = x.toV ∧ flatV u = true := by
  cases x with
  | non => exact ⟨h, by rw [show u = _ from h]; rfl⟩
  | bl b => exact ⟨h, by rw [show u = _ from h]; rfl⟩
  | int i => exact ⟨h, by rw [show u = _ from h]; rfl⟩
  | str z => exact ⟨h, by rw [show u = _ from h]; rfl⟩
  | _ => cases f
theorem flatI_Rs {r : List Addr} : ∀ {xs : List IV} {us : List V}, Rs r xs us → xs.all flatI = true → us = xs.map IV.toV ∧ us.all flatV = true
  | _, _, .nil, _ => ⟨rfl, rfl⟩
  | x :: xs, u :: us, .cons h t, f => by
    rw [List.all_cons, Bool.and_eq_true] at f
    obtain ⟨e1, f1⟩ := flatI_R h f.1
    obtain ⟨e2, f2⟩ := flatI_Rs t f.2
    exact ⟨by rw [e1, e2]; rfl, by rw [List.all_cons, f1, f2]; rfl⟩
def eqI (y : IV) (z : IV) : Bool := eqV z.toV y.toV
def f_count (x : IV) (vs : List IV) (ih : IH) : Res IV := match x, vs with
  | .ref n, [y] => match ih[n]? with
    | some o => if o.isL = true ∧ flatI y = true ∧ o.xs.all flatI = true then .ok (.int (o.xs.countP (eqI y) : Nat)) ih else .stuck
    | none => .stuck
  | _, _ => .stuck
def f_index (x : IV) (vs : List IV) (ih : IH) : Res IV := match x, vs with
  | .ref n, [y] => match ih[n]? with
    | some o => if o.isL = true ∧ flatI y = true ∧ o.xs.all flatI = true then (match o.xs.findIdx? (eqI y) with
      | some j => .ok (.int (j : Nat)) ih
      | none => .stuck) else .stuck
    | none => .stuck
  | _, _ => .stuck
section
variable {X : Cx} {K : PySem.W.Frag} {W : WX}
theorem s_count : SndM K W (rCount K) f_count := by
  intro r ih H x u xs us σ Q hr hx hxs q
  unfold f_count at q
  split at q
  · rename_i n y
    obtain ⟨a, ea, rfl⟩ := hx.ref
    obtain ⟨w, rfl, hy⟩ := hxs.one
    split at q
    · rename_i o e1
      split at q
      · rename_i hc
        obtain ⟨ys, h1, h2⟩ := (hr.get n a _ ea e1).l hc.1
        obtain ⟨e2, f2⟩ := flatI_R hy hc.2.1
        obtain ⟨e3, f3⟩ := flatI_Rs h2 hc.2.2
        refine ⟨a, ys, w, rfl, rfl, h1, f2, f3, tG_end q hr ?_⟩
        show _ = _
        rw [e3, e2, List.countP_map]
        rfl
      · exact q.elim
    · exact q.elim
  · exact q.elim
theorem s_index : SndM K W (rIndex K) f_index := by
  intro r ih H x u xs us σ Q hr hx hxs q
  unfold f_index at q
  split at q
  · rename_i n y
    obtain ⟨a, ea, rfl⟩ := hx.ref
    obtain ⟨w, rfl, hy⟩ := hxs.one
    split at q
    · rename_i o e1
      split at q
      · rename_i hc
        obtain ⟨ys, h1, h2⟩ := (hr.get n a _ ea e1).l hc.1
        obtain ⟨e2, f2⟩ := flatI_R hy hc.2.1
        obtain ⟨e3, f3⟩ := flatI_Rs h2 hc.2.2
        split at q
        · rename_i j ej
          obtain ⟨hj, hp, hno⟩ := List.findIdx?_eq_some_iff_getElem.mp ej
          refine ⟨a, ys, w, j, o.xs[j].toV, rfl, rfl, h1, f2, f3, by rw [e3, List.getElem?_map, List.getElem?_eq_getElem hj]; rfl, by rw [e2]; exact hp, fun m z' hm hz => ?_, tG_end q hr rfl⟩
          rw [e3, List.getElem?_map, List.getElem?_eq_getElem (by omega)] at hz
          cases hz
          rw [e2]
          have := hno m hm
          exact Bool.eq_false_iff.mpr this
        · exact q.elim
      · exact q.elim
    · exact q.elim
  · exact q.elim
end
end L3
/-! L3z: repr; defs that are run where no repr is under way. -/
namespace L3
variable [TabT] [LamT]
open PySem PySem.Spec PyProof.Rows L2

/-! ### repr -/
/-- the data of a value: as Is says, or a pair of such a value and an empty dict -/
def IsR (ih : IH) (v : IV) (d : PyData) : Prop := Is ih v d ∨ ∃ n m x e, v = .ref n ∧ ih[n]? = some (.tup [x, .ref m]) ∧ Is ih x e ∧ ih[m]? = some (.dk []) ∧ d = .tuple [e, .dict []]
theorem IsR.uniq {ih : IH} {v : IV} {d e : PyData} (h : IsR ih v d) (k : IsR ih v e) : d = e := by
  have no : ∀ {n m : Nat} {x : IV} {e d : PyData}, ih[n]? = some (.tup [x, .ref m]) → ih[m]? = some (.dk []) → Is ih (.ref n) d → False := fun {n m x e d} h1 h2 h3 => by
    cases h3 with
    | lst g1 g2 g3 =>
      rw [h1] at g1
      cases g1
      cases g2
    | tup g1 g2 g3 =>
      rw [h1] at g1
      cases g1
      cases g3 with
      | cons a b =>
        cases b with
        | cons c d =>
          cases c with
          | lst f1 f2 f3 => rw [h2] at f1; cases f1; cases f2
          | tup f1 f2 f3 => rw [h2] at f1; cases f1; cases f2
  rcases h with h | ⟨n, m, x, d1, rfl, h1, h2, h3, rfl⟩
  · rcases k with k | ⟨n, m, x, e1, rfl, k1, k2, k3, rfl⟩
    · exact Is.uniq _ _ _ h k
    · exact (no (e := e1) k1 k3 h).elim
  · rcases k with k | ⟨n', m', x', e1, e0, k1, k2, k3, rfl⟩
    · exact (no (e := d1) h1 h3 k).elim
    · cases e0
      rw [h1] at k1
      cases k1
      rw [Is.uniq _ _ _ h2 k2]
def okR (d : PyData) : Prop := d.showable = true ∧ d.shown.length ≤ sizeLine ∧ d.depth ≤ 50
open Classical in
noncomputable def f_repr (xs : List IV) (ih : IH) : Res IV := match xs with
  | [.ref n] => if h : ∃ d, IsR ih (.ref n) d ∧ okR d then .ok (.str h.choose.shown) ih else .stuck
  | _ => .stuck
open Classical in
theorem f_repr_of {n : Nat} {ih : IH} {d : PyData} (h : IsR ih (.ref n) d) (k : okR d) : f_repr [.ref n] ih = .ok (.str d.shown) ih := by
  unfold f_repr
  have e : ∃ d, IsR ih (.ref n) d ∧ okR d := ⟨d, h, k⟩
  show (if h : ∃ d, IsR ih (.ref n) d ∧ okR d then Res.ok (IV.str h.choose.shown) ih else .stuck) = _
  rw [dif_pos e]
  rw [IsR.uniq e.choose_spec.1 h]
/-- the same, of the heap -/
def DpR (K : PySem.W.Frag) (H : Hp) (a : Addr) (d : PyData) : Prop := Dp K H (.ref a) d ∨ ∃ x b e, SqT K H a [x, .ref b] ∧ Dp K H x e ∧ H b = some (.dK []) ∧ d = .tuple [e, .dict []]
mutual
theorem dp_noDict {K : PySem.W.Frag} {H : Hp} : ∀ (d : PyData) (v : V), Dp K H v d → d.hasDict = false
  | .none, _, _ => rfl
  | .bool _, _, _ => rfl
  | .int _, _, _ => rfl
  | .str _, _, _ => rfl
  | .list ds, _, h => by
    cases h with
    | lst h1 h2 =>
      have := dp_noDictAll ds _ h2
      simpa [PyData.hasDict] using this
  | .tuple ds, _, h => by
    cases h with
    | tup h1 h2 =>
      have := dp_noDictAll ds _ h2
      simpa [PyData.hasDict] using this
  | .dict _, _, h => by cases h
theorem dp_noDictAll {K : PySem.W.Frag} {H : Hp} : ∀ (ds : List PyData) (vs : List V), DpAll K H vs ds → PyData.hasDictAll ds = false
  | [], _, _ => rfl
  | d :: ds, _, h => by
    cases h with
    | cons h1 h2 =>
      have a := dp_noDict d _ h1
      have b := dp_noDictAll ds _ h2
      simp [PyData.hasDictAll, a, b]
end
def rRepr (K : PySem.W.Frag) : List V → Hp → VK → Prop := fun xs H Q => ∃ a d, xs = [.ref a] ∧ DpR K H a d ∧ okR d ∧ Q (.str d.shown) H
section
variable {X : Cx}
theorem call_reprA (hg : X.A.guards = some []) (hu : X.A.units + 64 < cLine) : CallR X (.builtin "repr") (rRepr X.K) := by
  intro pins s σ H xs us Q I r h
  obtain ⟨a, d, rfl, hd, ⟨k1, k2, k3⟩, q⟩ := h
  rw [Vals.ref1 r]
  have fin : ∀ (h' : Heap) (u tk : Nat), (∀ b o, s.heap.get? b = some o → h'.get? b = some o) → EP X pins σ Q (.str d.shown u) { s with heap := h', toks := tk } := fun h' u tk hk => ⟨.str d.shown, H, I.kept hk, ⟨u, rfl⟩, q⟩
  rcases hd with hd | ⟨x, b, e, hs, hx, hb, rfl⟩
  · obtain ⟨as, rr⟩ := Dp.reads I d _ _ hd (show RelV (.ref a) (.ref a) from rfl)
    exact repr_of_reads' rr k1 (fun z => by rw [dp_noDict d _ hd] at z; cases z) hg (by omega) (fun _ _ z => z) fun h' u tk hk => fin h' u tk hk
  · obtain ⟨its, rv, ⟨o, ho, hc, n, hdt⟩, _⟩ := I.tuple hs
    cases rv with
    | cons r1 rv =>
      rename_i ux its
      cases rv with
      | cons r2 rv =>
        rename_i ub its
        cases rv
        cases (show ub = Value.ref b from r2)
        obtain ⟨ax, rx⟩ := Dp.reads I e _ _ hx r1
        obtain ⟨_, hsys, vs, hkv, od, es, ep, hb1, hb2, hb3, _, hb5, _⟩ := dk_of I.hok hb
        have hvs : vs = [] := by
          have := Paired.length hkv
          exact List.length_eq_zero_iff.mp (by simpa using this.symm)
        subst hvs
        have hes : es.toList = [] := List.length_eq_zero_iff.mp (by rw [hb5.length]; rfl)
        have rd : Reads s.heap (.ref b) (.dict []) (b :: [] ++ []) := Reads.dict (as := []) (bs := []) hb1 hb2.1 hb3 (by rw [hes]; exact ReadsAll.nil) (by rw [hes]; exact ReadsAll.nil)
        have rt : Reads s.heap (.ref a) (.tuple [e, .dict []]) (ax ++ ((b :: [] ++ []) ++ [])) := Reads.tuple ho hc hdt (.cons rx (.cons rd .nil))
        have sh : e.showable = true ∧ (PyData.dict []).showable = true := by
          simp [PyData.showable, PyData.showableAll, PyData.showableKv] at k1 ⊢
          exact k1
        have hz : (tupleText [e.shown, (PyData.dict []).shown]).length ≤ sizeLine := by simpa [PyData.shown, PyData.shownAll] using k2
        obtain ⟨bs1, m1, q1⟩ := ReprK.of_reads (prog := X.prog) (w := X.w) rx sh.1 (fun z => by rw [dp_noDict e _ hx] at z; cases z) (Nat.le_trans (tupleText_mem_le (by simp)) hz)
        obtain ⟨bs2, m2, q2⟩ := ReprK.of_reads (prog := X.prog) (w := X.w) rd sh.2 (fun _ z => by
          have : sysModules = b := by simpa using z
          rw [← this] at hsys
          simp at hsys) (Nat.le_trans (tupleText_mem_le (by simp)) hz)
        have l1 : e.depth ≤ PyData.depthAll [e, .dict []] := by simp only [PyData.depthAll]; omega
        have l2 : (PyData.dict []).depth ≤ PyData.depthAll [e, .dict []] := by simp only [PyData.depthAll]; omega
        have hk : ReprAllK X.prog X.w (bs1 ++ bs2) s.heap (PyData.depthAll [e, .dict []]) [ux, .ref b] [e.shown, (PyData.dict []).shown] := by
          have a1 := ReprAllK.more_le (as' := bs1 ++ bs2) (fun b hb => List.mem_append_left _ hb) l1 (.cons q1 .nil)
          have a2 := ReprAllK.more_le (as' := bs1 ++ bs2) (fun b hb => List.mem_append_right _ hb) l2 (.cons q2 .nil)
          cases a1 with
          | cons c1 _ => exact .cons c1 a2
        have hm : ReadAtMost s.heap (PyData.depthAll [e, .dict []]) (bs1 ++ bs2) := (m1.mono l1).append (m2.mono l2)
        have hna : a ∉ bs1 ++ bs2 := not_mem_of_deeper rt (by simp only [PyData.depth]; omega) hm
        have dl : PyData.depthAll [e, .dict []] ≤ 50 := by
          have k4 : (PyData.tuple [e, .dict []]).depth ≤ 50 := k3
          simp only [PyData.depth] at k4
          omega
        refine call_repr_slot (by omega) (T := "tuple") ⟨o, ho, hc⟩ F.slot_tuple_repr ?_
        refine call_tuple_reprK (items := #[ux, .ref b]) ho hc hdt hna hk (g := []) hg (fun b _ => Clear.nil b) (by show X.A.units + 1 + _ < cLine; omega) (fun _ _ z => z) (fun h' u tk hk' => ⟨_, _, rfl, ?_⟩) hz
        have := fin h' u tk hk'
        simpa [PyData.shown, PyData.shownAll] using this
end
theorem s_repr {K : PySem.W.Frag} {W : WX} : SndC K W (rRepr K) f_repr := by
  intro r ih H xs us σ Q hr hx q
  unfold f_repr at q
  split at q
  · rename_i n
    split at q
    · rename_i h
      obtain ⟨h1, h2⟩ := h.choose_spec
      cases hx with
      | cons hx1 hx2 =>
        cases hx2
        obtain ⟨a, ea, rfl⟩ := hx1.ref
        refine ⟨a, h.choose, rfl, ?_, h2, tG_end q hr rfl⟩
        generalize h.choose = d at h1
        rcases h1 with h1 | ⟨n', m, x, e, e0, g1, g2, g3, rfl⟩
        · exact .inl (Is.dp hr _ _ _ h1 ⟨a, ea, rfl⟩)
        · cases e0
          obtain ⟨ys, t1, t2⟩ := (hr.get n a _ ea g1).t rfl
          cases t2 with
          | cons c1 t2 =>
            cases t2 with
            | cons c2 t2 =>
              cases t2
              obtain ⟨b, eb, rfl⟩ := c2.ref
              obtain ⟨ys2, d1, d2⟩ := hr.get m b _ eb g3
              cases d2
              exact .inr ⟨_, b, e, t1, Is.dp hr _ _ _ g2 c1, d1, rfl⟩
    · exact q.elim
  · exact q.elim

/-! ### defs that are run where no repr is under way -/
structure FnOkG (P : Program) (w : World) (K : PySem.W.Frag) (mg : Str → Option Value) (base : Heap) (CX : CXT) (k : Nat) (f : Addr) (fd : FuncData) (ps : List Str) (sp : Sp) : Prop where
  len : ∀ vs H Q E, sp vs H Q E → vs.length = ps.length
  run : ∀ (A : Around) (outer : List PySem.Env) (s : Shared) (H : Hp) (args : Args) (us : List Value) (vs : List V) (Q : VK) (E : XK), A.guards = some [] → Room k A → Env0 P w K mg base A outer s H → BindsTo s fd args (ps.zip us) → Vals vs us → sp vs H Q E →
    codeAny (model P w) A (.call (.ref f) args) (CR CX outer P w H s Q E) s
theorem FnOkG.imp {P : Program} {w : World} {K : PySem.W.Frag} {mg : Str → Option Value} {base : Heap} {CX : CXT} {k : Nat} {f : Addr} {fd : FuncData} {ps : List Str} {sp sp' : Sp} (F : FnOkG P w K mg base CX k f fd ps sp) (h : ∀ vs H Q E, sp' vs H Q E → sp vs H Q E) : FnOkG P w K mg base CX k f fd ps sp' :=
  ⟨fun vs H Q E q => F.len vs H Q E (h _ _ _ _ q), fun A outer s H args us vs Q E hg hr he hb hv hs => F.run A outer s H args us vs Q E hg hr he hb hv (h _ _ _ _ hs)⟩
section
variable {P : Program} {w : World} {K : PySem.W.Frag} {mg mb : Str → Option Value} {k : Nat} {fa a : Addr} {fd : FuncData} {x : Str} {sp : Sp} {s₁ : Shared} {vs : List Value} {ns : List Int}
/-- the promise, from a heap in which the script may be told -/
theorem law_runG {CX : CXT} {H : Hp} (KX : K.In s₁.heap) (hns : s₁.heap.Ns mainGlobals mg) (hb : s₁.heap.Ns builtinsNs mb) (hbb : ∀ x : Str, x ≠ "__name__" → mb x = bootBuiltins x) (hlim : s₁.heap.NoLimit) (hg : s₁.gens = #[])
    (hr : Room k callerA) (F : ∀ base : Heap, K.In base → base.Ns mainGlobals mg → FnOkG P w K mg base CX k fa fd [x] sp) (hbind : ∀ (s : Shared) (u : Value), BindsTo s fd ⟨[u], []⟩ [(x, u)]) (hCX : ∀ H e s', CX [] H s₁ (fun _ _ _ => False) e s' → False)
    (ok : HOk P w H s₁.heap) (hsp : sp [.ref a] H (fun v _ => v = .bl true) fun _ _ _ => False)
    (told : ∀ b u, H b = some u → (∃ o xs, u = .frz o (.lst xs)) ∧ K.lookup b = none ∧ ∃ o vs n, s₁.heap.get? b = some o ∧ o.data = .seq vs n) :
    codeAny (model P w) callerA (.call (.ref fa) ⟨[.ref a], []⟩) (fun r s' => r = .ok (.ret (.bool true)) ∧ OldK s₁.heap s'.heap ∧ s'.os = s₁.os ∧ AllBare s'.gens) s₁ := by
  have free : ∀ {b : Addr} {o : Obj}, s₁.heap.get? b = some o → (∀ vs n, o.data ≠ .seq vs n) → (hidT s₁.heap H).get? b = some o := fun {b o} e nd => by
    refine hidT_get e ?_
    cases z : H b with
    | none => rfl
    | some u =>
      obtain ⟨_, _, o', vs', n', e', d'⟩ := told b u z
      rw [e] at e'
      cases e'
      exact absurd d' (nd vs' n')
  have ns : ∀ {b : Addr} {m : Str → Option Value}, s₁.heap.Ns b m → (hidT s₁.heap H).Ns b m := fun {b m} h => by
    obtain ⟨o, es, ep, e, d, r⟩ := h
    exact ⟨o, es, ep, free e (fun vs n z => by rw [d] at z; cases z), d, r⟩
  have kin : K.In (hidT s₁.heap H) := fun b o e => hidT_get (KX b o e) (by
    cases z : H b with
    | none => rfl
    | some u =>
      obtain ⟨_, n, _⟩ := told b u z
      rw [n] at e
      cases e)
  obtain ⟨mc, l1, l2⟩ := hlim
  have e0 : Env0 P w K mg (hidT s₁.heap H) callerA [] s₁ H := ⟨rfl, ⟨kin, ns hns, ⟨mb, ns hb, hbb⟩, ⟨mc, ns l1, l2⟩⟩, fun b o e => of_hidT e, Nat.le_of_eq (hidT_size _ _), trivial, (fun b hb => absurd (show b ∈ ([] : List Addr) from hb) List.not_mem_nil), ok, .of_eq hg⟩
  refine codeAny_mono ((F _ kin (ns hns)).run callerA [] s₁ H ⟨[.ref a], []⟩ [.ref a] [.ref a] _ _ rfl hr e0 (hbind s₁ (.ref a)) (.cons rfl .nil) hsp) fun r s' h => ?_
  cases r with
  | error e => exact (hCX H e s' h).elim
  | ok fl =>
    cases fl with
    | next => exact False.elim h
    | brk => exact False.elim h
    | cont => exact False.elim h
    | ret u =>
      obtain ⟨v, H', os, bare, un, ok', rv, hv⟩ := h
      have hv' : v = .bl true := hv
      subst hv'
      obtain rfl : u = Value.bool true := rv
      refine ⟨rfl, OldK.of_keep fun b o e => ?_, os, bare⟩
      cases z : H b with
      | none => exact un.keep b o e z (fun h => List.not_mem_nil h) List.not_mem_nil
      | some u =>
        obtain ⟨⟨ob, xs, rfl⟩, _⟩ := told b u z
        have k1 := (ok b _ z).1
        have k2 := (ok' b _ (un.frzs b ob _ z)).1
        rw [e] at k1
        cases k1
        exact k2
theorem law_callG {CX : CXT} (KX : K.In s₁.heap) (hns : s₁.heap.Ns mainGlobals mg) (hb : s₁.heap.Ns builtinsNs mb) (hbb : ∀ x : Str, x ≠ "__name__" → mb x = bootBuiltins x) (hlim : s₁.heap.NoLimit) (hg : s₁.gens = #[])
    (ha : s₁.heap.get? a = some { cls := .type "list", data := .seq vs.toArray }) (hi : IntsAre vs ns) (hl : ns.length ≤ sizeLine) (hr : Room k callerA)
    (F : ∀ base : Heap, K.In base → base.Ns mainGlobals mg → FnOkG P w K mg base CX k fa fd [x] sp) (hbind : ∀ (s : Shared) (u : Value), BindsTo s fd ⟨[u], []⟩ [(x, u)])
    (hsp : ∀ H : Hp, Only H → SqL K H a (ns.map V.int) → sp [.ref a] H (fun v _ => v = .bl true) fun _ _ _ => False)
    (hCX : ∀ H e s', CX [] H s₁ (fun _ _ _ => False) e s' → False) :
    codeAny (model P w) callerA (.call (.ref fa) ⟨[.ref a], []⟩) (fun r s' => r = .ok (.ret (.bool true)) ∧ OldK s₁.heap s'.heap ∧ s'.os = s₁.os ∧ AllBare s'.gens) s₁ := by
  have rv := vals_ints hi
  cases hk : K.lookup a with
  | some o =>
    obtain rfl : o = { cls := .type "list", data := .seq vs.toArray } := Option.some.inj ((KX a o hk).symm.trans ha)
    refine law_runG (H := fun _ => none) KX hns hb hbb hlim hg hr F hbind hCX (fun b u z => nomatch z) (hsp _ (fun _ => .inl rfl) ?_) fun b u z => nomatch z
    exact .inr ⟨_, vs.toArray, _, hk, rfl, rfl, rfl, by rw [List.size_toArray, hi.length]; exact hl, by simpa using rv⟩
  | none =>
    obtain ⟨H, hH⟩ : ∃ H : Hp, H = fun b => if b = a then some (.frz { cls := .type "list", data := .seq vs.toArray } (.lst (ns.map V.int))) else none := ⟨_, rfl⟩
    have at_ : H a = some (.frz { cls := .type "list", data := .seq vs.toArray } (.lst (ns.map V.int))) := by rw [hH]; exact if_pos rfl
    have only : ∀ b u, H b = some u → b = a ∧ u = .frz { cls := .type "list", data := .seq vs.toArray } (.lst (ns.map V.int)) := fun b u z => by
      rw [hH] at z
      by_cases e : b = a
      · exact ⟨e, (Option.some.inj ((if_pos e).symm.trans z)).symm⟩
      · exact nomatch (if_neg e).symm.trans z
    refine law_runG (H := H) KX hns hb hbb hlim hg hr F hbind hCX (fun b u z => ?_) (hsp H (fun b => ?_) (.inl (.inr ⟨_, at_⟩))) fun b u z => ?_
    · obtain ⟨rfl, rfl⟩ := only b u z
      exact ⟨ha, by rw [List.length_map]; exact hl, vs, _, rv, ha⟩
    · cases z : H b with
      | none => exact .inl rfl
      | some u => exact .inr ⟨_, _, by rw [(only b u z).2]⟩
    · obtain ⟨rfl, rfl⟩ := only b u z
      exact ⟨⟨_, _, rfl⟩, hk, _, _, _, ha, rfl⟩
theorem walk_ofG {l : PySem.W.OpenLaw} {n k : Nat} {q : Program} {loose : List Str} {XP : (Str → Option Value) → Heap → Prop} {YP : World → Heap → Prop} {d : DefRec} {K : Params → PySem.W.Frag} {CX : World → CXT} {sp : World → Sp} {x : Str}
    (hn : l.most = some n) (hn2 : n ≤ sizeLine) (hdf : d.params.defaults = []) (hr : Room k callerA) (hY : ∀ (w : World) (h : Heap), YP w h → (K w.params).In h)
    (F : ∀ (w : World) (mg : Str → Option Value) (fa : Addr) (h : Heap), (K w.params).In h → h.Ns mainGlobals mg → mg d.name = some (.ref fa) →
      ∃ fd : FuncData, (∀ (s : Shared) (u : Value), BindsTo s fd ⟨[u], []⟩ [(x, u)]) ∧ ∀ base : Heap, (K w.params).In base → base.Ns mainGlobals mg → FnOkG l.prog w (K w.params) mg base (CX w) k fa fd [x] (sp w))
    (hsp : ∀ (w : World) (H : Hp) (a : Addr) (ns : List Int), ns.length ≤ n → (∀ z ∈ ns, Builtin.Int.intBits z ≤ 1048576) → Only H → SqL (K w.params) H a (ns.map V.int) → sp w [.ref a] H (fun v _ => v = .bl true) fun _ _ _ => False)
    (hCX : ∀ (w : World) (H : Hp) (s : Shared) (e : Value) (s' : Shared), CX w [] H s (fun _ _ _ => False) e s' → False) : PySem.W.WalkO q loose XP YP l.row.toRowW d [] (fun f vs => PySem.call f vs) := by
  refine Att.attach_callB hn hdf fun w s₀ s₁ mg mb fa o pm cd doc a vs ns G Y ho hd hcd hmg hobj hints hlen hbits hg => ?_
  obtain ⟨fd, hb, hF⟩ := F w mg fa _ (hY w _ Y) G.T.g hmg
  exact law_callG (hY w _ Y) G.T.g G.T.b G.T.builtins G.T.nolimit hg hobj hints (Nat.le_trans hlen hn2) hr hF hb (fun H hO hS => hsp w H a ns hlen hbits hO hS) fun H e s' => hCX w H s₁ e s'
end
/-! ### a def with a repr in it -/
section
variable {P : Program} {w : World} {K : PySem.W.Frag} {mg : Str → Option Value} {base : Heap} {k : Nat} {x qual : Str} {st : Stmt} {dv : List V} {f : Addr} {fd : FuncData} {N ps : List Str} {mb : Env → IH → RS}
abbrev BodyOkG (P : Program) (w : World) (K : PySem.W.Frag) (mg : Str → Option Value) (base : Heap) (k : Nat) (N : List Str) (qual : Str) (st : Stmt) (f : Addr) (mb : Env → IH → RS) : Prop :=
  ∀ (cdv : Value) (A : Around) (outer : List PySem.Env) (s : Shared) (H : Hp) (E : XK), (cxOf (L2.CX P w) P w K mg base N qual (defScope st) f cdv A outer s H E).A.guards = some [] → Room k (cxOf (L2.CX P w) P w K mg base N qual (defScope st) f cdv A outer s H E).A →
    Takes (cxOf (L2.CX P w) P w K mg base N qual (defScope st) f cdv A outer s H E) (fun cls d _ H => E cls d H) →
    PassesOwn (model P w) (cxOf (L2.CX P w) P w K mg base N qual (defScope st) f cdv A outer s H E).A (cxOf (L2.CX P w) P w K mg base N qual (defScope st) f cdv A outer s H E).env (cxOf (L2.CX P w) P w K mg base N qual (defScope st) f cdv A outer s H E).xe →
    (cxOf (L2.CX P w) P w K mg base N qual (defScope st) f cdv A outer s H E).A.units + 64 < cLine →
    PSs (cxOf (L2.CX P w) P w K mg base N qual (defScope st) f cdv A outer s H E) (defBody st) (tMS K (fun cls d _ H => E cls d H) mb)
theorem df_fnG (F : FunD K x qual (defArgs st) (defBody st) (defScope st) dv [] f fd) (S : FnScope N ps (defScope st)) (hbody : BodyOkG P w K mg base k N qual st f mb) : FnOkG P w K mg base (L2.CX P w) (k + 1) f fd ps (spM K ps.length (defRun N.length mb)) := by
  obtain ⟨oc, od, dV, kV, doc, pm, an, cdv, ct, osl, rfl, lk, hcd, _, _⟩ := F.ex
  refine ⟨fun vs H Q E ⟨r, ih, args, e, _, rs, _⟩ => rs.length ▸ e, fun A outer s H args us vs Q E hg hr e0 hb hv ⟨r, ih, args', e, hrel, rs, q⟩ => ?_⟩
  refine LamX.run_ofS lk hcd S hr e0 hb hv (rs.length ▸ e) fun hr' => ⟨_, hbody cdv A outer s H E hg hr' (takes_of rfl rfl rfl rfl) (passes_of rfl) (by
    have hu := hr'.un
    show (A.deeper (envOfC qual (defScope st) s.heap.objs.size f cdv)).units + 64 < cLine
    omega), r, ih, _, hrel, start_rel rs, ?_⟩
  unfold defRun at q
  cases z : mb (startI N.length args') ih with
  | ok fl ih2 =>
    rw [z] at q
    cases fl with
    | ret v => exact q
    | next env => exact fun r' H' σ' p hr' he' => q r' H' .non p hr' rfl
    | brk env => exact q.elim
    | cont env => exact q.elim
  | exc c env ih2 =>
    rw [z] at q
    exact fun r' H' σ' p hr' he' => q r' H' p hr'
  | stuck => rw [z] at q; exact q
end
end L3
/-! L3A: lambdas without parameters, kept as objects. -/
namespace L3
variable [TabT]
open PySem PySem.Spec PyProof.Rows L2
section
variable {X : Cx} {pins : List (Addr × Obj)} {σ : L2.St} {H : Hp} {s : Shared}
/-- a function object just made is told from now on -/
theorem inv_lam {D : LamD} {c : Addr} {t' : Nat} {pm ctv : Value} (I : L2.Inv X pins σ H s) :
    L2.Inv X pins σ (upd H s.heap.objs.size (LamO s.heap.objs.size D c)) { s with heap := s.heap.push (PySem.W.kla_obj "<lambda>" D.qual D.params D.body D.scope D.cl pm c ctv), toks := t' } :=
  I.laid (a := s.heap.objs.size) (fun b u e => Heap.get?_push_of_some _ e) (Nat.le_refl _) ⟨⟨pm, ctv, Heap.get?_push_size _ rfl⟩, ⟨_, Heap.get?_push_size _ rfl⟩, fun h1 h2 ⟨pm, ctv, z⟩ st => ⟨pm, ctv, st _ z⟩⟩
theorem lamO_ne {a c : Addr} {D : LamD} (ps : Array Value) : LamO a D c ≠ .tbl ps := fun z => by
  unfold LamO at z
  cases z
/-- a lambda is made, and told -/
theorem lam_makeT {c P : Addr} {params : Arguments} {body : Expr} {scope : Scope} {pos : Pos} {E : Value → Shared → Prop} {Q : Value → Shared → Prop} (I : L2.Inv X pins σ H s) (TB : LamX.TabB X.base X.mg c P) (hcode : X.env.code = .ref c)
    (hm : (P, X.env.qual ++ "<lambda>") ∈ TabT.T) (hu : ∀ p ∈ TabT.T, p.1 = P → p.2 = X.env.qual ++ "<lambda>") (hT : LamX.Tabs TabT.T H) (hdef : defaultsOf params X.env = ([], [])) (hfree : ∀ y ∈ scope.names, y.2 = .free → ∃ c, X.env.cells.lookup y.1 = some c)
    (h : ∀ (f c' : Addr) (H1 : Hp) (s' : Shared), L2.Inv X pins σ H1 s' → LamX.ExtN H H1 → LamX.Tabs TabT.T H1 → H f = none → H1 f = some (LamO f ⟨X.env.qual ++ "<lambda>", params, body, scope, cloFrom X.env.cells scope.names []⟩ c') → H1 c' = some (LamX.CodeO c' (X.env.qual ++ "<lambda>")) → Q (.ref f) s') :
    wpAny (model X.prog X.w) X.A (eval (.Lambda params body scope pos) X.env) Q E s := by
  obtain ⟨ps, hP, ht, ha⟩ := hT _ hm
  have bP : s.heap.BuiltinsAt X.mg P := TB.bm.keeps I.bk
  have hP' : s.heap.get? P = some { cls := .none, data := .fields ps } := I.hok P _ hP
  refine PySem.W.kla_eval hdef ?_
  -- told, and the step behind the code object
  have told : ∀ {c' : Addr} {H1 : Hp} {s1 : Shared} {tk : Nat} {pm ctv : Value}, L2.Inv X pins σ H1 s1 → LamX.ExtN H H1 → LamX.Tabs TabT.T H1 → s.heap.objs.size ≤ s1.heap.objs.size → H1 c' = some (LamX.CodeO c' (X.env.qual ++ "<lambda>")) →
      Q (.ref s1.heap.objs.size) { s1 with heap := s1.heap.push (PySem.W.kla_obj "<lambda>" (X.env.qual ++ "<lambda>") params body scope (cloFrom X.env.cells scope.names []) pm c' ctv), toks := tk } := fun {c' H1 s1 tk pm ctv} I1 hE hT1 hz hc => by
    have nF : H1 s1.heap.objs.size = none := I1.hok.fresh (Nat.le_refl _)
    have up : ∀ {b : Addr} {u : HO}, H1 b = some u → upd H1 s1.heap.objs.size (LamO s1.heap.objs.size ⟨X.env.qual ++ "<lambda>", params, body, scope, cloFrom X.env.cells scope.names []⟩ c') b = some u := fun {b u} e => (upd_ne (ne_of_none e nF)).trans e
    exact h _ c' _ _ (inv_lam (D := ⟨X.env.qual ++ "<lambda>", params, body, scope, cloFrom X.env.cells scope.names []⟩) (c := c') (t' := tk) (pm := pm) (ctv := ctv) I1) (fun b o e n => up (hE b o e n)) (hT1.ext fun b o e => up e) (I.hok.fresh hz) upd_same (up hc)
  cases hc : codeAmong pos ps.toList with
  | none =>
    refine PySem.W.kla_makeFunction (mg := X.mg) (c := c) (P := P) (ps := ps) (closure_ok hfree) I.ok.glob (I.mod.glob.keeps I.bk) hcode (TB.code.keeps I.bk) hP' ht hc TB.gP bP fun c' ctv h' tk hx hge hlt hrec htb => ?_
    obtain ⟨c2, oc, vs, t, e2, hoc, hd, hv⟩ := hrec
    cases e2
    have nC : H c' = none := I.hok.fresh hge
    have I1 := LamX.inv_table (t' := tk) (more := #[rawInt pos.line, rawInt pos.col, .ref c']) (h' := h') I hP (fun b o hb e => hx b o hb e) htb hge ⟨oc, vs, t, hoc, hd, hv⟩
    have hE : LamX.ExtN H (upd (upd H P (.tbl (ps ++ #[rawInt pos.line, rawInt pos.col, .ref c']))) c' (LamX.CodeO c' (X.env.qual ++ "<lambda>"))) := fun b o e n => by
      rw [upd_ne (ne_of_none e nC), upd_ne (fun z => n ps (Option.some.inj (e.symm.trans (by rw [z]; exact hP))))]
      exact e
    refine told I1 hE (fun p hp => ?_) (Nat.le_trans hge (Nat.le_of_lt hlt)) upd_same
    by_cases hb : p.1 = P
    · rw [hu p hp hb, hb]
      have eL : (ps ++ #[rawInt pos.line, rawInt pos.col, .ref c']).toList = ps.toList ++ [rawInt pos.line, rawInt pos.col, .ref c'] := by simp
      refine ⟨_, by rw [upd_ne (ne_of_none hP nC), upd_same], by rw [eL]; exact PySem.TriplesOk_snoc _ _ _ _ ht, fun p' cv hcv => ?_⟩
      rw [eL] at hcv
      rcases LamX.among_app _ ht hcv with z | z
      · obtain ⟨c0, e1, e2⟩ := ha p' cv z
        exact ⟨c0, e1, hE _ _ e2 LamX.codeO_ne⟩
      · exact ⟨c', z, upd_same⟩
    · obtain ⟨ps', a1, a2, a3⟩ := hT p hp
      refine ⟨ps', by rw [upd_ne (ne_of_none a1 nC), upd_ne hb]; exact a1, a2, fun p' cv hcv => ?_⟩
      obtain ⟨c0, e1, e2⟩ := a3 p' cv hcv
      exact ⟨c0, e1, hE _ _ e2 LamX.codeO_ne⟩
  | some cv =>
    obtain ⟨c', e, hco⟩ := ha pos cv hc
    subst e
    refine PySem.W.kla_makeFunctionHit (mg := X.mg) (c := c) (P := P) (ps := ps) (closure_ok hfree) I.ok.glob (I.mod.glob.keeps I.bk) hcode (TB.code.keeps I.bk) hP' ht hc bP fun ctv h' tk hx hsz => ?_
    exact told (s1 := { s with heap := h', toks := tk }) (I.kept hx) (LamX.ExtN.refl H) hT hsz hco
end
/-! ### the mirror -/
section
variable [LamT]
def m_lam (e0 j : Nat) (_ : Env) (ih : IH) : Res IV := if e0 ≤ ih.length then .ok (.ref ih.length) (ih ++ [.fn e0 j]) else .stuck
theorem Rel.lamF {K : PySem.W.Frag} {r : List Addr} {ih : IH} {H H2 : Hp} {f c' : Addr} {e0 j : Nat} {D : LamD} (h : Rel K r ih H) (e : LamX.ExtN H H2) (t : LamX.Tabs TabT.T H2) (he : e0 ≤ ih.length) (hD : LamT.fn e0 j = some D) (hf : H2 f = some (LamO f D c')) (hc : H2 c' = some (LamX.CodeO c' D.qual)) :
    Rel K (r ++ [f]) (ih ++ [.fn e0 j]) H2 := by
  have low : ∀ {n : Nat} {b : Addr} {o : MO}, (r ++ [f])[n]? = some b → (ih ++ [MO.fn e0 j])[n]? = some o → (r[n]? = some b ∧ ih[n]? = some o) ∨ (o = .fn e0 j ∧ b = f) := fun {n b o} e1 e2 => by
    by_cases hn : n < r.length
    · rw [List.getElem?_append_left hn] at e1
      rw [List.getElem?_append_left (by rw [← h.len]; exact hn)] at e2
      exact .inl ⟨e1, e2⟩
    · right
      rw [List.getElem?_append_right (by rw [← h.len]; omega)] at e2
      rw [List.getElem?_append_right (by omega)] at e1
      have hz : n - ih.length = 0 := by
        cases hz : n - ih.length with
        | zero => rfl
        | succ m => rw [hz] at e2; cases e2
      rw [hz] at e2
      rw [h.len, hz] at e1
      exact ⟨(Option.some.inj e2).symm, (Option.some.inj e1).symm⟩
  refine ⟨by rw [List.length_append, List.length_append, h.len]; rfl, fun n a o e1 e2 => ?_, fun n m a o u e1 e2 e3 e4 s1 s2 => ?_, t, h.pre.trans ⟨[f], rfl⟩, fun p hp => e _ _ (h.cod p hp) (fun ps y => by unfold LamX.CodeO at y; cases y), fun n e' j' g => ?_, fun e' j' g => h.top e' j' (by rw [List.length_append] at g; omega)⟩
  · rcases low e1 e2 with ⟨g1, g2⟩ | ⟨g1, g2⟩
    · exact ((h.get n a o g1 g2).stays e).mono ⟨[f], rfl⟩
    · subst g1
      subst g2
      intro D' hD'
      rw [hD] at hD'
      cases hD'
      exact ⟨c', hf, hc⟩
  · rcases low e1 e3 with ⟨g1, g3⟩ | ⟨g, _⟩
    · rcases low e2 e4 with ⟨g2, g4⟩ | ⟨g, _⟩
      · exact h.inj n m a o u g1 g2 g3 g4 s1 s2
      · subst g
        cases s2
    · subst g
      cases s1
  · by_cases hn : n < ih.length
    · rw [List.getElem?_append_left hn] at g
      exact h.ep n e' j' g
    · rw [List.getElem?_append_right (by omega)] at g
      cases hz : n - ih.length with
      | zero => rw [hz] at g; cases g; omega
      | succ m => rw [hz] at g; cases g
/-- lambda: body -/
theorem lm_lam {X : Cx} {W : WX} {c P : Addr} {e0 j : Nat} {params : Arguments} {body : Expr} {scope : Scope} {pos : Pos} (M : MkL X.base X.mg c P (X.env.qual ++ "<lambda>")) (hcode : X.env.code = .ref c) (L : LamX.LamS X.env.scope scope) (hdef : defaultsOf params X.env = ([], []))
    (hD : LamT.fn e0 j = some ⟨X.env.qual ++ "<lambda>", params, body, scope, cloFrom X.env.cells scope.names []⟩) : PE X (.Lambda params body scope pos) (tM X.K W (m_lam e0 j)) := by
  refine ⟨fun pins s σ H Q I ⟨r, ih, env, hr, he, q⟩ => ?_⟩
  unfold m_lam at q
  split at q
  · rename_i hl
    refine lam_makeT I M.tb hcode M.mem M.one hr.tab hdef (L.has I.ok) fun f c' H1 s' I1 eN T1 nf hf hc => ?_
    refine ⟨.ref f, H1, I1, rfl, q (r ++ [f]) H1 (.ref f) ⟨[f], rfl⟩ (hr.lamF eN T1 hl hD hf hc) ⟨f, ?_, rfl⟩⟩
    rw [← hr.len, List.getElem?_append_right (Nat.le_refl _), Nat.sub_self]
    rfl
  · exact q.elim
end
/-! ### the maker is entered, and left -/
/-- the table of a maker entered at the heap's length n0 -/
@[reducible] def LamT.into (I : LamT) (n0 : Nat) (T : Nat → Option LamD) : LamT := ⟨I.r0, I.cs, fun e j => if e = n0 then T j else I.fn e j⟩
theorem RO.inst {I0 I1 : LamT} {K : PySem.W.Frag} {r : List Addr} {H : Hp} {a : Addr} {o : MO} (h : @RO I0 K r H a o) (e : ∀ e j D, o = .fn e j → I1.fn e j = some D → I0.fn e j = some D) : @RO I1 K r H a o := by
  cases o with
  | fn e' j => exact fun D hD => h D (e e' j D rfl hD)
  | _ => exact h
theorem Rel.enter {I0 : LamT} {K : PySem.W.Frag} {r : List Addr} {ih : IH} {H : Hp} (h : @Rel _ I0 K r ih H) (f : Addr) (T : Nat → Option LamD) : @Rel _ (I0.into ih.length T) K (r ++ [f]) (ih ++ [.clo]) H := by
  have low : ∀ {n : Nat} {b : Addr} {o : MO}, (r ++ [f])[n]? = some b → (ih ++ [MO.clo])[n]? = some o → (n < ih.length ∧ r[n]? = some b ∧ ih[n]? = some o) ∨ o = .clo := fun {n b o} e1 e2 => by
    by_cases hn : n < r.length
    · rw [List.getElem?_append_left hn] at e1
      rw [List.getElem?_append_left (by rw [← h.len]; exact hn)] at e2
      exact .inl ⟨by rw [← h.len]; exact hn, e1, e2⟩
    · right
      rw [List.getElem?_append_right (by rw [← h.len]; omega)] at e2
      cases hz : n - ih.length with
      | zero => rw [hz] at e2; exact (Option.some.inj e2).symm
      | succ j => rw [hz] at e2; cases e2
  refine @Rel.mk _ (I0.into ih.length T) _ _ _ _ (by rw [List.length_append, List.length_append, h.len]; rfl) (fun n a o e1 e2 => ?_) (fun n m a o u e1 e2 e3 e4 s1 s2 => ?_) h.tab (h.pre.trans ⟨[f], rfl⟩) (fun p hp => h.cod p hp) (fun n e j g => ?_) fun e j g => ?_
  · rcases low e1 e2 with ⟨hn, g1, g2⟩ | g
    · refine @RO.mono _ (I0.into ih.length T) _ _ _ _ ⟨[f], rfl⟩ _ _ (RO.inst (h.get n a o g1 g2) fun e j D eo hD => ?_)
      subst eo
      have := h.ep n e j g2
      have hD' : (if e = ih.length then T j else I0.fn e j) = some D := hD
      rw [if_neg (by omega)] at hD'
      exact hD'
    · subst g
      trivial
  · rcases low e1 e3 with ⟨_, g1, g3⟩ | g
    · rcases low e2 e4 with ⟨_, g2, g4⟩ | g
      · exact h.inj n m a o u g1 g2 g3 g4 s1 s2
      · subst g
        cases s2
    · subst g
      cases s1
  · by_cases hn : n < ih.length
    · rw [List.getElem?_append_left hn] at g
      exact h.ep n e j g
    · rw [List.getElem?_append_right (by omega)] at g
      cases hz : n - ih.length with
      | zero => rw [hz] at g; cases g
      | succ m => rw [hz] at g; cases g
  · rw [List.length_append] at g
    show (if e = ih.length then T j else I0.fn e j) = none
    rw [if_neg (by simp at g; omega)]
    exact h.top e j (by omega)
theorem Rel.leave {I0 : LamT} {K : PySem.W.Frag} {r : List Addr} {ih : IH} {H : Hp} {n0 : Nat} {T : Nat → Option LamD} (h : @Rel _ (I0.into n0 T) K r ih H) (t : ∀ j, I0.fn n0 j = none) : @Rel _ I0 K r ih H := by
  obtain ⟨h1, h2, h3, h4, h5, h6, h7, h8⟩ := h
  refine @Rel.mk _ I0 _ _ _ _ h1 (fun n a o e1 e2 => RO.inst (h2 n a o e1 e2) fun e j D eo hD => ?_) h3 h4 h5 (fun p hp => h6 p hp) h7 fun e j g => ?_
  · show (if e = n0 then T j else I0.fn e j) = some D
    by_cases hn : e = n0
    · subst hn
      rw [t j] at hD
      cases hD
    · rw [if_neg hn]
      exact hD
  · by_cases hn : e = n0
    · rw [hn]
      exact t j
    · have := h8 e j g
      have h2 : (if e = n0 then T j else I0.fn e j) = none := this
      rw [if_neg hn] at h2
      exact h2
/-- a maker's run: its body is told the heap's length at the entry -/
def defRunF (N : Nat) (mb : Nat → Env → IH → RS) (args : List IV) (ih : IH) : Res IV := (mb ih.length (startI N args) (ih ++ [.clo])).out
/-- the lambdas of a def, in the order of the text -/
abbrev LamW := Arguments × Expr × Scope
def tabOf (qual : Str) (cells : List (Str × Addr)) (ws : List LamW) (j : Nat) : Option LamD := (ws[j]?).map fun w => ⟨qual, w.1, w.2.1, w.2.2, cloFrom cells w.2.2.names []⟩
section
variable {P : Program} {w : World} {K : PySem.W.Frag} {mg : Str → Option Value} {base : Heap} {k : Nat} {x qual : Str} {st : Stmt} {f : Addr} {fd : FuncData} {N ps : List Str}
theorem df0F [I0 : LamT] {c : Addr} {mb : Nat → Env → IH → RS} {ws : List LamW} (F : FunD K x qual (defArgs st) (defBody st) (defScope st) [] [] f fd) (hc : fd.code = .ref c) (S : FnScope N ps (defScope st)) (hm : mg x = some (.ref f))
    (h : ∀ (kV doc pm : Value) (an : Option Addr) (cdv ct : Value) (us : List Value), us.length = ps.length → bindArgs (PySem.W.fnOf x qual (defArgs st) (defBody st) (defScope st) .none kV doc pm an cdv ct) ⟨us, []⟩ = pure (ps.zip us))
    (hbody : ∀ (I : LamT) (e0 : Nat) (A : Around) (outer : List PySem.Env) (s : Shared) (H : Hp) (E : XK),
      (∀ j, I.fn e0 j = tabOf ((cxOf (L2.CX P w) P w K mg base N qual (defScope st) f (.ref c) A outer s H E).env.qual ++ "<lambda>") (cxOf (L2.CX P w) P w K mg base N qual (defScope st) f (.ref c) A outer s H E).env.cells ws j) →
      Room k (cxOf (L2.CX P w) P w K mg base N qual (defScope st) f (.ref c) A outer s H E).A →
      Takes (cxOf (L2.CX P w) P w K mg base N qual (defScope st) f (.ref c) A outer s H E) (fun cls d _ H => E cls d H) →
      PassesOwn (model P w) (cxOf (L2.CX P w) P w K mg base N qual (defScope st) f (.ref c) A outer s H E).A (cxOf (L2.CX P w) P w K mg base N qual (defScope st) f (.ref c) A outer s H E).env (cxOf (L2.CX P w) P w K mg base N qual (defScope st) f (.ref c) A outer s H E).xe →
      (cxOf (L2.CX P w) P w K mg base N qual (defScope st) f (.ref c) A outer s H E).A.units + 64 < cLine →
      PSs (cxOf (L2.CX P w) P w K mg base N qual (defScope st) f (.ref c) A outer s H E) (defBody st) (@tMS _ I K (fun cls d _ H => E cls d H) (mb e0))) : Df P w K mg base (k + 1) x ps.length [] (defRunF N.length mb) := by
  refine ⟨fun _ h => (nomatch h), f, fd, ps, rfl, hm, F.kp, ?_, fun j _ => ⟨[], by rw [List.drop_nil]; exact .nil, F.bindsN h⟩⟩
  obtain ⟨oc, od, dV, kV, doc, pm, an, cdv, ct, osl, rfl, lk, hcd, _, _⟩ := F.ex
  have hc' : cdv = .ref c := hc
  subst hc'
  refine fn_of lk hcd S (fun vs H Q E ⟨r, ih, args, e, _, rs, _⟩ => rs.length ▸ e) fun A outer s H vs Q E hr ⟨r, ih, args, e, hrel, rs, q⟩ => ⟨_, hbody (I0.into ih.length (tabOf ((cxOf (L2.CX P w) P w K mg base N qual (defScope st) f (.ref c) A outer s H E).env.qual ++ "<lambda>") (cxOf (L2.CX P w) P w K mg base N qual (defScope st) f (.ref c) A outer s H E).env.cells ws)) ih.length A outer s H E (fun j => if_pos rfl) hr (takes_of rfl rfl rfl rfl) (passes_of rfl) (by
    have hu := hr.un
    show (A.deeper (envOfC qual (defScope st) s.heap.objs.size f (.ref c))).units + 64 < cLine
    omega), r ++ [f], ih ++ [.clo], startI N.length args, hrel.enter f _, start_rel (rs.mono ⟨[f], rfl⟩), ?_⟩
  have t := fun j => hrel.top ih.length j (Nat.le_refl _)
  unfold defRunF at q
  cases z : mb ih.length (startI N.length args) (ih ++ [.clo]) with
  | ok fl ih2 =>
    rw [z] at q
    cases fl with
    | ret v => exact fun r' H' u p hr' hv => q r' H' u (pre_trans ⟨[f], rfl⟩ p) (hr'.leave t) hv
    | next env => exact fun r' H' σ' p hr' he' => q r' H' .non (pre_trans ⟨[f], rfl⟩ p) (hr'.leave t) rfl
    | brk env => exact q.elim
    | cont env => exact q.elim
  | exc c' env ih2 =>
    rw [z] at q
    exact fun r' H' σ' p hr' he' => q r' H' (pre_trans ⟨[f], rfl⟩ p) (hr'.leave t)
  | stuck => rw [z] at q; exact q
end
end L3
/-! L3B: calls of lambdas without parameters. -/
namespace L3
variable [TabT]
open PySem PySem.Spec PyProof.Rows L2
/-- x(), the slot i holds a lambda -/
def m_call0 (i : Nat) (lams : Nat → Nat → IH → Res IV) (env : Env) (ih : IH) : Res IV := match env[i]? with
  | some (some (.ref n)) => match ih[n]? with
    | some (.fn e j) => lams e j ih
    | _ => .stuck
  | _ => .stuck
section
variable {X : Cx} {pins : List (Addr × Obj)} {σ : L2.St} {H HZ : Hp} {s s1 : Shared} {scope : Scope}
/-- the lambda's frame, entered from the frames outer -/
theorem lam_enter0 {A : Around} {outer : List PySem.Env} {E : XK} {f c' : Addr} {h₁ : Heap} {tk : Nat} (I : L2.Inv X pins σ H s) (L : LamX.LamS X.env.scope scope) (e0 : Env0 X.prog X.w X.K X.mg X.base A outer s1 HZ) (hd : A.handled = none)
    (un : ∀ z c v, X.env.cells.lookup z = some c → s.heap.IsCell c v → s1.heap.IsCell c v ∧ HZ c = none) (hns : h₁.Ns s1.heap.objs.size fun z => ([] : List (Str × Value)).reverse.lookup z) (kp : ∀ b o, s1.heap.get? b = some o → h₁.get? b = some o) :
    L2.Inv (LamX.lamCx X A outer s1 HZ E scope f c') [] σ HZ { s1 with heap := h₁, toks := tk } := by
  have hfree := L.has I.ok
  have inX : ∀ {z : Str} {c : Addr}, (cloFrom X.env.cells scope.names []).lookup z = some c → X.env.cells.lookup z = some c := fun {z c} e => by
    rcases cloFrom_mem (PySem.mem_of_lookup e) with hm | ⟨h1, h2⟩
    · cases hm
    · obtain ⟨c1, hc⟩ := hfree _ h1 rfl
      have hc' : X.env.cells.lookup z = some c1 := hc
      have ec : c = c1 := by
        rw [h2, hc'] <;> rfl
      rw [ec]
      exact hc'
  have got : ∀ {z : Str}, scope.names.lookup z = some .free → ∃ c, (cloFrom X.env.cells scope.names []).lookup z = some c := fun {z} hl =>
    mem_lookup (cloFrom_has (cells := X.env.cells) (acc := []) (show (z, NameKind.free) ∈ scope.names from PySem.mem_of_lookup hl))
  have held : ∀ {z : Str} {c : Addr} {v : Option Value}, X.env.cells.lookup z = some c → s.heap.IsCell c v → h₁.IsCell c v := fun {z c v} n q => by
    obtain ⟨o, ho, hdat⟩ := (un z c v n q).1
    exact ⟨o, kp _ _ ho, hdat⟩
  have noA : ∀ b : Addr, b ∉ (LamX.lamCx X A outer s1 HZ E scope f c').ex := fun b z => absurd (show b ∈ ([] : List Addr) from z) (by simp)
  have okL : (LamX.lamCx X A outer s1 HZ E scope f c').Ok := {
    mod := e0.mod
    kind := L.kind
    glob := rfl
    blt := rfl
    above := Nat.le_refl _
    inj := fun y1 y2 c e1 e2 => I.ok.inj y1 y2 c (inX e1) (inX e2)
    has := fun z hz => (show scope.names.lookup z = some .cell ∨ scope.names.lookup z = some .free from hz).elim (fun k => absurd rfl (L.own _ (PySem.mem_of_lookup k)).2) fun k => got k
    cab := fun z c hz _ => absurd (show false = true from hz) Bool.false_ne_true
    hd := fun _ => hd
    frames := Around.frames_deeper e0.frames
    stk := .inr ⟨rfl, rfl⟩
    exf := fun b z => absurd z (noA b)
    bs := e0.bs
    bsz := e0.bsz
    noex := fun b _ _ => noA b
    exfs := fun b z => absurd z (noA b)
    funs := e0.funs
    frf := e0.frf }
  refine ⟨okL, rfl, e0.bare, Un.kept kp, ⟨_, hns, fun i z v e1 e2 e3 => ?_⟩, fun z c e => ?_, e0.hok.fresh (Nat.le_refl _), fun z c e => ?_, fun q hq => absurd (show q ∈ ([] : List (Addr × Obj)) ++ [] from hq) (by simp), e0.hok.kept kp, I.len⟩
  · have e1' : X.N[i]? = some z := e1
    have e3' : Vis scope z := e3
    rcases e3' with k | k | k
    · exact absurd rfl (L.own _ (PySem.mem_of_lookup k)).1
    · exact absurd rfl (L.own _ (PySem.mem_of_lookup k)).2
    · obtain ⟨m, hn, hl⟩ := I.loc
      have sees := L.free _ (PySem.mem_of_lookup k) rfl
      obtain ⟨w', rw', q⟩ := hl i z v e1' e2 (sees.elim (fun k2 => .inr (.inl k2)) fun k2 => .inr (.inr k2))
      obtain ⟨c2, h2⟩ := got k
      refine ⟨w', rw', .inr ⟨.inr k, c2, h2, ?_⟩⟩
      have c1 := inX h2
      rcases q with ⟨k', _⟩ | ⟨_, c3, e', zc⟩
      · have k2' : X.env.scope.names.lookup z = some .local := k'
        rcases sees with k2 | k2
        · have k3 : X.env.scope.names.lookup z = _ := k2
          rw [k3] at k2'
          cases k2'
        · have k3 : X.env.scope.names.lookup z = _ := k2
          rw [k3] at k2'
          cases k2'
      · rw [c1] at e'
        cases e'
        exact held c1 zc
  · obtain ⟨w', zc⟩ := I.cell z c (inX e)
    exact ⟨w', held (inX e) zc⟩
  · obtain ⟨v, zc⟩ := I.cell z c (inX e)
    exact (un z c v (inX e) zc).2
end
section
variable [LamT] {X : Cx} {pins : List (Addr × Obj)} {σ : L2.St} {H : Hp} {s : Shared}
/-- the context of a def, entered at s from X; base2: what is known to stay there -/
abbrev ZxE (X : Cx) (base2 : Heap) (Ng : List Str) (qg : Str) (sg : Scope) (g : Addr) (cdg : Value) (s : Shared) (H : Hp) (Eg : XK) : Cx := cxOf (L2.CX X.prog X.w) X.prog X.w X.K X.mg base2 Ng qg sg g cdg X.A X.stack s H Eg
/-- what a lambda of the maker X does -/
structure LamOk (X : Cx) (k : Nat) (D : LamD) (ml : Env → IH → Res IV) : Prop where
  qual : D.qual = X.env.qual ++ "<lambda>"
  cl : D.cl = cloFrom X.env.cells D.scope.names []
  sc : LamX.LamS X.env.scope D.scope
  bind : ∀ (pm cv ctv : Value), bindArgs (PySem.W.kla_fn "<lambda>" D.qual D.params D.body D.scope D.cl pm cv ctv) ⟨[], []⟩ = pure []
  run : ∀ (A : Around) (outer : List PySem.Env) (s' : Shared) (H' : Hp) (f c' : Addr) (E : XK), Room k (A.deeper (LamX.lamEnv X D.scope s'.heap.objs.size f c')) → PE (LamX.lamCx X A outer s' H' E D.scope f c') D.body (tM X.K (fun cls d _ H => E cls d H) ml)
abbrev ActOk0 (Z : Cx) (i : Nat) (a : Str) (lams : Nat → Nat → IH → Res IV) : Prop :=
  ∀ {s0 : Shared} {H0 : Hp} {env : PySem.Env} {outer : List PySem.Env} {ex : List Addr} {fn : Str → Bool} {calm : Bool} {pn : List (Addr × Obj)} {xe : Value → Shared → Prop} {p1 p2 : Pos} {W : WX},
    Takes (Zin Z s0 H0 env outer ex fn calm pn xe) W → Vis env.scope a → PE (Zin Z s0 H0 env outer ex fn calm pn xe) (.Call (.Name a p1) [] [] p2) (tM Z.K W (m_call0 i lams))
theorem act_ok0 {pinsM : List (Addr × Obj)} {σM : L2.St} {HM : Hp} {sM : Shared} {base2 : Heap} {Ng : List Str} {qg : Str} {sg : Scope} {g : Addr} {cdg : Value} {Eg : XK} {k i e0 : Nat} {a : Str} {ml : Nat → Env → IH → Res IV} {env0 : Env}
    (I : L2.Inv X pinsM σM HM sM) (hL : ∀ j, (∃ D, LamT.fn e0 j = some D ∧ LamOk X k D (ml j)) ∨ ∀ env ih, ml j env ih = .stuck) (he0 : REnv LamT.r0 env0 σM)
    (hcl : ∀ z c o, X.env.cells.lookup z = some c → sM.heap.get? c = some o → base2.get? c = some o) (hb2 : ∀ b o, X.base.get? b = some o → base2.get? b = some o) (hz2 : X.base.objs.size ≤ base2.objs.size)
    (hr : Room (k + 1) (X.A.deeper (envOfC qg sg s.heap.objs.size g cdg)))
    (hNg : Ng[i]? = some a) (hd : (a == ("__debug__" : Str)) = false := by decide) (hcd : (a == ("__classdict__" : Str)) = false := by decide) : ActOk0 (ZxE X base2 Ng qg sg g cdg s H Eg) i a (fun e j ih => if e = e0 then ml j env0 ih else .stuck) := by
  intro s0 H0 env1 outer ex fn calm pn xe p1 p2 W tkz hv
  generalize hZ : Zin (ZxE X base2 Ng qg sg g cdg s H Eg) s0 H0 env1 outer ex fn calm pn xe = Z at tkz ⊢
  have zb : Z.base = base2 := by rw [← hZ]; rfl
  have zA : Z.A = X.A.deeper (envOfC qg sg s.heap.objs.size g cdg) := by rw [← hZ]; rfl
  have zs : Z.stack = envOfC qg sg s.heap.objs.size g cdg :: X.stack := by rw [← hZ]; rfl
  have zN : Z.N = Ng := by rw [← hZ]; rfl
  have zp : Z.prog = X.prog := by rw [← hZ]; rfl
  have zw : Z.w = X.w := by rw [← hZ]; rfl
  have zK : Z.K = X.K := by rw [← hZ]; rfl
  have zm : Z.mg = X.mg := by rw [← hZ]; rfl
  have zv : Vis Z.env.scope a := by rw [← hZ]; exact hv
  show PE Z (.Call (.Name a p1) [] [] p2) (tM X.K W (m_call0 i fun e j ih => if e = e0 then ml j env0 ih else .stuck))
  clear hZ
  obtain ⟨Zprog, Zw, ZK, Zmg, Zbase, ZA, ZN, Zs0, ZH0, Zenv, Zouter, Zstack, Zex, Zfn, Zcalm, Zpn, Zxe⟩ := Z
  dsimp only at zb zA zs zN zp zw zK zm zv
  replace zb := zb.symm
  subst zb
  subst zA
  subst zs
  replace zN := zN.symm
  subst zN
  subst zp
  subst zw
  subst zK
  subst zm
  refine ⟨fun pinsZ sZ σZ HZ Q IZ ⟨r, ih, env, hrl, hen, q⟩ => ?_⟩
  unfold m_call0 at q
  split at q
  · rename_i m hm
    split at q
    · rename_i e j hfn
      dsimp only at q
      by_cases he : e = e0
      · subst he
        rw [if_pos rfl] at q
        rcases hL j with ⟨D, hD, ok⟩ | hN
        rotate_left
        · rw [hN] at q
          exact q.elim
        obtain ⟨Dq, Dp, Db, Ds, Dc⟩ := D
        obtain ⟨ok1, ok2, ok3, ok4, ok5⟩ := ok
        dsimp only at ok1 ok2 ok3 ok4 ok5
        subst ok1
        subst ok2
        obtain ⟨u0, hu0, f, ha0, hu1⟩ := hen.2 i _ hm
        subst hu1
        obtain ⟨c', hf, hc⟩ := hrl.get m f _ ha0 hfn _ hD
        refine wpAny_Call_Name_kw (thn ((pe_var (pos := p1) (i := i) hNg zv hd hcd).run pinsZ sZ σZ HZ (fun v H1 => v = .ref f ∧ H1 = HZ) IZ ⟨.ref f, hu0, rfl, rfl⟩) fun w1 s2 ⟨v, H1, I1, rv, ev, eH⟩ => ?_)
        subst ev
        rw [eH] at I1
        obtain rfl : w1 = Value.ref f := rv
        obtain ⟨⟨pm, ctv, fAt⟩, _, _⟩ := I1.hok f _ hf
        obtain ⟨⟨oc, vs, t, hoc, hdc, hvc⟩, _, _⟩ := I1.hok c' _ hc
        refine PySem.W.callWith_F0 ⟨_, _, _, _, fAt⟩ ?_
        have e02 := I1.env0
        have e0' : Env0 X.prog X.w X.K X.mg X.base (X.A.deeper (envOfC qg sg s.heap.objs.size g cdg)) (envOfC qg sg s.heap.objs.size g cdg :: X.stack) s2 HZ := by
          have fb : ∀ L, base2.get? L = none → X.base.get? L = none := fun L z => by
            cases z1 : X.base.get? L with
            | none => rfl
            | some o =>
              rw [hb2 L o z1] at z
              cases z
          exact ⟨e02.frames, I.ok.mod, fun b o z => e02.bs b o (hb2 b o z), Nat.le_trans hz2 e02.bsz, funs_base e02.funs (fun L _ z => fb L z), e02.frf, e02.hok, e02.bare⟩
        have rc : codeAny (model X.prog X.w) (X.A.deeper (envOfC qg sg s.heap.objs.size g cdg)) (.call (.ref f) ⟨[], []⟩) (CR (L2.CX X.prog X.w) (envOfC qg sg s.heap.objs.size g cdg :: X.stack) X.prog X.w HZ s2 Q (fun cls d H' => W cls d σZ H')) s2 := by
          refine PySem.W.kla_callFunE hr.depth fAt rfl ok3.co ok3.gen rfl ⟨c', oc, vs, t, rfl, hoc, hdc, hvc⟩ ?_
          rw [ok4]
          refine wpAny_pure (wpAny_newFunctionEnv (fun y hy => (ok3.own y hy).2) (fun y hy => absurd hy (by simp)) (fun h₁ hns hsb => ⟨I1.nolimit.fresh _ hsb, ?_⟩) ok3.kind)
          have kp : ∀ d o, s2.heap.get? d = some o → h₁.get? d = some o := fun d o ed => hsb.extBut d o (Nat.ne_of_lt (Heap.lt_size ed)) (Heap.get?_push_of_some _ ed)
          have J := lam_enter0 (E := fun cls d H' => W cls d σZ H') (f := f) (c' := c') (tk := s2.toks + ([] : List (Str × Value)).length) I ok3 e0' hr.hd (fun z c v e1 ⟨o, e2, e3⟩ => ⟨⟨o, (I1.bs c o (hcl z c o e1 e2)).1, e3⟩, (I1.bs c o (hcl z c o e1 e2)).2⟩) hns kp
          have rd : tM X.K (fun cls d _ H' => W cls d σZ H') (ml j) σM HZ Q := ⟨r, ih, env0, hrl, he0.mono hrl.pre, by
            cases z : ml j env0 ih with
            | ok v ih2 => rw [z] at q; exact q
            | exc cc ih2 => rw [z] at q; exact q
            | stuck => rw [z] at q; exact q⟩
          refine PySem.W.kla_codeExpr (wpAny_mono ((ok5 _ _ s2 HZ f c' (fun cls d H' => W cls d σZ H') (hr.deeper _)).run [] _ _ HZ Q J rd) (fun v s' hq => ?_) fun e' s' hq => hq)
          obtain ⟨w', H', J', rv', q'⟩ := hq
          exact ⟨w', H', J'.os, J'.bare, J'.base, J'.hok, rv', q'⟩
        refine wpAny_call (codeAny_mono rc fun res s' hq => ?_)
        cases res with
        | error e' => exact passAt tkz σZ pinsZ HZ s2 e' s' I1 hq
        | ok fl =>
          cases fl with
          | ret u => exact I1.after hq
          | next => exact False.elim hq
          | brk => exact False.elim hq
          | cont => exact False.elim hq
      · rw [if_neg he] at q
        exact q.elim
    · exact q.elim
  · exact q.elim
end
end L3
/-! L3C: defs that call a lambda they are handed, and their calls. -/
namespace L3
variable [TabT]
open PySem PySem.Spec PyProof.Rows L2
/-- a def that calls what stands in its slot i, with no arguments -/
structure DfW (P : Program) (w : World) (K : PySem.W.Frag) (mg : Str → Option Value) (base : Heap) (k : Nat) (x : Str) (n N i : Nat) (mb : (Nat → Nat → IH → Res IV) → Env → IH → RS) : Prop where
  ex : ∃ (g : Addr) (qual : Str) (pg : Arguments) (bg : List Stmt) (sg : Scope) (dV kV doc pm cdv ct oc : Value) (an od : Option Addr) (osl : Array (Option Value)) (Ng ps : List Str) (a : Str),
    (ps.length = n ∧ Ng.length = N ∧ mg x = some (.ref g) ∧ PySem.W.keepIn K (.ref g) = true) ∧
    (K.lookup g = some ⟨oc, od, .func (PySem.W.fnOf x qual pg bg sg dV kV doc pm an cdv ct), osl⟩ ∧ PySem.W.codeIn K cdv qual = true ∧ Binds K (PySem.W.fnOf x qual pg bg sg dV kV doc pm an cdv ct) ps []) ∧
    (FnScope Ng ps sg ∧ Ng[i]? = some a ∧ Vis sg a ∧ (a == ("__debug__" : Str)) = false ∧ (a == ("__classdict__" : Str)) = false) ∧
    ∀ (I : LamT) (base2 : Heap) (A : Around) (outer : List PySem.Env) (s : Shared) (H : Hp) (E : XK) (lams : Nat → Nat → IH → Res IV), Room k (A.deeper (envOfC qual sg s.heap.objs.size g cdv)) →
      @ActOk0 _ I (cxOf (L2.CX P w) P w K mg base2 Ng qual sg g cdv A outer s H E) i a lams → PSs (cxOf (L2.CX P w) P w K mg base2 Ng qual sg g cdv A outer s H E) bg (@tMS _ I K (fun cls d _ H => E cls d H) (mb lams))
section
variable {P : Program} {w : World} {K : PySem.W.Frag} {mg : Str → Option Value} {base : Heap} {k i : Nat} {x qual a : Str} {st : Stmt} {f : Addr} {fd : FuncData} {N ps : List Str}
theorem dfW {mb : (Nat → Nat → IH → Res IV) → Env → IH → RS} (F : FunD K x qual (defArgs st) (defBody st) (defScope st) [] [] f fd) (S : FnScope N ps (defScope st)) (hm : mg x = some (.ref f)) (ha : N[i]? = some a) (hv : Vis (defScope st) a)
    (h : ∀ (kV doc pm : Value) (an : Option Addr) (cdv ct : Value) (us : List Value), us.length = ps.length → bindArgs (PySem.W.fnOf x qual (defArgs st) (defBody st) (defScope st) .none kV doc pm an cdv ct) ⟨us, []⟩ = pure (ps.zip us))
    (hbody : ∀ (I : LamT) (base2 : Heap) (cdv : Value) (A : Around) (outer : List PySem.Env) (s : Shared) (H : Hp) (E : XK) (lams : Nat → Nat → IH → Res IV), Room k (cxOf (L2.CX P w) P w K mg base2 N qual (defScope st) f cdv A outer s H E).A →
      Takes (cxOf (L2.CX P w) P w K mg base2 N qual (defScope st) f cdv A outer s H E) (fun cls d _ H => E cls d H) →
      PassesOwn (model P w) (cxOf (L2.CX P w) P w K mg base2 N qual (defScope st) f cdv A outer s H E).A (cxOf (L2.CX P w) P w K mg base2 N qual (defScope st) f cdv A outer s H E).env (cxOf (L2.CX P w) P w K mg base2 N qual (defScope st) f cdv A outer s H E).xe →
      (cxOf (L2.CX P w) P w K mg base2 N qual (defScope st) f cdv A outer s H E).A.units + 64 < cLine →
      @ActOk0 _ I (cxOf (L2.CX P w) P w K mg base2 N qual (defScope st) f cdv A outer s H E) i a lams → PSs (cxOf (L2.CX P w) P w K mg base2 N qual (defScope st) f cdv A outer s H E) (defBody st) (@tMS _ I K (fun cls d _ H => E cls d H) (mb lams)))
    (hd : (a == ("__debug__" : Str)) = false := by decide) (hcd : (a == ("__classdict__" : Str)) = false := by decide) : DfW P w K mg base k x ps.length N.length i mb := by
  have hB := F.bindsN h
  obtain ⟨oc, od, dV, kV, doc, pm, an, cdv, ct, osl, rfl, lk, hc, hD, hK⟩ := F.ex
  exact ⟨f, qual, defArgs st, defBody st, defScope st, dV, kV, doc, pm, cdv, ct, oc, an, od, osl, N, ps, a, ⟨rfl, rfl, hm, F.kp⟩, ⟨lk, hc, hB⟩, ⟨S, ha, hv, hd, hcd⟩, fun I base2 A outer s H E lams hr act => hbody I base2 cdv A outer s H E lams hr (takes_of rfl rfl rfl rfl) (passes_of rfl) (by
    have hu := hr.un
    show (A.deeper (envOfC qual (defScope st) s.heap.objs.size f cdv)).units + 64 < cLine
    omega) act⟩
end
/-! ### its call -/
/-- what the lambdas of the maker entered at e0 do, the maker's slots being env -/
abbrev lamsAt (e0 : Nat) (ml : Nat → Env → IH → Res IV) (env : Env) : Nat → Nat → IH → Res IV := fun e j ih => if e = e0 then ml j env ih else .stuck
def m_callW (n N e0 : Nat) (mb : (Nat → Nat → IH → Res IV) → Env → IH → RS) (ml : Nat → Env → IH → Res IV) (ma : Env → IH → Res (List IV)) (env : Env) (ih : IH) : Res IV :=
  (ma env ih).bind fun xs ih1 => if xs.length = n then defRun N (mb (lamsAt e0 ml env)) xs ih1 else .stuck
theorem Rel.pin {I0 : LamT} {K : PySem.W.Frag} {r : List Addr} {ih : IH} {H : Hp} (h : @Rel _ I0 K r ih H) : @Rel _ ⟨r, I0.cs, I0.fn⟩ K r ih H := by
  obtain ⟨h1, h2, h3, h4, h5, h6, h7, h8⟩ := h
  exact @Rel.mk _ ⟨r, I0.cs, I0.fn⟩ _ _ _ _ h1 (fun n a o e1 e2 => RO.inst (h2 n a o e1 e2) fun e j D _ hD => hD) h3 h4 (pre_refl r) (fun p hp => h6 p hp) h7 h8
theorem Rel.unpin {I0 : LamT} {K : PySem.W.Frag} {r0 r : List Addr} {ih : IH} {H : Hp} (h : @Rel _ ⟨r0, I0.cs, I0.fn⟩ K r ih H) (p : I0.r0 <+: r0) : @Rel _ I0 K r ih H := by
  obtain ⟨h1, h2, h3, h4, h5, h6, h7, h8⟩ := h
  exact @Rel.mk _ I0 _ _ _ _ h1 (fun n a o e1 e2 => RO.inst (h2 n a o e1 e2) fun e j D _ hD => hD) h3 h4 (p.trans h5) (fun p hp => h6 p hp) h7 h8
/-- what stands in the maker's cells is what stood there when XM's state was told -/
def Link [LamT] (XM X : Cx) (vs : List Nat) (P : L2.St → Prop) : Prop := ∀ (pins : List (Addr × Obj)) (s : Shared) (σ : L2.St) (H : Hp) (r : List Addr) (env : Env), L2.Inv X pins σ H s → P σ → REnv r env σ →
  ∃ (pinsM : List (Addr × Obj)) (σM : L2.St) (HM : Hp) (sM : Shared), L2.Inv XM pinsM σM HM sM ∧ REnv r (wipeI env vs) σM ∧ ∀ z c o, XM.env.cells.lookup z = some c → sM.heap.get? c = some o → s.heap.get? c = some o ∧ H c = none ∧ c ∉ frs X.stack
section
variable [LamT] {XM X : Cx} {W : WX} {k n N i e0 : Nat} {x : Str} {mb : (Nat → Nat → IH → Res IV) → Env → IH → RS} {ml : Nat → Env → IH → Res IV} {es : List Expr} {la : Expr} {ma : Env → IH → Res (List IV)} {mla : Env → IH → Res IV} {np pos : Pos} {vs : List Nat}
/-- x(es, la): la is evaluated last -/
def m_callV (vs : List Nat) (n N e0 : Nat) (mb : (Nat → Nat → IH → Res IV) → Env → IH → RS) (ml : Nat → Env → IH → Res IV) (ma : Env → IH → Res (List IV)) (mla : Env → IH → Res IV) (env : Env) (ih : IH) : Res IV :=
  (ma env ih).bind fun xs ih1 => (mla env ih1).bind fun y ih2 => if (xs ++ [y]).length = n then defRun N (mb (lamsAt e0 ml (wipeI env vs))) (xs ++ [y]) ih2 else .stuck
theorem lm_callV {s0 : Shared} {H0 : Hp} {benv : PySem.Env} {bouter : List PySem.Env} {bex : List Addr} {bfn : Str → Bool} {bcalm : Bool} {bpn : List (Addr × Obj)} {bxe : Value → Shared → Prop} (hX : X = Zin XM s0 H0 benv bouter bex bfn bcalm bpn bxe)
    {P : L2.St → Prop} (LK : Link XM X vs P) (D : DfW XM.prog XM.w XM.K XM.mg XM.base (k + 1) x n N i mb) (hr : Room (k + 2) XM.A) (hg : Gl X x) (ha : AL X W es ma) (hla : PE X la (tM X.K W mla)) (tk : Takes X W)
    (hL : ∀ (r0 : List Addr) (j : Nat), (∃ D, LamT.fn e0 j = some D ∧ @LamOk _ ⟨r0, LamT.cs, LamT.fn⟩ XM k D (ml j)) ∨ ∀ env ih, ml j env ih = .stuck)
    (hle : starEach [la] X.env = [(false, eval la X.env)]) (hdb : (x == ("__debug__" : Str)) = false := by decide)
    (hpl : ∀ {first : Expr} {rest : List Expr}, es ++ [la] = first :: rest → starEach (first :: rest) X.env = (false, eval first X.env) :: starEach rest X.env ∧ (backTo pos (starEach rest X.env)).any (·.1) = false) :
    PE X (.Call (.Name x np) (es ++ [la]) [] pos) (fun σ H Q => P σ ∧ tM X.K W (m_callV vs n N e0 mb ml ma mla) σ H Q) := by
  subst hX
  obtain ⟨g, qual, pg, bg, sg, dV, kV, doc, pm, cdv, ct, oc, an, od, osl, Ng, ps, a, ⟨hps, hNg, hm, hk⟩, ⟨lk, hcd, hB⟩, ⟨Sg, hNa, hva, hda, hca⟩, hbody⟩ := D.ex
  refine ⟨fun pins s σ H Q I ⟨hP, r, ih, env, hrl, he, q⟩ => ?_⟩
  refine wpAny_Call_Name_kw (ld_glob I hg hm ?_ hdb)
  obtain ⟨first, rest, hfr⟩ : ∃ first rest, es ++ [la] = first :: rest := by
    cases es with
    | nil => exact ⟨_, _, rfl⟩
    | cons e es => exact ⟨_, _, rfl⟩
  obtain ⟨hs1, hs2⟩ := hpl hfr
  have run := ha.run hle (pos := pos) (Q := fun us s1 => XM.K.In s1.heap ∧ wpAny (model XM.prog XM.w) XM.A (call (.ref g) us) (EP (Zin XM s0 H0 benv bouter bex bfn bcalm bpn bxe) pins σ Q) bxe s1) I hrl he ?_
  · rw [hfr] at run ⊢
    exact PySem.W.callWith_K (h₀ := XM.base) I.ok.mod.kin hk run hs1 hs2
  unfold m_callV at q
  cases em : ma env ih with
  | stuck => rw [em] at q; exact q.elim
  | exc cc ih1 => rw [em] at q; exact fun r1 H1 p1 q1 => q r1 H1 p1 q1
  | ok vs1 ih1 =>
    rw [em] at q
    simp only [Res.bind_ok] at q
    intro r1 H1 zs us s1 p1 hr1 hvs rvs I1
    have q' : PGen R XM.K W σ r1 ((mla env ih1).bind fun y ih2 => if (vs1 ++ [y]).length = n then defRun N (mb (lamsAt e0 ml (wipeI env vs))) (vs1 ++ [y]) ih2 else .stuck) Q := by
      cases z : ((mla env ih1).bind fun y ih2 => if (vs1 ++ [y]).length = n then defRun N (mb (lamsAt e0 ml (wipeI env vs))) (vs1 ++ [y]) ih2 else .stuck) with
      | ok v ih2 => rw [z] at q; exact fun r' H' u p hr' hv => q r' H' u (pre_trans p1 p) hr' hv
      | exc cc ih2 => rw [z] at q; exact fun r' H' p hr' => q r' H' (pre_trans p1 p) hr'
      | stuck => rw [z] at q; exact q
    refine thn (hla.run pins s1 σ H1 _ I1 (tG_bind hr1 (he.mono p1) q')) fun w s2 ⟨x2, H2, I2, rx, r2, ih2, v2, p2, hr2, hv2, q2⟩ => ⟨I2.kIn, ?_⟩
    dsimp only at q2
    by_cases hlen : (vs1 ++ [v2]).length = n
    · rw [if_pos hlen] at q2
      obtain ⟨pinsM, σM, HM, sM, IM, heM, hcM⟩ := LK pins s2 σ H2 r2 env I2 hP (he.mono (pre_trans p1 p2))
      have lus : (us ++ [w]).length = ps.length := by
        have e1 := rvs.length
        have e2 := hvs.length
        rw [List.length_append] at hlen ⊢
        simp only [List.length_cons, List.length_nil] at hlen ⊢
        omega
      obtain ⟨PK, hPK⟩ : ∃ P : Addr → Prop, P = fun b => (∃ o, XM.base.get? b = some o) ∨ ∃ z, XM.env.cells.lookup z = some b := ⟨_, rfl⟩
      have pk1 : ∀ b o, XM.base.get? b = some o → PK b := fun b o z => by rw [hPK]; exact .inl ⟨o, z⟩
      have pk3 : ∀ z c, XM.env.cells.lookup z = some c → PK c := fun z c e => by rw [hPK]; exact .inr ⟨z, e⟩
      have hb2 : ∀ b o, XM.base.get? b = some o → (keepH s2.heap PK).get? b = some o := fun b o z => by rw [keepH_in (pk1 b o z)]; exact I2.bk b o z
      have cell : ∀ {y b}, XM.env.cells.lookup y = some b → H2 b = none ∧ b ∉ frs (Zin XM s0 H0 benv bouter bex bfn bcalm bpn bxe).stack := fun {y b} z1 => by
        obtain ⟨v, o, ho, _⟩ := IM.cell y b z1
        obtain ⟨_, h1, h2⟩ := hcM y b o z1 ho
        exact ⟨h1, h2⟩
      have e02 : Env0 XM.prog XM.w XM.K XM.mg (keepH s2.heap PK) XM.A XM.stack s2 H2 := by
        have e0 := I2.env0
        refine ⟨e0.frames, mod_keeps e0.mod hb2, fun b o z => ?_, Nat.le_of_eq keepH_size, funs_base e0.funs fun L hL hn => ?_, e0.frf, e0.hok, e0.bare⟩
        · obtain ⟨z1, z2⟩ := keepH_sub z
          refine ⟨z2, ?_⟩
          rw [hPK] at z1
          rcases z1 with ⟨o', z1⟩ | ⟨y, z1⟩
          · exact (e0.bs b o' z1).2
          · exact (cell z1).1
        · refine keepH_out fun z1 => ?_
          rw [hPK] at z1
          rcases z1 with ⟨o', z1⟩ | ⟨y, z1⟩
          · rw [hn] at z1; cases z1
          · exact (cell z1).2 hL
      have rc : codeAny (model XM.prog XM.w) XM.A (.call (.ref g) ⟨us ++ [w], []⟩) (CR (L2.CX XM.prog XM.w) XM.stack XM.prog XM.w H2 s2 Q (fun cls d H' => W cls d σ H')) s2 := by
        refine LamX.run_ofS (N := Ng) (ps := ps) (us := us ++ [w]) (vs := zs ++ [x2]) lk hcd Sg hr e02 (by have hb := hB s2 (us ++ [w]) I2.kIn (by rw [List.append_nil]; exact lus); rw [List.append_nil] at hb; exact hb) (rvs.append (.cons rx .nil)) (by rw [List.length_append, rvs.length]; rw [List.length_append] at lus; exact lus) fun hr' => ?_
        have act := @act_ok0 _ ⟨r2, LamT.cs, LamT.fn⟩ XM H2 s2 pinsM σM HM sM (keepH s2.heap PK) Ng qual sg g cdv (fun cls d H' => W cls d σ H') k i e0 a ml (wipeI env vs) IM (hL r2) heM (fun z c o e1 e2 => by rw [keepH_in (pk3 z c e1)]; exact (hcM z c o e1 e2).1) hb2 (by rw [keepH_size]; exact Nat.le_trans I2.ok.bsz I2.sz) hr' hNa hda hca
        refine ⟨_, hbody ⟨r2, LamT.cs, LamT.fn⟩ (keepH s2.heap PK) XM.A XM.stack s2 H2 (fun cls d H' => W cls d σ H') (lamsAt e0 ml (wipeI env vs)) (hr'.mono (by omega)) act, r2, ih2, startI N (vs1 ++ [v2]), hr2.pin, ?_, ?_⟩
        · rw [← hNg]
          exact start_rel ((hvs.mono p2).append (.cons hv2 .nil))
        · unfold defRun at q2
          cases z : mb (lamsAt e0 ml (wipeI env vs)) (startI N (vs1 ++ [v2])) ih2 with
          | stuck => rw [z] at q2; exact q2
          | exc cc env2 ih3 => rw [z] at q2; exact fun r' H' σ' p' hr' he' => q2 r' H' p' (hr'.unpin hr2.pre)
          | ok fl ih3 =>
            rw [z] at q2
            cases fl with
            | ret v => exact fun r' H' u p' hr' hv' => q2 r' H' u p' (hr'.unpin hr2.pre) hv'
            | next env2 => exact fun r' H' σ' p' hr' he' => q2 r' H' .non p' (hr'.unpin hr2.pre) rfl
            | brk env2 => exact q2.elim
            | cont env2 => exact q2.elim
      refine wpAny_call (codeAny_mono rc fun res s' hq => ?_)
      cases res with
      | error e' => exact passAt tk σ pins H2 s2 e' s' I2 hq
      | ok fl =>
        cases fl with
        | ret u => exact I2.after hq
        | next => exact False.elim hq
        | brk => exact False.elim hq
        | cont => exact False.elim hq
    · rw [if_neg hlen] at q2
      exact q2.elim
end
end L3
/-! L3D: what a caller's context knows of the maker's cells: the maker itself, a block of it. -/
namespace L3
variable [TabT] [LamT]
open PySem PySem.Spec PyProof.Rows L2
section
variable {XM : Cx} {pins : List (Addr × Obj)} {σ : L2.St} {H : Hp} {s : Shared}
theorem cell_out {z : Str} {c : Addr} (I : L2.Inv XM pins σ H s) (hfn : ∀ y, XM.fn y = true) (e : XM.env.cells.lookup z = some c) : c ∉ frs XM.stack := fun hb => by
  rcases List.mem_cons.mp (I.stkSub c hb) with z2 | z2
  · exact I.cne z c e z2
  · obtain ⟨_, o, ho, _⟩ := I.ok.funs.mem z2
    exact absurd (Nat.lt_of_lt_of_le (Heap.lt_size ho) (I.ok.cab z c (hfn z) e)) (Nat.lt_irrefl _)
/-- the maker's own statement -/
theorem link_self (hfn : ∀ y, XM.fn y = true) : Link XM XM [] (fun _ => True) := fun pins s σ H r env I _ he =>
  ⟨pins, σ, H, s, I, he, fun z c o e1 e2 => ⟨e2, I.freeC z c e1, cell_out I hfn e1⟩⟩
/-- a block of the maker's, entered at s -/
theorem link_blk {scope : Scope} {ce : PySem.Env} {fp : List Addr} {vs : List Nat} (I : L2.Inv XM pins σ H s) (hfn : ∀ y, XM.fn y = true) (hfp : ∀ b ∈ fp, ∀ y c, XM.env.cells.lookup y = some c → b ≠ c) :
    Link XM (XM.blk s H scope ce fp) vs (fun σ' => wipe σ' vs = wipe σ vs) := fun pins' s' σ' H' r env I' hP he => by
  refine ⟨pins, σ, H, s, I, ⟨?_, fun i v e => ?_⟩, fun z c o e1 e2 => ?_⟩
  · have h1 := (he.wipe vs).1
    rw [hP, wipe_length] at h1
    exact h1
  · obtain ⟨u, h1, h2⟩ := (he.wipe vs).2 i v e
    rw [hP] at h1
    exact ⟨u, (wipe_some h1).1, h2⟩
  · have nx : c ∉ fp := fun hb => hfp c hb z c e1 rfl
    have nf := cell_out I hfn e1
    exact ⟨I'.base.keep c o e2 (I.freeC z c e1) nf nx, I'.base.free c o e2 (I.freeC z c e1) nx, nf⟩
end
end L3
/-! L3E: a list comprehension whose element's walk may use what the def's context knew when the block was entered (the library's lc_core has no such premise). -/
namespace L3
variable [TabT] [LamT]
open PySem PySem.Spec PyProof.Rows L2
section
variable {X : Cx} {elt tg iter : Expr} {scope : Scope} {own : List (Str × Nat)} {pos : Pos} {wi : TI} {g : TG} {tt : TT} {te : TE}
/-- the block's walks, entered at s -/
structure InBlk (X : Cx) (tg elt : Expr) (scope : Scope) (vs : List Nat) (g : TG) (tt : TT) (te : TE) (σ : L2.St) (s : Shared) (H : Hp) (ce : PySem.Env) (fp : List Addr) : Prop where
  g : PG (X.blk s H scope ce fp) tg g
  t : PTs (X.blk s H scope ce fp) [] tt
  e : PE (X.blk s H scope ce fp) elt (fun σ' H' Q => wipe σ' vs = wipe σ vs ∧ te σ' H' Q)
theorem blk_fp {σ : L2.St} {H : Hp} {s s3 : Shared} {H3 : Hp} {ce : PySem.Env} {fp : List Addr} (I : L2.Inv (X.blk s3 H3 scope ce fp) [] σ H s) (hn : ∀ b ∈ fp, H b = none) : ∀ b ∈ fp, FpOk (X.blk s3 H3 scope ce fp) [] H b := fun b hb =>
  ⟨hn b hb, (I.ok.exf b hb).1, I.ok.exfs b hb, .inl hb, fun x c e => (I.ok.exf b hb).2 x c e, fun p hp => absurd (show p ∈ ([] : List (Addr × Obj)) ++ [] from hp) (by simp)⟩
theorem pe_lcI (hc : X.calm = true) (hN : X.N.Nodup) (hi : PI X tg iter wi) (ok : BlkOk X.N X.env.scope scope own)
    (hb : ∀ (pins : List (Addr × Obj)) (σ : L2.St) (s : Shared) (H : Hp) (C : Addr) (cl : List (Str × Addr)) (fp : List Addr), L2.Inv X pins σ H s → (∀ b ∈ fp, ∀ y c, X.env.cells.lookup y = some c → b ≠ c) →
      InBlk X tg elt scope (own.map (·.2)) g tt te σ s H (compEnvC scope cl C X.env) fp)
    (hs : ∀ x, foldedSetIterable iter X.env x = pure x := by intro _; rfl) :
    PE X (.ListComp elt [⟨tg, iter, [], 0⟩] scope pos) (tLc wi g tt te (own.map (·.2))) := by
  refine ⟨fun pins s σ H Q I h => ?_⟩
  rw [eval_ListComp]
  have hfree : ∀ y ∈ scope.names, y.2 = .free → ∃ c, X.env.cells.lookup y.1 = some c := fun y hy e => (ok.free y hy e).elim (fun k => I.ok.has _ (.inl k)) (fun k => I.ok.has _ (.inr k))
  refine wpAny_comprehension_free (use := none) rfl hs (closure_ok hfree) ok.kind (fun y hy e => by rw [ok.uniq y hy, e]) (thn (hi.run pins s σ H _ I h) fun xv s1 hx => thn hx fun itv s2 h2 => ?_)
  obtain ⟨it, fp, tn, J, H2, e, I2, T, st2, f2, q⟩ := h2
  subst e
  refine wpAny_newObj_type (newEnv_comp ?_) (by show 0 ≤ sizeLine; decide)
  generalize hD : s2.heap.objs.size = D
  obtain ⟨W, ⟨m0, w0⟩, turn⟩ := q D (I2.hok.fresh (Nat.le_of_eq hD))
  generalize hs3 : ({ s2 with heap := s2.heap.push { cls := .type "list", data := .seq ([] : List Value).toArray } } : Shared) = s3
  have h3 : s3.heap = s2.heap.push { cls := .type "list", data := .seq ([] : List Value).toArray } := by rw [← hs3]
  have I3 : L2.Inv X pins σ (upd H2 D (.lst [])) s3 := by
    rw [← hs3]
    refine I2.laid (t' := s2.toks) (fun b o e => Heap.get?_push_of_some _ e) (Nat.le_of_eq hD) ⟨Nat.zero_le _, [], 0, .nil, ?_⟩
    rw [← hD]
    exact Heap.get?_push_size _ rfl
  have f3 : ∀ b ∈ fp, FpOk X pins (upd H2 D (.lst [])) b ∧ b < s3.heap.objs.size := fun b hb => by
    obtain ⟨o, e, _⟩ := T.obj _ _ st2 b hb
    have hlt := Heap.lt_size e
    exact ⟨⟨by rw [upd_ne (by rw [← hD]; exact Nat.ne_of_lt hlt)]; exact (f2 b hb).1, (f2 b hb).2⟩, by rw [h3, Heap.size_push]; exact Nat.lt_succ_of_lt hlt⟩
  have st3 : tn 0 s3.heap := T.keep _ _ _ st2 fun b _ o e => by rw [h3]; exact Heap.get?_push_of_some _ e
  have I4 := block_start I3 ok hN f3
  have B := hb pins σ s3 (upd H2 D (.lst [])) s3.heap.objs.size (cellsFrom (s3.heap.objs.size + 1) scope.names (cloFrom X.env.cells scope.names [])) fp I3 fun b hb y c e => Ne.symm ((f3 b hb).1.2.2.2.2.1 y c e)
  show codeAny _ _ (.compStart (.ListComp elt [⟨tg, iter, [], 0⟩] scope pos) 0 (.ref it) (.ref D) (compEnvC scope (cellsFrom (s3.heap.objs.size + 1) scope.names (cloFrom X.env.cells scope.names [])) s3.heap.objs.size X.env)) (compPost (model X.prog X.w) X.A X.xe none _ (.ref D) s3.heap.objs.size) { s3 with heap := pushCells (s3.heap.push { cls := .type "dict", data := .dict #[] }) scope.names }
  generalize hce : compEnvC scope (cellsFrom (s3.heap.objs.size + 1) scope.names (cloFrom X.env.cells scope.names [])) s3.heap.objs.size X.env = ce at I4 B ⊢
  have cL : ce.locals = s3.heap.objs.size := by subst hce; rfl
  have nfp : ∀ b ∈ fp, (upd H2 D (.lst [])) b = none := fun b hb => (f3 b hb).1.1
  generalize hH3 : upd H2 D (.lst []) = H3 at I3 I4 B w0 nfp f3
  generalize hs4 : ({ s3 with heap := pushCells (s3.heap.push { cls := .type "dict", data := .dict #[] }) scope.names } : Shared) = s4 at I4 ⊢
  have st4 : tn 0 s4.heap := T.keep _ _ _ st3 fun b _ o e => by rw [← hs4]; exact pushCells_keeps _ _ _ _ (Heap.get?_push_of_some _ e)
  have loop : codeAny (model X.prog X.w) X.A (.compLoop (.ListComp elt [⟨tg, iter, [], 0⟩] scope pos) 0 (.ref it) (.ref D) ce) (compPost (model X.prog X.w) X.A X.xe none (EP X pins σ Q) (.ref D) s3.heap.objs.size) s4 := by
    refine compLoop_any (fun n s' => ∃ i H', L2.Inv (X.blk s3 H3 scope ce fp) [] (wipe σ (own.map (·.2))) H' s' ∧ tn i s'.heap ∧ (∀ b ∈ fp, H' b = none) ∧ W i n H') ?_ m0 ⟨0, H3, I4, st4, nfp, w0⟩
    rintro n s5 ⟨i, H5, I5, st5, n5, w5⟩
    rcases turn i n H5 w5 with ⟨stop, qq⟩ | ⟨go, Nx, hNx, step⟩
    · refine thnF (T.done (X.blk s3 H3 scope ce fp) rfl rfl rfl hc i [] s5 _ H5 (fun _ _ => False) I5 (blk_fp I5 n5) st5 stop) fun r s6 ⟨hr, I6⟩ => ?_
      subst hr
      have I7 : L2.Inv X pins σ H5 s6 := I3.call' (ch := fp) I6.os I6.base I6.hok I6.bare fun b hb => ⟨(f3 b hb).1.2.2.2.1, (f3 b hb).1.2.1, (f3 b hb).1.2.2.2.2.1, (f3 b hb).1.2.2.2.2.2⟩
      have nC : H5 s3.heap.objs.size = none := by
        rw [← cL]; exact I6.free
      obtain ⟨m, hn, _⟩ := I6.loc
      have hn : s6.heap.Ns ce.locals m := hn
      rw [cL] at hn
      obtain ⟨c0, c1, c2, c3, c4, c5⟩ := I3.fpOk (Nat.le_refl _) nC
      exact ⟨m, hn, fun h'' sb => ⟨.ref D, H5, I7.turned (t' := s6.toks) (fun b o hb e => (sb.2 b hb).trans e) c0 c1 c3 c4 c5, rfl, qq⟩⟩
    · refine thnF (T.item (X.blk s3 H3 scope ce fp) rfl rfl rfl hc i [] s5 _ H5 (fun _ _ => False) I5 (blk_fp I5 n5) st5 go) fun r s6 ⟨u, hr, h6⟩ => ?_
      subst hr
      refine thnF h6 fun _ s7 ⟨x, H7, I7, r7, y7, st7, n7⟩ => ?_
      refine thnF (B.g.run _ s7 _ H7 x u _ (I7.pinned (blk_fp I7 n7) (T.obj _ _ st7)) r7 (step x H7 y7)) fun _ s8 ⟨σ8, H8, I8, hw8, q8⟩ => ?_
      refine thnF (B.t.run _ s8 σ8 H8 _ I8 q8) fun b s9 ⟨H9, I9, q9⟩ => ?_
      have fin : ∀ {s' : Shared} {H' : Hp}, L2.Inv (X.blk s3 H3 scope ce fp) ([] ++ pinsAt fp s7.heap) σ8 H' s' → Nx H' → ∃ m, m < n ∧ ∃ i H', L2.Inv (X.blk s3 H3 scope ce fp) [] (wipe σ (own.map (·.2))) H' s' ∧ tn i s'.heap ∧ (∀ b ∈ fp, H' b = none) ∧ W i m H' := fun {s' H'} I' nx => by
        obtain ⟨m', hm, w'⟩ := hNx H' nx
        have pin' : ∀ b ∈ fp, ∀ o, s7.heap.get? b = some o → s'.heap.get? b = some o ∧ H' b = none := fun b hb o e =>
          have z := I'.pin (b, o) (List.mem_append_right _ (List.mem_append_right _ (mem_pinsAt hb e)))
          ⟨z.1, z.2.1⟩
        refine ⟨m', hm, i + 1, H', (I'.unpinned (pins := [])).weak (by rw [← hw8, wipe_length]) (fun j v e => ?_), T.keep _ _ _ st7 fun b hb o e => (pin' b hb o e).1, fun b hb => ?_, w'⟩
        · rw [← hw8] at e
          exact (wipe_some e).1
        · obtain ⟨o, e, _⟩ := T.obj _ _ st7 b hb
          exact (pin' b hb o e).2
      cases b with
      | false => exact fin I9 (by simpa using q9)
      | true =>
        simp only [if_true] at q9 ⊢
        refine thnF (B.e.run _ s9 σ8 H9 _ I9 ⟨hw8, q9⟩) fun z s10 ⟨yv, H10, I10, r10, acc, hD10, hz10, nx⟩ => ?_
        exact app_ok (X := X.blk s3 H3 scope ce fp) I10 hD10 hz10 r10 fun s11 I11 => fin I11 nx
  exact codeAny_compStart_list loop (T.self X.A 0 _ _ _ st4 loop)
/-- its mirror -/
theorem lm_lcI {W : WX} {ks : List Nat} {f : IV → Env → IH → Option Env} {mi : Env → IH → Res Src} {me : Env → IH → Res IV} (hc : X.calm = true) (hN : X.N.Nodup) (hi : PI X tg iter (tMI X.K W mi)) (ok : BlkOk X.N X.env.scope scope own)
    (sg : SndG X.K ks g f) (hk : ∀ k ∈ ks, k ∈ own.map (·.2))
    (hb : ∀ (pins : List (Addr × Obj)) (σ : L2.St) (s : Shared) (H : Hp) (C : Addr) (cl : List (Str × Addr)) (fp : List Addr), L2.Inv X pins σ H s → (∀ b ∈ fp, ∀ y c, X.env.cells.lookup y = some c → b ≠ c) →
      InBlk X tg elt scope (own.map (·.2)) g (tMT X.K W0 n_yes) (tM X.K W0 me) σ s H (compEnvC scope cl C X.env) fp)
    (hs : ∀ x, foldedSetIterable iter X.env x = pure x := by intro _; rfl) :
    PE X (.ListComp elt [⟨tg, iter, [], 0⟩] scope pos) (tM X.K W (m_lc (own.map (·.2)) mi f n_yes me)) := PE.of (pe_lcI hc hN hi ok hb hs) fun σ H Q h => lc_weak sg hk h
/-- a call of a def that calls what it is handed, from a block of the maker's -/
theorem callV_blk {XM : Cx} {W : WX} {k n N i e0 : Nat} {x : Str} {mb : (Nat → Nat → IH → Res IV) → Env → IH → RS} {ml : Nat → Env → IH → Res IV} {es : List Expr} {la : Expr} {ma : Env → IH → Res (List IV)} {mla : Env → IH → Res IV} {np pos : Pos} {vs : List Nat}
    {pins : List (Addr × Obj)} {σ : L2.St} {s : Shared} {H : Hp} {scope : Scope} {ce : PySem.Env} {fp : List Addr} (I : L2.Inv XM pins σ H s) (hfn : ∀ y, XM.fn y = true) (hfp : ∀ b ∈ fp, ∀ y c, XM.env.cells.lookup y = some c → b ≠ c)
    (D : DfW XM.prog XM.w XM.K XM.mg XM.base (k + 1) x n N i mb) (hr : Room (k + 2) XM.A) (hg : Gl (XM.blk s H scope ce fp) x) (ha : AL (XM.blk s H scope ce fp) W es ma) (hla : PE (XM.blk s H scope ce fp) la (tM XM.K W mla)) (tk : Takes (XM.blk s H scope ce fp) W)
    (hL : ∀ (r0 : List Addr) (j : Nat), (∃ D, LamT.fn e0 j = some D ∧ @LamOk _ ⟨r0, LamT.cs, LamT.fn⟩ XM k D (ml j)) ∨ ∀ env ih, ml j env ih = .stuck)
    (hle : starEach [la] ce = [(false, eval la ce)]) (hdb : (x == ("__debug__" : Str)) = false)
    (hpl : ∀ {first : Expr} {rest : List Expr}, es ++ [la] = first :: rest → starEach (first :: rest) ce = (false, eval first ce) :: starEach rest ce ∧ (backTo pos (starEach rest ce)).any (·.1) = false) :
    PE (XM.blk s H scope ce fp) (.Call (.Name x np) (es ++ [la]) [] pos) (fun σ' H' Q => wipe σ' vs = wipe σ vs ∧ tM XM.K W (m_callV vs n N e0 mb ml ma mla) σ' H' Q) :=
  lm_callV (X := XM.blk s H scope ce fp) (XM := XM) rfl (link_blk I hfn hfp) D hr hg ha hla tk hL hle hdb hpl
end
end L3
/-! L3F: the words of lambdas, by a path into the text; keyword calls in any order. -/
namespace L3
variable [TabT]
open PySem PySem.Spec PyProof.Rows L2
def kidE : Expr → List Expr
  | .BoolOp _ vs _ => vs
  | .BinOp a _ b _ => [a, b]
  | .UnaryOp _ a _ => [a]
  | .IfExp a b c _ => [a, b, c]
  | .ListComp e _ _ _ => [e]
  | .Compare a _ bs _ => a :: bs
  | .Call f es _ _ => f :: es
  | .Attribute a _ _ => [a]
  | .Subscript a b _ => [a, b]
  | .List es _ => es
  | .Tuple es _ _ => es
  | .Lambda _ b _ _ => [b]
  | _ => []
def kidS : Stmt → List Stmt
  | .For _ _ b _ _ => b
  | .If _ a b _ => a ++ b
  | .While _ a _ _ => a
  | .Try b _ _ _ _ => b
  | _ => []
def expS : Stmt → List Expr
  | .Return (some e) _ => [e]
  | .Assign _ e _ => [e]
  | .AugAssign _ _ e _ => [e]
  | .Expr e _ => [e]
  | .For _ i _ _ _ => [i]
  | .If t _ _ _ => [t]
  | .While t _ _ _ => [t]
  | _ => []
def noE : Expr := .Name ⟨#[]⟩ ⟨0, 0, 0, 0⟩
def pathE : List Nat → Expr → Expr
  | [], e => e
  | i :: l, e => pathE l ((kidE e).getD i noE)
def pathS : List Nat → List Stmt → List Nat → Expr
  | [], _, _ => noE
  | [i], ss, l => match l with
    | [] => noE
    | j :: l => pathE l ((expS (ss.getD i (.Pass ⟨0, 0, 0, 0⟩))).getD j noE)
  | i :: p, ss, l => pathS p (kidS (ss.getD i (.Pass ⟨0, 0, 0, 0⟩))) l
def lamW : Expr → LamW
  | .Lambda p b s _ => (p, b, s)
  | _ => (⟨[], [], none, [], [], none, []⟩, noE, { kind := .function, names := [], isGenerator := false, isCoroutine := false })
theorem lamOk_of {I : LamT} {X : Cx} {k e0 j : Nat} {ml : Env → IH → Res IV} (p : LamW) (r0 : List Addr) (hD : I.fn e0 j = some ⟨X.env.qual ++ "<lambda>", p.1, p.2.1, p.2.2, cloFrom X.env.cells p.2.2.names []⟩) (sc : LamX.LamS X.env.scope p.2.2)
    (bind : ∀ (pm cv ctv : Value), bindArgs (PySem.W.kla_fn "<lambda>" (X.env.qual ++ "<lambda>") p.1 p.2.1 p.2.2 (cloFrom X.env.cells p.2.2.names []) pm cv ctv) ⟨[], []⟩ = pure [])
    (run : ∀ (J : LamT) (A : Around) (outer : List PySem.Env) (s' : Shared) (H' : Hp) (f c' : Addr) (E : XK), Room k (A.deeper (LamX.lamEnv X p.2.2 s'.heap.objs.size f c')) → PE (LamX.lamCx X A outer s' H' E p.2.2 f c') p.2.1 (@tM _ J X.K (fun cls d _ H => E cls d H) ml)) :
    (∃ D, I.fn e0 j = some D ∧ @LamOk _ ⟨r0, I.cs, I.fn⟩ X k D ml) ∨ ∀ env ih, ml env ih = .stuck :=
  .inl ⟨_, hD, @LamOk.mk _ ⟨r0, I.cs, I.fn⟩ X k _ ml rfl rfl sc bind fun A outer s' H' f c' E hr => run ⟨r0, I.cs, I.fn⟩ A outer s' H' f c' E hr⟩
/-! ### keywords in any order -/
/-- the k-th of the parameters is the (js k)-th keyword -/
def pick : List Nat → {α : Type} → List α → List α := fun js _ l => js.filterMap fun j => l[j]?
theorem pick_par {js : List Nat} {α β : Type} {T : α → β → Prop} {xs : List α} {ys : List β} (h : Paired T xs ys) : Paired T (pick js xs) (pick js ys) := by
  have g : ∀ {xs : List α} {ys : List β}, Paired T xs ys → ∀ j : Nat, (xs[j]? = none ∧ ys[j]? = none) ∨ ∃ a b, xs[j]? = some a ∧ ys[j]? = some b ∧ T a b := by
    intro xs ys h
    induction h with
    | nil => intro j; exact .inl ⟨rfl, rfl⟩
    | cons a h ih =>
      intro j
      cases j with
      | zero => exact .inr ⟨_, _, rfl, rfl, a⟩
      | succ j =>
        rcases ih j with ⟨e1, e2⟩ | ⟨x, y, e1, e2, t⟩
        · exact .inl ⟨by simpa using e1, by simpa using e2⟩
        · exact .inr ⟨x, y, by simpa using e1, by simpa using e2, t⟩
  unfold pick
  induction js with
  | nil => exact .nil
  | cons j js ih =>
    rcases g h j with ⟨e1, e2⟩ | ⟨a, b, e1, e2, t⟩
    · rw [List.filterMap_cons, List.filterMap_cons, e1, e2]
      exact ih
    · rw [List.filterMap_cons, List.filterMap_cons, e1, e2]
      exact .cons t ih
section
variable [LamT] {P : Program} {w : World} {K : PySem.W.Frag} {mg : Str → Option Value} {base : Heap} {k : Nat} {x qual : Str} {st : Stmt} {f : Addr} {fd : FuncData} {N ps ks : List Str} {js : List Nat} {mb : Env → IH → RS}
theorem dfKn (F : FunD K x qual (defArgs st) (defBody st) (defScope st) [] [] f fd) (S : FnScope N ps (defScope st)) (hm : mg x = some (.ref f))
    (h : ∀ (kV doc pm : Value) (an : Option Addr) (cdv ct : Value) (ws : List Value), ws.length = ks.length → bindArgs (PySem.W.fnOf x qual (defArgs st) (defBody st) (defScope st) .none kV doc pm an cdv ct) ⟨[], ks.zip ws⟩ = pure (ps.zip (pick js ws)))
    (hbody : BodyOk P w K mg base k N qual st f mb) : DfK P w K mg base (k + 1) x ps.length ks (pick js) (defRun N.length mb) := by
  refine ⟨fun h => pick_par h, f, fd, ps, rfl, hm, F.kp, df_fn2 F S hbody, ⟨fun s us ws _ h1 h2 => ?_, fun _ r2 => pick_par r2⟩⟩
  obtain ⟨oc, od, dV, kV, doc, pm, an, cdv, ct, osl, rfl, lk, hcd, hD, hK⟩ := F.ex
  match us, h1 with
  | [], _ =>
    rcases hD with ⟨_, rfl⟩ | ⟨e, _⟩
    · exact .of_eq (h kV doc pm an cdv ct ws h2)
    · exact absurd rfl e
end
end L3
/-! L4: how mirrors are run; sizes of ints. -/
namespace L3
instance : TabT := ⟨[]⟩
instance : LamT := ⟨[], [], fun _ _ => none⟩
open PySem PySem.Spec PyProof.Rows L2

theorem startI_cons (N : Nat) (a : IV) (r : List IV) : startI (N + 1) (a :: r) = some a :: startI N r := by
  unfold startI
  rw [List.map_cons, List.length_cons, Nat.add_sub_add_right]
  rfl
theorem startI_nil (N : Nat) : startI N [] = List.replicate N none := rfl
theorem rep_succ (N : Nat) : List.replicate (N + 1) (none : Option IV) = none :: List.replicate N none := rfl
theorem rep_zero : List.replicate 0 (none : Option IV) = [] := rfl

/-! ### operations, applied -/
section
variable {ih : IH} {i j : Int} {n m : Nat} {o : MO} {v : IV}
theorem a_int : f_int [.int i] ih = .ok (.int i) ih := rfl
theorem a_add : f_add (.int i) (.int j) ih = .ok (.int (i + j)) ih := rfl
theorem a_addI : f_addI (.int i) (.int j) ih = .ok (.int (i + j)) ih := rfl
theorem a_sub : f_sub (.int i) (.int j) ih = .ok (.int (i - j)) ih := rfl
theorem a_neg : f_neg (.int i) ih = .ok (.int (-i)) ih := rfl
theorem a_lt : f_lt (.int i) (.int j) ih = .ok (.bl (decide (i < j))) ih := rfl
theorem a_le : f_le (.int i) (.int j) ih = .ok (.bl (decide (i ≤ j))) ih := rfl
theorem a_gt : f_gt (.int i) (.int j) ih = .ok (.bl (decide (j < i))) ih := rfl
theorem a_ge : f_ge (.int i) (.int j) ih = .ok (.bl (decide (j ≤ i))) ih := rfl
theorem a_max2 : f_max2 [.int i, .int j] ih = .ok (.int (if j > i then j else i)) ih := rfl
theorem a_min2 : f_min2 [.int i, .int j] ih = .ok (.int (if j < i then j else i)) ih := rfl
theorem a_abs : f_abs [.int i] ih = .ok (.int (if i < 0 then -i else i)) ih := rfl
theorem a_mul (h : cMul i j = true) : f_mulA (.int i) (.int j) ih = .ok (.int (i * j)) ih := by
  show (if cMul i j = true then _ else _) = _
  rw [if_pos h]
theorem a_mulI (h : cMul i j = true) : f_mul (.int i) (.int j) ih = .ok (.int (i * j)) ih := by
  show (if cMul i j = true then _ else _) = _
  rw [if_pos h]
theorem a_fdiv (h : cDiv i j = true) : f_fdiv (.int i) (.int j) ih = .ok (.int (i / j)) ih := by
  show (if cDiv i j = true then _ else _) = _
  rw [if_pos h]
theorem a_mod (h : 0 < j) : f_mod (.int i) (.int j) ih = .ok (.int (i % j)) ih := by
  show (if cMod i j = true then _ else _) = _
  exact if_pos (decide_eq_true h)
theorem a_shl (h : cShl i j = true) : f_shl (.int i) (.int j) ih = .ok (.int (i * 2 ^ j.toNat)) ih := by
  show (if cShl i j = true then _ else _) = _
  rw [if_pos h]
theorem a_shr (h : 0 ≤ j) : f_shr (.int i) (.int j) ih = .ok (.int (i / 2 ^ j.toNat)) ih := by
  show (if cShr i j = true then _ else _) = _
  exact if_pos (decide_eq_true h)
theorem a_pow (h : cPow i j = true) : f_pow (.int i) (.int j) ih = .ok (.int (i ^ j.toNat)) ih := by
  show (if cPow i j = true then _ else _) = _
  rw [if_pos h]
theorem a_len (h : ih[n]? = some o) (hd : o.isS = true := by rfl) : f_len [.ref n] ih = .ok (.int o.xs.length) ih := by
  unfold f_len
  dsimp only
  rw [h]
  cases o with
  | dct => cases hd
  | dk _ => cases hd
  | clo => cases hd
  | fn _ _ => cases hd
  | _ => rfl
theorem a_ix (h : ih[n]? = some o) (hv : atI o.xs i = some v) : f_ix (.ref n) (.int i) ih = .ok v ih := by
  unfold f_ix
  dsimp only
  rw [h]
  dsimp only
  rw [hv]
theorem a_isN {x : IV} : f_isN x .non ih = .ok (.bl (decide (x = .non))) ih := by
  unfold f_isN
  rw [if_pos rfl]
theorem a_notN {x : IV} : f_notN x .non ih = .ok (.bl (!decide (x = .non))) ih := by
  unfold f_notN
  rw [if_pos rfl]
theorem a_lst {xs : List IV} (h : xs.length ≤ 100000) : f_lst xs ih = .ok (.ref ih.length) (ih ++ [.lst xs]) := by
  unfold f_lst
  rw [if_pos h]
theorem a_tup {xs : List IV} (h : xs.length ≤ 100000) : f_tup xs ih = .ok (.ref ih.length) (ih ++ [.tup xs]) := by
  unfold f_tup
  rw [if_pos h]
theorem a_list (h : ih[n]? = some o) (hd : o.isS = true := by rfl) : f_list [.ref n] ih = .ok (.ref ih.length) (ih ++ [.lst o.xs]) := by
  unfold f_list
  dsimp only
  rw [h]
  cases o with
  | dct => cases hd
  | dk _ => cases hd
  | clo => cases hd
  | fn _ _ => cases hd
  | _ => rfl
theorem a_append {xs : List IV} {y : IV} (h : ih[n]? = some (.lst xs)) (hl : xs.length < 100000) : f_append (.ref n) [y] ih = .ok .non (ih.set n (.lst (xs ++ [y]))) := by
  unfold f_append
  dsimp only
  rw [h]
  dsimp only
  rw [if_pos hl]
theorem a_isLst (h : ih[n]? = some o) (hl : o.isL = true) : isLst (.ref n) ih = true := by
  unfold isLst
  dsimp only
  rw [h]
  exact hl
theorem a_setL {xs : List IV} {y : IV} {k : Nat} (h : ih[n]? = some (.lst xs)) (hk : ixN xs.length i = some k) : f_setL (.ref n) (.int i) y ih = some (ih.set n (.lst (xs.set k y))) := by
  unfold f_setL
  dsimp only
  rw [h]
  dsimp only
  rw [hk]
theorem a_call {xs ds : List IV} {f : List IV → IH → Res IV} (h : (xs ++ ds).length = n) : f_call n ds f xs ih = f (xs ++ ds) ih := by
  unfold f_call
  rw [if_pos h]
theorem atI_ok {α : Type} {xs : List α} {k : Nat} {v : α} (hi : i = (k : Int)) (h : xs[k]? = some v) : atI xs i = some v := by
  rw [hi]
  exact atI_nat h
end
theorem atI_nn {α : Type} (xs : List α) (k : Nat) : atI xs (k : Int) = xs[k]? := by
  unfold atI ixN
  rw [if_pos (Int.natCast_nonneg k)]
  by_cases h : k < xs.length
  · rw [if_pos (by omega)]
    rfl
  · rw [if_neg (by omega), List.getElem?_eq_none (by omega)]
    rfl
theorem atI_0 {α : Type} (xs : List α) : atI xs 0 = xs[0]? := atI_nn xs 0
theorem atI_1 {α : Type} (xs : List α) : atI xs 1 = xs[1]? := atI_nn xs 1
theorem atI_2 {α : Type} (xs : List α) : atI xs 2 = xs[2]? := atI_nn xs 2
theorem atI_3 {α : Type} (xs : List α) : atI xs 3 = xs[3]? := atI_nn xs 3
theorem atI_4 {α : Type} (xs : List α) : atI xs 4 = xs[4]? := atI_nn xs 4
theorem atI_5 {α : Type} (xs : List α) : atI xs 5 = xs[5]? := atI_nn xs 5
theorem atI_6 {α : Type} (xs : List α) : atI xs 6 = xs[6]? := atI_nn xs 6
theorem atI_7 {α : Type} (xs : List α) : atI xs 7 = xs[7]? := atI_nn xs 7
theorem atI_8 {α : Type} (xs : List α) : atI xs 8 = xs[8]? := atI_nn xs 8
theorem atI_9 {α : Type} (xs : List α) : atI xs 9 = xs[9]? := atI_nn xs 9
theorem atI_10 {α : Type} (xs : List α) : atI xs 10 = xs[10]? := atI_nn xs 10
theorem atI_11 {α : Type} (xs : List α) : atI xs 11 = xs[11]? := atI_nn xs 11
theorem atI_12 {α : Type} (xs : List α) : atI xs 12 = xs[12]? := atI_nn xs 12
theorem ixN_30 : ixN 3 0 = some 0 := rfl
theorem ixN_31 : ixN 3 1 = some 1 := rfl
theorem ixN_32 : ixN 3 2 = some 2 := rfl
theorem xs_lst (xs : List IV) : (MO.lst xs).xs = xs := rfl
theorem xs_tup (xs : List IV) : (MO.tup xs).xs = xs := rfl
theorem xs_ro (xs : List IV) : (MO.ro xs).xs = xs := rfl
theorem xs_rot (xs : List IV) : (MO.rot xs).xs = xs := rfl
theorem isL_lst (xs : List IV) : (MO.lst xs).isL = true := rfl
theorem isL_tup (xs : List IV) : (MO.tup xs).isL = false := rfl
theorem isL_ro (xs : List IV) : (MO.ro xs).isL = true := rfl
theorem isT_tup (xs : List IV) : (MO.tup xs).isT = true := rfl
theorem isT_rot (xs : List IV) : (MO.rot xs).isT = true := rfl
theorem isL_rot (xs : List IV) : (MO.rot xs).isL = false := rfl
/-! ### sizes of ints -/
/-- an int of at most n bits -/
def B (n : Nat) (i : Int) : Prop := i.natAbs < 2 ^ n
section
variable {i j : Int} {n m k : Nat}
theorem B.mono (h : B n i) (e : n ≤ m) : B m i := Nat.lt_of_lt_of_le h (Nat.pow_le_pow_right (by decide) e)
theorem B.ib (h : B n i) : ibits i ≤ n := PyProof.Rows.intBits_le h
theorem B.of_ib (h : ibits i ≤ n) : B n i := by
  unfold ibits Builtin.Int.intBits at h
  split at h
  · rename_i h0
    have : i = 0 := by simpa using h0
    subst this
    exact Nat.two_pow_pos n
  · exact Nat.lt_of_lt_of_le Nat.lt_log2_self (Nat.pow_le_pow_right (by decide) h)
theorem B.add (h : B n i) (g : B n j) : B (n + 1) (i + j) := by
  unfold B at *
  rw [Nat.pow_succ]
  omega
theorem B.sub (h : B n i) (g : B n j) : B (n + 1) (i - j) := by
  unfold B at *
  rw [Nat.pow_succ]
  omega
theorem B.neg (h : B n i) : B n (-i) := by
  unfold B at *
  rw [Int.natAbs_neg]
  exact h
theorem B.mul (h : B n i) (g : B m j) : B (n + m) (i * j) := by
  unfold B at *
  rw [Int.natAbs_mul, Nat.pow_add]
  exact Nat.mul_lt_mul'' h g
theorem B.div (h : B n i) (g : 0 < j) : B n (i / j) := by
  unfold B at *
  have : (i / j).natAbs ≤ i.natAbs := by
    rcases Int.le_total 0 i with hi | hi
    · have h1 := Int.ediv_nonneg hi (Int.le_of_lt g)
      have h2 := Int.ediv_le_self j hi
      omega
    · have h1 : i / j ≤ 0 := by
        have := Int.ediv_le_ediv g hi
        rw [Int.zero_ediv] at this
        exact this
      have h2 : i ≤ i / j := by
        rw [Int.le_ediv_iff_mul_le g]
        have : i * j ≤ i * 1 := Int.mul_le_mul_of_nonpos_left hi (by omega)
        omega
      omega
  omega
theorem B.mod (g : 0 < j) (h : B n j) : B n (i % j) := by
  unfold B at *
  have h1 := Int.emod_nonneg i (Int.ne_of_gt g)
  have h2 := Int.emod_lt_of_pos i g
  omega
theorem B.le (h0 : 0 ≤ i) (h : i ≤ j) (g : B n j) : B n i := by
  unfold B at *
  omega
theorem B.lt (h0 : 0 ≤ i) (h : i < 2 ^ n) : B n i := by
  unfold B
  have e : ((2 ^ n : Nat) : Int) = 2 ^ n := by rw [Int.natCast_pow]; rfl
  omega
theorem B.cmul (h : B n i) (g : B m j) (e : n + m ≤ 134217728) : cMul i j = true := by
  have := h.ib
  have := g.ib
  exact decide_eq_true (by omega)
theorem cDiv_of (g : 0 < j) (h : B n j) (h0 : 0 < n) (e : n ≤ 9000) : cDiv i j = true := by
  unfold cDiv
  rw [Bool.and_eq_true]
  exact ⟨decide_eq_true g, decide_eq_true (Nat.lt_of_lt_of_le (PySem.Flt.log2_lt_of h0 h) e)⟩
theorem cShl_of (h : B n i) (e : n + k ≤ 134217728) : cShl i (k : Int) = true := by
  have := h.ib
  unfold cShl
  rw [Bool.and_eq_true]
  exact ⟨decide_eq_true (by omega), decide_eq_true (by omega)⟩
end

/-! ### heaps that grow -/
def Ext (a b : IH) : Prop := ∀ (n : Nat) (o : MO), a[n]? = some o → b[n]? = some o
theorem Ext.refl (a : IH) : Ext a a := fun _ _ h => h
theorem Ext.trans {a b d : IH} (h : Ext a b) (k : Ext b d) : Ext a d := fun n o e => k n o (h n o e)
theorem Ext.app (a b : IH) : Ext a (a ++ b) := fun n o e => by
  rw [List.getElem?_append_left (List.getElem?_eq_some_iff.mp e).1]
  exact e
/-- all objects but the one at p stay -/
def ExtP (p : Nat) (a b : IH) : Prop := ∀ (n : Nat) (o : MO), n ≠ p → a[n]? = some o → b[n]? = some o
theorem ExtP.refl (p : Nat) (a : IH) : ExtP p a a := fun _ _ _ h => h
theorem ExtP.trans {p : Nat} {a b d : IH} (h : ExtP p a b) (k : ExtP p b d) : ExtP p a d := fun n o hn e => k n o hn (h n o hn e)
theorem Ext.p {a b : IH} (h : Ext a b) (p : Nat) : ExtP p a b := fun n o _ e => h n o e
theorem ExtP.set (p : Nat) (a : IH) (o : MO) : ExtP p a (a.set p o) := fun n u hn e => by
  rw [List.getElem?_set_ne (Ne.symm hn)]
  exact e
theorem get_new (a : IH) (o : MO) : (a ++ [o])[a.length]? = some o := by
  rw [List.getElem?_append_right (Nat.le_refl _), Nat.sub_self]
  rfl
theorem get_set {a : IH} {p : Nat} {o u : MO} (h : a[p]? = some u) : (a.set p o)[p]? = some o := List.getElem?_set_self (List.getElem?_eq_some_iff.mp h).1
theorem lt_of_get {a : IH} {p : Nat} {u : MO} (h : a[p]? = some u) : p < a.length := (List.getElem?_eq_some_iff.mp h).1
end L3
/-! L6: loops and comprehensions of mirrors. -/
namespace L3
open PySem PySem.Spec PyProof.Rows L2

/-! ### for -/
/-- a loop whose turns all go on -/
theorem forGo_ind {s : Src} {g : IV → Env → IH → Option Env} {mb : Env → IH → RS} (k : Nat) (P : Nat → Env → IH → Prop)
    (turn : ∀ i env ih, i < k → P i env ih → ∃ v ih1 env1 env2 ih2, s.turn i ih = .item v ih1 ∧ g v env ih1 = some env1 ∧ mb env1 ih1 = .ok (.next env2) ih2 ∧ P (i + 1) env2 ih2)
    (stop : ∀ env ih, P k env ih → s.turn k ih = .stop) :
    ∀ (f i : Nat) (env : Env) (ih : IH), i ≤ k → k - i < f → P i env ih → ∃ env' ih', forGo s g mb f i env ih = .ok (.next env') ih' ∧ P k env' ih' := by
  intro f
  induction f with
  | zero => intro i env ih h1 h2; omega
  | succ f ihf =>
    intro i env ih h1 h2 hp
    unfold forGo
    by_cases hk : i = k
    · subst hk
      rw [stop env ih hp]
      exact ⟨env, ih, rfl, hp⟩
    · obtain ⟨v, ih1, env1, env2, ih2, t1, t2, t3, t4⟩ := turn i env ih (by omega) hp
      rw [t1]
      dsimp only
      rw [t2]
      dsimp only
      rw [t3]
      exact ihf (i + 1) env2 ih2 (by omega) (by omega) t4
/-- a loop that may hand back -/
theorem forGo_ret {s : Src} {g : IV → Env → IH → Option Env} {mb : Env → IH → RS} (k : Nat) (P : Nat → Env → IH → Prop) (Z : IV → IH → Prop)
    (turn : ∀ i env ih, i < k → P i env ih → ∃ v ih1 env1, s.turn i ih = .item v ih1 ∧ g v env ih1 = some env1 ∧ ((∃ env2 ih2, mb env1 ih1 = .ok (.next env2) ih2 ∧ P (i + 1) env2 ih2) ∨ ∃ u ih2, mb env1 ih1 = .ok (.ret u) ih2 ∧ Z u ih2))
    (stop : ∀ env ih, P k env ih → s.turn k ih = .stop) :
    ∀ (f i : Nat) (env : Env) (ih : IH), i ≤ k → k - i < f → P i env ih → (∃ env' ih', forGo s g mb f i env ih = .ok (.next env') ih' ∧ P k env' ih') ∨ ∃ u ih', forGo s g mb f i env ih = .ok (.ret u) ih' ∧ Z u ih' := by
  intro f
  induction f with
  | zero => intro i env ih h1 h2; omega
  | succ f ihf =>
    intro i env ih h1 h2 hp
    unfold forGo
    by_cases hk : i = k
    · subst hk
      rw [stop env ih hp]
      exact .inl ⟨env, ih, rfl, hp⟩
    · obtain ⟨v, ih1, env1, t1, t2, t3⟩ := turn i env ih (by omega) hp
      rw [t1]
      dsimp only
      rw [t2]
      dsimp only
      rcases t3 with ⟨env2, ih2, t3, t4⟩ | ⟨u, ih2, t3, t4⟩
      · rw [t3]
        exact ihf (i + 1) env2 ih2 (by omega) (by omega) t4
      · rw [t3]
        exact .inr ⟨u, ih2, rfl, t4⟩
theorem turn_rng {lo d : Int} {k i : Nat} {ih : IH} (h : i < k) : (Src.rng lo d k).turn i ih = .item (.int (lo + (i : Int) * d)) ih := if_pos h
theorem stop_rng {lo d : Int} {k : Nat} {ih : IH} : (Src.rng lo d k).turn k ih = .stop := if_neg (Nat.lt_irrefl k)
theorem lAt_of {ih : IH} {n : Nat} {o : MO} (h : ih[n]? = some o) (hl : o.isL = true) : lAt ih n true = some o.xs := by
  unfold lAt
  rw [h]
  exact if_pos hl
theorem turn_lst {ih : IH} {n i : Nat} {o : MO} {v : IV} (h : ih[n]? = some o) (hl : o.isL = true) (hv : o.xs[i]? = some v) : (Src.lst n).turn i ih = .item v ih := by
  unfold Src.turn
  dsimp only
  rw [lAt_of h hl]
  dsimp only
  rw [hv]
theorem stop_lst {ih : IH} {n : Nat} {o : MO} (h : ih[n]? = some o) (hl : o.isL = true) : (Src.lst n).turn o.xs.length ih = .stop := by
  unfold Src.turn
  dsimp only
  rw [lAt_of h hl]
  dsimp only
  rw [List.getElem?_eq_none (Nat.le_refl _)]
theorem turn_enm {ih : IH} {n i : Nat} {o : MO} {v : IV} (h : ih[n]? = some o) (hl : o.isL = true) (hv : o.xs[i]? = some v) : (Src.enm n).turn i ih = .item (.ref ih.length) (ih ++ [.tup [.int (i : Int), v]]) := by
  unfold Src.turn
  dsimp only
  rw [lAt_of h hl]
  dsimp only
  rw [hv]
theorem stop_enm {ih : IH} {n : Nat} {o : MO} (h : ih[n]? = some o) (hl : o.isL = true) : (Src.enm n).turn o.xs.length ih = .stop := by
  unfold Src.turn
  dsimp only
  rw [lAt_of h hl]
  dsimp only
  rw [List.getElem?_eq_none (Nat.le_refl _)]
theorem turn_zip {ih : IH} {n m i : Nat} {o u : MO} {v w : IV} (h : ih[n]? = some o) (hl : o.isL = true) (hv : o.xs[i]? = some v) (h2 : ih[m]? = some u) (hl2 : u.isL = true) (hw : u.xs[i]? = some w) : (Src.zip n m).turn i ih = .item (.ref ih.length) (ih ++ [.tup [v, w]]) := by
  unfold Src.turn
  dsimp only
  rw [lAt_of h hl, lAt_of h2 hl2]
  dsimp only
  rw [hv, hw]
theorem stop_zip {ih : IH} {n m i : Nat} {o u : MO} (h : ih[n]? = some o) (hl : o.isL = true) (h2 : ih[m]? = some u) (hl2 : u.isL = true) (hi : o.xs.length ≤ i ∨ u.xs.length ≤ i) : (Src.zip n m).turn i ih = .stop := by
  unfold Src.turn
  dsimp only
  rw [lAt_of h hl, lAt_of h2 hl2]
  dsimp only
  rcases hi with hi | hi
  · rw [List.getElem?_eq_none hi]
  · rw [List.getElem?_eq_none hi]
    split <;> first | rfl | (rename_i z; cases z)
theorem for_rng1 {g : IV → Env → IH → Option Env} {mb : Env → IH → RS} {m : Env → IH → Res (List IV)} {env : Env} {ih ih1 : IH} {j : Int} (hm : m env ih = .ok [.int j] ih1) (hj : smallI j = true) : ms_for (mi_rng1 m) g mb env ih = forGo (.rng 0 1 j.toNat) g mb (j.toNat + 1) 0 env ih1 := by
  unfold ms_for mi_rng1
  rw [hm, Res.bind_ok]
  dsimp only
  rw [if_pos hj]
  rfl
theorem for_rng2 {g : IV → Env → IH → Option Env} {mb : Env → IH → RS} {m : Env → IH → Res (List IV)} {env : Env} {ih ih1 : IH} {i j : Int} (hm : m env ih = .ok [.int i, .int j] ih1) (hi : smallI i = true) (hj : smallI j = true) : ms_for (mi_rng2 m) g mb env ih = forGo (.rng i 1 (j - i).toNat) g mb ((j - i).toNat + 1) 0 env ih1 := by
  unfold ms_for mi_rng2
  rw [hm, Res.bind_ok]
  dsimp only
  rw [if_pos ⟨hi, hj⟩]
  rfl
theorem for_lst {g : IV → Env → IH → Option Env} {mb : Env → IH → RS} {m : Env → IH → Res IV} {env : Env} {ih ih1 : IH} {n : Nat} {o : MO} (hm : m env ih = .ok (.ref n) ih1) (h : ih1[n]? = some o) (hl : o.isL = true) : ms_for (mi_lst m) g mb env ih = forGo (.lst n) g mb (o.xs.length + 1) 0 env ih1 := by
  unfold ms_for mi_lst
  rw [hm, Res.bind_ok]
  dsimp only
  rw [lAt_of h hl]
  show forGo (.lst n) g mb ((Src.lst n).size ih1 + 1) 0 env ih1 = _
  unfold Src.size
  dsimp only
  rw [h]
theorem for_enm {g : IV → Env → IH → Option Env} {mb : Env → IH → RS} {m : Env → IH → Res (List IV)} {env : Env} {ih ih1 : IH} {n : Nat} {o : MO} (hm : m env ih = .ok [.ref n] ih1) (h : ih1[n]? = some o) (hl : o.isL = true) : ms_for (mi_enm m) g mb env ih = forGo (.enm n) g mb (o.xs.length + 1) 0 env ih1 := by
  unfold ms_for mi_enm
  rw [hm, Res.bind_ok]
  dsimp only
  rw [lAt_of h hl]
  show forGo (.enm n) g mb ((Src.enm n).size ih1 + 1) 0 env ih1 = _
  unfold Src.size
  dsimp only
  rw [h]
theorem smallI_mk {i : Int} (h : -(2 ^ 62) ≤ i) (h2 : i < 2 ^ 62) : smallI i = true := by
  unfold smallI
  rw [decide_eq_true h, decide_eq_true h2]
  rfl

/-! ### comprehensions -/
theorem lcGo_ind {s : Src} {g : IV → Env → IH → Option Env} {n : Env → IH → Res Bool} {me : Env → IH → Res IV} {d : Nat} {env : Env} (k : Nat) (P : Nat → List IV → IH → Prop)
    (turn : ∀ i acc ih, i < k → P i acc ih → ih[d]? = some (.lst acc) → ∃ v ih1 env1 b ih2, s.turn i ih = .item v ih1 ∧ g v env ih1 = some env1 ∧ n env1 ih1 = .ok b ih2 ∧ (b = false → ih2[d]? = some (.lst acc) ∧ P (i + 1) acc ih2) ∧
      (b = true → ∃ y ih3, me env1 ih2 = .ok y ih3 ∧ ih3[d]? = some (.lst acc) ∧ acc.length < 100000 ∧ P (i + 1) (acc ++ [y]) (ih3.set d (.lst (acc ++ [y])))))
    (stop : ∀ acc ih, P k acc ih → ih[d]? = some (.lst acc) → s.turn k ih = .stop) :
    ∀ (f i : Nat) (acc : List IV) (ih : IH), i ≤ k → k - i < f → P i acc ih → ih[d]? = some (.lst acc) → ∃ acc' ih', lcGo s g n me d env f i ih = .ok (.ref d) ih' ∧ ih'[d]? = some (.lst acc') ∧ P k acc' ih' := by
  intro f
  induction f with
  | zero => intro i acc ih h1 h2; omega
  | succ f ihf =>
    intro i acc ih h1 h2 hp hd
    unfold lcGo
    by_cases hk : i = k
    · subst hk
      rw [stop acc ih hp hd]
      exact ⟨acc, ih, rfl, hd, hp⟩
    · obtain ⟨v, ih1, env1, b, ih2, t1, t2, t3, t4, t5⟩ := turn i acc ih (by omega) hp hd
      rw [t1]
      dsimp only
      rw [t2]
      dsimp only
      rw [t3]
      cases b with
      | false =>
        obtain ⟨h3, h4⟩ := t4 rfl
        exact ihf (i + 1) acc ih2 (by omega) (by omega) h4 h3
      | true =>
        obtain ⟨y, ih3, h3, h4, h5, h6⟩ := t5 rfl
        dsimp only
        rw [h3]
        dsimp only
        rw [h4]
        dsimp only
        rw [if_pos h5]
        exact ihf (i + 1) (acc ++ [y]) _ (by omega) (by omega) h6 (get_set h4)
theorem set_append_last (a : IH) (o u : MO) : (a ++ [o]).set a.length u = a ++ [u] := by
  rw [List.set_append_right _ _ (Nat.le_refl _), Nat.sub_self]
  rfl
/-- [me for x in xs if n], over a list; the parts leave the heap -/
theorem lc_lst {vs : List Nat} {m : Env → IH → Res IV} {i : Nat} {n : Env → IH → Res Bool} {me : Env → IH → Res IV} {env : Env} {ih ih1 : IH} {p : Nat} {o : MO} (F : IV → IV) (T : IV → Bool) (hm : m env ih = .ok (.ref p) ih1) (ho : ih1[p]? = some o) (hl : o.isL = true) (hz : o.xs.length < 100000)
    (ht : ∀ x ∈ o.xs, ∀ ih', Ext ih1 ih' → n ((wipeI env vs).set i (some x)) ih' = .ok (T x) ih') (he : ∀ x ∈ o.xs, T x = true → ∀ ih', Ext ih1 ih' → me ((wipeI env vs).set i (some x)) ih' = .ok (F x) ih') :
    m_lc vs (mi_lst m) (g_nm i) n me env ih = .ok (.ref ih1.length) (ih1 ++ [.lst ((o.xs.filter T).map F)]) := by
  unfold m_lc mi_lst
  rw [hm, Res.bind_ok]
  dsimp only
  rw [lAt_of ho hl]
  dsimp only
  rw [Res.bind_ok]
  have hs : (Src.lst p).size ih1 = o.xs.length := by
    unfold Src.size
    dsimp only
    rw [ho]
  rw [hs]
  obtain ⟨acc', ih', e1, e2, e3⟩ := lcGo_ind (s := .lst p) (g := g_nm i) (n := n) (me := me) (d := ih1.length) (env := wipeI env vs) o.xs.length (fun k acc ih => acc = ((o.xs.take k).filter T).map F ∧ ih = ih1 ++ [.lst acc])
    (fun k acc ih hk ⟨ha, hi⟩ hd => by
      subst hi
      have hx : (ih1 ++ [MO.lst acc])[p]? = some o := Ext.app _ _ _ _ ho
      have hxk : o.xs[k]? = some o.xs[k] := List.getElem?_eq_getElem hk
      have hmem : o.xs[k] ∈ o.xs := List.getElem_mem hk
      have etk : (o.xs.take (k + 1)) = o.xs.take k ++ [o.xs[k]] := by rw [List.take_add_one, hxk]; rfl
      refine ⟨o.xs[k], _, _, T o.xs[k], _, turn_lst hx hl hxk, rfl, ht _ hmem _ (Ext.app _ _), fun hb => ⟨hd, ?_, rfl⟩, fun hb => ⟨_, _, he _ hmem hb _ (Ext.app _ _), hd, ?_, ?_, ?_⟩⟩
      · rw [etk, List.filter_append, ha, List.filter_cons, hb]
        simp
      · rw [ha, List.length_map]
        exact Nat.lt_of_le_of_lt (List.length_filter_le _ _) (Nat.lt_of_le_of_lt (List.length_take_le' _ _) hz)
      · rw [etk, List.filter_append, ha, List.filter_cons, hb]
        simp
      · rw [set_append_last])
    (fun acc ih ⟨ha, hi⟩ hd => by
      subst hi
      exact stop_lst (Ext.app _ _ _ _ ho) hl)
    (o.xs.length + 1) 0 [] (ih1 ++ [.lst []]) (Nat.zero_le _) (by omega) ⟨by simp, rfl⟩ (get_new _ _)
  rw [e1]
  obtain ⟨h1, h2⟩ := e3
  rw [h2, h1, List.take_length]
theorem filter_true (xs : List IV) : xs.filter (fun _ => true) = xs := List.filter_eq_self.mpr fun _ _ => rfl
/-- without a test -/
theorem lc_map {vs : List Nat} {m : Env → IH → Res IV} {i : Nat} {me : Env → IH → Res IV} {env : Env} {ih ih1 : IH} {p : Nat} {o : MO} (F : IV → IV) (hm : m env ih = .ok (.ref p) ih1) (ho : ih1[p]? = some o) (hl : o.isL = true) (hz : o.xs.length < 100000)
    (he : ∀ x ∈ o.xs, ∀ ih', Ext ih1 ih' → me ((wipeI env vs).set i (some x)) ih' = .ok (F x) ih') :
    m_lc vs (mi_lst m) (g_nm i) n_yes me env ih = .ok (.ref ih1.length) (ih1 ++ [.lst (o.xs.map F)]) := by
  have h := lc_lst (n := n_yes) F (fun _ => true) hm ho hl hz (fun x _ ih' _ => rfl) (fun x hx _ ih' e => he x hx ih' e)
  rw [filter_true] at h
  exact h
/-- over a range -/
theorem lc_rng {vs : List Nat} {m : Env → IH → Res (List IV)} {i : Nat} {me : Env → IH → Res IV} {env : Env} {ih ih1 : IH} {j : Int} (F : Nat → IV) (hm : m env ih = .ok [.int j] ih1) (hj : smallI j = true) (hz : j < 100000)
    (he : ∀ k : Nat, (k : Int) < j → ∀ ih', Ext ih1 ih' → me ((wipeI env vs).set i (some (.int (k : Int)))) ih' = .ok (F k) ih') :
    m_lc vs (mi_rng1 m) (g_nm i) n_yes me env ih = .ok (.ref ih1.length) (ih1 ++ [.lst ((List.range j.toNat).map F)]) := by
  unfold m_lc mi_rng1
  rw [hm, Res.bind_ok]
  dsimp only
  rw [if_pos hj, Res.bind_ok]
  show lcGo (.rng 0 1 j.toNat) (g_nm i) n_yes me ih1.length (wipeI env vs) (j.toNat + 1) 0 (ih1 ++ [.lst []]) = _
  obtain ⟨acc', ih', e1, e2, e3⟩ := lcGo_ind (s := .rng 0 1 j.toNat) (g := g_nm i) (n := n_yes) (me := me) (d := ih1.length) (env := wipeI env vs) j.toNat (fun k acc ih => acc = (List.range k).map F ∧ ih = ih1 ++ [.lst acc])
    (fun k acc ih hk ⟨ha, hi⟩ hd => by
      subst hi
      have e0 : (0 : Int) + (k : Int) * 1 = (k : Int) := by omega
      refine ⟨.int (k : Int), _, _, true, _, by rw [turn_rng hk, e0], rfl, rfl, (fun hb => nomatch hb), fun _ => ⟨_, _, he k (by omega) _ (Ext.app _ _), hd, ?_, ?_, ?_⟩⟩
      · rw [ha, List.length_map, List.length_range]
        omega
      · rw [ha, List.range_succ, List.map_append]
        rfl
      · rw [set_append_last])
    (fun acc ih _ hd => stop_rng) (j.toNat + 1) 0 [] (ih1 ++ [.lst []]) (Nat.zero_le _) (by omega) ⟨by simp, rfl⟩ (get_new _ _)
  rw [e1]
  obtain ⟨h1, h2⟩ := e3
  rw [h2, h1]
theorem ExtP.of_set {a b : IH} {d : Nat} {o : MO} (h : Ext a b) (hd : a.length ≤ d) : Ext a (b.set d o) := fun n u e => by
  have := (List.getElem?_eq_some_iff.mp e).1
  rw [List.getElem?_set_ne (by omega)]
  exact h n u e
/-- [me for a, b in zip(xs, ys)]: the pairs stay behind -/
theorem lc_zip {vs : List Nat} {m : Env → IH → Res (List IV)} {i j : Nat} {me : Env → IH → Res IV} {env : Env} {ih ih1 : IH} {p q : Nat} {o u : MO} (F : IV → IV → IV) (hm : m env ih = .ok [.ref p, .ref q] ih1) (ho : ih1[p]? = some o) (hl : o.isL = true) (hu : ih1[q]? = some u) (hl2 : u.isL = true) (hz : o.xs.length < 100000)
    (he : ∀ (k : Nat) (x y : IV), o.xs[k]? = some x → u.xs[k]? = some y → ∀ ih', Ext ih1 ih' → me (((wipeI env vs).set i (some x)).set j (some y)) ih' = .ok (F x y) ih') :
    ∃ ih', m_lc vs (mi_zip m) (g_tup 2 (g_cons (g_nm i) (g_cons (g_nm j) g_nil))) n_yes me env ih = .ok (.ref ih1.length) ih' ∧ Ext ih1 ih' ∧ ih'[ih1.length]? = some (.lst (List.zipWith F o.xs u.xs)) := by
  unfold m_lc mi_zip
  rw [hm, Res.bind_ok]
  dsimp only
  rw [lAt_of ho hl, lAt_of hu hl2]
  dsimp only
  rw [Res.bind_ok]
  have hs : (Src.zip p q).size ih1 = o.xs.length := by
    unfold Src.size
    dsimp only
    rw [ho]
  rw [hs]
  obtain ⟨acc', ih', e1, e2, e3⟩ := lcGo_ind (s := .zip p q) (g := g_tup 2 (g_cons (g_nm i) (g_cons (g_nm j) g_nil))) (n := n_yes) (me := me) (d := ih1.length) (env := wipeI env vs) (min o.xs.length u.xs.length) (fun k acc ih => acc = List.zipWith F (o.xs.take k) (u.xs.take k) ∧ Ext ih1 ih)
    (fun k acc ih hk ⟨ha, hi⟩ hd => by
      have hk1 : k < o.xs.length := by omega
      have hk2 : k < u.xs.length := by omega
      have hx : o.xs[k]? = some o.xs[k] := List.getElem?_eq_getElem hk1
      have hy : u.xs[k]? = some u.xs[k] := List.getElem?_eq_getElem hk2
      have e0 : Ext ih (ih ++ [.tup [o.xs[k], u.xs[k]]]) := Ext.app _ _
      refine ⟨.ref ih.length, _, _, true, _, turn_zip (hi _ _ ho) hl hx (hi _ _ hu) hl2 hy, ?_, rfl, (fun hb => nomatch hb), fun _ => ⟨_, _, he k _ _ hx hy _ (hi.trans e0), e0 _ _ hd, ?_, ?_, ?_⟩⟩
      · unfold g_tup
        dsimp only
        rw [get_new]
        rfl
      · rw [ha, List.length_zipWith, List.length_take, List.length_take]
        omega
      · have e3 : o.xs.take (k + 1) = o.xs.take k ++ [o.xs[k]] := by rw [List.take_add_one, hx]; rfl
        have e4 : u.xs.take (k + 1) = u.xs.take k ++ [u.xs[k]] := by rw [List.take_add_one, hy]; rfl
        rw [ha, e3, e4, List.zipWith_append (by rw [List.length_take, List.length_take]; omega)]
        rfl
      · exact ExtP.of_set (hi.trans e0) (Nat.le_refl _))
    (fun acc ih ⟨ha, hi⟩ hd => stop_zip (hi _ _ ho) hl (hi _ _ hu) hl2 (by omega))
    (o.xs.length + 1) 0 [] (ih1 ++ [.lst []]) (Nat.zero_le _) (by omega) ⟨by simp, Ext.app _ _⟩ (get_new _ _)
  refine ⟨ih', e1, e3.2, ?_⟩
  rw [e2, e3.1]
  congr 2
  exact (List.zipWith_eq_zipWith_take_min (f := F)).symm

/-! ### built-ins over lists -/
theorem a_ints {g : List Int → IH → Res IV} {n : Nat} {ih : IH} {o : MO} {ns : List Int} (h : ih[n]? = some o) (hl : o.isL = true) (hx : o.xs = ns.map IV.int) : f_ints g [.ref n] ih = g ns ih := by
  unfold f_ints
  dsimp only
  rw [h]
  dsimp only
  rw [if_pos hl, hx, ints?_map]
theorem a_bls {g : List Bool → IH → Res IV} {n : Nat} {ih : IH} {o : MO} {ns : List Bool} (h : ih[n]? = some o) (hl : o.isL = true) (hx : o.xs = ns.map IV.bl) : f_bls g [.ref n] ih = g ns ih := by
  unfold f_bls
  dsimp only
  rw [h]
  dsimp only
  rw [if_pos hl, hx, bls?_map]
theorem a_sum {n : Nat} {ih : IH} {o : MO} {ns : List Int} (h : ih[n]? = some o) (hl : o.isL = true) (hx : o.xs = ns.map IV.int) : f_sum [.ref n] ih = .ok (.int ns.sum) ih := a_ints h hl hx
theorem a_all {n : Nat} {ih : IH} {o : MO} {ns : List Bool} (h : ih[n]? = some o) (hl : o.isL = true) (hx : o.xs = ns.map IV.bl) : f_all [.ref n] ih = .ok (.bl (ns.all id)) ih := a_bls h hl hx
theorem a_any {n : Nat} {ih : IH} {o : MO} {ns : List Bool} (h : ih[n]? = some o) (hl : o.isL = true) (hx : o.xs = ns.map IV.bl) : f_any [.ref n] ih = .ok (.bl (ns.any id)) ih := a_bls h hl hx
theorem a_slL {n : Nat} {ih : IH} {xs : List IV} {lo hi : Option Int} (h : ih[n]? = some (.lst xs)) : f_sl (.ref n) lo hi ih = .ok (.ref ih.length) (ih ++ [.lst (cutI xs lo hi)]) := by
  unfold f_sl
  dsimp only
  rw [h]
theorem cutI_1 (xs : List IV) : cutI xs (some 1) none = xs.drop 1 := by
  unfold cutI
  rw [show HT.sIx xs.length 0 (some 1) = min 1 xs.length from HT.sIx_nat xs.length 0 1, HT.sIx_none]
  cases xs with
  | nil => rfl
  | cons x r =>
    rw [show min 1 (x :: r).length = 1 by rw [List.length_cons]; omega]
    show (List.take ((x :: r).length - 1) r) = r
    rw [List.length_cons, Nat.add_sub_cancel]
    exact List.take_length
/-! ### equal data -/
theorem Is.ext {a b : IH} (e : Ext a b) : ∀ (d : PyData) (v : IV), Is a v d → Is b v d := by
  intro d
  have both : (∀ (d : PyData) (v : IV), Is a v d → Is b v d) ∧ (∀ (ds : List PyData) (vs : List IV), IsAll a vs ds → IsAll b vs ds) := by
    constructor
    · intro d v h
      exact Is.rec (motive_1 := fun v d _ => Is b v d) (motive_2 := fun vs ds _ => IsAll b vs ds) .non .bl .int .str (fun h1 h2 _ h3 => .lst (e _ _ h1) h2 h3) (fun h1 h2 _ h3 => .tup (e _ _ h1) h2 h3) .nil (fun _ _ h1 h2 => .cons h1 h2) h
    · intro ds vs h
      exact IsAll.rec (motive_1 := fun v d _ => Is b v d) (motive_2 := fun vs ds _ => IsAll b vs ds) .non .bl .int .str (fun h1 h2 _ h3 => .lst (e _ _ h1) h2 h3) (fun h1 h2 _ h3 => .tup (e _ _ h1) h2 h3) .nil (fun _ _ h1 h2 => .cons h1 h2) h
  exact both.1 d
theorem IsAll.ints (ih : IH) : ∀ ns : List Int, IsAll ih (ns.map IV.int) (ns.map PyData.int)
  | [] => .nil
  | n :: r => .cons (.int n) (IsAll.ints ih r)
theorem Is.ints {ih : IH} {n : Nat} {o : MO} {ns : List Int} (h : ih[n]? = some o) (hl : o.isL = true) (hx : o.xs = ns.map IV.int) : Is ih (.ref n) (.list (ns.map .int)) := .lst h hl (hx ▸ IsAll.ints ih ns)
theorem shaped_int (i : Int) : SeqAt.shaped (.int i) = true := by
  unfold SeqAt.shaped
  simp [PyData.canLay0, PyData.depth]
theorem canLay_ints : ∀ ns : List Int, PyData.canLayAll0 (ns.map PyData.int) = true
  | [] => by simp [PyData.canLayAll0]
  | n :: r => by
    rw [List.map_cons]
    simp [PyData.canLayAll0, PyData.canLay0, canLay_ints r]
theorem depth_ints : ∀ ns : List Int, PyData.depthAll (ns.map PyData.int) = 0
  | [] => by simp [PyData.depthAll]
  | n :: r => by
    rw [List.map_cons]
    simp [PyData.depthAll, PyData.depth, depth_ints r]
theorem shaped_ints (ns : List Int) : SeqAt.shaped (.list (ns.map .int)) = true := by
  unfold SeqAt.shaped
  simp [PyData.canLay0, PyData.depth, canLay_ints, depth_ints]
theorem eqv_ints : ∀ ns ms : List Int, PyData.eqvAll (ns.map .int) (ms.map .int) = decide (ns = ms)
  | [], [] => by simp [PyData.eqvAll]
  | [], _ :: _ => by simp [PyData.eqvAll]
  | _ :: _, [] => by simp [PyData.eqvAll]
  | n :: r, m :: s => by
    rw [List.map_cons, List.map_cons]
    simp only [PyData.eqvAll, PyData.eqv, eqv_ints r s]
    by_cases h : n = m
    · subst h
      simp
    · simp [h]
theorem eqv_list (ns ms : List Int) : PyData.eqv (.list (ns.map .int)) (.list (ms.map .int)) = decide (ns = ms) := by
  simp only [PyData.eqv, eqv_ints]
theorem eqv_same {d : PyData} (h : SeqAt.shaped d = true) : PyData.eqv d d = true := by
  unfold SeqAt.shaped at h
  rw [Bool.and_eq_true] at h
  exact PySem.SeqAt.eqv_refl d h.1
theorem a_eq_int {i j : Int} {ih : IH} : f_eq (.int i) (.int j) ih = .ok (.bl (decide (i = j))) ih := by
  rw [f_eq_of (.int i) (.int j) (shaped_int i) (shaped_int j)]
  simp only [PyData.eqv]
  rfl
theorem a_ne_int {i j : Int} {ih : IH} : f_ne (.int i) (.int j) ih = .ok (.bl (!decide (i = j))) ih := by
  rw [f_ne_of (.int i) (.int j) (shaped_int i) (shaped_int j)]
  simp only [PyData.eqv]
  rfl
/-- equal things: != is False, == is True -/
theorem a_ne_same {x y : IV} {ih : IH} {d : PyData} (h1 : Is ih x d) (h2 : Is ih y d) (s : SeqAt.shaped d = true) : f_ne x y ih = .ok (.bl false) ih := by
  rw [f_ne_of h1 h2 s s, eqv_same s]
  rfl
theorem a_eq_same {x y : IV} {ih : IH} {d : PyData} (h1 : Is ih x d) (h2 : Is ih y d) (s : SeqAt.shaped d = true) : f_eq x y ih = .ok (.bl true) ih := by
  rw [f_eq_of h1 h2 s s, eqv_same s]
end L3
/-! L7: mirrors, run backwards: what is wanted behind a mirror. -/
namespace L3
open PySem PySem.Spec PyProof.Rows L2

abbrev PQ (α : Type) := α → IH → Prop
abbrev EQ := Addr → IH → Prop
abbrev SQ := Fl → IH → Prop
abbrev ES := Addr → Env → IH → Prop
@[irreducible] def wp {α : Type} (r : Res α) (Q : PQ α) (E : EQ) : Prop := match r with
  | .ok v ih => Q v ih
  | .exc c ih => E c ih
  | .stuck => False
@[irreducible] def ws (r : RS) (Q : SQ) (E : ES) : Prop := match r with
  | .ok f ih => Q f ih
  | .exc c env ih => E c env ih
  | .stuck => False
def E0 : EQ := fun _ _ => False
def S0 : ES := fun _ _ _ => False
def kE (E : ES) (env : Env) : EQ := fun c ih => E c env ih
section
variable {α β : Type} {v : α} {ih : IH} {Q Q' : PQ α} {E E' : EQ} {c : Addr} {r : Res α} {env : Env} {f : Fl} {S : SQ} {F : ES}
theorem wp_ok : wp (.ok v ih) Q E = Q v ih := by with_unfolding_all rfl
theorem wp_exc : wp (.exc c ih) Q E = E c ih := by with_unfolding_all rfl
theorem wp_stuck : wp (.stuck) Q E = False := by with_unfolding_all rfl
theorem ws_ok : ws (.ok f ih) S F = S f ih := by with_unfolding_all rfl
theorem ws_exc : ws (.exc c env ih) S F = F c env ih := by with_unfolding_all rfl
theorem ws_stuck : ws .stuck S F = False := by with_unfolding_all rfl
theorem wp.imp (h : wp r Q E) (q : ∀ v ih, Q v ih → Q' v ih) (e : ∀ c ih, E c ih → E' c ih) : wp r Q' E' := by
  cases r with
  | ok v ih => rw [wp_ok] at h ⊢; exact q _ _ h
  | exc c ih => rw [wp_exc] at h ⊢; exact e _ _ h
  | stuck => rw [wp_stuck] at h; exact h.elim
theorem ws.imp {r : RS} {S' : SQ} {F' : ES} (h : ws r S F) (q : ∀ v ih, S v ih → S' v ih) (e : ∀ c env ih, F c env ih → F' c env ih) : ws r S' F' := by
  cases r with
  | ok v ih => rw [ws_ok] at h ⊢; exact q _ _ h
  | exc c env ih => rw [ws_exc] at h ⊢; exact e _ _ _ h
  | stuck => rw [ws_stuck] at h; exact h.elim
theorem wp_bind {r : Res α} {k : α → IH → Res β} {Q : PQ β} : wp (r.bind k) Q E = wp r (fun v ih => wp (k v ih) Q E) E := by
  cases r <;> with_unfolding_all rfl
theorem ws_stm {r : Res α} {k : α → IH → RS} : ws (r.stm env k) S F = wp r (fun v ih => ws (k v ih) S F) (kE F env) := by
  cases r <;> with_unfolding_all rfl
/-- an outcome -/
theorem wp.out (h : wp r Q E0) : ∃ v ih', r = .ok v ih' ∧ Q v ih' := by
  cases r with
  | ok v ih => rw [wp_ok] at h; exact ⟨v, ih, rfl, h⟩
  | exc c ih => rw [wp_exc] at h; exact h.elim
  | stuck => rw [wp_stuck] at h; exact h.elim
theorem wp.eq {a : α} {b : IH} (h : wp r (fun v ih' => v = a ∧ ih' = b) E0) : r = .ok a b := by
  obtain ⟨v, ih', e, rfl, rfl⟩ := h.out
  exact e
theorem wp.of {a : α} {b : IH} (h : r = .ok a b) (q : Q a b) : wp r Q E := by
  rw [h, wp_ok]
  exact q
theorem ws.out {r : RS} (h : ws r S S0) : ∃ f ih', r = .ok f ih' ∧ S f ih' := by
  cases r with
  | ok v ih => rw [ws_ok] at h; exact ⟨v, ih, rfl, h⟩
  | exc c env ih => rw [ws_exc] at h; exact h.elim
  | stuck => rw [ws_stuck] at h; exact h.elim
end

/-! ### what is left, as constants -/
section
variable {α β γ : Type}
def k_un (f : α → IH → Res β) (Q : PQ β) (E : EQ) : PQ α := fun x ih => wp (f x ih) Q E
def k_op (f : IV → IV → IH → Res IV) (mb : Env → IH → Res IV) (env : Env) (Q : PQ IV) (E : EQ) : PQ IV := fun x ih => wp (mb env ih) (k_un (f x) Q E) E
def k_cons2 (x : IV) (Q : PQ (List IV)) : PQ (List IV) := fun xs ih => Q (x :: xs) ih
def k_cons (mr : Env → IH → Res (List IV)) (env : Env) (Q : PQ (List IV)) (E : EQ) : PQ IV := fun x ih => wp (mr env ih) (k_cons2 x Q) E
def k_if (ma mb : Env → IH → Res α) (env : Env) (Q : PQ α) (E : EQ) : PQ Bool := fun b ih => if b = true then wp (ma env ih) Q E else wp (mb env ih) Q E
def k_and (mb : Env → IH → Res Bool) (env : Env) (Q : PQ Bool) (E : EQ) : PQ Bool := fun b ih => if b = true then wp (mb env ih) Q E else Q false ih
def k_or (mb : Env → IH → Res Bool) (env : Env) (Q : PQ Bool) (E : EQ) : PQ Bool := fun b ih => if b = true then Q true ih else wp (mb env ih) Q E
def k_not (Q : PQ Bool) : PQ Bool := fun b ih => Q (!b) ih
def k_tb (Q : PQ Bool) : PQ IV := fun v ih => match v with
  | .bl b => Q b ih
  | _ => False
def k_andV (mb : Env → IH → Res IV) (env : Env) (Q : PQ IV) (E : EQ) : PQ Bool := fun b ih => if b = true then wp (mb env ih) Q E else Q (.bl false) ih
def k_orV (mb : Env → IH → Res IV) (env : Env) (Q : PQ IV) (E : EQ) : PQ Bool := fun b ih => if b = true then Q (.bl true) ih else wp (mb env ih) Q E
def k_notV (Q : PQ IV) : PQ Bool := fun b ih => Q (.bl !b) ih
def k_some (Q : PQ (Option Int)) : PQ IV := fun v ih => match v with
  | .int i => Q (some i) ih
  | _ => False
def k_sl3 (x : IV) (l : Option Int) (Q : PQ IV) (E : EQ) : PQ (Option Int) := fun h ih => wp (f_sl x l h ih) Q E
def k_sl2 (x : IV) (mh : Env → IH → Res (Option Int)) (env : Env) (Q : PQ IV) (E : EQ) : PQ (Option Int) := fun l ih => wp (mh env ih) (k_sl3 x l Q E) E
def k_sl (ml mh : Env → IH → Res (Option Int)) (env : Env) (Q : PQ IV) (E : EQ) : PQ IV := fun x ih => wp (ml env ih) (k_sl2 x mh env Q E) E
def k_mL2 (f : IV → List IV → IH → Res IV) (x : IV) (Q : PQ IV) (E : EQ) : PQ (List IV) := fun xs ih => wp (f x xs ih) Q E
def k_mL (f : IV → List IV → IH → Res IV) (mr : Env → IH → Res (List IV)) (env : Env) (Q : PQ IV) (E : EQ) : PQ IV := fun x ih => isLst x ih = true ∧ wp (mr env ih) (k_mL2 f x Q E) E
def k_mL0 (f : IV → List IV → IH → Res IV) (Q : PQ IV) (E : EQ) : PQ IV := fun x ih => isLst x ih = true ∧ wp (f x [] ih) Q E
def k_ch3 (g : IV → IV → IH → Res IV) (y : IV) (mc : Env → IH → Res IV) (env : Env) (Q : PQ IV) (E : EQ) : PQ Bool := fun k ih => if k = true then wp (mc env ih) (k_un (g y) Q E) E else Q (.bl false) ih
def k_ch2 (f g : IV → IV → IH → Res IV) (x : IV) (mc : Env → IH → Res IV) (env : Env) (Q : PQ IV) (E : EQ) : PQ IV := fun y ih => wp (f x y ih) (k_tb (k_ch3 g y mc env Q E)) E
def k_ch (f g : IV → IV → IH → Res IV) (mb mc : Env → IH → Res IV) (env : Env) (Q : PQ IV) (E : EQ) : PQ IV := fun x ih => wp (mb env ih) (k_ch2 f g x mc env Q E) E
def ks_set (g : IV → Env → IH → Option Env) (env : Env) (S : SQ) : PQ IV := fun v ih => match g v env ih with
  | some env' => S (.next env') ih
  | none => False
def ks_expr (env : Env) (S : SQ) : PQ IV := fun _ ih => S (.next env) ih
def ks_ret (S : SQ) : PQ IV := fun v ih => S (.ret v) ih
def ks_if (ma mb : Env → IH → RS) (env : Env) (S : SQ) (F : ES) : PQ Bool := fun b ih => if b = true then ws (ma env ih) S F else ws (mb env ih) S F
def ks_seq (mb : Env → IH → RS) (S : SQ) (F : ES) : SQ := fun f ih => match f with
  | .next env => ws (mb env ih) S F
  | z => S z ih
def ks_aug2 (i : Nat) (env : Env) (S : SQ) : PQ IV := fun z ih => S (.next (env.set i (some z))) ih
def ks_aug (i : Nat) (f : IV → IV → IH → Res IV) (x : IV) (env : Env) (S : SQ) (F : ES) : PQ IV := fun y ih => wp (f x y ih) (ks_aug2 i env S) (kE F env)
def ks_par (i j : Nat) (env : Env) (S : SQ) : PQ (List IV) := fun vs ih => match vs with
  | [v, w] => S (.next ((env.set i (some v)).set j (some w))) ih
  | _ => False
def ks_sl4 (o i v : IV) (env : Env) (S : SQ) (ih : IH) : Prop := match f_setL o i v ih with
  | some ih4 => S (.next env) ih4
  | none => False
def ks_sl3 (v o : IV) (env : Env) (S : SQ) : PQ IV := fun i ih => ks_sl4 o i v env S ih
def ks_sl2 (v : IV) (mi : Env → IH → Res IV) (env : Env) (S : SQ) (F : ES) : PQ IV := fun o ih => wp (mi env ih) (ks_sl3 v o env S) (kE F env)
def ks_sl (mo mi : Env → IH → Res IV) (env : Env) (S : SQ) (F : ES) : PQ IV := fun v ih => wp (mo env ih) (ks_sl2 v mi env S F) (kE F env)
def kd (Q : PQ IV) : SQ := fun f ih => match f with
  | .ret v => Q v ih
  | .next _ => Q .non ih
  | _ => False
def kdE (E : EQ) : ES := fun c _ ih => E c ih
/-- of a source: the loop -/
def ks_for (g : IV → Env → IH → Option Env) (mb : Env → IH → RS) (env : Env) (S : SQ) (F : ES) : PQ Src := fun s ih => ws (forGo s g mb (s.size ih + 1) 0 env ih) S F
def k_lc (vs : List Nat) (g : IV → Env → IH → Option Env) (n : Env → IH → Res Bool) (me : Env → IH → Res IV) (env : Env) (Q : PQ IV) (E : EQ) : PQ Src := fun s ih => wp (lcGo s g n me ih.length (wipeI env vs) (s.size ih + 1) 0 (ih ++ [.lst []])) Q E
def k_r1 (Q : PQ Src) : PQ (List IV) := fun vs ih => match vs with
  | [.int j] => smallI j = true ∧ Q (.rng 0 1 j.toNat) ih
  | _ => False
def k_r2 (Q : PQ Src) : PQ (List IV) := fun vs ih => match vs with
  | [.int i, .int j] => (smallI i = true ∧ smallI j = true) ∧ Q (.rng i 1 (j - i).toNat) ih
  | _ => False
def k_il2 (n : Nat) (Q : PQ Src) (ih : IH) : Option (List IV) → Prop
  | some _ => Q (.lst n) ih
  | none => False
def k_il (Q : PQ Src) : PQ IV := fun v ih => match v with
  | .ref n => k_il2 n Q ih (lAt ih n true)
  | _ => False
def k_it2 (n : Nat) (Q : PQ Src) (ih : IH) : Option (List IV) → Prop
  | some _ => Q (.tup n) ih
  | none => False
def k_it (Q : PQ Src) : PQ IV := fun v ih => match v with
  | .ref n => k_it2 n Q ih (lAt ih n false)
  | _ => False
def k_ie2 (n : Nat) (Q : PQ Src) (ih : IH) : Option (List IV) → Prop
  | some _ => Q (.enm n) ih
  | none => False
def k_ie (Q : PQ Src) : PQ (List IV) := fun v ih => match v with
  | [.ref n] => k_ie2 n Q ih (lAt ih n true)
  | _ => False
def k_iz2 (n k : Nat) (Q : PQ Src) (ih : IH) : Option (List IV) → Option (List IV) → Prop
  | some _, some _ => Q (.zip n k) ih
  | _, _ => False
def k_iz (Q : PQ Src) : PQ (List IV) := fun v ih => match v with
  | [.ref n, .ref k] => k_iz2 n k Q ih (lAt ih n true) (lAt ih k true)
  | _ => False
/-- reading at a place -/
def k_ix2 (Q : PQ IV) (ih : IH) : Option IV → Prop
  | some v => Q v ih
  | none => False
def k_ix (i : Int) (Q : PQ IV) (ih : IH) : Option MO → Prop
  | some o => k_ix2 Q ih (atI o.xs i)
  | none => False
def k_len (Q : PQ IV) (ih : IH) : Option MO → Prop
  | some .dct => False
  | some (.dk _) => False
  | some .clo => False
  | some (.fn _ _) => False
  | some o => Q (.int o.xs.length) ih
  | none => False
def k_app1 (n : Nat) (y : IV) (Q : PQ IV) (ih : IH) : Option MO → Prop
  | some (.lst xs) => xs.length < 100000 ∧ Q .non (ih.set n (.lst (xs ++ [y])))
  | _ => False
def k_setL (n : Nat) (i : Int) (v : IV) (env : Env) (S : SQ) (ih : IH) : Option MO → Prop
  | some (.lst xs) => match ixN xs.length i with
    | some j => S (.next env) (ih.set n (.lst (xs.set j v)))
    | none => False
  | _ => False
end

/-! ### the steps -/
section
variable {α β : Type} {ma mb mc mr2 : Env → IH → Res IV} {mt nb : Env → IH → Res Bool} {mr : Env → IH → Res (List IV)} {ml mh : Env → IH → Res (Option Int)} {sa sb : Env → IH → RS} {env env' : Env} {ih ih' : IH} {Q : PQ IV} {QB : PQ Bool} {QL : PQ (List IV)} {QO : PQ (Option Int)} {QS : PQ Src} {E : EQ} {S : SQ} {F : ES} {f g : IV → IV → IH → Res IV} {x y v w : IV} {xs : List IV} {i j : Int} {n m : Nat} {b : Bool} {p q : Prop} {o : MO} {c : Addr}
theorem wp_op : wp (m_op f ma mb env ih) Q E = wp (ma env ih) (k_op f mb env Q E) E := by
  unfold m_op
  rw [wp_bind]
  simp only [wp_bind]
  with_unfolding_all rfl
theorem kk_op : k_op f mb env Q E x ih = wp (mb env ih) (k_un (f x) Q E) E := by with_unfolding_all rfl
theorem kk_un {f : α → IH → Res β} {Q : PQ β} {x : α} : k_un f Q E x ih = wp (f x ih) Q E := by with_unfolding_all rfl
theorem wp_un {f : IV → IH → Res IV} : wp (m_un f ma env ih) Q E = wp (ma env ih) (k_un f Q E) E := by
  unfold m_un
  rw [wp_bind]
  with_unfolding_all rfl
theorem wp_cons : wp (m_cons ma mr env ih) QL E = wp (ma env ih) (k_cons mr env QL E) E := by
  unfold m_cons
  rw [wp_bind]
  simp only [wp_bind]
  with_unfolding_all rfl
theorem kk_cons : k_cons mr env QL E x ih = wp (mr env ih) (k_cons2 x QL) E := by with_unfolding_all rfl
theorem kk_cons2 : k_cons2 x QL xs ih = QL (x :: xs) ih := by with_unfolding_all rfl
theorem wp_nil : wp (m_nil env ih) QL E = QL [] ih := by with_unfolding_all rfl
theorem wp_c : wp (m_c v env ih) Q E = Q v ih := by with_unfolding_all rfl
theorem wp_app {f : List IV → IH → Res IV} : wp (m_app f mr env ih) Q E = wp (mr env ih) (k_un f Q E) E := by
  unfold m_app
  rw [wp_bind]
  with_unfolding_all rfl
theorem wp_if : wp (m_if mt ma mb env ih) Q E = wp (mt env ih) (k_if ma mb env Q E) E := by
  unfold m_if
  rw [wp_bind]
  congr 1
  funext b ih
  cases b <;> with_unfolding_all rfl
theorem kk_if1 {ma mb : Env → IH → Res α} {Q : PQ α} : k_if ma mb env Q E true ih = wp (ma env ih) Q E := by with_unfolding_all rfl
theorem kk_if0 {ma mb : Env → IH → Res α} {Q : PQ α} : k_if ma mb env Q E false ih = wp (mb env ih) Q E := by with_unfolding_all rfl
theorem wp_and : wp (m_and mt nb env ih) QB E = wp (mt env ih) (k_and nb env QB E) E := by
  unfold m_and
  rw [wp_bind]
  congr 1
  funext b ih
  cases b <;> with_unfolding_all rfl
theorem kk_and1 : k_and nb env QB E true ih = wp (nb env ih) QB E := by with_unfolding_all rfl
theorem kk_and0 : k_and nb env QB E false ih = QB false ih := by with_unfolding_all rfl
theorem wp_or : wp (m_or mt nb env ih) QB E = wp (mt env ih) (k_or nb env QB E) E := by
  unfold m_or
  rw [wp_bind]
  congr 1
  funext b ih
  cases b <;> with_unfolding_all rfl
theorem kk_or1 : k_or nb env QB E true ih = QB true ih := by with_unfolding_all rfl
theorem kk_or0 : k_or nb env QB E false ih = wp (nb env ih) QB E := by with_unfolding_all rfl
theorem wp_not : wp (m_not mt env ih) QB E = wp (mt env ih) (k_not QB) E := by
  unfold m_not
  rw [wp_bind]
  with_unfolding_all rfl
theorem kk_not : k_not QB b ih = QB (!b) ih := by with_unfolding_all rfl
theorem wp_tb : wp (m_tb ma env ih) QB E = wp (ma env ih) (k_tb QB) E := by
  unfold m_tb
  rw [wp_bind]
  congr 1
  funext v ih
  cases v <;> with_unfolding_all rfl
theorem kk_tb : k_tb QB (.bl b) ih = QB b ih := by with_unfolding_all rfl
theorem wp_andV : wp (m_andV ma mb env ih) Q E = wp (ma env ih) (k_tb (k_andV mb env Q E)) E := by
  unfold m_andV
  rw [wp_bind]
  congr 1
  funext v ih
  cases v with
  | bl b => cases b <;> with_unfolding_all rfl
  | _ => with_unfolding_all rfl
theorem kk_andV1 : k_andV mb env Q E true ih = wp (mb env ih) Q E := by with_unfolding_all rfl
theorem kk_andV0 : k_andV mb env Q E false ih = Q (.bl false) ih := by with_unfolding_all rfl
theorem wp_orV : wp (m_orV ma mb env ih) Q E = wp (ma env ih) (k_tb (k_orV mb env Q E)) E := by
  unfold m_orV
  rw [wp_bind]
  congr 1
  funext v ih
  cases v with
  | bl b => cases b <;> with_unfolding_all rfl
  | _ => with_unfolding_all rfl
theorem kk_orV1 : k_orV mb env Q E true ih = Q (.bl true) ih := by with_unfolding_all rfl
theorem kk_orV0 : k_orV mb env Q E false ih = wp (mb env ih) Q E := by with_unfolding_all rfl
theorem wp_notV : wp (m_notV ma env ih) Q E = wp (ma env ih) (k_tb (k_notV Q)) E := by
  unfold m_notV
  rw [wp_bind]
  congr 1
  funext v ih
  cases v <;> with_unfolding_all rfl
theorem kk_notV : k_notV Q b ih = Q (.bl !b) ih := by with_unfolding_all rfl
theorem wp_noneS : wp (m_none env ih) QO E = QO none ih := by with_unfolding_all rfl
theorem wp_some : wp (m_some ma env ih) QO E = wp (ma env ih) (k_some QO) E := by
  unfold m_some
  rw [wp_bind]
  congr 1
  funext v ih
  cases v <;> with_unfolding_all rfl
theorem kk_some : k_some QO (.int i) ih = QO (some i) ih := by with_unfolding_all rfl
theorem wp_sl : wp (m_sl ma ml mh env ih) Q E = wp (ma env ih) (k_sl ml mh env Q E) E := by
  unfold m_sl
  rw [wp_bind]
  simp only [wp_bind]
  with_unfolding_all rfl
theorem kk_sl : k_sl ml mh env Q E x ih = wp (ml env ih) (k_sl2 x mh env Q E) E := by with_unfolding_all rfl
theorem kk_sl2 {l : Option Int} : k_sl2 x mh env Q E l ih = wp (mh env ih) (k_sl3 x l Q E) E := by with_unfolding_all rfl
theorem kk_sl3 {l h : Option Int} : k_sl3 x l Q E h ih = wp (f_sl x l h ih) Q E := by with_unfolding_all rfl
theorem wp_mL {f : IV → List IV → IH → Res IV} : wp (m_mL f ma mr env ih) Q E = wp (ma env ih) (k_mL f mr env Q E) E := by
  unfold m_mL
  rw [wp_bind]
  congr 1
  funext v ih
  unfold k_mL
  by_cases h : isLst v ih = true
  · rw [if_pos h, wp_bind, eq_true h, true_and]
    with_unfolding_all rfl
  · rw [if_neg h, eq_false h, false_and]
    with_unfolding_all rfl
theorem kk_mL {f : IV → List IV → IH → Res IV} : k_mL f mr env Q E x ih = (isLst x ih = true ∧ wp (mr env ih) (k_mL2 f x Q E) E) := by with_unfolding_all rfl
theorem kk_mL2 {f : IV → List IV → IH → Res IV} : k_mL2 f x Q E xs ih = wp (f x xs ih) Q E := by with_unfolding_all rfl
theorem wp_mL0 {f : IV → List IV → IH → Res IV} : wp (m_mL0 f ma env ih) Q E = wp (ma env ih) (k_mL0 f Q E) E := by
  unfold m_mL0
  rw [wp_bind]
  congr 1
  funext v ih
  unfold k_mL0
  by_cases h : isLst v ih = true
  · rw [if_pos h, eq_true h, true_and]
  · rw [if_neg h, eq_false h, false_and]
    with_unfolding_all rfl
theorem kk_mL0 {f : IV → List IV → IH → Res IV} : k_mL0 f Q E x ih = (isLst x ih = true ∧ wp (f x [] ih) Q E) := by with_unfolding_all rfl
theorem wp_chain : wp (m_chain f g ma mb mc env ih) Q E = wp (ma env ih) (k_ch f g mb mc env Q E) E := by
  unfold m_chain
  rw [wp_bind]
  congr 1
  funext x ih
  rw [wp_bind]
  unfold k_ch
  congr 1
  funext y ih
  rw [wp_bind]
  unfold k_ch2
  congr 1
  funext z ih
  cases z with
  | bl k =>
    cases k with
    | true =>
      show wp (if true = true then (mc env ih).bind _ else _) Q E = _
      rw [if_pos rfl, wp_bind]
      with_unfolding_all rfl
    | false => with_unfolding_all rfl
  | _ => with_unfolding_all rfl
theorem kk_ch : k_ch f g mb mc env Q E x ih = wp (mb env ih) (k_ch2 f g x mc env Q E) E := by with_unfolding_all rfl
theorem kk_ch2 : k_ch2 f g x mc env Q E y ih = wp (f x y ih) (k_tb (k_ch3 g y mc env Q E)) E := by with_unfolding_all rfl
theorem kk_ch31 : k_ch3 g y mc env Q E true ih = wp (mc env ih) (k_un (g y) Q E) E := by with_unfolding_all rfl
theorem kk_ch30 : k_ch3 g y mc env Q E false ih = Q (.bl false) ih := by with_unfolding_all rfl
-- statements
theorem ws_set {g : IV → Env → IH → Option Env} : ws (ms_set g ma env ih) S F = wp (ma env ih) (ks_set g env S) (kE F env) := by
  unfold ms_set
  rw [ws_stm]
  congr 1
  funext v ih
  unfold ks_set
  cases g v env ih <;> with_unfolding_all rfl
theorem kks_nm : ks_set (g_nm n) env S v ih = S (.next (env.set n (some v))) ih := by with_unfolding_all rfl
def ks_g (S : SQ) (ih : IH) : Option Env → Prop
  | some env => S (.next env) ih
  | none => False
theorem kks_g {S : SQ} {env : Env} : ks_g S ih (some env) = S (.next env) ih := by with_unfolding_all rfl
theorem kks_tup {f : List IV → Env → IH → Option Env} : ks_set (g_tup n f) env S v ih = ks_g S ih (g_tup n f v env ih) := by
  unfold ks_set
  cases g_tup n f v env ih <;> with_unfolding_all rfl
theorem kks_lst {f : List IV → Env → IH → Option Env} : ks_set (g_lst n f) env S v ih = ks_g S ih (g_lst n f v env ih) := by
  unfold ks_set
  cases g_lst n f v env ih <;> with_unfolding_all rfl
theorem ws_expr : ws (ms_expr ma env ih) S F = wp (ma env ih) (ks_expr env S) (kE F env) := by
  unfold ms_expr
  rw [ws_stm]
  with_unfolding_all rfl
theorem kks_expr : ks_expr env S v ih = S (.next env) ih := by with_unfolding_all rfl
theorem ws_ret : ws (ms_ret ma env ih) S F = wp (ma env ih) (ks_ret S) (kE F env) := by
  unfold ms_ret
  rw [ws_stm]
  with_unfolding_all rfl
theorem kks_ret : ks_ret S v ih = S (.ret v) ih := by with_unfolding_all rfl
theorem ws_retN : ws (ms_retN env ih) S F = S (.ret .non) ih := by with_unfolding_all rfl
theorem ws_pass : ws (ms_pass env ih) S F = S (.next env) ih := by with_unfolding_all rfl
theorem ws_brk : ws (ms_brk env ih) S F = S (.brk env) ih := by with_unfolding_all rfl
theorem ws_cont : ws (ms_cont env ih) S F = S (.cont env) ih := by with_unfolding_all rfl
theorem ws_raise : ws (ms_raise c env ih) S F = F c env ih := by with_unfolding_all rfl
theorem ws_if : ws (ms_if mt sa sb env ih) S F = wp (mt env ih) (ks_if sa sb env S F) (kE F env) := by
  unfold ms_if
  rw [ws_stm]
  congr 1
  funext b ih
  cases b <;> with_unfolding_all rfl
theorem kks_if1 : ks_if sa sb env S F true ih = ws (sa env ih) S F := by with_unfolding_all rfl
theorem kks_if0 : ks_if sa sb env S F false ih = ws (sb env ih) S F := by with_unfolding_all rfl
theorem ws_seq : ws (ms_seq sa sb env ih) S F = ws (sa env ih) (ks_seq sb S F) F := by
  unfold ms_seq
  cases sa env ih with
  | ok f ih =>
    cases f <;> with_unfolding_all rfl
  | exc c env ih => with_unfolding_all rfl
  | stuck => with_unfolding_all rfl
theorem kks_next : ks_seq sb S F (.next env) ih = ws (sb env ih) S F := by with_unfolding_all rfl
theorem kks_retS : ks_seq sb S F (.ret v) ih = S (.ret v) ih := by with_unfolding_all rfl
theorem kks_brk : ks_seq sb S F (.brk env) ih = S (.brk env) ih := by with_unfolding_all rfl
theorem kks_cont : ks_seq sb S F (.cont env) ih = S (.cont env) ih := by with_unfolding_all rfl
def k_augE (i : Nat) (f : IV → IV → IH → Res IV) (m : Env → IH → Res IV) (env : Env) (ih : IH) (S : SQ) (F : ES) : Option (Option IV) → Prop
  | some (some x) => wp (m env ih) (ks_aug i f x env S F) (kE F env)
  | _ => False
theorem kk_augE : k_augE n f ma env ih S F (some (some x)) = wp (ma env ih) (ks_aug n f x env S F) (kE F env) := by with_unfolding_all rfl
theorem ws_aug : ws (ms_aug n f ma env ih) S F = k_augE n f ma env ih S F env[n]? := by
  unfold ms_aug
  cases e : env[n]? with
  | none => with_unfolding_all rfl
  | some a =>
    cases a with
    | none => with_unfolding_all rfl
    | some x =>
      show ws ((ma env ih).stm env _) S F = _
      rw [ws_stm]
      simp only [ws_stm]
      with_unfolding_all rfl
theorem kks_aug : ks_aug n f x env S F y ih = wp (f x y ih) (ks_aug2 n env S) (kE F env) := by with_unfolding_all rfl
theorem kks_aug2 : ks_aug2 n env S v ih = S (.next (env.set n (some v))) ih := by with_unfolding_all rfl
theorem ws_par : ws (ms_par n m mr env ih) S F = wp (mr env ih) (ks_par n m env S) (kE F env) := by
  unfold ms_par
  rw [ws_stm]
  congr 1
  funext vs ih
  rcases vs with _ | ⟨a, _ | ⟨z, _ | ⟨y, r⟩⟩⟩ <;> with_unfolding_all rfl
theorem kks_par : ks_par n m env S [v, w] ih = S (.next ((env.set n (some v)).set m (some w))) ih := by with_unfolding_all rfl
theorem ws_setL {m mo mi : Env → IH → Res IV} : ws (ms_setL m mo mi env ih) S F = wp (m env ih) (ks_sl mo mi env S F) (kE F env) := by
  unfold ms_setL
  rw [ws_stm]
  congr 1
  funext v ih
  rw [ws_stm]
  unfold ks_sl
  congr 1
  funext o ih
  rw [ws_stm]
  unfold ks_sl2
  congr 1
  funext i ih
  unfold ks_sl3 ks_sl4
  cases f_setL o i v ih <;> with_unfolding_all rfl
theorem kks_sl {mo mi : Env → IH → Res IV} : ks_sl mo mi env S F v ih = wp (mo env ih) (ks_sl2 v mi env S F) (kE F env) := by with_unfolding_all rfl
theorem kks_sl2 {mi : Env → IH → Res IV} : ks_sl2 v mi env S F w ih = wp (mi env ih) (ks_sl3 v w env S) (kE F env) := by with_unfolding_all rfl
theorem kks_sl3 : ks_sl3 v (.ref n) env S (.int i) ih = k_setL n i v env S ih ih[n]? := by
  unfold ks_sl3 ks_sl4 f_setL k_setL
  dsimp only
  cases ih[n]? with
  | none => with_unfolding_all rfl
  | some o =>
    cases o with
    | lst xs =>
      dsimp only
      cases ixN xs.length i <;> with_unfolding_all rfl
    | _ => with_unfolding_all rfl
theorem kk_setL : k_setL n i v env S ih (some (.lst xs)) = k_setL n i v env S ih (some (.lst xs)) := by with_unfolding_all rfl
theorem wp_def {sm : Env → IH → RS} : wp (defRun n sm xs ih) Q E = ws (sm (startI n xs) ih) (kd Q) (kdE E) := by
  unfold defRun
  cases sm (startI n xs) ih with
  | ok f ih =>
    cases f <;> with_unfolding_all rfl
  | exc c env ih => with_unfolding_all rfl
  | stuck => with_unfolding_all rfl
theorem kkd_ret : kd Q (.ret v) ih = Q v ih := by with_unfolding_all rfl
theorem kkd_next : kd Q (.next env) ih = Q .non ih := by with_unfolding_all rfl
theorem kkdE : kdE E c env ih = E c ih := by with_unfolding_all rfl
theorem kkE : kE F env c ih = F c env ih := by with_unfolding_all rfl
-- loops
theorem ws_for {mi : Env → IH → Res Src} {g : IV → Env → IH → Option Env} : ws (ms_for mi g sa env ih) S F = wp (mi env ih) (ks_for g sa env S F) (kE F env) := by
  unfold ms_for
  rw [ws_stm]
  with_unfolding_all rfl
theorem wp_lc {vs : List Nat} {mi : Env → IH → Res Src} {g : IV → Env → IH → Option Env} : wp (m_lc vs mi g mt ma env ih) Q E = wp (mi env ih) (k_lc vs g mt ma env Q E) E := by
  unfold m_lc
  rw [wp_bind]
  with_unfolding_all rfl
theorem wp_r1 : wp (mi_rng1 mr env ih) QS E = wp (mr env ih) (k_r1 QS) E := by
  unfold mi_rng1
  rw [wp_bind]
  congr 1
  funext vs ih
  rcases vs with _ | ⟨a, _ | ⟨z, r⟩⟩
  · with_unfolding_all rfl
  · cases a with
    | int j =>
      show wp (if smallI j = true then _ else _) QS E = (smallI j = true ∧ _)
      by_cases h : smallI j = true
      · rw [if_pos h, eq_true h, true_and]
        with_unfolding_all rfl
      · rw [if_neg h, eq_false h, false_and]
        with_unfolding_all rfl
    | _ => with_unfolding_all rfl
  · cases a <;> with_unfolding_all rfl
theorem kk_r1 : k_r1 QS [.int j] ih = (smallI j = true ∧ QS (.rng 0 1 j.toNat) ih) := by with_unfolding_all rfl
theorem wp_r2 : wp (mi_rng2 mr env ih) QS E = wp (mr env ih) (k_r2 QS) E := by
  unfold mi_rng2
  rw [wp_bind]
  congr 1
  funext vs ih
  rcases vs with _ | ⟨a, _ | ⟨z, _ | ⟨y, r⟩⟩⟩
  · with_unfolding_all rfl
  · cases a <;> with_unfolding_all rfl
  · cases a with
    | int i =>
      cases z with
      | int j =>
        show wp (if smallI i = true ∧ smallI j = true then _ else _) QS E = ((smallI i = true ∧ smallI j = true) ∧ _)
        by_cases h : smallI i = true ∧ smallI j = true
        · rw [if_pos h, eq_true h, true_and]
          with_unfolding_all rfl
        · rw [if_neg h, eq_false h, false_and]
          with_unfolding_all rfl
      | _ => with_unfolding_all rfl
    | _ => with_unfolding_all rfl
  · cases a <;> cases z <;> with_unfolding_all rfl
theorem kk_r2 : k_r2 QS [.int i, .int j] ih = ((smallI i = true ∧ smallI j = true) ∧ QS (.rng i 1 (j - i).toNat) ih) := by with_unfolding_all rfl
def k_r3 (Q : PQ Src) : PQ (List IV) := fun vs ih => match vs with
  | [.int i, .int j, .int k] => (k = -1 ∧ smallI i = true ∧ smallI j = true) ∧ Q (.rng i (-1) (i - j).toNat) ih
  | _ => False
theorem wp_r3 : wp (mi_rng3 mr env ih) QS E = wp (mr env ih) (k_r3 QS) E := by
  unfold mi_rng3
  rw [wp_bind]
  congr 1
  funext vs ih
  rcases vs with _ | ⟨a, _ | ⟨z, _ | ⟨y, _ | ⟨x, r⟩⟩⟩⟩
  · with_unfolding_all rfl
  · cases a <;> with_unfolding_all rfl
  · cases a <;> cases z <;> with_unfolding_all rfl
  · cases a with
    | int i =>
      cases z with
      | int j =>
        cases y with
        | int k =>
          show wp (if k = -1 ∧ smallI i = true ∧ smallI j = true then _ else _) QS E = ((k = -1 ∧ smallI i = true ∧ smallI j = true) ∧ _)
          by_cases h : k = -1 ∧ smallI i = true ∧ smallI j = true
          · rw [if_pos h, eq_true h, true_and]
            with_unfolding_all rfl
          · rw [if_neg h, eq_false h, false_and]
            with_unfolding_all rfl
        | _ => with_unfolding_all rfl
      | _ => with_unfolding_all rfl
    | _ => with_unfolding_all rfl
  · cases a <;> cases z <;> cases y <;> with_unfolding_all rfl
theorem kk_r3 {k : Int} : k_r3 QS [.int i, .int j, .int k] ih = ((k = -1 ∧ smallI i = true ∧ smallI j = true) ∧ ∀ n, n = (i - j).toNat → QS (.rng i (-1) n) ih) := by
  rw [forall_eq]
  with_unfolding_all rfl
theorem wp_il : wp (mi_lst ma env ih) QS E = wp (ma env ih) (k_il QS) E := by
  unfold mi_lst
  rw [wp_bind]
  congr 1
  funext v ih
  cases v with
  | ref n =>
    show wp (match lAt ih n true with
      | some _ => _
      | none => _) QS E = k_il2 n QS ih (lAt ih n true)
    cases lAt ih n true <;> with_unfolding_all rfl
  | _ => with_unfolding_all rfl
theorem wp_it : wp (mi_tup ma env ih) QS E = wp (ma env ih) (k_it QS) E := by
  unfold mi_tup
  rw [wp_bind]
  congr 1
  funext v ih
  cases v with
  | ref n =>
    show wp (match lAt ih n false with
      | some _ => _
      | none => _) QS E = k_it2 n QS ih (lAt ih n false)
    cases lAt ih n false <;> with_unfolding_all rfl
  | _ => with_unfolding_all rfl
theorem wp_ie : wp (mi_enm mr env ih) QS E = wp (mr env ih) (k_ie QS) E := by
  unfold mi_enm
  rw [wp_bind]
  congr 1
  funext v ih
  rcases v with _ | ⟨a, _ | ⟨z, r⟩⟩
  · with_unfolding_all rfl
  · cases a with
    | ref n =>
      show wp (match lAt ih n true with
        | some _ => _
        | none => _) QS E = k_ie2 n QS ih (lAt ih n true)
      cases lAt ih n true <;> with_unfolding_all rfl
    | _ => with_unfolding_all rfl
  · cases a <;> with_unfolding_all rfl
theorem wp_iz : wp (mi_zip mr env ih) QS E = wp (mr env ih) (k_iz QS) E := by
  unfold mi_zip
  rw [wp_bind]
  congr 1
  funext v ih
  rcases v with _ | ⟨a, _ | ⟨z, _ | ⟨y, r⟩⟩⟩
  · with_unfolding_all rfl
  · cases a <;> with_unfolding_all rfl
  · cases a with
    | ref n =>
      cases z with
      | ref k =>
        show wp (match lAt ih n true, lAt ih k true with
          | some _, some _ => _
          | _, _ => _) QS E = k_iz2 n k QS ih (lAt ih n true) (lAt ih k true)
        cases lAt ih n true <;> cases lAt ih k true <;> with_unfolding_all rfl
      | _ => with_unfolding_all rfl
    | _ => with_unfolding_all rfl
  · cases a <;> cases z <;> with_unfolding_all rfl
theorem kk_il : k_il QS (.ref n) ih = k_il2 n QS ih (lAt ih n true) := by with_unfolding_all rfl
theorem kk_il2 : k_il2 n QS ih (some xs) = QS (.lst n) ih := by with_unfolding_all rfl
theorem kk_it : k_it QS (.ref n) ih = k_it2 n QS ih (lAt ih n false) := by with_unfolding_all rfl
theorem kk_it2 : k_it2 n QS ih (some xs) = QS (.tup n) ih := by with_unfolding_all rfl
theorem kk_ie : k_ie QS [.ref n] ih = k_ie2 n QS ih (lAt ih n true) := by with_unfolding_all rfl
theorem kk_ie2 : k_ie2 n QS ih (some xs) = QS (.enm n) ih := by with_unfolding_all rfl
theorem kk_iz : k_iz QS [.ref n, .ref m] ih = k_iz2 n m QS ih (lAt ih n true) (lAt ih m true) := by with_unfolding_all rfl
theorem kk_iz2 {ys : List IV} : k_iz2 n m QS ih (some xs) (some ys) = QS (.zip n m) ih := by with_unfolding_all rfl
def k_lAt (l : Bool) : Option MO → Option (List IV)
  | some o => if o.isK l = true then some o.xs else none
  | none => none
theorem lAt_k {l : Bool} : lAt ih n l = k_lAt l ih[n]? := by
  unfold lAt k_lAt
  cases ih[n]? <;> with_unfolding_all rfl
theorem k_lAtL : k_lAt true (some (.lst xs)) = some xs := by with_unfolding_all rfl
theorem k_lAtO : k_lAt true (some (.ro xs)) = some xs := by with_unfolding_all rfl
theorem k_lAtT : k_lAt false (some (.tup xs)) = some xs := by with_unfolding_all rfl
-- operations
theorem wp_int : wp (f_int [.int i] ih) Q E = Q (.int i) ih := by with_unfolding_all rfl
theorem wp_add : wp (f_add (.int i) (.int j) ih) Q E = Q (.int (i + j)) ih := by with_unfolding_all rfl
theorem wp_addI : wp (f_addI (.int i) (.int j) ih) Q E = Q (.int (i + j)) ih := by with_unfolding_all rfl
theorem wp_sub : wp (f_sub (.int i) (.int j) ih) Q E = Q (.int (i - j)) ih := by with_unfolding_all rfl
theorem wp_neg : wp (f_neg (.int i) ih) Q E = Q (.int (-i)) ih := by with_unfolding_all rfl
theorem wp_lt : wp (f_lt (.int i) (.int j) ih) Q E = Q (.bl (decide (i < j))) ih := by with_unfolding_all rfl
theorem wp_le : wp (f_le (.int i) (.int j) ih) Q E = Q (.bl (decide (i ≤ j))) ih := by with_unfolding_all rfl
theorem wp_gt : wp (f_gt (.int i) (.int j) ih) Q E = Q (.bl (decide (j < i))) ih := by with_unfolding_all rfl
theorem wp_ge : wp (f_ge (.int i) (.int j) ih) Q E = Q (.bl (decide (j ≤ i))) ih := by with_unfolding_all rfl
theorem wp_max2 : wp (f_max2 [.int i, .int j] ih) Q E = Q (.int (if j > i then j else i)) ih := by with_unfolding_all rfl
theorem wp_min2 : wp (f_min2 [.int i, .int j] ih) Q E = Q (.int (if j < i then j else i)) ih := by with_unfolding_all rfl
theorem wp_abs : wp (f_abs [.int i] ih) Q E = Q (.int (if i < 0 then -i else i)) ih := by with_unfolding_all rfl
theorem wp_I {C : Int → Int → Bool} {g : Int → Int → IV} : wp (f_I C g (.int i) (.int j) ih) Q E = (C i j = true ∧ Q (g i j) ih) := by
  unfold f_I
  dsimp only
  by_cases h : C i j = true
  · rw [if_pos h, eq_true h, true_and]
    with_unfolding_all rfl
  · rw [if_neg h, eq_false h, false_and]
    with_unfolding_all rfl
theorem wp_mulI : wp (f_mul (.int i) (.int j) ih) Q E = (cMul i j = true ∧ Q (.int (i * j)) ih) := wp_I
theorem wp_mul : wp (f_mulA (.int i) (.int j) ih) Q E = (cMul i j = true ∧ Q (.int (i * j)) ih) := by
  show wp (if cMul i j = true then _ else _) Q E = _
  by_cases h : cMul i j = true
  · rw [if_pos h, eq_true h, true_and]
    with_unfolding_all rfl
  · rw [if_neg h, eq_false h, false_and]
    with_unfolding_all rfl
theorem wp_fdiv : wp (f_fdiv (.int i) (.int j) ih) Q E = (cDiv i j = true ∧ Q (.int (i / j)) ih) := wp_I
theorem wp_mod : wp (f_mod (.int i) (.int j) ih) Q E = (0 < j ∧ Q (.int (i % j)) ih) := by
  refine wp_I.trans ?_
  unfold cMod
  rw [decide_eq_true_eq]
theorem wp_shl : wp (f_shl (.int i) (.int j) ih) Q E = (cShl i j = true ∧ Q (.int (i * 2 ^ j.toNat)) ih) := wp_I
theorem wp_shr : wp (f_shr (.int i) (.int j) ih) Q E = (0 ≤ j ∧ Q (.int (i / 2 ^ j.toNat)) ih) := by
  refine wp_I.trans ?_
  unfold cShr
  rw [decide_eq_true_eq]
theorem wp_pow : wp (f_pow (.int i) (.int j) ih) Q E = (cPow i j = true ∧ Q (.int (i ^ j.toNat)) ih) := wp_I
theorem wp_isN : wp (f_isN x .non ih) Q E = Q (.bl (decide (x = .non))) ih := by with_unfolding_all rfl
theorem wp_notN : wp (f_notN x .non ih) Q E = Q (.bl (!decide (x = .non))) ih := by with_unfolding_all rfl
theorem wp_eqI : wp (f_eq (.int i) (.int j) ih) Q E = Q (.bl (decide (i = j))) ih := by
  rw [a_eq_int]
  with_unfolding_all rfl
theorem wp_neI : wp (f_ne (.int i) (.int j) ih) Q E = Q (.bl (!decide (i = j))) ih := by
  rw [a_ne_int]
  with_unfolding_all rfl
theorem wp_ix : wp (f_ix (.ref n) (.int i) ih) Q E = k_ix i Q ih ih[n]? := by
  unfold f_ix
  dsimp only
  cases ih[n]? with
  | none => with_unfolding_all rfl
  | some o =>
    show wp (match atI o.xs i with
      | some v => _
      | none => _) Q E = k_ix2 Q ih (atI o.xs i)
    cases atI o.xs i <;> with_unfolding_all rfl
theorem kk_ix : k_ix i Q ih (some o) = k_ix2 Q ih (atI o.xs i) := by with_unfolding_all rfl
theorem kk_ix2 : k_ix2 Q ih (some v) = Q v ih := by with_unfolding_all rfl
theorem wp_len : wp (f_len [.ref n] ih) Q E = k_len Q ih ih[n]? := by
  unfold f_len
  dsimp only
  cases ih[n]? with
  | none => with_unfolding_all rfl
  | some o => cases o <;> with_unfolding_all rfl
theorem kk_lenL : k_len Q ih (some (.lst xs)) = Q (.int xs.length) ih := by with_unfolding_all rfl
theorem kk_lenT : k_len Q ih (some (.tup xs)) = Q (.int xs.length) ih := by with_unfolding_all rfl
theorem kk_lenO : k_len Q ih (some (.ro xs)) = Q (.int xs.length) ih := by with_unfolding_all rfl
theorem kk_lenP : k_len Q ih (some (.rot xs)) = Q (.int xs.length) ih := by with_unfolding_all rfl
theorem wp_appd : wp (f_append (.ref n) [y] ih) Q E = k_app1 n y Q ih ih[n]? := by
  unfold f_append
  dsimp only
  cases ih[n]? with
  | none => with_unfolding_all rfl
  | some o =>
    cases o with
    | lst xs =>
      show wp (if xs.length < 100000 then _ else _) Q E = (xs.length < 100000 ∧ _)
      by_cases h : xs.length < 100000
      · rw [if_pos h, eq_true h, true_and]
        with_unfolding_all rfl
      · rw [if_neg h, eq_false h, false_and]
        with_unfolding_all rfl
    | _ => with_unfolding_all rfl
theorem kk_app1 : k_app1 n y Q ih (some (.lst xs)) = (xs.length < 100000 ∧ Q .non (ih.set n (.lst (xs ++ [y])))) := by with_unfolding_all rfl
def k_isL : Option MO → Bool
  | some o => o.isL
  | none => false
theorem isL_k : isLst (.ref n) ih = k_isL ih[n]? := by
  show (match ih[n]? with
    | some o => o.isL
    | none => false) = k_isL ih[n]?
  cases ih[n]? <;> with_unfolding_all rfl
theorem kk_isL : k_isL (some o) = o.isL := by with_unfolding_all rfl
-- by hand: new objects
theorem wp_lst (hl : xs.length ≤ 100000) (k : Q (.ref ih.length) (ih ++ [.lst xs])) : wp (f_lst xs ih) Q E := by
  rw [a_lst hl, wp_ok]
  exact k
theorem wp_tup (hl : xs.length ≤ 100000) (k : Q (.ref ih.length) (ih ++ [.tup xs])) : wp (f_tup xs ih) Q E := by
  rw [a_tup hl, wp_ok]
  exact k
theorem wp_list (h : ih[n]? = some o) (k : Q (.ref ih.length) (ih ++ [.lst o.xs])) (hd : o.isS = true := by rfl) : wp (f_list [.ref n] ih) Q E := by
  rw [a_list h hd, wp_ok]
  exact k
/-- a choice out of a list -/
theorem wp_pick (h : ih[n]? = some o) (h0 : 0 ≤ i) (h1 : i < (o.xs.length : Int)) (k : ∀ v ∈ o.xs, Q v ih) : wp (f_ix (.ref n) (.int i) ih) Q E := by
  obtain ⟨m, rfl⟩ := Int.eq_ofNat_of_zero_le h0
  have hm : m < o.xs.length := by omega
  rw [a_ix h (v := o.xs[m]) (by rw [atI_nn]; exact List.getElem?_eq_getElem hm), wp_ok]
  exact k _ (List.getElem_mem hm)
theorem wp_eq {d e : PyData} (h1 : Is ih x d) (h2 : Is ih y e) (s1 : SeqAt.shaped d = true) (s2 : SeqAt.shaped e = true) (k : Q (.bl (PyData.eqv d e)) ih) : wp (f_eq x y ih) Q E := by
  rw [f_eq_of h1 h2 s1 s2, wp_ok]
  exact k
theorem wp_ne {d e : PyData} (h1 : Is ih x d) (h2 : Is ih y e) (s1 : SeqAt.shaped d = true) (s2 : SeqAt.shaped e = true) (k : Q (.bl (!PyData.eqv d e)) ih) : wp (f_ne x y ih) Q E := by
  rw [f_ne_of h1 h2 s1 s2, wp_ok]
  exact k
theorem wp_isi {T t : String} (h : tyN x ih = some t) (k : kitB t T = some b) (q : Q (.bl b) ih) : wp (f_isi [x, .ty T] ih) Q E := by
  unfold f_isi
  dsimp only
  rw [h]
  dsimp only
  rw [k]
  dsimp only
  rw [wp_ok]
  exact q
-- both ways
theorem dec_if [Decidable p] {ma mb : Env → IH → Res α} {Q : PQ α} (h1 : p → k_if ma mb env Q E true ih) (h0 : ¬ p → k_if ma mb env Q E false ih) : k_if ma mb env Q E (decide p) ih := by
  by_cases h : p
  · rw [decide_eq_true h]; exact h1 h
  · rw [decide_eq_false h]; exact h0 h
theorem dec_ifs [Decidable p] (h1 : p → ks_if sa sb env S F true ih) (h0 : ¬ p → ks_if sa sb env S F false ih) : ks_if sa sb env S F (decide p) ih := by
  by_cases h : p
  · rw [decide_eq_true h]; exact h1 h
  · rw [decide_eq_false h]; exact h0 h
end
end L3
/-! L8: loops and lists, run backwards. -/
namespace L3
open PySem PySem.Spec PyProof.Rows L2
/-- a fact that the walk does not see -/
structure Hide (p : Prop) : Prop where
  get : p
/-- all but p, and what is new, is as before -/
abbrev Fr (p : Nat) (ih ih' : IH) : Prop := ∀ n, n < ih.length → n ≠ p → ih'[n]? = ih[n]?
abbrev Fx (ih ih' : IH) : Prop := ∀ n, n < ih.length → ih'[n]? = ih[n]?
theorem g_new {ih : IH} {o : MO} : (ih ++ [o])[ih.length]? = some o := get_new _ _
theorem g_nw {ih : IH} {o : MO} {n : Nat} (h : n = ih.length) : (ih ++ [o])[n]? = some o := h ▸ get_new _ _
theorem g_old {ih : IH} {o : MO} {n : Nat} (h : n < ih.length) : (ih ++ [o])[n]? = ih[n]? := List.getElem?_append_left h
theorem g_set {ih : IH} {o : MO} {n : Nat} (h : n < ih.length) : (ih.set n o)[n]? = some o := List.getElem?_set_self h
theorem g_sne {ih : IH} {o : MO} {n m : Nat} (h : m ≠ n) : (ih.set m o)[n]? = ih[n]? := List.getElem?_set_ne h
theorem Fr.refl {p : Nat} {ih : IH} : Fr p ih ih := fun _ _ _ => rfl
theorem Fx.refl {ih : IH} : Fx ih ih := fun _ _ => rfl
theorem Fx.fr {p : Nat} {a b : IH} (h : Fx a b) : Fr p a b := fun n l _ => h n l
theorem Fr.trans {p : Nat} {a b c : IH} (h : Fr p a b) (k : Fr p b c) (l : a.length ≤ b.length) : Fr p a c := fun n h1 h2 => by rw [k n (by omega) h2, h n h1 h2]
theorem Fx.trans {a b c : IH} (h : Fx a b) (k : Fx b c) (l : a.length ≤ b.length) : Fx a c := fun n h1 => by rw [k n (by omega), h n h1]
theorem Fx.app {a : IH} {o : MO} : Fx a (a ++ [o]) := fun n h => g_old h
theorem Fx.ext {a b : IH} (h : Fx a b) : Ext a b := fun n o e => by rw [h n (lt_of_get e)]; exact e
theorem Ext.fx {a b : IH} (h : Ext a b) : Fx a b := fun n l => by
  rw [List.getElem?_eq_getElem l]
  exact h n _ (List.getElem?_eq_getElem l)
theorem Fx.set {a b : IH} {n : Nat} {o : MO} (h : Fx a b) (l : a.length ≤ n) : Fx a (b.set n o) := fun m hm => by
  rw [g_sne (by omega)]
  exact h m hm
theorem Fr.set {p : Nat} {a b : IH} {n : Nat} {o : MO} (h : Fr p a b) (l : a.length ≤ n) : Fr p a (b.set n o) := fun m hm hp => by
  rw [g_sne (by omega)]
  exact h m hm hp
theorem Fr.setp {p : Nat} {a b : IH} {o : MO} (h : Fr p a b) : Fr p a (b.set p o) := fun m hm hp => by
  rw [g_sne (by omega)]
  exact h m hm hp
/-- a loop's body -/
def kf (P : Env → IH → Prop) (S : SQ) : SQ := fun f ih => match f with
  | .next e => P e ih
  | .cont e => P e ih
  | .brk e => S (.next e) ih
  | .ret v => S (.ret v) ih
section
variable {P : Env → IH → Prop} {S : SQ} {F : ES} {env : Env} {ih : IH} {v : IV}
/-- what holds behind a turn -/
def Inv (P : Env → IH → Prop) (env : Env) (ih : IH) : Prop := P env ih
theorem Inv.mk (h : P env ih) : Inv P env ih := h
theorem kf_next : kf P S (.next env) ih = Inv P env ih := rfl
theorem kf_cont : kf P S (.cont env) ih = Inv P env ih := rfl
theorem kf_brk : kf P S (.brk env) ih = S (.next env) ih := rfl
theorem kf_ret : kf P S (.ret v) ih = S (.ret v) ih := rfl
theorem ws_loop {r : RS} {k : Env → IH → RS} (h : ws r (kf P S) F) (hk : ∀ env ih, P env ih → ws (k env ih) S F) : ws (r.loop k) S F := by
  cases r with
  | ok f ih =>
    cases f with
    | next e => with_unfolding_all exact hk _ _ h
    | cont e => with_unfolding_all exact hk _ _ h
    | brk e => with_unfolding_all exact h
    | ret v => with_unfolding_all exact h
  | exc c e ih => with_unfolding_all exact h
  | stuck => with_unfolding_all exact h
theorem go_ind {s : Src} {g : IV → Env → IH → Option Env} {mb : Env → IH → RS} (k : Nat) (P : Nat → Env → IH → Prop)
    (turn : ∀ i env ih, i < k → P i env ih → ∃ v ih1 env1, s.turn i ih = .item v ih1 ∧ g v env ih1 = some env1 ∧ ws (mb env1 ih1) (kf (P (i + 1)) S) F)
    (stop : ∀ env ih, P k env ih → s.turn k ih = .stop ∧ S (.next env) ih) : ∀ (f i : Nat) (env : Env) (ih : IH), i ≤ k → k - i < f → P i env ih → ws (forGo s g mb f i env ih) S F := by
  intro f
  induction f with
  | zero => intro i env ih h1 h2; omega
  | succ f hf =>
    intro i env ih h1 h2 hP
    unfold forGo
    by_cases hi : i = k
    · subst hi
      obtain ⟨e1, e2⟩ := stop env ih hP
      rw [e1]
      with_unfolding_all exact e2
    · obtain ⟨v, ih1, env1, e1, e2, e3⟩ := turn i env ih (by omega) hP
      rw [e1]
      dsimp only
      rw [e2]
      exact ws_loop e3 fun env2 ih2 h => hf (i + 1) env2 ih2 (by omega) (by omega) h
/-- for x in range -/
theorem for_rng {mb : Env → IH → RS} {x : Nat} {lo d : Int} {k : Nat} (P : Nat → Env → IH → Prop) (h0 : P 0 env ih)
    (step : ∀ i env ih, i < k → P i env ih → ws (mb (env.set x (some (.int (lo + (i : Int) * d)))) ih) (kf (P (i + 1)) S) F) (fin : ∀ env ih, P k env ih → S (.next env) ih) : ks_for (g_nm x) mb env S F (.rng lo d k) ih :=
  go_ind k P (fun i env ih hi h => ⟨_, _, _, turn_rng hi, rfl, step i env ih hi h⟩) (fun env ih h => ⟨stop_rng, fin env ih h⟩) _ 0 env ih (Nat.zero_le _) (by show k - 0 < k + 1; omega) h0
theorem for_rng0 {mb : Env → IH → RS} {x : Nat} {k : Nat} (P : Nat → Env → IH → Prop) (h0 : P 0 env ih)
    (step : ∀ i env ih, i < k → P i env ih → ws (mb (env.set x (some (.int (i : Int)))) ih) (kf (P (i + 1)) S) F) (fin : ∀ env ih, P k env ih → S (.next env) ih) : ks_for (g_nm x) mb env S F (.rng 0 1 k) ih :=
  for_rng P h0 (fun i env ih hi h => by rw [show (0 : Int) + (i : Int) * 1 = (i : Int) by omega]; exact step i env ih hi h) fin
theorem for_rng1' {mb : Env → IH → RS} {x : Nat} {lo : Int} {k : Nat} (P : Nat → Env → IH → Prop) (h0 : P 0 env ih)
    (step : ∀ i env ih, i < k → P i env ih → ws (mb (env.set x (some (.int (lo + (i : Int))))) ih) (kf (P (i + 1)) S) F) (fin : ∀ env ih, P k env ih → S (.next env) ih) : ks_for (g_nm x) mb env S F (.rng lo 1 k) ih :=
  for_rng P h0 (fun i env ih hi h => by rw [show lo + (i : Int) * 1 = lo + (i : Int) by omega]; exact step i env ih hi h) fin
/-- for x in a list that stays -/
theorem for_lstG {g : IV → Env → IH → Option Env} {mb : Env → IH → RS} {n : Nat} {o : MO} (P : Nat → Env → IH → Prop) (hg : ih[n]? = some o) (hl : o.isL = true) (h0 : P 0 env ih) (ho : ∀ i env ih, P i env ih → ih[n]? = some o)
    (step : ∀ i v env ih, o.xs[i]? = some v → P i env ih → ∃ env1, g v env ih = some env1 ∧ ws (mb env1 ih) (kf (P (i + 1)) S) F) (fin : ∀ env ih, P o.xs.length env ih → S (.next env) ih) : ks_for g mb env S F (.lst n) ih :=
  go_ind o.xs.length P (fun i env ih hi h => by
    obtain ⟨env1, e1, e2⟩ := step i _ env ih (List.getElem?_eq_getElem hi) h
    exact ⟨_, _, env1, turn_lst (ho _ _ _ h) hl (List.getElem?_eq_getElem hi), e1, e2⟩) (fun env ih h => ⟨stop_lst (ho _ _ _ h) hl, fin env ih h⟩) _ 0 env ih (Nat.zero_le _) (by
    show _ < (Src.lst n).size ih + 1
    unfold Src.size
    dsimp only
    rw [hg]
    dsimp only
    omega) h0
theorem for_lst1 {mb : Env → IH → RS} {x n : Nat} {o : MO} (P : Nat → Env → IH → Prop) (hg : ih[n]? = some o) (hl : o.isL = true) (h0 : P 0 env ih) (ho : ∀ i env ih, P i env ih → ih[n]? = some o)
    (step : ∀ i v env ih, o.xs[i]? = some v → P i env ih → ws (mb (env.set x (some v)) ih) (kf (P (i + 1)) S) F) (fin : ∀ env ih, P o.xs.length env ih → S (.next env) ih) : ks_for (g_nm x) mb env S F (.lst n) ih :=
  for_lstG P hg hl h0 ho (fun i v env ih e h => ⟨_, rfl, step i v env ih e h⟩) fin
theorem for_enum {g : IV → Env → IH → Option Env} {mb : Env → IH → RS} {n : Nat} {o : MO} (P : Nat → Env → IH → Prop) (hg : ih[n]? = some o) (hl : o.isL = true) (h0 : P 0 env ih) (ho : ∀ i env ih, P i env ih → ih[n]? = some o)
    (step : ∀ i v env ih, o.xs[i]? = some v → P i env ih → ∃ env1, g (.ref ih.length) env (ih ++ [.tup [.int (i : Int), v]]) = some env1 ∧ ws (mb env1 (ih ++ [.tup [.int (i : Int), v]])) (kf (P (i + 1)) S) F) (fin : ∀ env ih, P o.xs.length env ih → S (.next env) ih) : ks_for g mb env S F (.enm n) ih :=
  go_ind o.xs.length P (fun i env ih hi h => by
    obtain ⟨env1, e1, e2⟩ := step i _ env ih (List.getElem?_eq_getElem hi) h
    exact ⟨_, _, env1, turn_enm (ho _ _ _ h) hl (List.getElem?_eq_getElem hi), e1, e2⟩) (fun env ih h => ⟨stop_enm (ho _ _ _ h) hl, fin env ih h⟩) _ 0 env ih (Nat.zero_le _) (by
    show _ < (Src.enm n).size ih + 1
    unfold Src.size
    dsimp only
    rw [hg]
    dsimp only
    omega) h0
theorem for_zip2 {g : IV → Env → IH → Option Env} {mb : Env → IH → RS} {n m : Nat} {o u : MO} (P : Nat → Env → IH → Prop) (hg : ih[n]? = some o) (hl : o.isL = true) (hl2 : u.isL = true) (h0 : P 0 env ih) (ho : ∀ i env ih, P i env ih → ih[n]? = some o ∧ ih[m]? = some u)
    (step : ∀ i v w env ih, o.xs[i]? = some v → u.xs[i]? = some w → P i env ih → ∃ env1, g (.ref ih.length) env (ih ++ [.tup [v, w]]) = some env1 ∧ ws (mb env1 (ih ++ [.tup [v, w]])) (kf (P (i + 1)) S) F) (fin : ∀ env ih, P (min o.xs.length u.xs.length) env ih → S (.next env) ih) : ks_for g mb env S F (.zip n m) ih :=
  go_ind (min o.xs.length u.xs.length) P (fun i env ih hi h => by
    obtain ⟨env1, e1, e2⟩ := step i _ _ env ih (List.getElem?_eq_getElem (by omega)) (List.getElem?_eq_getElem (by omega)) h
    exact ⟨_, _, env1, turn_zip (ho _ _ _ h).1 hl (List.getElem?_eq_getElem (by omega)) (ho _ _ _ h).2 hl2 (List.getElem?_eq_getElem (by omega)), e1, e2⟩) (fun env ih h => ⟨stop_zip (ho _ _ _ h).1 hl (ho _ _ _ h).2 hl2 (by omega), fin env ih h⟩) _ 0 env ih (Nat.zero_le _) (by
    show _ < (Src.zip n m).size ih + 1
    unfold Src.size
    dsimp only
    rw [hg]
    dsimp only
    omega) h0
/-- while, with what gets less -/
theorem while_ind {n : Env → IH → Res Bool} {mb : Env → IH → RS} (P : Env → IH → Prop) (μ : Env → IH → Nat → Prop)
    (step : ∀ k env ih, P env ih → μ env ih k → wp (n env ih) (fun b ih1 => if b = true then ws (mb env ih1) (kf (fun e i => P e i ∧ ∃ j, j < k ∧ μ e i j) S) F else S (.next env) ih1) (kE F env)) :
    ∀ (f k : Nat) (env : Env) (ih : IH), P env ih → μ env ih k → k < f → ws (whileGo n mb f env ih) S F := by
  intro f
  induction f with
  | zero => intro k env ih _ _ h; omega
  | succ f hf =>
    intro k env ih hP hm hk
    unfold whileGo
    rw [ws_stm]
    refine wp.imp (step k env ih hP hm) (fun b ih1 h => ?_) fun _ _ h => h
    cases b with
    | true =>
      rw [if_pos rfl] at h ⊢
      exact ws_loop h fun env2 ih2 ⟨h1, j, h2, h3⟩ => hf j env2 ih2 h1 h3 (by omega)
    | false => with_unfolding_all exact h
end
section
variable {Q : PQ IV} {E : EQ} {env : Env} {ih : IH}
theorem k_lAt_of {ih : IH} {n : Nat} {o : MO} (h : ih[n]? = some o) (hl : o.isL = true) : lAt ih n true = some o.xs := lAt_of h hl
/-- [me for x in xs if n] -/
theorem lc_flt {vs : List Nat} {i n : Nat} {mt : Env → IH → Res Bool} {me : Env → IH → Res IV} {o : MO} (F : IV → IV) (T : IV → Bool) (ho : ih[n]? = some o) (hl : o.isL = true) (hz : o.xs.length < 100000)
    (ht : ∀ x ∈ o.xs, ∀ ih', Fx ih ih' → wp (mt ((wipeI env vs).set i (some x)) ih') (fun b ih'' => b = T x ∧ ih'' = ih') E0)
    (he : ∀ x ∈ o.xs, T x = true → ∀ ih', Fx ih ih' → wp (me ((wipeI env vs).set i (some x)) ih') (fun v ih'' => v = F x ∧ ih'' = ih') E0)
    (q : Q (.ref ih.length) (ih ++ [.lst ((o.xs.filter T).map F)])) : k_lc vs (g_nm i) mt me env Q E (.lst n) ih := by
  have h := lc_lst (vs := vs) (m := m_c (.ref n)) (i := i) (n := mt) (me := me) (env := env) (ih := ih) F T rfl ho hl hz (fun x hx ih' e => (ht x hx ih' e.fx).eq) fun x hx t ih' e => (he x hx t ih' e.fx).eq
  have k := wp.of (E := E) h q
  rw [wp_lc, wp_il, wp_c, kk_il, lAt_of ho hl, kk_il2] at k
  exact k
/-- [me for x in xs] -/
theorem lc_all {vs : List Nat} {i n : Nat} {me : Env → IH → Res IV} {o : MO} (F : IV → IV) (ho : ih[n]? = some o) (hl : o.isL = true) (hz : o.xs.length < 100000)
    (he : ∀ x ∈ o.xs, ∀ ih', Fx ih ih' → wp (me ((wipeI env vs).set i (some x)) ih') (fun v ih'' => v = F x ∧ ih'' = ih') E0)
    (q : Q (.ref ih.length) (ih ++ [.lst (o.xs.map F)])) : k_lc vs (g_nm i) n_yes me env Q E (.lst n) ih := by
  have h := lc_map (vs := vs) (m := m_c (.ref n)) (i := i) (me := me) (env := env) (ih := ih) F rfl ho hl hz fun x hx ih' e => (he x hx ih' e.fx).eq
  have k := wp.of (E := E) h q
  rw [wp_lc, wp_il, wp_c, kk_il, lAt_of ho hl, kk_il2] at k
  exact k
/-- over a list of ints -/
theorem lc_int {vs : List Nat} {i n : Nat} {me : Env → IH → Res IV} {o : MO} {ns : List Int} (F : Int → IV) (ho : ih[n]? = some o) (hl : o.isL = true) (hx : o.xs = ns.map IV.int) (hz : ns.length < 100000)
    (he : ∀ x ∈ ns, ∀ ih', Fx ih ih' → wp (me ((wipeI env vs).set i (some (.int x))) ih') (fun v ih'' => v = F x ∧ ih'' = ih') E0)
    (q : Q (.ref ih.length) (ih ++ [.lst (ns.map F)])) : k_lc vs (g_nm i) n_yes me env Q E (.lst n) ih := by
  have e : (ns.map IV.int).map (fun | .int k => F k | _ => .non) = ns.map F := by rw [List.map_map]; rfl
  refine lc_all (fun | .int k => F k | _ => .non) ho hl (by rw [hx, List.length_map]; exact hz) (fun x hx' ih' f => ?_) (by rw [hx, e]; exact q)
  rw [hx] at hx'
  obtain ⟨k, hk, rfl⟩ := List.mem_map.mp hx'
  exact he k hk ih' f
/-- [me for i in range(j)] -/
theorem lc_rngW {vs : List Nat} {i : Nat} {me : Env → IH → Res IV} {j : Nat} (F : Nat → IV) (hz : j < 100000)
    (he : ∀ k, k < j → ∀ ih', Fx ih ih' → wp (me ((wipeI env vs).set i (some (.int (k : Int)))) ih') (fun v ih'' => v = F k ∧ ih'' = ih') E0)
    (q : Q (.ref ih.length) (ih ++ [.lst ((List.range j).map F)])) : k_lc vs (g_nm i) n_yes me env Q E (.rng 0 1 j) ih := by
  have sj : smallI (j : Int) = true := smallI_mk (by omega) (by omega)
  have h := lc_rng (vs := vs) (m := fun _ ih => .ok [.int (j : Int)] ih) (i := i) (me := me) (env := env) (ih := ih) (j := (j : Int)) F rfl sj (by omega) fun x hx ih' e => (he x (by omega) ih' e.fx).eq
  rw [Int.toNat_natCast] at h
  have k : wp (m_lc vs (mi_rng1 fun _ ih => .ok [.int (j : Int)] ih) (g_nm i) n_yes me env ih) Q E := by
    rw [h, wp_ok]
    exact q
  rw [wp_lc, wp_r1] at k
  replace k : wp (Res.ok [IV.int (j : Int)] ih) _ E := k
  rw [wp_ok] at k
  have k2 := k.2
  rw [Int.toNat_natCast] at k2
  exact k2
theorem lc_zipW {vs : List Nat} {i j n m : Nat} {me : Env → IH → Res IV} {o u : MO} (F : IV → IV → IV) (ho : ih[n]? = some o) (hl : o.isL = true) (hu : ih[m]? = some u) (hl2 : u.isL = true) (hz : o.xs.length < 100000)
    (he : ∀ (k : Nat) (x y : IV), o.xs[k]? = some x → u.xs[k]? = some y → ∀ ih', Fx ih ih' → wp (me (((wipeI env vs).set i (some x)).set j (some y)) ih') (fun v ih'' => v = F x y ∧ ih'' = ih') E0)
    (q : ∀ ih', Fx ih ih' → ih.length < ih'.length → ih'[ih.length]? = some (.lst (List.zipWith F o.xs u.xs)) → Q (.ref ih.length) ih') : k_lc vs (g_tup 2 (g_cons (g_nm i) (g_cons (g_nm j) g_nil))) n_yes me env Q E (.zip n m) ih := by
  obtain ⟨ih', h, x, g⟩ := lc_zip (vs := vs) (m := fun _ ih => .ok [.ref n, .ref m] ih) (i := i) (j := j) (me := me) (env := env) (ih := ih) F rfl ho hl hu hl2 hz fun k x y h1 h2 ih' e => (he k x y h1 h2 ih' e.fx).eq
  have k := wp.of (E := E) h (q ih' x.fx (lt_of_get g) g)
  rw [wp_lc, wp_iz] at k
  replace k : wp (Res.ok [IV.ref n, IV.ref m] ih) _ E := k
  rw [wp_ok] at k
  have k2 : k_iz (k_lc vs (g_tup 2 (g_cons (g_nm i) (g_cons (g_nm j) g_nil))) n_yes me env Q E) [.ref n, .ref m] ih := k
  rw [kk_iz, lAt_of ho hl, lAt_of hu hl2, kk_iz2] at k2
  exact k2
theorem wp_sumW {n : Nat} {o : MO} {ns : List Int} (h : ih[n]? = some o) (hl : o.isL = true) (hx : o.xs = ns.map IV.int) (q : Q (.int ns.sum) ih) : wp (f_sum [.ref n] ih) Q E := wp.of (a_sum h hl hx) q
theorem wp_allW {n : Nat} {o : MO} {ns : List Bool} (h : ih[n]? = some o) (hl : o.isL = true) (hx : o.xs = ns.map IV.bl) (q : Q (.bl (ns.all id)) ih) : wp (f_all [.ref n] ih) Q E := wp.of (a_all h hl hx) q
theorem wp_anyW {n : Nat} {o : MO} {ns : List Bool} (h : ih[n]? = some o) (hl : o.isL = true) (hx : o.xs = ns.map IV.bl) (q : Q (.bl (ns.any id)) ih) : wp (f_any [.ref n] ih) Q E := wp.of (a_any h hl hx) q
theorem wp_slL {n : Nat} {xs : List IV} {lo hi : Option Int} (h : ih[n]? = some (.lst xs)) (q : Q (.ref ih.length) (ih ++ [.lst (cutI xs lo hi)])) : wp (f_sl (.ref n) lo hi ih) Q E := wp.of (a_slL h) q
end
/-- a choice -/
theorem k_pick {Q : PQ IV} {ih : IH} {xs : List IV} {i : Int} (h0 : 0 ≤ i) (h1 : i < (xs.length : Int)) (k : ∀ v ∈ xs, Q v ih) : k_ix2 Q ih (atI xs i) := by
  obtain ⟨m, rfl⟩ := Int.eq_ofNat_of_zero_le h0
  have hm : m < xs.length := by omega
  rw [atI_nn, List.getElem?_eq_getElem hm]
  exact k _ (List.getElem_mem hm)
def allI (P : Int → Prop) : List IV → Prop
  | [] => True
  | .int z :: r => P z ∧ allI P r
  | _ :: _ => False
theorem allI_mem {P : Int → Prop} : ∀ {xs : List IV}, allI P xs → ∀ v ∈ xs, ∃ z, v = .int z ∧ P z
  | [], _, v, h => nomatch h
  | .int z :: r, h, v, hv => by
    rcases List.mem_cons.mp hv with e | e
    · exact ⟨z, e, h.1⟩
    · exact allI_mem h.2 v e
theorem k_pickI (P : Int → Prop) {Q : PQ IV} {ih : IH} {xs : List IV} {i : Int} (h0 : 0 ≤ i) (h1 : i < (xs.length : Int)) (ha : allI P xs) (k : ∀ z, P z → Q (.int z) ih) : k_ix2 Q ih (atI xs i) := k_pick h0 h1 fun v hv => by
  obtain ⟨z, rfl, hz⟩ := allI_mem ha v hv
  exact k z hz
theorem wp_allL {Q : PQ IV} {E : EQ} {ih : IH} {n : Nat} (ns : List Bool) (h : ih[n]? = some (.lst (ns.map IV.bl))) (q : Q (.bl (ns.all id)) ih) : wp (f_all [.ref n] ih) Q E := wp.of (a_all h rfl rfl) q
theorem wp_anyL {Q : PQ IV} {E : EQ} {ih : IH} {n : Nat} (ns : List Bool) (h : ih[n]? = some (.lst (ns.map IV.bl))) (q : Q (.bl (ns.any id)) ih) : wp (f_any [.ref n] ih) Q E := wp.of (a_any h rfl rfl) q
theorem wp_sumL {Q : PQ IV} {E : EQ} {ih : IH} {n : Nat} (ns : List Int) (h : ih[n]? = some (.lst (ns.map IV.int))) (q : Q (.int ns.sum) ih) : wp (f_sum [.ref n] ih) Q E := wp.of (a_sum h rfl rfl) q
/-- over a list of ints -/
theorem lc_intL {Q : PQ IV} {E : EQ} {env : Env} {ih : IH} {vs : List Nat} {i n : Nat} {me : Env → IH → Res IV} (ns : List Int) (F : Int → IV) (ho : ih[n]? = some (.lst (ns.map IV.int))) (hz : ns.length < 100000)
    (he : ∀ x ∈ ns, ∀ ih', Fx ih ih' → wp (me ((wipeI env vs).set i (some (.int x))) ih') (fun v ih'' => v = F x ∧ ih'' = ih') E0)
    (q : Q (.ref ih.length) (ih ++ [.lst (ns.map F)])) : k_lc vs (g_nm i) n_yes me env Q E (.lst n) ih := lc_int F ho rfl rfl hz he q
/-- over a list of ints, with a test -/
theorem lc_intT {Q : PQ IV} {E : EQ} {env : Env} {ih : IH} {vs : List Nat} {i n : Nat} {mt : Env → IH → Res Bool} {me : Env → IH → Res IV} (ns : List Int) (T : Int → Bool) (F : Int → IV) (ho : ih[n]? = some (.lst (ns.map IV.int))) (hz : ns.length < 100000)
    (ht : ∀ x ∈ ns, ∀ ih', Fx ih ih' → wp (mt ((wipeI env vs).set i (some (.int x))) ih') (fun v ih'' => v = T x ∧ ih'' = ih') E0)
    (he : ∀ x ∈ ns, T x = true → ∀ ih', Fx ih ih' → wp (me ((wipeI env vs).set i (some (.int x))) ih') (fun v ih'' => v = F x ∧ ih'' = ih') E0)
    (q : Q (.ref ih.length) (ih ++ [.lst ((ns.filter T).map F)])) : k_lc vs (g_nm i) mt me env Q E (.lst n) ih := by
  refine lc_flt (fun | .int k => F k | _ => .non) (fun | .int k => T k | _ => false) ho rfl (by rw [xs_lst, List.length_map]; exact hz) (fun x hx ih' f => ?_) (fun x hx t ih' f => ?_) ?_
  · obtain ⟨k, hk, rfl⟩ := List.mem_map.mp hx
    exact ht k hk ih' f
  · obtain ⟨k, hk, rfl⟩ := List.mem_map.mp hx
    exact he k hk t ih' f
  · rw [xs_lst, List.filter_map, List.map_map]
    exact q
/-- what is new, by a name of its own -/
theorem newN {P : IV → IH → Prop} {ih : IH} {o : MO} (k : ∀ n ih', ih.length ≤ n → n < ih'.length → ih'.length ≤ ih.length + 1 → Fx ih ih' → ih'[n]? = some o → P (.ref n) ih') : P (.ref ih.length) (ih ++ [o]) := k _ _ (Nat.le_refl _) (by simp) (by simp) Fx.app g_new
/-- both ways give the same -/
theorem if_join {α : Type} {ma mb : Env → IH → Res α} {env : Env} {ih : IH} {Q : PQ α} {E : EQ} {b : Bool} (v : α) (h1 : b = true → wp (ma env ih) (fun x ih' => x = v ∧ ih' = ih) E0) (h0 : b = false → wp (mb env ih) (fun x ih' => x = v ∧ ih' = ih) E0) (q : Q v ih) : k_if ma mb env Q E b ih := by
  cases b with
  | true => exact wp.of (h1 rfl).eq q
  | false => exact wp.of (h0 rfl).eq q
theorem ws_while {n : Nat} {mt : Env → IH → Res Bool} {mb : Env → IH → RS} {env : Env} {ih : IH} {S : SQ} {F : ES} : ws (ms_while n mt mb env ih) S F = ws (whileGo mt mb n env ih) S F := rfl
theorem ws_whileA {n : Nat} {mt : Env → IH → Res Bool} {mb : Env → IH → RS} {env : Env} {ih : IH} {S : SQ} {F : ES} : ws (ms_while n mt mb env ih) S F = ∀ fu, fu = n → ws (whileGo mt mb fu env ih) S F := by
  rw [forall_eq]
  rfl
theorem g_pair {i j : Nat} {v w : IV} {env : Env} {ih : IH} : g_tup 2 (g_cons (g_nm i) (g_cons (g_nm j) g_nil)) (.ref ih.length) env (ih ++ [.tup [v, w]]) = some ((env.set i (some v)).set j (some w)) := by
  unfold g_tup
  dsimp only
  rw [g_new]
  rfl
theorem cutI_m1 (xs : List IV) (x : IV) : cutI (xs ++ [x]) none (some (-1)) = xs := by
  unfold cutI
  rw [HT.sIx_none]
  have e : HT.sIx (xs ++ [x]).length (xs ++ [x]).length (some (-1)) = xs.length := by
    have h := HT.clip_eq (-1) (xs ++ [x]).length (xs ++ [x]).length
    rw [if_pos (by decide)] at h
    simp only [List.length_append, List.length_singleton] at h ⊢
    omega
  rw [e, List.drop_zero, Nat.sub_zero, List.take_left']
  rfl
/-! ### isinstance -/
section
variable {Q : PQ IV} {E : EQ} {ih : IH} {n : Nat} {i : Int} {xs : List IV}
theorem kit_ii : kitB "int" "int" = some true := by decide +kernel
theorem kit_ib : kitB "int" "bool" = some false := by decide +kernel
theorem kit_ll : kitB "list" "list" = some true := by decide +kernel
theorem kit_tt : kitB "tuple" "tuple" = some true := by decide +kernel
theorem kit_lt : kitB "list" "tuple" = some false := by decide +kernel
theorem kit_tl : kitB "tuple" "list" = some false := by decide +kernel
theorem kit2_NoneType_int : kitB "NoneType" "int" = some false := by decide +kernel
theorem kit2_NoneType_bool : kitB "NoneType" "bool" = some false := by decide +kernel
theorem kit2_NoneType_list : kitB "NoneType" "list" = some false := by decide +kernel
theorem kit2_NoneType_tuple : kitB "NoneType" "tuple" = some false := by decide +kernel
theorem kit2_NoneType_str : kitB "NoneType" "str" = some false := by decide +kernel
theorem kit2_bool_int : kitB "bool" "int" = some true := by decide +kernel
theorem kit2_bool_bool : kitB "bool" "bool" = some true := by decide +kernel
theorem kit2_bool_list : kitB "bool" "list" = some false := by decide +kernel
theorem kit2_bool_tuple : kitB "bool" "tuple" = some false := by decide +kernel
theorem kit2_bool_str : kitB "bool" "str" = some false := by decide +kernel
theorem kit2_str_int : kitB "str" "int" = some false := by decide +kernel
theorem kit2_str_bool : kitB "str" "bool" = some false := by decide +kernel
theorem kit2_str_list : kitB "str" "list" = some false := by decide +kernel
theorem kit2_str_tuple : kitB "str" "tuple" = some false := by decide +kernel
theorem kit2_str_str : kitB "str" "str" = some true := by decide +kernel
theorem kit2_dict_int : kitB "dict" "int" = some false := by decide +kernel
theorem kit2_dict_bool : kitB "dict" "bool" = some false := by decide +kernel
theorem kit2_dict_list : kitB "dict" "list" = some false := by decide +kernel
theorem kit2_dict_tuple : kitB "dict" "tuple" = some false := by decide +kernel
theorem kit2_dict_str : kitB "dict" "str" = some false := by decide +kernel
theorem kit2_list_int : kitB "list" "int" = some false := by decide +kernel
theorem kit2_list_bool : kitB "list" "bool" = some false := by decide +kernel
theorem kit2_list_str : kitB "list" "str" = some false := by decide +kernel
theorem kit2_tuple_int : kitB "tuple" "int" = some false := by decide +kernel
theorem kit2_tuple_bool : kitB "tuple" "bool" = some false := by decide +kernel
theorem kit2_tuple_str : kitB "tuple" "str" = some false := by decide +kernel
theorem kit2_int_list : kitB "int" "list" = some false := by decide +kernel
theorem kit2_int_tuple : kitB "int" "tuple" = some false := by decide +kernel
theorem kit2_int_str : kitB "int" "str" = some false := by decide +kernel
theorem wp_isiII : wp (f_isi [.int i, .ty "int"] ih) Q E = Q (.bl true) ih := by
  rw [show f_isi [.int i, .ty "int"] ih = .ok (.bl true) ih by
    unfold f_isi
    dsimp only [tyN]
    rw [kit_ii]]
  with_unfolding_all rfl
theorem wp_isiIB : wp (f_isi [.int i, .ty "bool"] ih) Q E = Q (.bl false) ih := by
  rw [show f_isi [.int i, .ty "bool"] ih = .ok (.bl false) ih by
    unfold f_isi
    dsimp only [tyN]
    rw [kit_ib]]
  with_unfolding_all rfl
theorem wp_isiI_list : wp (f_isi [.int i, .ty "list"] ih) Q E = Q (.bl false) ih := by
  rw [show f_isi [.int i, .ty "list"] ih = .ok (.bl false) ih by
    unfold f_isi
    dsimp only [tyN]
    rw [kit2_int_list]]
  with_unfolding_all rfl
theorem wp_isiI_tuple : wp (f_isi [.int i, .ty "tuple"] ih) Q E = Q (.bl false) ih := by
  rw [show f_isi [.int i, .ty "tuple"] ih = .ok (.bl false) ih by
    unfold f_isi
    dsimp only [tyN]
    rw [kit2_int_tuple]]
  with_unfolding_all rfl
theorem wp_isiI_str : wp (f_isi [.int i, .ty "str"] ih) Q E = Q (.bl false) ih := by
  rw [show f_isi [.int i, .ty "str"] ih = .ok (.bl false) ih by
    unfold f_isi
    dsimp only [tyN]
    rw [kit2_int_str]]
  with_unfolding_all rfl
def tyO : Option MO → Option String
  | some (.lst _) => some "list"
  | some (.tup _) => some "tuple"
  | some .dct => some "dict"
  | some (.dk _) => some "dict"
  | _ => none
def k_isi2 (Q : PQ IV) (ih : IH) : Option Bool → Prop
  | some b => Q (.bl b) ih
  | none => False
def k_isi (T : String) (Q : PQ IV) (ih : IH) : Option String → Prop
  | some t => k_isi2 Q ih (kitB t T)
  | none => False
theorem wp_isiN {T : String} : wp (f_isi [.non, .ty T] ih) Q E = k_isi2 Q ih (kitB "NoneType" T) := by
  unfold f_isi
  dsimp only [tyN]
  show wp (match kitB "NoneType" T with
    | some b => _
    | none => _) Q E = k_isi2 Q ih (kitB "NoneType" T)
  cases kitB "NoneType" T <;> with_unfolding_all rfl
theorem wp_isiBl {T : String} {b : Bool} : wp (f_isi [.bl b, .ty T] ih) Q E = k_isi2 Q ih (kitB "bool" T) := by
  unfold f_isi
  dsimp only [tyN]
  show wp (match kitB "bool" T with
    | some b => _
    | none => _) Q E = k_isi2 Q ih (kitB "bool" T)
  cases kitB "bool" T <;> with_unfolding_all rfl
theorem wp_isiS {T : String} {z : Str} : wp (f_isi [.str z, .ty T] ih) Q E = k_isi2 Q ih (kitB "str" T) := by
  unfold f_isi
  dsimp only [tyN]
  show wp (match kitB "str" T with
    | some b => _
    | none => _) Q E = k_isi2 Q ih (kitB "str" T)
  cases kitB "str" T <;> with_unfolding_all rfl
theorem wp_isiR {T : String} : wp (f_isi [.ref n, .ty T] ih) Q E = k_isi T Q ih (tyO ih[n]?) := by
  unfold f_isi
  dsimp only [tyN]
  cases ih[n]? with
  | none => with_unfolding_all rfl
  | some o =>
    cases o with
    | lst xs =>
      show wp (match kitB "list" T with
        | some b => _
        | none => _) Q E = k_isi2 Q ih (kitB "list" T)
      cases kitB "list" T <;> with_unfolding_all rfl
    | tup xs =>
      show wp (match kitB "tuple" T with
        | some b => _
        | none => _) Q E = k_isi2 Q ih (kitB "tuple" T)
      cases kitB "tuple" T <;> with_unfolding_all rfl
    | dct =>
      show wp (match kitB "dict" T with
        | some b => _
        | none => _) Q E = k_isi2 Q ih (kitB "dict" T)
      cases kitB "dict" T <;> with_unfolding_all rfl
    | dk kvs =>
      show wp (match kitB "dict" T with
        | some b => _
        | none => _) Q E = k_isi2 Q ih (kitB "dict" T)
      cases kitB "dict" T <;> with_unfolding_all rfl
    | _ => with_unfolding_all rfl
theorem tyO_l : tyO (some (.lst xs)) = some "list" := rfl
theorem tyO_d : tyO (some .dct) = some "dict" := rfl
theorem tyO_t : tyO (some (.tup xs)) = some "tuple" := rfl
theorem kk_isi {T t : String} : k_isi T Q ih (some t) = k_isi2 Q ih (kitB t T) := rfl
theorem kk_isi2 {b : Bool} : k_isi2 Q ih (some b) = Q (.bl b) ih := rfl
end
/-- over a range, with a test -/
theorem lc_rngT {Q : PQ IV} {E : EQ} {env : Env} {ih : IH} {vs : List Nat} {i : Nat} {mt : Env → IH → Res Bool} {me : Env → IH → Res IV} {j : Nat} {lo : Int} (T : Nat → Bool) (F : Nat → IV) (hz : j < 100000)
    (ht : ∀ k, k < j → ∀ ih', Fx ih ih' → wp (mt ((wipeI env vs).set i (some (.int (lo + (k : Int))))) ih') (fun v ih'' => v = T k ∧ ih'' = ih') E0)
    (he : ∀ k, k < j → T k = true → ∀ ih', Fx ih ih' → wp (me ((wipeI env vs).set i (some (.int (lo + (k : Int))))) ih') (fun v ih'' => v = F k ∧ ih'' = ih') E0)
    (q : Q (.ref ih.length) (ih ++ [.lst (((List.range j).filter T).map F)])) : k_lc vs (g_nm i) mt me env Q E (.rng lo 1 j) ih := by
  show wp (lcGo (.rng lo 1 j) (g_nm i) mt me ih.length (wipeI env vs) (j + 1) 0 (ih ++ [.lst []])) Q E
  obtain ⟨acc', ih', e1, e2, e3⟩ := lcGo_ind (s := .rng lo 1 j) (g := g_nm i) (n := mt) (me := me) (d := ih.length) (env := wipeI env vs) j (fun k acc ih' => acc = ((List.range k).filter T).map F ∧ ih' = ih ++ [.lst acc])
    (fun k acc ih2 hk ⟨ha, hi⟩ hd => by
      subst hi
      have e0 : lo + (k : Int) * 1 = lo + (k : Int) := by omega
      refine ⟨.int (lo + (k : Int)), _, _, T k, _, by rw [turn_rng hk, e0], rfl, (ht k hk _ Fx.app).eq, fun hb => ⟨hd, ?_, rfl⟩, fun hb => ⟨_, _, (he k hk hb _ Fx.app).eq, hd, ?_, ?_, ?_⟩⟩
      · rw [List.range_succ, List.filter_append, ha, List.filter_cons, hb]
        simp
      · rw [ha, List.length_map]
        exact Nat.lt_of_le_of_lt (List.length_filter_le _ _) (by rw [List.length_range]; omega)
      · rw [List.range_succ, List.filter_append, ha, List.filter_cons, hb]
        simp
      · rw [set_append_last])
    (fun acc ih _ hd => stop_rng) (j + 1) 0 [] (ih ++ [.lst []]) (Nat.zero_le _) (by omega) ⟨by simp, rfl⟩ (get_new _ _)
  obtain ⟨h1, h2⟩ := e3
  rw [h2, h1] at e1
  exact wp.of e1 q
/-- over a range from 0, with a test -/
theorem lc_rngT0 {Q : PQ IV} {E : EQ} {env : Env} {ih : IH} {vs : List Nat} {i : Nat} {mt : Env → IH → Res Bool} {me : Env → IH → Res IV} {j : Nat} (T : Nat → Bool) (F : Nat → IV) (hz : j < 100000)
    (ht : ∀ k, k < j → ∀ ih', Fx ih ih' → wp (mt ((wipeI env vs).set i (some (.int (k : Int)))) ih') (fun v ih'' => v = T k ∧ ih'' = ih') E0)
    (he : ∀ k, k < j → T k = true → ∀ ih', Fx ih ih' → wp (me ((wipeI env vs).set i (some (.int (k : Int)))) ih') (fun v ih'' => v = F k ∧ ih'' = ih') E0)
    (q : Q (.ref ih.length) (ih ++ [.lst (((List.range j).filter T).map F)])) : k_lc vs (g_nm i) mt me env Q E (.rng 0 1 j) ih :=
  lc_rngT T F hz (fun k hk ih' f => by rw [Int.zero_add]; exact ht k hk ih' f) (fun k hk t ih' f => by rw [Int.zero_add]; exact he k hk t ih' f) q
/-- lists put together -/
theorem wp_cat {Q : PQ IV} {E : EQ} {ih : IH} {n m : Nat} {xs ys : List IV} (h1 : ih[n]? = some (.lst xs)) (h2 : ih[m]? = some (.lst ys)) (hl : xs.length + ys.length ≤ 100000) (q : Q (.ref ih.length) (ih ++ [.lst (xs ++ ys)])) : wp (f_add (.ref n) (.ref m) ih) Q E := by
  have e : f_add (.ref n) (.ref m) ih = .ok (.ref ih.length) (ih ++ [.lst (xs ++ ys)]) := by
    unfold f_add
    dsimp only
    rw [h1, h2]
    dsimp only
    rw [if_pos hl]
  exact wp.of e q
end L3
namespace L3
open PySem PySem.Spec PyProof.Rows L2

noncomputable def b_law_mixed (c : Cs) : Env → IH → RS := (ms_seq (ms_set (g_nm 2) (m_op f_add (m_op f_mod (m_app f_int (m_cons (m_var 0) m_nil)) (m_c (.int 2147483629))) (m_op f_mulA (m_op f_fdiv (m_var 0) (m_c (.int 2147483629))) (m_c (.int 30011)))))
 (ms_seq (ms_set (g_nm 2) (m_op f_mod (m_app f_int (m_cons (m_op f_mulA (m_op f_add (m_op f_add (m_var 2) (m_op f_mulA (m_c (.int 69621)) (m_var 1))) (m_c (.int 1))) (m_c (.int 48271))) m_nil)) (m_c (.int 2147483629))))
 (ms_seq (ms_set (g_nm 2) (m_op f_mod (m_app f_int (m_cons (m_op f_mulA (m_var 2) (m_op f_add (m_op f_add (m_op f_fdiv (m_var 2) (m_c (.int 907))) (m_c (.int 16831))) (m_var 1))) m_nil)) (m_c (.int 2147483587))))
 (ms_ret (m_op f_mod (m_app f_int (m_cons (m_op f_mulA (m_var 2) (m_op f_add (m_op f_fdiv (m_var 2) (m_c (.int 1201))) (m_c (.int 30011)))) m_nil)) (m_c (.int 2147483563)))))))
noncomputable def m_law_mixed (c : Cs) : List IV → IH → Res IV := defRun 3 (b_law_mixed c)
noncomputable def b_law_next (c : Cs) : Env → IH → RS := (ms_seq (ms_if (m_tb (m_op f_ge (m_op f_ix (m_var 0) (m_c (.int 0))) (m_op f_pow (m_c (.int 10)) (m_c (.int 18)))))
 (ms_seq (ms_set (g_nm 2) (m_op f_mod (m_app f_int (m_cons (m_op f_ix (m_var 0) (m_c (.int 0))) m_nil)) (m_var 1)))
 (ms_seq (ms_setL (m_op f_fdiv (m_op f_ix (m_var 0) (m_c (.int 0))) (m_var 1)) (m_var 0) (m_c (.int 0)))
 (ms_ret (m_var 2))))
 ms_pass)
 (ms_seq (ms_setL (m_op f_add (m_op f_ix (m_var 0) (m_c (.int 2))) (m_c (.int 1))) (m_var 0) (m_c (.int 2)))
 (ms_ret (m_op f_mod (m_app f_int (m_cons (m_app (f_call 2 [] (m_law_mixed c)) (m_cons (m_op f_ix (m_var 0) (m_c (.int 1))) (m_cons (m_op f_ix (m_var 0) (m_c (.int 2))) m_nil))) m_nil)) (m_var 1)))))
noncomputable def m_law_next (c : Cs) : List IV → IH → Res IV := defRun 3 (b_law_next c)
noncomputable def b_law_line (c : Cs) : Env → IH → RS := (ms_ret (m_app f_tup (m_cons (m_op f_sub (m_app (f_call 2 [] (m_law_next c)) (m_cons (m_var 0) (m_cons (m_c (.int 99)) m_nil))) (m_c (.int 50))) (m_cons (m_app (f_call 2 [] (m_law_next c)) (m_cons (m_var 0) (m_cons (m_c (.int 9)) m_nil))) (m_cons (m_app (f_call 2 [] (m_law_next c)) (m_cons (m_var 0) (m_cons (m_c (.int 65)) m_nil))) m_nil)))))
noncomputable def m_law_line (c : Cs) : List IV → IH → Res IV := defRun 1 (b_law_line c)
noncomputable def b_law_odd (c : Cs) : Env → IH → RS := (ms_ret (m_op f_ix (m_app f_lst (m_cons (m_c (.bl true)) (m_cons (m_c (.bl false)) (m_cons (m_c .non) (m_cons (m_c (.str "1")) (m_cons (m_app f_tup (m_cons (m_c (.int 1)) m_nil)) (m_cons (m_app f_lst (m_cons (m_c (.int 1)) m_nil)) (m_cons m_dct m_nil)))))))) (m_app (f_call 2 [] (m_law_next c)) (m_cons (m_var 0) (m_cons (m_c (.int 7)) m_nil)))))
noncomputable def m_law_odd (c : Cs) : List IV → IH → Res IV := defRun 1 (b_law_odd c)
noncomputable def b_law_odd_line (c : Cs) : Env → IH → RS := (ms_seq (ms_set (g_nm 1) (m_app f_lst (m_cons (m_app f_tup (m_cons (m_c (.int 0)) (m_cons (m_c (.int 1)) m_nil))) (m_cons (m_app f_tup (m_cons (m_c (.int 0)) (m_cons (m_un f_neg (m_c (.int 1))) (m_cons (m_c (.int 0)) m_nil)))) (m_cons (m_app f_tup (m_cons (m_c (.int 0)) (m_cons (m_c (.int 1)) (m_cons (m_c (.int 65)) m_nil)))) (m_cons (m_app f_tup (m_cons (m_c (.int 0)) (m_cons (m_c (.int 1)) (m_cons (m_un f_neg (m_c (.int 1))) m_nil)))) (m_cons (m_app f_tup (m_cons (m_c (.bl true)) (m_cons (m_c (.int 1)) (m_cons (m_c (.int 0)) m_nil)))) (m_cons (m_app f_tup (m_cons (m_c (.int 0)) (m_cons (m_c (.bl true)) (m_cons (m_c (.int 0)) m_nil)))) (m_cons (m_app f_tup (m_cons (m_c (.int 0)) (m_cons (m_c (.int 1)) (m_cons (m_c (.bl false)) m_nil)))) (m_cons (m_app f_lst (m_cons (m_c (.int 0)) (m_cons (m_c (.int 1)) (m_cons (m_c (.int 0)) m_nil)))) (m_cons (m_c .non) (m_cons (m_c (.int 7)) m_nil))))))))))))
 (ms_seq (ms_set (g_nm 1) (m_op f_add (m_var 1) (m_app f_lst (m_cons (m_app f_tup (m_cons (m_c (.int 0)) (m_cons (m_c (.int 1)) (m_cons (m_c (.int 0)) (m_cons (m_c (.int 0)) m_nil))))) (m_cons (m_app f_tup (m_cons (m_c (.str "0")) (m_cons (m_c (.int 1)) (m_cons (m_c (.int 0)) m_nil)))) (m_cons (m_app f_tup (m_cons (m_c (.int 0)) (m_cons (m_app f_lst (m_cons (m_c (.int 1)) m_nil)) (m_cons (m_c (.int 0)) m_nil)))) (m_cons (m_app f_tup (m_cons (m_app f_lst (m_cons (m_c (.int 0)) m_nil)) (m_cons (m_c (.int 1)) (m_cons (m_c (.int 0)) m_nil)))) (m_cons (m_app f_tup (m_cons (m_c .non) (m_cons (m_c (.int 1)) (m_cons (m_c (.int 0)) m_nil)))) (m_cons m_dct (m_cons (m_c (.str "010")) (m_cons (m_app f_tup m_nil) (m_cons (m_app f_tup (m_cons (m_c (.int 0)) (m_cons (m_c (.int 1)) (m_cons (m_c .non) m_nil)))) m_nil))))))))))))
 (ms_ret (m_op f_ix (m_var 1) (m_app (f_call 2 [] (m_law_next c)) (m_cons (m_var 0) (m_cons (m_app f_len (m_cons (m_var 1) m_nil)) m_nil)))))))
noncomputable def m_law_odd_line (c : Cs) : List IV → IH → Res IV := defRun 2 (b_law_odd_line c)
noncomputable def tb_law_word_1 (c : Cs) (lams : Nat → Nat → IH → Res IV) : Env → IH → RS := (ms_ret (m_app f_tup (m_cons (m_c (.str "told")) (m_cons (m_call0 0 lams) m_nil))))
noncomputable def ts_law_word_1 (c : Cs) (lams : Nat → Nat → IH → Res IV) (ea ec : Addr) : Env → IH → RS := (ms_seq (ms_set (g_nm 2) (m_app f_lst (m_cons (m_app (f_isE c.K ea ec) (m_cons (m_var 1) (m_cons (m_c (.gl c.NoWidth)) m_nil))) (m_cons (m_app (f_isE c.K ea ec) (m_cons (m_var 1) (m_cons (m_c (.gl c.NoLooks)) m_nil))) (m_cons (m_app (f_isE c.K ea ec) (m_cons (m_var 1) (m_cons (m_c (.gl c.NoCycle)) m_nil))) (m_cons (m_app (f_isE c.K ea ec) (m_cons (m_var 1) (m_cons (m_c (.gl c.NoRate)) m_nil))) m_nil))))))
 (ms_seq (ms_set (g_nm 2) (m_op f_add (m_var 2) (m_app f_lst (m_cons (m_app (f_isE c.K ea ec) (m_cons (m_var 1) (m_cons (m_c (.gl c.NoReading)) m_nil))) (m_cons (m_app (f_isE c.K ea ec) (m_cons (m_var 1) (m_cons (m_c (.gl c.NoLine)) m_nil))) m_nil)))))
 (ms_seq (ms_if (m_or (m_tb (m_op f_ne (m_mL f_count (m_var 2) (m_cons (m_c (.bl true)) m_nil)) (m_c (.int 1)))) (m_not (m_tb (m_app (f_isE c.K ea ec) (m_cons (m_var 1) (m_cons (m_c (.ty "ValueError")) m_nil))))))
 (ms_ret (m_c (.str "several")))
 ms_pass)
 (ms_ret (m_op f_ix (m_app f_lst (m_cons (m_c (.str "width")) (m_cons (m_c (.str "looks")) (m_cons (m_c (.str "cycle")) (m_cons (m_c (.str "rate")) (m_cons (m_c (.str "reading")) (m_cons (m_c (.str "line")) m_nil))))))) (m_mL f_index (m_var 2) (m_cons (m_c (.bl true)) m_nil)))))))
noncomputable def b_law_word (c : Cs) (lams : Nat → Nat → IH → Res IV) : Env → IH → RS := (ms_try 1 (fun cl => PySem.W.exmOne c.K (.ref cl) (.ref c.KernelError)) (tb_law_word_1 c lams)
 (fun ea ec => (ts_law_word_1 c lams ea ec)))
noncomputable def b_is_whole (c : Cs) : Env → IH → RS := (ms_ret (m_andV (m_app f_isi (m_cons (m_var 0) (m_cons (m_c (.ty "int")) m_nil))) (m_andV (m_notV (m_app f_isi (m_cons (m_var 0) (m_cons (m_c (.ty "bool")) m_nil)))) (m_orV (m_op f_isN (m_var 1) (m_c .non)) (m_op f_ge (m_var 0) (m_var 1))))))
noncomputable def m_is_whole (c : Cs) : List IV → IH → Res IV := defRun 2 (b_is_whole c)
noncomputable def b_check_cycle (c : Cs) : Env → IH → RS := (ms_if (m_not (m_tb (m_app (f_call 2 [] (m_is_whole c)) (m_cons (m_var 0) (m_cons (m_var 1) m_nil)))))
 (ms_raise c.NoCycle)
 ms_pass)
noncomputable def m_check_cycle (c : Cs) : List IV → IH → Res IV := defRun 2 (b_check_cycle c)
noncomputable def b_is_shift (c : Cs) : Env → IH → RS := (ms_ret (m_andV (m_app (f_call 2 [] (m_is_whole c)) (m_cons (m_var 0) (m_cons (m_c (.int 0)) m_nil))) (m_op f_le (m_var 0) (m_c (.int 64)))))
noncomputable def m_is_shift (c : Cs) : List IV → IH → Res IV := defRun 1 (b_is_shift c)
noncomputable def b_check_line (c : Cs) : Env → IH → RS := (ms_seq (ms_if (m_or (m_not (m_tb (m_app f_isi (m_cons (m_var 0) (m_cons (m_c (.ty "tuple")) m_nil))))) (m_or (m_tb (m_op f_ne (m_app f_len (m_cons (m_var 0) m_nil)) (m_c (.int 3)))) (m_or (m_not (m_tb (m_app (f_call 2 [.non] (m_is_whole c)) (m_cons (m_op f_ix (m_var 0) (m_c (.int 0))) m_nil)))) (m_not (m_tb (m_app (f_call 2 [] (m_is_whole c)) (m_cons (m_op f_ix (m_var 0) (m_c (.int 1))) (m_cons (m_c (.int 0)) m_nil))))))))
 (ms_raise c.NoLine)
 ms_pass)
 (ms_if (m_not (m_tb (m_app (f_call 1 [] (m_is_shift c)) (m_cons (m_op f_ix (m_var 0) (m_c (.int 2))) m_nil))))
 (ms_raise c.NoLine)
 ms_pass))
noncomputable def m_check_line (c : Cs) : List IV → IH → Res IV := defRun 1 (b_check_line c)
noncomputable def b_power (c : Cs) : Env → IH → RS := (ms_ret (m_op f_shl (m_c (.int 1)) (m_var 0)))
noncomputable def m_power (c : Cs) : List IV → IH → Res IV := defRun 1 (b_power c)
noncomputable def wb_sum_of_floors_1 (c : Cs) : Env → IH → RS := (ms_seq (ms_aug 4 f_addI (m_op f_add (m_op f_mulA (m_op f_fdiv (m_op f_mulA (m_var 0) (m_op f_sub (m_var 0) (m_c (.int 1)))) (m_c (.int 2))) (m_op f_fdiv (m_var 2) (m_var 1))) (m_op f_mulA (m_var 0) (m_op f_fdiv (m_var 3) (m_var 1)))))
 (ms_seq (ms_par 2 3 (m_cons (m_op f_mod (m_var 2) (m_var 1)) (m_cons (m_op f_mod (m_var 3) (m_var 1)) m_nil)))
 (ms_seq (ms_set (g_nm 5) (m_op f_add (m_op f_mulA (m_var 2) (m_var 0)) (m_var 3)))
 (ms_set (g_tup 4 (g_cons (g_nm 0) (g_cons (g_nm 3) (g_cons (g_nm 1) (g_cons (g_nm 2) g_nil))))) (m_app f_tup (m_cons (m_op f_fdiv (m_var 5) (m_var 1)) (m_cons (m_op f_mod (m_var 5) (m_var 1)) (m_cons (m_var 2) (m_cons (m_var 1) m_nil)))))))))
noncomputable def wt_sum_of_floors_1 (c : Cs) : Env → IH → Res Bool := (m_tb (m_op f_gt (m_var 0) (m_c (.int 0))))
noncomputable def b_sum_of_floors (c : Cs) : Env → IH → RS := (ms_seq (ms_set (g_nm 4) (m_c (.int 0)))
 (ms_seq (ms_while 1000000 (wt_sum_of_floors_1 c)
 (wb_sum_of_floors_1 c))
 (ms_ret (m_var 4))))
noncomputable def m_sum_of_floors (c : Cs) : List IV → IH → Res IV := defRun 6 (b_sum_of_floors c)
noncomputable def b_total (c : Cs) : Env → IH → RS := (ms_ret (m_app (f_call 4 [] (m_sum_of_floors c)) (m_cons (m_var 2) (m_cons (m_app (f_call 1 [] (m_power c)) (m_cons (m_op f_ix (m_var 0) (m_c (.int 2))) m_nil)) (m_cons (m_op f_ix (m_var 0) (m_c (.int 1))) (m_cons (m_op f_add (m_op f_ix (m_var 0) (m_c (.int 0))) (m_op f_mulA (m_op f_ix (m_var 0) (m_c (.int 1))) (m_var 1))) m_nil))))))
noncomputable def m_total (c : Cs) : List IV → IH → Res IV := defRun 3 (b_total c)
noncomputable def b_excess (c : Cs) : Env → IH → RS := (ms_ret (m_op f_sub (m_app (f_call 3 [] (m_total c)) (m_cons (m_var 0) (m_cons (m_var 2) (m_cons (m_var 3) m_nil)))) (m_app (f_call 3 [] (m_total c)) (m_cons (m_var 1) (m_cons (m_var 2) (m_cons (m_var 3) m_nil))))))
noncomputable def m_excess (c : Cs) : List IV → IH → Res IV := defRun 4 (b_excess c)
noncomputable def b_apart_many (c : Cs) : Env → IH → RS := (ms_seq (ms_expr (m_app (f_call 1 [] (m_check_line c)) (m_cons (m_var 0) m_nil)))
 (ms_seq (ms_expr (m_app (f_call 1 [] (m_check_line c)) (m_cons (m_var 1) m_nil)))
 (ms_seq (ms_if (m_tb (m_op f_ne (m_sl (m_var 0) (m_some (m_c (.int 1))) m_none) (m_sl (m_var 1) (m_some (m_c (.int 1))) m_none)))
 (ms_raise c.NoLine)
 ms_pass)
 (ms_seq (ms_expr (m_app (f_call 2 [(.int 0)] (m_check_cycle c)) (m_cons (m_var 2) m_nil)))
 (ms_seq (ms_if (m_tb (m_op f_ge (m_app f_abs (m_cons (m_op f_sub (m_op f_ix (m_var 0) (m_c (.int 0))) (m_op f_ix (m_var 1) (m_c (.int 0)))) m_nil)) (m_app (f_call 1 [] (m_power c)) (m_cons (m_op f_ix (m_var 0) (m_c (.int 2))) m_nil))))
 (ms_ret (m_var 2))
 ms_pass)
 (ms_ret (m_app f_abs (m_cons (m_app (f_call 4 [] (m_excess c)) (m_cons (m_var 0) (m_cons (m_var 1) (m_cons (m_c (.int 0)) (m_cons (m_var 2) m_nil))))) m_nil))))))))
noncomputable def m_apart_many (c : Cs) : List IV → IH → Res IV := defRun 3 (b_apart_many c)
noncomputable def b_round_up (c : Cs) : Env → IH → RS := (ms_ret (m_op f_sub (m_c (.int 0)) (m_op f_fdiv (m_op f_sub (m_c (.int 0)) (m_var 0)) (m_var 1))))
noncomputable def m_round_up (c : Cs) : List IV → IH → Res IV := defRun 2 (b_round_up c)
noncomputable def b_turning (c : Cs) : Env → IH → RS := (ms_seq (ms_par 2 3 (m_cons (m_app (f_call 1 [] (m_power c)) (m_cons (m_op f_ix (m_var 1) (m_c (.int 2))) m_nil)) (m_cons (m_app (f_call 1 [] (m_power c)) (m_cons (m_op f_ix (m_var 0) (m_c (.int 2))) m_nil)) m_nil)))
 (ms_ret (m_app f_tup (m_cons (m_op f_sub (m_op f_mulA (m_op f_ix (m_var 0) (m_c (.int 0))) (m_var 2)) (m_op f_mulA (m_op f_ix (m_var 1) (m_c (.int 0))) (m_var 3))) (m_cons (m_op f_sub (m_op f_mulA (m_op f_ix (m_var 0) (m_c (.int 1))) (m_var 2)) (m_op f_mulA (m_op f_ix (m_var 1) (m_c (.int 1))) (m_var 3))) m_nil)))))
noncomputable def m_turning (c : Cs) : List IV → IH → Res IV := defRun 4 (b_turning c)
noncomputable def b_ahead_from (c : Cs) : Env → IH → RS := (ms_seq (ms_set (g_tup 2 (g_cons (g_nm 2) (g_cons (g_nm 3) g_nil))) (m_app (f_call 2 [] (m_turning c)) (m_cons (m_var 0) (m_cons (m_var 1) m_nil))))
 (ms_seq (ms_if (m_tb (m_op f_eq (m_var 3) (m_c (.int 0))))
 (ms_ret (m_if (m_tb (m_op f_ge (m_var 2) (m_c (.int 0)))) (m_app f_tup (m_cons (m_c (.int 0)) (m_cons (m_c .non) m_nil))) (m_c .non)))
 ms_pass)
 (ms_seq (ms_if (m_tb (m_op f_gt (m_var 3) (m_c (.int 0))))
 (ms_ret (m_app f_tup (m_cons (m_app f_max2 (m_cons (m_c (.int 0)) (m_cons (m_app (f_call 2 [] (m_round_up c)) (m_cons (m_op f_sub (m_c (.int 0)) (m_var 2)) (m_cons (m_var 3) m_nil))) m_nil))) (m_cons (m_c .non) m_nil))))
 ms_pass)
 (ms_ret (m_if (m_tb (m_op f_ge (m_var 2) (m_c (.int 0)))) (m_app f_tup (m_cons (m_c (.int 0)) (m_cons (m_op f_add (m_op f_fdiv (m_var 2) (m_op f_sub (m_c (.int 0)) (m_var 3))) (m_c (.int 1))) m_nil))) (m_c .non))))))
noncomputable def m_ahead_from (c : Cs) : List IV → IH → Res IV := defRun 4 (b_ahead_from c)
noncomputable def wb_first_count_1 (c : Cs) (m : Nat) (lam : IV → IH → Res IV) : Env → IH → RS := (ms_aug 2 f_mul (m_c (.int 2)))
noncomputable def wt_first_count_1 (c : Cs) (m : Nat) (lam : IV → IH → Res IV) : Env → IH → Res Bool := (m_not (m_tb (m_fits 1 m lam (m_op f_add (m_var 0) (m_var 2)))))
noncomputable def wb_first_count_2 (c : Cs) (m : Nat) (lam : IV → IH → Res IV) : Env → IH → RS := (ms_seq (ms_set (g_nm 5) (m_op f_fdiv (m_op f_add (m_var 3) (m_var 4)) (m_c (.int 2))))
 (ms_if (m_tb (m_fits 1 m lam (m_var 5)))
 (ms_set (g_nm 4) (m_var 5))
 (ms_set (g_nm 3) (m_var 5))))
noncomputable def wt_first_count_2 (c : Cs) (m : Nat) (lam : IV → IH → Res IV) : Env → IH → Res Bool := (m_tb (m_op f_gt (m_op f_sub (m_var 4) (m_var 3)) (m_c (.int 1))))
noncomputable def b_first_count (c : Cs) (m : Nat) (lam : IV → IH → Res IV) : Env → IH → RS := (ms_seq (ms_if (m_tb (m_fits 1 m lam (m_var 0)))
 (ms_ret (m_var 0))
 ms_pass)
 (ms_seq (ms_set (g_nm 2) (m_c (.int 1)))
 (ms_seq (ms_while 1000000 (wt_first_count_1 c m lam)
 (wb_first_count_1 c m lam))
 (ms_seq (ms_par 3 4 (m_cons (m_op f_add (m_var 0) (m_op f_fdiv (m_var 2) (m_c (.int 2)))) (m_cons (m_op f_add (m_var 0) (m_var 2)) m_nil)))
 (ms_seq (ms_while 1000000 (wt_first_count_2 c m lam)
 (wb_first_count_2 c m lam))
 (ms_ret (m_var 4)))))))
noncomputable def ll_first_more_1 (c : Cs) : Env → IH → Res IV := (m_op f_gt (m_app (f_call 4 [] (m_excess c)) (m_cons (m_var 0) (m_cons (m_var 1) (m_cons (m_var 2) (m_cons (m_op f_add (m_var 6) (m_c (.int 1))) m_nil))))) (m_c (.int 0)))
noncomputable def ll_first_more_2 (c : Cs) : Env → IH → Res IV := (m_op f_gt (m_app (f_call 4 [] (m_excess c)) (m_cons (m_var 0) (m_cons (m_var 1) (m_cons (m_var 2) (m_cons (m_app f_min2 (m_cons (m_op f_add (m_var 6) (m_c (.int 1))) (m_cons (m_op f_sub (m_var 3) (m_var 2)) m_nil))) m_nil))))) (m_c (.int 0)))
noncomputable def b_first_more (c : Cs) : Env → IH → RS := (ms_seq (ms_if (m_tb (m_op f_isN (m_var 3) (m_c .non)))
 (ms_seq (ms_set (g_tup 2 (g_cons (g_nm 4) (g_cons (g_nm 5) g_nil))) (m_app (f_call 2 [] (m_turning c)) (m_cons (m_var 0) (m_cons (m_var 1) m_nil))))
 (ms_seq (ms_if (m_tb (m_op f_gt (m_var 5) (m_c (.int 0))))
 (ms_ret (m_op f_add (m_var 2) (m_callL (fun m lam => defRun 6 (b_first_count c m lam)) (lamB 6 (ll_first_more_1 c)) (m_cons (m_c (.int 0)) m_nil))))
 ms_pass)
 (ms_set (g_nm 3) (m_op f_add (m_var 2) (m_app f_max2 (m_cons (m_app (f_call 1 [] (m_power c)) (m_cons (m_op f_ix (m_var 0) (m_c (.int 2))) m_nil)) (m_cons (m_app (f_call 1 [] (m_power c)) (m_cons (m_op f_ix (m_var 1) (m_c (.int 2))) m_nil)) m_nil)))))))
 ms_pass)
 (ms_seq (ms_if (m_or (m_tb (m_op f_ge (m_var 2) (m_var 3))) (m_tb (m_op f_eq (m_app (f_call 4 [] (m_excess c)) (m_cons (m_var 0) (m_cons (m_var 1) (m_cons (m_var 2) (m_cons (m_op f_sub (m_var 3) (m_var 2)) m_nil))))) (m_c (.int 0)))))
 (ms_ret (m_c .non))
 ms_pass)
 (ms_ret (m_op f_add (m_var 2) (m_callL (fun m lam => defRun 6 (b_first_count c m lam)) (lamB 6 (ll_first_more_2 c)) (m_cons (m_c (.int 0)) m_nil))))))
noncomputable def m_first_more (c : Cs) : List IV → IH → Res IV := defRun 7 (b_first_more c)
noncomputable def b_first_above (c : Cs) : Env → IH → RS := (ms_seq (ms_set (g_nm 2) (m_app (f_call 2 [] (m_ahead_from c)) (m_cons (m_var 0) (m_cons (m_var 1) m_nil))))
 (ms_ret (m_if (m_tb (m_op f_isN (m_var 2) (m_c .non))) (m_c .non) (m_app (f_call 4 [] (m_first_more c)) (m_cons (m_var 0) (m_cons (m_var 1) (m_cons (m_op f_ix (m_var 2) (m_c (.int 0))) (m_cons (m_op f_ix (m_var 2) (m_c (.int 1))) m_nil))))))))
noncomputable def m_first_above (c : Cs) : List IV → IH → Res IV := defRun 3 (b_first_above c)
noncomputable def b_first_ahead (c : Cs) : Env → IH → RS := (ms_seq (ms_expr (m_app (f_call 1 [] (m_check_line c)) (m_cons (m_var 0) m_nil)))
 (ms_seq (ms_expr (m_app (f_call 1 [] (m_check_line c)) (m_cons (m_var 1) m_nil)))
 (ms_ret (m_app (f_call 2 [] (m_first_above c)) (m_cons (m_var 0) (m_cons (m_var 1) m_nil))))))
noncomputable def m_first_ahead (c : Cs) : List IV → IH → Res IV := defRun 2 (b_first_ahead c)
noncomputable def le_parting_1 (c : Cs) : Env → IH → Res IV := (m_var 3)
noncomputable def ln_parting_1 (c : Cs) : Env → IH → Res Bool := (m_tb (m_op f_notN (m_var 3) (m_c .non)))
noncomputable def lc_parting_1 (c : Cs) : Env → IH → Res IV := m_lc [3] (mi_tup (m_app f_tup (m_cons (m_app (f_call 2 [] (m_first_above c)) (m_cons (m_var 0) (m_cons (m_var 1) m_nil))) (m_cons (m_app (f_call 2 [] (m_first_above c)) (m_cons (m_var 1) (m_cons (m_var 0) m_nil))) m_nil)))) (g_nm 3) (ln_parting_1 c) (le_parting_1 c)
noncomputable def b_parting (c : Cs) : Env → IH → RS := (ms_seq (ms_set (g_nm 2) (lc_parting_1 c))
 (ms_ret (m_un f_minD (m_var 2))))
noncomputable def m_parting (c : Cs) : List IV → IH → Res IV := defRun 4 (b_parting c)
noncomputable def b_first_apart (c : Cs) : Env → IH → RS := (ms_seq (ms_expr (m_app (f_call 1 [] (m_check_line c)) (m_cons (m_var 0) m_nil)))
 (ms_seq (ms_expr (m_app (f_call 1 [] (m_check_line c)) (m_cons (m_var 1) m_nil)))
 (ms_ret (m_app (f_call 2 [] (m_parting c)) (m_cons (m_var 0) (m_cons (m_var 1) m_nil))))))
noncomputable def m_first_apart (c : Cs) : List IV → IH → Res IV := defRun 2 (b_first_apart c)
noncomputable def b_check_reading (c : Cs) : Env → IH → RS := (ms_if (m_not (m_tb (m_app (f_call 2 [.non] (m_is_whole c)) (m_cons (m_var 0) m_nil))))
 (ms_raise c.NoReading)
 ms_pass)
noncomputable def m_check_reading (c : Cs) : List IV → IH → Res IV := defRun 1 (b_check_reading c)
noncomputable def b_reached (c : Cs) : Env → IH → RS := (ms_seq (ms_set (g_nm 2) (m_op f_sub (m_op f_shl (m_var 1) (m_op f_ix (m_var 0) (m_c (.int 2)))) (m_op f_ix (m_var 0) (m_c (.int 0)))))
 (ms_seq (ms_if (m_tb (m_op f_le (m_var 2) (m_c (.int 0))))
 (ms_ret (m_c (.int 0)))
 ms_pass)
 (ms_ret (m_if (m_tb (m_op f_gt (m_op f_ix (m_var 0) (m_c (.int 1))) (m_c (.int 0)))) (m_app (f_call 2 [] (m_round_up c)) (m_cons (m_var 2) (m_cons (m_op f_ix (m_var 0) (m_c (.int 1))) m_nil))) (m_c .non)))))
noncomputable def m_reached (c : Cs) : List IV → IH → Res IV := defRun 3 (b_reached c)
noncomputable def b_first_reach (c : Cs) : Env → IH → RS := (ms_seq (ms_expr (m_app (f_call 1 [] (m_check_line c)) (m_cons (m_var 0) m_nil)))
 (ms_seq (ms_expr (m_app (f_call 1 [] (m_check_reading c)) (m_cons (m_var 1) m_nil)))
 (ms_ret (m_app (f_call 2 [] (m_reached c)) (m_cons (m_var 0) (m_cons (m_var 1) m_nil))))))
noncomputable def m_first_reach (c : Cs) : List IV → IH → Res IV := defRun 2 (b_first_reach c)
noncomputable def b_reads (c : Cs) : Env → IH → RS := (ms_ret (m_op f_shr (m_op f_add (m_op f_ix (m_var 0) (m_c (.int 0))) (m_op f_mulA (m_op f_ix (m_var 0) (m_c (.int 1))) (m_var 1))) (m_op f_ix (m_var 0) (m_c (.int 2)))))
noncomputable def m_reads (c : Cs) : List IV → IH → Res IV := defRun 2 (b_reads c)
noncomputable def b_line_reading (c : Cs) : Env → IH → RS := (ms_seq (ms_expr (m_app (f_call 1 [] (m_check_line c)) (m_cons (m_var 0) m_nil)))
 (ms_seq (ms_expr (m_app (f_call 2 [(.int 0)] (m_check_cycle c)) (m_cons (m_var 1) m_nil)))
 (ms_ret (m_app (f_call 2 [] (m_reads c)) (m_cons (m_var 0) (m_cons (m_var 1) m_nil))))))
noncomputable def m_line_reading (c : Cs) : List IV → IH → Res IV := defRun 2 (b_line_reading c)
noncomputable def b_shows_run (c : Cs) : Env → IH → RS := (ms_seq (ms_expr (m_app (f_call 1 [] (m_check_line c)) (m_cons (m_var 0) m_nil)))
 (ms_seq (ms_expr (m_app (f_call 1 [] (m_check_reading c)) (m_cons (m_var 1) m_nil)))
 (ms_seq (ms_set (g_nm 2) (m_app (f_call 2 [] (m_reached c)) (m_cons (m_var 0) (m_cons (m_var 1) m_nil))))
 (ms_seq (ms_if (m_or (m_tb (m_op f_isN (m_var 2) (m_c .non))) (m_tb (m_op f_ne (m_app (f_call 2 [] (m_reads c)) (m_cons (m_var 0) (m_cons (m_var 2) m_nil))) (m_var 1))))
 (ms_ret (m_c .non))
 ms_pass)
 (ms_seq (ms_set (g_nm 3) (m_app (f_call 2 [] (m_reached c)) (m_cons (m_var 0) (m_cons (m_op f_add (m_var 1) (m_c (.int 1))) m_nil))))
 (ms_ret (m_app f_tup (m_cons (m_var 2) (m_cons (m_if (m_tb (m_op f_isN (m_var 3) (m_c .non))) (m_c .non) (m_op f_sub (m_var 3) (m_c (.int 1)))) m_nil)))))))))
noncomputable def m_shows_run (c : Cs) : List IV → IH → Res IV := defRun 4 (b_shows_run c)
noncomputable def ll_law_all_refused_1 (c : Cs) (e0 : Nat) : Env → IH → Res IV := (m_app (f_call 2 [] (m_line_reading c)) (m_cons (m_var 2) (m_cons (m_var 5) m_nil)))
noncomputable def ll_law_all_refused_2 (c : Cs) (e0 : Nat) : Env → IH → Res IV := (m_app (f_call 2 [] (m_first_reach c)) (m_cons (m_var 2) (m_cons (m_var 4) m_nil)))
noncomputable def ll_law_all_refused_3 (c : Cs) (e0 : Nat) : Env → IH → Res IV := (m_app (f_call 2 [] (m_shows_run c)) (m_cons (m_var 2) (m_cons (m_var 4) m_nil)))
noncomputable def ll_law_all_refused_4 (c : Cs) (e0 : Nat) : Env → IH → Res IV := (m_app (f_call 2 [] (m_first_apart c)) (m_cons (m_var 2) (m_cons (m_var 1) m_nil)))
noncomputable def ll_law_all_refused_5 (c : Cs) (e0 : Nat) : Env → IH → Res IV := (m_app (f_call 2 [] (m_first_apart c)) (m_cons (m_var 1) (m_cons (m_var 2) m_nil)))
noncomputable def ll_law_all_refused_6 (c : Cs) (e0 : Nat) : Env → IH → Res IV := (m_app (f_call 2 [] (m_first_ahead c)) (m_cons (m_var 2) (m_cons (m_var 3) m_nil)))
noncomputable def ll_law_all_refused_7 (c : Cs) (e0 : Nat) : Env → IH → Res IV := (m_app (f_call 2 [] (m_first_ahead c)) (m_cons (m_var 1) (m_cons (m_var 2) m_nil)))
noncomputable def ll_law_all_refused_8 (c : Cs) (e0 : Nat) : Env → IH → Res IV := (m_app (f_call 3 [] (m_apart_many c)) (m_cons (m_var 2) (m_cons (m_var 1) (m_cons (m_c (.int 5)) m_nil))))
noncomputable def ll_law_all_refused_9 (c : Cs) (e0 : Nat) : Env → IH → Res IV := (m_app (f_call 3 [] (m_apart_many c)) (m_cons (m_var 1) (m_cons (m_var 2) (m_cons (m_var 5) m_nil))))
noncomputable def ll_law_all_refused_10 (c : Cs) (e0 : Nat) : Env → IH → Res IV := (m_app (f_call 3 [] (m_apart_many c)) (m_cons (m_var 1) (m_cons (m_var 6) (m_cons (m_var 5) m_nil))))
noncomputable def ll_law_all_refused_11 (c : Cs) (e0 : Nat) : Env → IH → Res IV := (m_app (f_call 3 [] (m_apart_many c)) (m_cons (m_var 1) (m_cons (m_var 7) (m_cons (m_c (.int 9)) m_nil))))
noncomputable def ll_law_all_refused_12 (c : Cs) (e0 : Nat) : Env → IH → Res IV := (m_app (f_call 2 [] (m_line_reading c)) (m_cons (m_var 1) (m_cons (m_var 5) m_nil)))
noncomputable def ll_law_all_refused_13 (c : Cs) (e0 : Nat) : Env → IH → Res IV := (m_app (f_call 3 [] (m_apart_many c)) (m_cons (m_var 1) (m_cons (m_var 1) (m_cons (m_var 5) m_nil))))
noncomputable def ll_law_all_refused_14 (c : Cs) (e0 : Nat) : Env → IH → Res IV := (m_app (f_call 3 [] (m_apart_many c)) (m_cons (m_var 1) (m_cons (m_app f_tup (m_cons (m_op f_add (m_op f_ix (m_var 1) (m_c (.int 0))) (m_c (.int 3))) (m_cons (m_op f_ix (m_var 1) (m_c (.int 1))) (m_cons (m_op f_ix (m_var 1) (m_c (.int 2))) m_nil)))) (m_cons (m_var 5) m_nil))))
noncomputable def ll_law_all_refused_15 (c : Cs) (e0 : Nat) : Env → IH → Res IV := (m_app (f_call 2 [] (m_first_reach c)) (m_cons (m_var 1) (m_cons (m_var 4) m_nil)))
noncomputable def ll_law_all_refused_16 (c : Cs) (e0 : Nat) : Env → IH → Res IV := (m_app (f_call 2 [] (m_shows_run c)) (m_cons (m_var 1) (m_cons (m_var 4) m_nil)))
noncomputable def lams_law_all_refused (c : Cs) (e0 : Nat) : Nat → Env → IH → Res IV
  | 0 => ll_law_all_refused_1 c e0
  | 1 => ll_law_all_refused_2 c e0
  | 2 => ll_law_all_refused_3 c e0
  | 3 => ll_law_all_refused_4 c e0
  | 4 => ll_law_all_refused_5 c e0
  | 5 => ll_law_all_refused_6 c e0
  | 6 => ll_law_all_refused_7 c e0
  | 7 => ll_law_all_refused_8 c e0
  | 8 => ll_law_all_refused_9 c e0
  | 9 => ll_law_all_refused_10 c e0
  | 10 => ll_law_all_refused_11 c e0
  | 11 => ll_law_all_refused_12 c e0
  | 12 => ll_law_all_refused_13 c e0
  | 13 => ll_law_all_refused_14 c e0
  | 14 => ll_law_all_refused_15 c e0
  | 15 => ll_law_all_refused_16 c e0
  | _ => fun _ _ => .stuck
noncomputable def le_law_all_refused_1 (c : Cs) (e0 : Nat) : Env → IH → Res IV := (m_callV [9] 1 3 e0 (b_law_word c) (lams_law_all_refused c e0) m_nil (m_var 9))
noncomputable def lc_law_all_refused_1 (c : Cs) (e0 : Nat) : Env → IH → Res IV := m_lc [9] (mi_lst (m_var 8)) (g_nm 9) n_yes (le_law_all_refused_1 c e0)
noncomputable def le_law_all_refused_2 (c : Cs) (e0 : Nat) : Env → IH → Res IV := (m_callV [9] 1 3 e0 (b_law_word c) (lams_law_all_refused c e0) m_nil (m_var 9))
noncomputable def lc_law_all_refused_2 (c : Cs) (e0 : Nat) : Env → IH → Res IV := m_lc [9] (mi_lst (m_var 8)) (g_nm 9) n_yes (le_law_all_refused_2 c e0)
noncomputable def b_law_all_refused (c : Cs) (e0 : Nat) : Env → IH → RS := (ms_seq (ms_set (g_tup 2 (g_cons (g_nm 1) (g_cons (g_nm 2) g_nil))) (m_app f_tup (m_cons (m_app (f_call 1 [] (m_law_line c)) (m_cons (m_var 0) m_nil)) (m_cons (m_app (f_call 1 [] (m_law_odd_line c)) (m_cons (m_var 0) m_nil)) m_nil))))
 (ms_seq (ms_set (g_nm 3) (m_app (f_call 1 [] (m_law_odd_line c)) (m_cons (m_var 0) m_nil)))
 (ms_seq (ms_set (g_tup 2 (g_cons (g_nm 4) (g_cons (g_nm 5) g_nil))) (m_app f_tup (m_cons (m_app (f_call 1 [] (m_law_odd c)) (m_cons (m_var 0) m_nil)) (m_cons (m_op f_ix (m_app f_lst (m_cons (m_un f_neg (m_c (.int 1))) (m_cons (m_un f_neg (m_op f_pow (m_c (.int 10)) (m_c (.int 30)))) (m_cons (m_app (f_call 1 [] (m_law_odd c)) (m_cons (m_var 0) m_nil)) m_nil)))) (m_app (f_call 2 [] (m_law_next c)) (m_cons (m_var 0) (m_cons (m_c (.int 3)) m_nil)))) m_nil))))
 (ms_seq (ms_set (g_nm 6) (m_app f_tup (m_cons (m_op f_ix (m_var 1) (m_c (.int 0))) (m_cons (m_op f_add (m_op f_ix (m_var 1) (m_c (.int 1))) (m_c (.int 1))) (m_cons (m_op f_ix (m_var 1) (m_c (.int 2))) m_nil)))))
 (ms_seq (ms_set (g_nm 7) (m_app f_tup (m_cons (m_op f_ix (m_var 1) (m_c (.int 0))) (m_cons (m_op f_ix (m_var 1) (m_c (.int 1))) (m_cons (m_op f_mod (m_app f_int (m_cons (m_op f_add (m_op f_ix (m_var 1) (m_c (.int 2))) (m_c (.int 1))) m_nil)) (m_c (.int 65))) m_nil)))))
 (ms_seq (ms_set (g_nm 8) (m_app f_lst (m_cons (m_lam e0 0) m_nil)))
 (ms_seq (ms_expr (m_mL f_append (m_var 8) (m_cons (m_lam e0 1) m_nil)))
 (ms_seq (ms_expr (m_mL f_append (m_var 8) (m_cons (m_lam e0 2) m_nil)))
 (ms_seq (ms_expr (m_mL f_append (m_var 8) (m_cons (m_lam e0 3) m_nil)))
 (ms_seq (ms_expr (m_mL f_append (m_var 8) (m_cons (m_lam e0 4) m_nil)))
 (ms_seq (ms_expr (m_mL f_append (m_var 8) (m_cons (m_lam e0 5) m_nil)))
 (ms_seq (ms_expr (m_mL f_append (m_var 8) (m_cons (m_lam e0 6) m_nil)))
 (ms_seq (ms_expr (m_mL f_append (m_var 8) (m_cons (m_lam e0 7) m_nil)))
 (ms_seq (ms_expr (m_mL f_append (m_var 8) (m_cons (m_lam e0 8) m_nil)))
 (ms_seq (ms_expr (m_mL f_append (m_var 8) (m_cons (m_lam e0 9) m_nil)))
 (ms_seq (ms_expr (m_mL f_append (m_var 8) (m_cons (m_lam e0 10) m_nil)))
 (ms_seq (ms_if (m_tb (m_op f_ne (lc_law_all_refused_1 c e0) (m_op f_mulA (m_app f_lst (m_cons (m_c (.str "line")) m_nil)) (m_c (.int 11)))))
 (ms_ret (m_c (.bl false)))
 ms_pass)
 (ms_seq (ms_set (g_nm 8) (m_app f_lst (m_cons (m_lam e0 11) m_nil)))
 (ms_seq (ms_expr (m_mL f_append (m_var 8) (m_cons (m_lam e0 12) m_nil)))
 (ms_seq (ms_expr (m_mL f_append (m_var 8) (m_cons (m_lam e0 13) m_nil)))
 (ms_seq (ms_expr (m_mL f_append (m_var 8) (m_cons (m_lam e0 14) m_nil)))
 (ms_seq (ms_expr (m_mL f_append (m_var 8) (m_cons (m_lam e0 15) m_nil)))
 (ms_ret (m_op f_eq (lc_law_all_refused_2 c e0) (m_op f_add (m_op f_mulA (m_app f_lst (m_cons (m_c (.str "cycle")) m_nil)) (m_c (.int 3))) (m_op f_mulA (m_app f_lst (m_cons (m_c (.str "reading")) m_nil)) (m_c (.int 2))))))))))))))))))))))))))))
noncomputable def m_law_all_refused (c : Cs) : List IV → IH → Res IV := defRunF 10 (b_law_all_refused c)
noncomputable def le_law_named_1 (c : Cs) : Env → IH → Res IV := (m_op f_eq (m_var 6) (m_var 7))
noncomputable def lc_law_named_1 (c : Cs) : Env → IH → Res IV := m_lc [6, 7] (mi_lst (m_var 5)) (g_tup 2 (g_cons (g_nm 6) (g_cons (g_nm 7) g_nil))) n_yes (le_law_named_1 c)
noncomputable def b_law_named (c : Cs) : Env → IH → RS := (ms_seq (ms_par 1 2 (m_cons (m_app (f_call 1 [] (m_law_line c)) (m_cons (m_var 0) m_nil)) (m_cons (m_app (f_call 1 [] (m_law_line c)) (m_cons (m_var 0) m_nil)) m_nil)))
 (ms_seq (ms_par 3 4 (m_cons (m_app f_tup (m_cons (m_op f_ix (m_var 2) (m_c (.int 0))) (m_cons (m_op f_ix (m_var 1) (m_c (.int 1))) (m_cons (m_op f_ix (m_var 1) (m_c (.int 2))) m_nil)))) (m_cons (m_op f_sub (m_app (f_call 2 [] (m_law_next c)) (m_cons (m_var 0) (m_cons (m_c (.int 30)) m_nil))) (m_c (.int 15))) m_nil)))
 (ms_seq (ms_set (g_nm 5) (m_app f_lst (m_cons (m_app f_tup (m_cons (m_app (f_callK 2 2 (pick [1, 0]) (m_line_reading c)) (m_cons (m_c (.int 3)) (m_cons (m_var 1) m_nil))) (m_cons (m_app (f_call 2 [] (m_line_reading c)) (m_cons (m_var 1) (m_cons (m_c (.int 3)) m_nil))) m_nil))) m_nil)))
 (ms_seq (ms_expr (m_mL f_append (m_var 5) (m_cons (m_app f_tup (m_cons (m_app (f_callK 2 2 (pick [1, 0]) (m_first_reach c)) (m_cons (m_var 4) (m_cons (m_var 1) m_nil))) (m_cons (m_app (f_call 2 [] (m_first_reach c)) (m_cons (m_var 1) (m_cons (m_var 4) m_nil))) m_nil))) m_nil)))
 (ms_seq (ms_expr (m_mL f_append (m_var 5) (m_cons (m_app f_tup (m_cons (m_app (f_callK 2 2 (pick [1, 0]) (m_shows_run c)) (m_cons (m_var 4) (m_cons (m_var 1) m_nil))) (m_cons (m_app (f_call 2 [] (m_shows_run c)) (m_cons (m_var 1) (m_cons (m_var 4) m_nil))) m_nil))) m_nil)))
 (ms_seq (ms_expr (m_mL f_append (m_var 5) (m_cons (m_app f_tup (m_cons (m_app (f_callK 2 2 (pick [1, 0]) (m_first_apart c)) (m_cons (m_var 2) (m_cons (m_var 1) m_nil))) (m_cons (m_app (f_call 2 [] (m_first_apart c)) (m_cons (m_var 1) (m_cons (m_var 2) m_nil))) m_nil))) m_nil)))
 (ms_seq (ms_expr (m_mL f_append (m_var 5) (m_cons (m_app f_tup (m_cons (m_app (f_callK 2 2 (pick [1, 0]) (m_first_ahead c)) (m_cons (m_var 2) (m_cons (m_var 1) m_nil))) (m_cons (m_app (f_call 2 [] (m_first_ahead c)) (m_cons (m_var 1) (m_cons (m_var 2) m_nil))) m_nil))) m_nil)))
 (ms_seq (ms_expr (m_mL f_append (m_var 5) (m_cons (m_app f_tup (m_cons (m_app (f_callK 3 3 (pick [2, 1, 0]) (m_apart_many c)) (m_cons (m_c (.int 77)) (m_cons (m_var 3) (m_cons (m_var 1) m_nil)))) (m_cons (m_app (f_call 3 [] (m_apart_many c)) (m_cons (m_var 1) (m_cons (m_var 3) (m_cons (m_c (.int 77)) m_nil)))) m_nil))) m_nil)))
 (ms_ret (m_app f_all (m_cons (lc_law_named_1 c) m_nil)))))))))))
noncomputable def m_law_named (c : Cs) : List IV → IH → Res IV := defRun 8 (b_law_named c)
noncomputable def b_law_cell_at (c : Cs) : Env → IH → RS := (ms_seq (ms_if (m_tb (m_op f_lt (m_var 1) (m_app f_len (m_cons (m_var 0) m_nil))))
 (ms_ret (m_op f_ix (m_var 0) (m_var 1)))
 ms_pass)
 (ms_ret (m_c (.int 0))))
noncomputable def m_law_cell_at (c : Cs) : List IV → IH → Res IV := defRun 2 (b_law_cell_at c)
noncomputable def b_law_source (c : Cs) : Env → IH → RS := (ms_seq (ms_if (m_tb (m_op f_lt (m_var 1) (m_app f_len (m_cons (m_var 0) m_nil))))
 (ms_ret (m_app f_lst (m_cons (m_op f_ix (m_var 0) (m_var 1)) (m_cons (m_op f_ix (m_var 0) (m_var 1)) (m_cons (m_c (.int 0)) m_nil)))))
 ms_pass)
 (ms_seq (ms_set (g_nm 2) (m_app (f_call 2 [] (m_law_mixed c)) (m_cons (m_app (f_call 2 [] (m_law_cell_at c)) (m_cons (m_var 0) (m_cons (m_c (.int 0)) m_nil))) (m_cons (m_op f_add (m_c (.int 1000)) (m_var 1)) m_nil))))
 (ms_ret (m_app f_lst (m_cons (m_var 2) (m_cons (m_var 2) (m_cons (m_c (.int 0)) m_nil)))))))
noncomputable def m_law_source (c : Cs) : List IV → IH → Res IV := defRun 3 (b_law_source c)
noncomputable def lb_law_1 (c : Cs) : Env → IH → RS := (ms_if (m_or (m_not (m_tb (m_app (f_call 1 [] (m_law_all_refused c)) (m_cons (m_var 2) m_nil)))) (m_not (m_tb (m_app (f_call 1 [] (m_law_named c)) (m_cons (m_var 2) m_nil)))))
 (ms_ret (m_c (.bl false)))
 ms_pass)
noncomputable def lb_law_2 (c : Cs) : Env → IH → RS := (ms_seq (ms_set (g_nm 2) (m_app (f_call 2 [] (m_law_source c)) (m_cons (m_var 0) (m_cons (m_var 1) m_nil))))
 (ms_for (mi_rng1 (m_cons (m_c (.int 4)) m_nil)) (g_nm 3)
 (lb_law_1 c)))
noncomputable def b_law (c : Cs) : Env → IH → RS := (ms_seq (ms_for (mi_rng1 (m_cons (m_app f_min2 (m_cons (m_c (.int 4)) (m_cons (m_app f_max2 (m_cons (m_c (.int 1)) (m_cons (m_app f_len (m_cons (m_var 0) m_nil)) m_nil))) m_nil))) m_nil)) (g_nm 1)
 (lb_law_2 c))
 (ms_ret (m_c (.bl true))))
noncomputable def m_law (c : Cs) : List IV → IH → Res IV := defRun 4 (b_law c)
structure CsOk (c : Cs) : Prop where
  xm_NoCycle_KernelError : PySem.W.exmOne c.K (.ref c.NoCycle) (.ref c.KernelError) = some true
  xi_NoCycle_NoCycle : PySem.W.kitOne c.K (.ref c.NoCycle) (.ref c.NoCycle) = some true
  xi_NoCycle_NoLine : PySem.W.kitOne c.K (.ref c.NoCycle) (.ref c.NoLine) = some false
  xi_NoCycle_NoLooks : PySem.W.kitOne c.K (.ref c.NoCycle) (.ref c.NoLooks) = some false
  xi_NoCycle_NoRate : PySem.W.kitOne c.K (.ref c.NoCycle) (.ref c.NoRate) = some false
  xi_NoCycle_NoReading : PySem.W.kitOne c.K (.ref c.NoCycle) (.ref c.NoReading) = some false
  xi_NoCycle_NoWidth : PySem.W.kitOne c.K (.ref c.NoCycle) (.ref c.NoWidth) = some false
  xi_NoCycle_ValueError : PySem.W.kitOne c.K (.ref c.NoCycle) (.type "ValueError") = some true
  xc_NoCycle : ExcC c.K c.NoCycle
  xm_NoLine_KernelError : PySem.W.exmOne c.K (.ref c.NoLine) (.ref c.KernelError) = some true
  xi_NoLine_NoCycle : PySem.W.kitOne c.K (.ref c.NoLine) (.ref c.NoCycle) = some false
  xi_NoLine_NoLine : PySem.W.kitOne c.K (.ref c.NoLine) (.ref c.NoLine) = some true
  xi_NoLine_NoLooks : PySem.W.kitOne c.K (.ref c.NoLine) (.ref c.NoLooks) = some false
  xi_NoLine_NoRate : PySem.W.kitOne c.K (.ref c.NoLine) (.ref c.NoRate) = some false
  xi_NoLine_NoReading : PySem.W.kitOne c.K (.ref c.NoLine) (.ref c.NoReading) = some false
  xi_NoLine_NoWidth : PySem.W.kitOne c.K (.ref c.NoLine) (.ref c.NoWidth) = some false
  xi_NoLine_ValueError : PySem.W.kitOne c.K (.ref c.NoLine) (.type "ValueError") = some true
  xc_NoLine : ExcC c.K c.NoLine
  xm_NoReading_KernelError : PySem.W.exmOne c.K (.ref c.NoReading) (.ref c.KernelError) = some true
  xi_NoReading_NoCycle : PySem.W.kitOne c.K (.ref c.NoReading) (.ref c.NoCycle) = some false
  xi_NoReading_NoLine : PySem.W.kitOne c.K (.ref c.NoReading) (.ref c.NoLine) = some false
  xi_NoReading_NoLooks : PySem.W.kitOne c.K (.ref c.NoReading) (.ref c.NoLooks) = some false
  xi_NoReading_NoRate : PySem.W.kitOne c.K (.ref c.NoReading) (.ref c.NoRate) = some false
  xi_NoReading_NoReading : PySem.W.kitOne c.K (.ref c.NoReading) (.ref c.NoReading) = some true
  xi_NoReading_NoWidth : PySem.W.kitOne c.K (.ref c.NoReading) (.ref c.NoWidth) = some false
  xi_NoReading_ValueError : PySem.W.kitOne c.K (.ref c.NoReading) (.type "ValueError") = some true
  xc_NoReading : ExcC c.K c.NoReading
end L3
/-! L5: the draws that every law makes. -/
namespace L3
open PySem PySem.Spec PyProof.Rows L2
local macro_rules | `(tactic| walk_at "run") => `(tactic| simp only [m_op, m_var, m_c, m_un, m_nil, m_cons, m_if, m_and, m_or, m_not, m_tb, m_andV, m_orV, m_notV, m_app, m_sl, m_none, m_some, m_mL, m_mL0, ms_set, ms_expr, ms_ret, ms_retN, ms_pass, ms_brk, ms_cont, ms_if, ms_seq, ms_aug, ms_par, ms_setL, ms_raise,
  Res.bind_ok, Res.bind_exc, Res.bind_stuck, Res.stm_ok, Res.stm_exc, Res.stm_stuck, RS.seq_next, RS.seq_ret, RS.seq_brk, RS.seq_cont, RS.seq_exc, RS.seq_stuck, RS.out_ret, RS.out_next, RS.out_exc,
  startI_cons, startI_nil, rep_succ, rep_zero, List.getElem?_cons_zero, List.getElem?_cons_succ, List.set_cons_zero, List.set_cons_succ, defRun, g_nm, f_call, List.append_nil, List.nil_append, List.cons_append, List.length_cons, List.length_nil, if_true, if_false,
  a_int, a_add, a_addI, a_sub, a_neg, a_lt, a_le, a_gt, a_ge, a_max2, a_min2, a_abs, a_isN, a_notN, a_mul, a_mulI, a_fdiv, a_mod, a_shl, a_shr, a_pow, a_lst, a_tup, f_ix, f_len, f_list, f_append, f_setL, isLst, atI_0, atI_1, atI_2, atI_3, atI_4, atI_5, atI_6, atI_7, atI_8, atI_9, atI_10, atI_11, atI_12, ixN_30, ixN_31, ixN_32, Int.toNat_zero, Int.reduceToNat, Int.reduceNeg, xs_lst, xs_tup, xs_ro, xs_rot, isL_lst, isL_tup, isL_ro, isL_rot,
  Bool.false_eq_true, Bool.true_eq_false, Bool.not_true, Bool.not_false, decide_true, decide_false, ↓reduceIte, Int.reduceLT, Int.reduceLE, Nat.reduceLT, Nat.reduceLeDiff, Nat.reduceAdd, *])
/-- the script stands at 0 -/
def Scr (ns : List Int) (ih : IH) : Prop := ih[0]? = some (.ro (ns.map IV.int))
theorem atI_map {ns : List Int} {k : Nat} {i : Int} (hi : i = (k : Int)) (h : k < ns.length) : atI (ns.map IV.int) i = some (.int (ns.getD k 0)) := by
  refine atI_ok hi ?_
  rw [List.getElem?_map, List.getElem?_eq_getElem h, List.getD_eq_getElem?_getD, List.getElem?_eq_getElem h]
  rfl
theorem run_cell_at (c : Cs) {ns : List Int} {k : Nat} {ih : IH} (h : Scr ns ih) : m_law_cell_at c [.ref 0, .int (k : Int)] ih = .ok (.int (ns.getD k 0)) ih := by
  have e : (ns.map IV.int).length = ns.length := List.length_map _
  unfold m_law_cell_at b_law_cell_at
  have h' : ih[0]? = some (.ro (ns.map IV.int)) := h
  clear h
  by_cases hk : k < ns.length
  · have e1 : decide ((k : Int) < (ns.length : Int)) = true := decide_eq_true (by omega)
    have e2 := atI_map (i := (k : Int)) rfl hk
    clear hk
    walk_at "run"
  · have e1 : decide ((k : Int) < (ns.length : Int)) = false := decide_eq_false (by omega)
    have e2 : ns.getD k 0 = 0 := by
      rw [List.getD_eq_getElem?_getD, List.getElem?_eq_none (by omega)]
      rfl
    clear hk
    walk_at "run"
theorem lit {i : Int} (n : Nat) (h : i.natAbs < 2 ^ n := by decide) : B n i := h
theorem run_mixed (c : Cs) {a k : Int} (ih : IH) (ha : B 1100000 a) (hk : B 64 k) : ∃ v : Int, m_law_mixed c [.int a, .int k] ih = .ok (.int v) ih ∧ 0 ≤ v ∧ v < 2147483563 := by
  unfold m_law_mixed b_law_mixed
  have h1 : B 31 (a % 2147483629) := B.mod (by decide) (lit 31)
  have h2 : B 1100000 (a / 2147483629) := B.div ha (by decide)
  have h3 : B 1100016 (a / 2147483629 * 30011) := B.mul (m := 16) h2 (lit 16)
  have h4 : B 1100017 (a % 2147483629 + a / 2147483629 * 30011) := B.add (h1.mono (by decide)) h3
  have h5 : B 81 (69621 * k) := B.mul (n := 17) (lit 17) hk
  have h6 : B 1100018 (a % 2147483629 + a / 2147483629 * 30011 + 69621 * k) := B.add h4 (h5.mono (by decide))
  have h7 : B 1100019 (a % 2147483629 + a / 2147483629 * 30011 + 69621 * k + 1) := B.add h6 ((lit 1 : B 1 1).mono (by decide))
  have c1 : cDiv a 2147483629 = true := cDiv_of (by decide) (lit 32) (by decide) (by decide)
  have c2 : cMul (a / 2147483629) 30011 = true := B.cmul h2 (lit 16 : B 16 30011) (by decide)
  have c3 : cMul 69621 k = true := B.cmul (lit 17 : B 17 69621) hk (by decide)
  have c4 : cMul (a % 2147483629 + a / 2147483629 * 30011 + 69621 * k + 1) 48271 = true := B.cmul h7 (lit 16 : B 16 48271) (by decide)
  obtain ⟨x, ex⟩ : ∃ x, (a % 2147483629 + a / 2147483629 * 30011 + 69621 * k + 1) * 48271 % 2147483629 = x := ⟨_, rfl⟩
  have g1 : B 31 x := ex ▸ B.mod (by decide) (lit 31)
  have g2 : B 66 (x / 907 + 16831 + k) := B.add (B.add (n := 64) ((B.div g1 (by decide)).mono (by decide)) ((lit 15 : B 15 16831).mono (by decide))) (hk.mono (by decide))
  have c5 : cDiv x 907 = true := cDiv_of (by decide) (lit 10 : B 10 907) (by decide) (by decide)
  have c6 : cMul x (x / 907 + 16831 + k) = true := B.cmul g1 g2 (by decide)
  obtain ⟨y, ey⟩ : ∃ y, x * (x / 907 + 16831 + k) % 2147483587 = y := ⟨_, rfl⟩
  have k1 : B 31 y := ey ▸ B.mod (by decide) (lit 31)
  have k2 : B 32 (y / 1201 + 30011) := B.add ((B.div k1 (by decide)).mono (by decide)) ((lit 15 : B 15 30011).mono (by decide))
  have c7 : cDiv y 1201 = true := cDiv_of (by decide) (lit 11 : B 11 1201) (by decide) (by decide)
  have c8 : cMul y (y / 1201 + 30011) = true := B.cmul k1 k2 (by decide)
  clear h1 h2 h3 h4 h5 h6 h7 g1 g2 k1 k2 ha hk
  walk_at "run"
  exact ⟨_, rfl, Int.emod_nonneg _ (by decide), Int.emod_lt_of_pos _ (by decide)⟩
/-- a source of draws at p; so many draws were made off it at most -/
def Src0 (p : Nat) (m : Nat) (ih : IH) : Prop := ∃ a b k : Int, ih[p]? = some (.lst [.int a, .int b, .int k]) ∧ B 1100000 a ∧ B 1100000 b ∧ 0 ≤ k ∧ k ≤ (m : Int)
theorem Src0.mono {p m n : Nat} {ih : IH} (h : Src0 p m ih) (e : m ≤ n) : Src0 p n ih := by
  obtain ⟨a, b, k, h1, h2, h3, h4, h5⟩ := h
  exact ⟨a, b, k, h1, h2, h3, h4, by omega⟩
theorem Src0.ext {p m : Nat} {ih ih' : IH} (h : Src0 p m ih) (e : Ext ih ih') : Src0 p m ih' := by
  obtain ⟨a, b, k, h1, h2⟩ := h
  exact ⟨a, b, k, e _ _ h1, h2⟩
theorem B64 {k : Int} {m : Nat} (h0 : 0 ≤ k) (h : k ≤ (m : Int)) (hm : m ≤ 1000000000) : B 64 k := B.lt h0 (by omega)
theorem at3_0 {a b k : IV} : atI [a, b, k] (0 : Int) = some a := rfl
theorem at3_1 {a b k : IV} : atI [a, b, k] (1 : Int) = some b := rfl
theorem at3_2 {a b k : IV} : atI [a, b, k] (2 : Int) = some k := rfl
theorem run_next (c : Cs) {p m : Nat} {many : Int} {ih : IH} (h : Src0 p m ih) (hm : m ≤ 1000000) (h0 : 0 < many) (hb : B 8000 many) : ∃ (v : Int) (ih' : IH), m_law_next c [.ref p, .int many] ih = .ok (.int v) ih' ∧ 0 ≤ v ∧ v < many ∧ Src0 p (m + 1) ih' ∧ ExtP p ih ih' ∧ ih'.length = ih.length := by
  obtain ⟨a, b, k, h1, ha, hbb, hk0, hk⟩ := h
  unfold m_law_next b_law_next
  have p1 : cPow 10 18 = true := by decide
  by_cases hc : (10 : Int) ^ 18 ≤ a
  · refine ⟨a % many, ih.set p (.lst [.int (a / many), .int b, .int k]), ?_, Int.emod_nonneg _ (Int.ne_of_gt h0), Int.emod_lt_of_pos _ h0, ⟨_, b, k, get_set h1, B.div ha h0, hbb, hk0, by omega⟩, ExtP.set _ _ _, List.length_set⟩
    have c1 := decide_eq_true hc
    have c2 : cDiv a many = true := cDiv_of h0 hb (by decide) (by decide)
    clear hc hb ha hbb hk0 hk hm
    walk_at "run"
  · obtain ⟨v, e3, v0, v1⟩ := run_mixed c (ih.set p (MO.lst [.int a, .int b, .int (k + 1)])) hbb (B64 (k := k + 1) (m := m + 1) (by omega) (by omega) (by omega))
    have e2 := get_set (o := MO.lst [.int a, .int b, .int (k + 1)]) h1
    refine ⟨v % many, ih.set p (MO.lst [.int a, .int b, .int (k + 1)]), ?_, Int.emod_nonneg _ (Int.ne_of_gt h0), Int.emod_lt_of_pos _ h0, ⟨a, b, k + 1, e2, ha, hbb, by omega, by omega⟩, ExtP.set _ _ _, List.length_set⟩
    have c1 := decide_eq_false hc
    clear hc hb ha hbb hk0 hk hm v0 v1
    walk_at "run"
theorem run_source (c : Cs) {ns : List Int} {k : Nat} {ih : IH} (h : Scr ns ih) (hb : ∀ z ∈ ns, ibits z ≤ 1048576) (hk : k ≤ 1000000) : ∃ ih', m_law_source c [.ref 0, .int (k : Int)] ih = .ok (.ref ih.length) ih' ∧ Src0 ih.length 0 ih' ∧ Ext ih ih' ∧ ih'.length = ih.length + 1 := by
  have e : (MO.ro (ns.map IV.int)).xs.length = ns.length := List.length_map _
  have bz : ∀ j, B 1100000 (ns.getD j 0) := fun j => by
    by_cases hj : j < ns.length
    · rw [List.getD_eq_getElem?_getD, List.getElem?_eq_getElem hj]
      exact (B.of_ib (hb _ (List.getElem_mem hj))).mono (by decide)
    · rw [List.getD_eq_getElem?_getD, List.getElem?_eq_none (by omega)]
      exact lit 1100000 (Nat.two_pow_pos _)
  unfold m_law_source b_law_source
  have h' : ih[0]? = some (.ro (ns.map IV.int)) := h
  have e : (ns.map IV.int).length = ns.length := List.length_map _
  have l3 : ∀ a b k : IV, [a, b, k].length ≤ 100000 := fun _ _ _ => by simp
  by_cases hk2 : k < ns.length
  · refine ⟨_, ?_, ⟨_, _, 0, get_new _ _, bz k, bz k, by omega, by omega⟩, Ext.app _ _, by simp⟩
    have e1 : decide ((k : Int) < (ns.length : Int)) = true := decide_eq_true (by omega)
    have e2 := atI_map (i := (k : Int)) rfl hk2
    clear hk hk2 h bz hb
    walk_at "run"
  · obtain ⟨v, e3, v0, v1⟩ := run_mixed c (a := ns.getD 0 0) (k := 1000 + (k : Int)) ih (bz 0) (B.lt (by omega) (by omega))
    refine ⟨_, ?_, ⟨v, v, 0, get_new _ _, (B.lt (n := 40) v0 (by omega)).mono (by decide), (B.lt (n := 40) v0 (by omega)).mono (by decide), by omega, by omega⟩, Ext.app _ _, by simp⟩
    have e1 : decide ((k : Int) < (ns.length : Int)) = false := decide_eq_false (by omega)
    have e4 : m_law_cell_at c [.ref 0, .int 0] ih = .ok (.int (ns.getD 0 0)) ih := run_cell_at (k := 0) c h
    clear hk hk2 h bz hb v0 v1
    walk_at "run"
end L3
/-! D1: the draws, backwards. -/
namespace L3
open PySem PySem.Spec PyProof.Rows L2
theorem ExtP.fr {p : Nat} {a b : IH} (h : ExtP p a b) : Fr p a b := fun n l ne => by
  rw [List.getElem?_eq_getElem l]
  exact h n _ ne (List.getElem?_eq_getElem l)
theorem Src0.lt {p m : Nat} {ih : IH} (h : Src0 p m ih) : p < ih.length := by
  obtain ⟨_, _, _, g, _⟩ := h
  exact lt_of_get g
theorem Src0.fx {p m : Nat} {a b : IH} (h : Src0 p m a) (e : Fx a b) : Src0 p m b := h.ext e.ext
theorem Src0.app {p m : Nat} {a : IH} {o : MO} (h : Src0 p m a) : Src0 p m (a ++ [o]) := h.fx Fx.app
theorem Src0.set {p m n : Nat} {a : IH} {o : MO} (h : Src0 p m a) (e : n ≠ p) : Src0 p m (a.set n o) := by
  obtain ⟨x, y, k, g, r⟩ := h
  exact ⟨x, y, k, by rw [g_sne e]; exact g, r⟩
theorem w_next (c : Cs) {p m : Nat} {many : Int} {ih : IH} {Q : PQ IV} {E : EQ} (h : Src0 p m ih) (h0 : 0 < many) (hb : B 8000 many) (hm : m ≤ 1000000)
    (k : ∀ v ih', 0 ≤ v → v < many → Src0 p (m + 1) ih' → Fr p ih ih' → ih'.length = ih.length → Q (.int v) ih') : wp (m_law_next c [.ref p, .int many] ih) Q E := by
  obtain ⟨v, ih', e, a, b, s, x, l⟩ := run_next c h hm h0 hb
  exact wp.of e (k v ih' a b s x.fr l)
theorem w_source (c : Cs) {ns : List Int} {k : Nat} {ih : IH} {Q : PQ IV} {E : EQ} (h : Scr ns ih) (hb : ∀ z ∈ ns, ibits z ≤ 1048576) (hk : k ≤ 1000000)
    (q : ∀ ih', Src0 ih.length 0 ih' → Fx ih ih' → ih'.length = ih.length + 1 → Q (.ref ih.length) ih') : wp (m_law_source c [.ref 0, .int (k : Int)] ih) Q E := by
  obtain ⟨ih', e, s, x, l⟩ := run_source c h hb hk
  exact wp.of e (q ih' s x.fx l)
end L3
/-! L9: comprehensions whose parts allocate or draw; rows of pairs. -/
namespace L3
open PySem PySem.Spec PyProof.Rows L2
section
variable {Q : PQ IV} {E : EQ} {env : Env} {ih : IH}
/-- a comprehension, with an invariant -/
theorem lc_gen {vs : List Nat} {g : IV → Env → IH → Option Env} {mt : Env → IH → Res Bool} {me : Env → IH → Res IV} {s : Src} (k : Nat) (P : Nat → List IV → IH → Prop) (hk : k ≤ s.size ih) (h0 : P 0 [] (ih ++ [.lst []]))
    (turn : ∀ i acc ih', i < k → P i acc ih' → ih'[ih.length]? = some (.lst acc) → ∃ v ih1 env1, s.turn i ih' = .item v ih1 ∧ g v (wipeI env vs) ih1 = some env1 ∧ wp (mt env1 ih1) (fun b ih2 => (b = false → ih2[ih.length]? = some (.lst acc) ∧ P (i + 1) acc ih2) ∧
      (b = true → wp (me env1 ih2) (fun y ih3 => ih3[ih.length]? = some (.lst acc) ∧ acc.length < 100000 ∧ P (i + 1) (acc ++ [y]) (ih3.set ih.length (.lst (acc ++ [y])))) E0)) E0)
    (stop : ∀ acc ih', P k acc ih' → ih'[ih.length]? = some (.lst acc) → s.turn k ih' = .stop)
    (fin : ∀ acc ih', P k acc ih' → ih'[ih.length]? = some (.lst acc) → Q (.ref ih.length) ih') : k_lc vs g mt me env Q E s ih := by
  obtain ⟨acc', ih', e1, e2, e3⟩ := lcGo_ind (s := s) (g := g) (n := mt) (me := me) (d := ih.length) (env := wipeI env vs) k P
    (fun i acc ih' hi hp hd => by
      obtain ⟨v, ih1, env1, t1, t2, t3⟩ := turn i acc ih' hi hp hd
      obtain ⟨b, ih2, e1, e2, e3⟩ := t3.out
      refine ⟨v, ih1, env1, b, ih2, t1, t2, e1, e2, fun hb => ?_⟩
      obtain ⟨y, ih3, f1, f2, f3, f4⟩ := (e3 hb).out
      exact ⟨y, ih3, f1, f2, f3, f4⟩)
    stop (s.size ih + 1) 0 [] (ih ++ [.lst []]) (Nat.zero_le _) (by omega) h0 (get_new _ _)
  exact wp.of e1 (fin acc' ih' e3 e2)
/-- over a range, with a test that allocates -/
theorem lc_rngA {vs : List Nat} {i : Nat} {mt : Env → IH → Res Bool} {me : Env → IH → Res IV} {j : Nat} {lo : Int} (T : Nat → Bool) (F : Nat → IV) (hz : j < 100000)
    (ht : ∀ k, k < j → ∀ ih', Fx ih ih' → ih.length ≤ ih'.length → wp (mt ((wipeI env vs).set i (some (.int (lo + (k : Int))))) ih') (fun v ih'' => v = T k ∧ Fx ih' ih'' ∧ ih'.length ≤ ih''.length) E0)
    (he : ∀ k, k < j → T k = true → ∀ ih', Fx ih ih' → ih.length ≤ ih'.length → wp (me ((wipeI env vs).set i (some (.int (lo + (k : Int))))) ih') (fun v ih'' => v = F k ∧ Fx ih' ih'' ∧ ih'.length ≤ ih''.length) E0)
    (q : ∀ ih', Fx ih ih' → ih.length < ih'.length → ih'[ih.length]? = some (.lst (((List.range j).filter T).map F)) → Q (.ref ih.length) ih') : k_lc vs (g_nm i) mt me env Q E (.rng lo 1 j) ih := by
  refine lc_gen j (fun k acc ih' => acc = ((List.range k).filter T).map F ∧ Fx ih ih' ∧ ih.length < ih'.length) (Nat.le_refl _) ⟨by simp, Fx.app, by simp⟩ (fun k acc ih' hk ⟨ha, fx, lx⟩ hd => ?_) (fun acc ih' _ _ => stop_rng) fun acc ih' ⟨ha, fx, lx⟩ hd => q ih' fx lx (by rw [← ha]; exact hd)
  have e0 : lo + (k : Int) * 1 = lo + (k : Int) := by omega
  refine ⟨.int (lo + (k : Int)), _, _, by rw [turn_rng hk, e0], rfl, (ht k hk ih' fx (by omega)).imp (fun v ih2 ⟨hv, f2, l2⟩ => ⟨fun hb => ⟨by rw [f2 _ lx]; exact hd, ?_, fx.trans f2 (by omega), by omega⟩, fun hb => (he k hk (by rw [← hv]; exact hb) ih2 (fx.trans f2 (by omega)) (by omega)).imp (fun y ih3 ⟨hy, f3, l3⟩ => ⟨by rw [f3 _ (by omega), f2 _ lx]; exact hd, ?_, ?_, ?_, ?_⟩) fun _ _ h => h⟩) fun _ _ h => h⟩
  · rw [List.range_succ, List.filter_append, ha, List.filter_cons, ← hv, hb]
    simp
  · rw [ha, List.length_map]
    exact Nat.lt_of_le_of_lt (List.length_filter_le _ _) (by rw [List.length_range]; omega)
  · rw [List.range_succ, List.filter_append, ha, List.filter_cons, ← hv, hb, hy]
    simp
  · exact ((fx.trans f2 (by omega)).trans f3 (by omega)).set (Nat.le_refl _)
  · rw [List.length_set]
    omega
end
/-- rows: references to pairs of ints -/
def PR (ih : IH) : List IV → List (Int × Int) → Prop
  | [], [] => True
  | .ref t :: xs, r :: rs => ih[t]? = some (.tup [.int r.1, .int r.2]) ∧ PR ih xs rs
  | _, _ => False
theorem PR.len {ih : IH} : ∀ {xs : List IV} {rs : List (Int × Int)}, PR ih xs rs → xs.length = rs.length
  | [], [], _ => rfl
  | .ref t :: xs, r :: rs, h => by
    rw [List.length_cons, List.length_cons, PR.len h.2]
theorem PR.mono {a b : IH} (f : ∀ (t : Nat) (i j : Int), a[t]? = some (.tup [.int i, .int j]) → b[t]? = some (.tup [.int i, .int j])) : ∀ {xs : List IV} {rs : List (Int × Int)}, PR a xs rs → PR b xs rs
  | [], [], _ => trivial
  | .ref t :: xs, r :: rs, h => ⟨f _ _ _ h.1, PR.mono f h.2⟩
theorem PR.fx {a b : IH} {xs : List IV} {rs : List (Int × Int)} (h : PR a xs rs) (f : Fx a b) : PR b xs rs := h.mono fun t i j e => by rw [f t (lt_of_get e)]; exact e
theorem PR.fr {a b : IH} {p : Nat} {o : List IV} {xs : List IV} {rs : List (Int × Int)} (h : PR a xs rs) (f : Fr p a b) (hp : a[p]? = some (.lst o)) : PR b xs rs := h.mono fun t i j e => by
  by_cases ht : t = p
  · subst ht
    rw [hp] at e
    cases e
  · rw [f t (lt_of_get e) ht]
    exact e
theorem PR.get {ih : IH} : ∀ {xs : List IV} {rs : List (Int × Int)} {i : Nat} {x : IV}, PR ih xs rs → xs[i]? = some x → ∃ t r, x = .ref t ∧ rs[i]? = some r ∧ ih[t]? = some (.tup [.int r.1, .int r.2])
  | .ref t :: xs, r :: rs, 0, x, h, e => ⟨t, r, (Option.some.inj e).symm, rfl, h.1⟩
  | .ref t :: xs, r :: rs, i + 1, x, h, e => PR.get (i := i) h.2 e
theorem PR.take {ih : IH} : ∀ {xs : List IV} {rs : List (Int × Int)} (n : Nat), PR ih xs rs → PR ih (xs.take n) (rs.take n)
  | _, _, 0, _ => trivial
  | [], [], n + 1, _ => trivial
  | .ref t :: xs, r :: rs, n + 1, h => ⟨h.1, PR.take n h.2⟩
theorem PR.app {ih : IH} {t : Nat} {r : Int × Int} (ht : ih[t]? = some (.tup [.int r.1, .int r.2])) : ∀ {xs : List IV} {rs : List (Int × Int)}, PR ih xs rs → PR ih (xs ++ [.ref t]) (rs ++ [r])
  | [], [], _ => ⟨ht, trivial⟩
  | .ref _ :: xs, _ :: rs, h => ⟨h.1, PR.app ht h.2⟩
theorem PR.append {ih : IH} : ∀ {xs ys : List IV} {rs ss : List (Int × Int)}, PR ih xs rs → PR ih ys ss → PR ih (xs ++ ys) (rs ++ ss)
  | [], _, [], _, _, k => k
  | .ref _ :: xs, _, _ :: rs, _, h, k => ⟨h.1, PR.append h.2 k⟩
theorem g_pairR {i j n : Nat} {v w : IV} {env : Env} {ih : IH} (h : ih[n]? = some (.tup [v, w])) : g_tup 2 (g_cons (g_nm i) (g_cons (g_nm j) g_nil)) (.ref n) env ih = some ((env.set i (some v)).set j (some w)) := by
  unfold g_tup
  dsimp only
  rw [h]
  rfl
/-- [me for a, b in rows], the element leaves the heap -/
theorem lc_rows {Q : PQ IV} {E : EQ} {env : Env} {ih : IH} {vs : List Nat} {i j n : Nat} {me : Env → IH → Res IV} {o : MO} {rs : List (Int × Int)} (F : Int × Int → IV) (ho : ih[n]? = some o) (hl : o.isL = true) (pr : PR ih o.xs rs) (hz : rs.length < 100000)
    (he : ∀ r ∈ rs, ∀ ih', Fx ih ih' → wp (me (((wipeI env vs).set i (some (.int r.1))).set j (some (.int r.2))) ih') (fun v ih'' => v = F r ∧ ih'' = ih') E0)
    (q : Q (.ref ih.length) (ih ++ [.lst (rs.map F)])) : k_lc vs (g_tup 2 (g_cons (g_nm i) (g_cons (g_nm j) g_nil))) n_yes me env Q E (.lst n) ih := by
  have hs : (Src.lst n).size ih = o.xs.length := by
    unfold Src.size
    dsimp only
    rw [ho]
  refine lc_gen o.xs.length (fun k acc ih' => acc = (rs.take k).map F ∧ ih' = ih ++ [.lst acc]) (by rw [hs]; exact Nat.le_refl _) ⟨by simp, rfl⟩ (fun k acc ih' hk ⟨ha, ei⟩ hd => ?_) (fun acc ih' ⟨_, ei⟩ _ => ?_) fun acc ih' ⟨ha, ei⟩ hd => ?_
  · subst ei
    have hx : o.xs[k]? = some o.xs[k] := List.getElem?_eq_getElem hk
    obtain ⟨t, r, e1, e2, e3⟩ := pr.get hx
    have ho' : (ih ++ [MO.lst acc])[n]? = some o := by rw [g_old (lt_of_get ho)]; exact ho
    have e3' : (ih ++ [MO.lst acc])[t]? = some (.tup [.int r.1, .int r.2]) := by rw [g_old (lt_of_get e3)]; exact e3
    have hr : r ∈ rs := List.mem_of_getElem? e2
    have hkr : k < rs.length := (List.getElem?_eq_some_iff.mp e2).1
    with_unfolding_all refine ⟨.ref t, _, _, by rw [turn_lst ho' hl hx, e1], g_pairR e3', ⟨(fun h => nomatch h), fun _ => wp.imp (he r hr _ Fx.app) (fun v ih2 hvi => ?_) fun _ _ h => h⟩⟩
    obtain ⟨hv, hi⟩ := hvi
    subst hi hv
    refine ⟨hd, ?_, ?_, ?_⟩
    · rw [ha, List.length_map, List.length_take]
      omega
    · rw [List.take_add_one, e2, ha, List.map_append]
      rfl
    · rw [set_append_last]
  · subst ei
    exact stop_lst (by rw [g_old (lt_of_get ho)]; exact ho) hl
  · rw [pr.len, List.take_length] at ha
    rw [ei, ha]
    exact q
/-- sorted of two rows -/
theorem wp_sortP2 {Q : PQ IV} {E : EQ} {ih : IH} {n s t : Nat} {a b x y : Int} (h : ih[n]? = some (.lst [.ref s, .ref t])) (hs : ih[s]? = some (.tup [.int a, .int b])) (ht : ih[t]? = some (.tup [.int x, .int y]))
    (q1 : (x < a ∨ (x = a ∧ y < b)) → Q (.ref ih.length) (ih ++ [.lst [.ref t, .ref s]])) (q2 : ¬ (x < a ∨ (x = a ∧ y < b)) → Q (.ref ih.length) (ih ++ [.lst [.ref s, .ref t]])) : wp (f_sortP [.ref n] ih) Q E := by
  have k1 : kI ih (.ref s) = (a, b) := by
    unfold kI
    dsimp only
    rw [hs]
  have k2 : kI ih (.ref t) = (x, y) := by
    unfold kI
    dsimp only
    rw [ht]
  have p1 : isPr ih (.ref s) = true := by
    unfold isPr
    dsimp only
    rw [hs]
  have p2 : isPr ih (.ref t) = true := by
    unfold isPr
    dsimp only
    rw [ht]
  have e : f_sortP [.ref n] ih = .ok (.ref ih.length) (ih ++ [.lst (isB (ltI ih) [] [.ref s, .ref t])]) := by
    unfold f_sortP
    dsimp only
    rw [h]
    dsimp only
    rw [if_pos ⟨rfl, by rw [xs_lst]; simp [p1, p2]⟩]
    rfl
  refine wp.of e ?_
  have e2 : isB (ltI ih) [] [.ref s, .ref t] = if SrtO.lexB (x, y) (a, b) = true then [.ref t, .ref s] else [.ref s, .ref t] := by
    show insB (ltI ih) (.ref t) [.ref s] = _
    unfold insB
    show (if SrtO.lexB (kI ih (.ref t)) (kI ih (.ref s)) = true then _ else _) = _
    rw [k1, k2]
    rfl
  rw [e2]
  by_cases hh : SrtO.lexB (x, y) (a, b) = true
  · rw [if_pos hh]
    exact q1 (by simpa using SrtO.lexB_iff.mp hh)
  · rw [if_neg hh]
    refine q2 fun hc => hh (SrtO.lexB_iff.mpr (by simpa using hc))
theorem wp_max1 {Q : PQ IV} {E : EQ} {ih : IH} {n : Nat} (ns : List Int) (h : ih[n]? = some (.lst (ns.map IV.int))) (hn : 0 < ns.length) (q : ∀ m, m ∈ ns → (∀ y ∈ ns, y ≤ m) → Q (.int m) ih) : wp (f_max1 [.ref n] ih) Q E := by
  have e : f_max1 [.ref n] ih = .ok (.int (maxI ns)) ih := by
    unfold f_max1 f_ints
    dsimp only
    rw [h]
    dsimp only
    rw [if_pos (isL_lst _), xs_lst, ints?_map]
    dsimp only
    rw [if_pos hn]
  exact wp.of e (q _ (maxI_spec hn).1 (maxI_spec hn).2)
theorem wp_min1 {Q : PQ IV} {E : EQ} {ih : IH} {n : Nat} (ns : List Int) (h : ih[n]? = some (.lst (ns.map IV.int))) (hn : 0 < ns.length) (q : ∀ m, m ∈ ns → (∀ y ∈ ns, m ≤ y) → Q (.int m) ih) : wp (f_min1 [.ref n] ih) Q E := by
  have e : f_min1 [.ref n] ih = .ok (.int (minI ns)) ih := by
    unfold f_min1 f_ints
    dsimp only
    rw [h]
    dsimp only
    rw [if_pos (isL_lst _), xs_lst, ints?_map]
    dsimp only
    rw [if_pos hn]
  exact wp.of e (q _ (minI_spec hn).1 (minI_spec hn).2)
/-! ### an int or None -/
def ofO : Option Int → IV
  | some i => .int i
  | none => .non
def oD : Option Int → PyData
  | some i => .int i
  | none => .none
theorem Is.ofO {ih : IH} : ∀ x : Option Int, Is ih (ofO x) (oD x)
  | some i => .int i
  | none => .non
theorem shaped_oD : ∀ x : Option Int, SeqAt.shaped (oD x) = true
  | some i => shaped_int i
  | none => by simp [oD, SeqAt.shaped, PyData.canLay0, PyData.depth]
theorem Is.fx {a b : IH} {d : PyData} {v : IV} (h : Is a v d) (f : Fx a b) : Is b v d := Is.ext f.ext d v h
theorem cutI_take {xs : List IV} {k : Nat} (h : k ≤ xs.length) : cutI xs none (some (k : Int)) = xs.take k := by
  unfold cutI
  rw [HT.sIx_none]
  have e : HT.sIx xs.length xs.length (some (k : Int)) = k := by
    have h2 := HT.clip_eq (k : Int) xs.length xs.length
    rw [if_neg (by omega)] at h2
    omega
  rw [e, List.drop_zero, Nat.sub_zero]
def prD (r : Int × Int) : PyData := .tuple [.int r.1, .int r.2]
theorem canLay_prs : ∀ rs : List (Int × Int), PyData.canLayAll0 (rs.map prD) = true
  | [] => by simp [PyData.canLayAll0]
  | r :: rs => by simp [prD, PyData.canLayAll0, PyData.canLay0, canLay_prs rs]
theorem depth_prs : ∀ rs : List (Int × Int), PyData.depthAll (rs.map prD) ≤ 3
  | [] => by simp [PyData.depthAll]
  | r :: rs => by
    have := depth_prs rs
    simp only [List.map_cons, PyData.depthAll, prD, PyData.depth]
    omega
theorem PR.is {ih : IH} : ∀ {xs : List IV} {rs : List (Int × Int)}, PR ih xs rs → IsAll ih xs (rs.map prD)
  | [], [], _ => .nil
  | .ref t :: xs, r :: rs, h => .cons (.tup h.1 rfl (.cons (.int r.1) (.cons (.int r.2) .nil))) (PR.is h.2)
end L3
/-! L12: lambdas, run backwards. -/
namespace L3
open PySem PySem.Spec PyProof.Rows L2
def k_callL (g : Nat → (IV → IH → Res IV) → List IV → IH → Res IV) (lam : IV → IH → Res IV) (Q : PQ IV) : PQ (List IV) := fun xs ih => wp (g ih.length lam (xs ++ [.ref ih.length]) (ih ++ [.clo])) Q E0
def k_fits2 (lam : IV → IH → Res IV) (Q : PQ IV) : PQ IV := fun x ih => wp (lam x ih) Q E0
def k_fits (n : Nat) (lam : IV → IH → Res IV) (me : Env → IH → Res IV) (env : Env) (ih : IH) (Q : PQ IV) (E : EQ) : Option (Option IV) → Prop
  | some (some (.ref m)) => m = n ∧ wp (me env ih) (k_fits2 lam Q) E
  | _ => False
section
variable {g : Nat → (IV → IH → Res IV) → List IV → IH → Res IV} {lam : IV → IH → Res IV} {laE : Env → IV → IH → Res IV} {ma : Env → IH → Res (List IV)} {me : Env → IH → Res IV} {env : Env} {ih : IH} {Q : PQ IV} {E : EQ} {i n p : Nat} {x : IV} {xs : List IV}
theorem wp_callL : wp (m_callL g laE ma env ih) Q E = wp (ma env ih) (k_callL g (laE env) Q) E := by
  unfold m_callL
  rw [wp_bind]
  congr 1
  funext xs ih
  unfold k_callL
  cases g ih.length (laE env) (xs ++ [.ref ih.length]) (ih ++ [.clo]) <;> with_unfolding_all rfl
theorem callL_new (k : ∀ n ih', ih.length = n → n < ih'.length → ih'.length = n + 1 → Fx ih ih' → ih'[n]? = some .clo → wp (g n lam (xs ++ [.ref n]) ih') Q E0) : k_callL g lam Q xs ih := k _ _ rfl (by simp) (by simp) Fx.app g_new
theorem wp_fits : wp (m_fits i n lam me env ih) Q E = k_fits n lam me env ih Q E env[i]? := by
  unfold m_fits
  split
  · rename_i m e
    rw [e]
    show _ = (m = n ∧ wp (me env ih) (k_fits2 lam Q) E)
    by_cases h : m = n
    · rw [if_pos h, eq_true h, true_and, wp_bind]
      congr 1
      funext x ih
      unfold k_fits2
      cases lam x ih <;> with_unfolding_all rfl
    · rw [if_neg h, eq_false h, false_and]
      with_unfolding_all rfl
  · rename_i h
    unfold k_fits
    split
    · rename_i m e
      exact absurd e (h m)
    · with_unfolding_all rfl
theorem kk_fits : k_fits n lam me env ih Q E (some (some (.ref n))) = wp (me env ih) (k_fits2 lam Q) E := by
  show (n = n ∧ _) = _
  rw [eq_self, true_and]
theorem kk_fits2 : k_fits2 lam Q x ih = wp (lam x ih) Q E0 := rfl
theorem wp_lamB {ml : Env → IH → Res IV} : wp (lamB p ml env x ih) Q E = wp (ml (env.set p (some x)) ih) Q E := rfl
def minL : List Int → IV
  | [] => .non
  | a :: r => .int (minI (a :: r))
theorem wp_minDL {ns : List Int} (h : ih[n]? = some (.lst (ns.map IV.int))) (q : Q (minL ns) ih) : wp (f_minD (.ref n) ih) Q E := by
  unfold f_minD
  dsimp only
  rw [h]
  dsimp only
  have e : ints? (ns.map IV.int) = some ns := by
    clear h q
    induction ns with
    | nil => rfl
    | cons a r ih =>
      rw [List.map_cons]
      unfold ints?
      rw [ih]
      rfl
  rw [e]
  cases ns with
  | nil => with_unfolding_all exact q
  | cons a r => with_unfolding_all exact q
end
end L3
/-! N14: sums of floors; the first cycle at which one line reads more. -/
namespace L3
def sumN (f : Nat → Int) : Nat → Int
  | 0 => 0
  | n + 1 => sumN f n + f n
theorem sumN_congr {f g : Nat → Int} : ∀ {n : Nat}, (∀ i, i < n → f i = g i) → sumN f n = sumN g n
  | 0, _ => rfl
  | n + 1, h => by
    unfold sumN
    rw [sumN_congr fun i hi => h i (by omega), h n (by omega)]
theorem sumN_front (f : Nat → Int) : ∀ n : Nat, sumN f (n + 1) = f 0 + sumN (fun i => f (i + 1)) n
  | 0 => by
    show (0 : Int) + f 0 = f 0 + 0
    omega
  | n + 1 => by
    have h := sumN_front f n
    show sumN f (n + 1) + f (n + 1) = f 0 + (sumN (fun i => f (i + 1)) n + f (n + 1))
    omega
theorem sumN_rev (f : Nat → Int) : ∀ n : Nat, sumN (fun k => f (n - 1 - k)) n = sumN f n
  | 0 => rfl
  | n + 1 => by
    rw [sumN_front]
    have e : sumN (fun i => f (n + 1 - 1 - (i + 1))) n = sumN (fun k => f (n - 1 - k)) n := sumN_congr fun i hi => by
      congr 1
      omega
    rw [e, sumN_rev f n]
    show f (n + 1 - 1 - 0) + sumN f n = sumN f n + f n
    rw [show n + 1 - 1 - 0 = n by omega]
    omega
theorem sumN_add (f g : Nat → Int) : ∀ n : Nat, sumN (fun i => f i + g i) n = sumN f n + sumN g n
  | 0 => rfl
  | n + 1 => by
    have h := sumN_add f g n
    show sumN (fun i => f i + g i) n + (f n + g n) = (sumN f n + f n) + (sumN g n + g n)
    omega
theorem sumN_sub (f g : Nat → Int) : ∀ n : Nat, sumN (fun i => f i - g i) n = sumN f n - sumN g n
  | 0 => rfl
  | n + 1 => by
    have h := sumN_sub f g n
    show sumN (fun i => f i - g i) n + (f n - g n) = (sumN f n + f n) - (sumN g n + g n)
    omega
theorem sumN_nn {f : Nat → Int} : ∀ {n : Nat}, (∀ i, i < n → 0 ≤ f i) → 0 ≤ sumN f n
  | 0, _ => Int.le_refl 0
  | n + 1, h => by
    have a := sumN_nn (n := n) fun i hi => h i (by omega)
    have b := h n (by omega)
    show 0 ≤ sumN f n + f n
    omega
theorem sumN_mono {f : Nat → Int} {n : Nat} : ∀ {m : Nat}, n ≤ m → (∀ i, i < m → 0 ≤ f i) → sumN f n ≤ sumN f m
  | 0, h, _ => by
    have : n = 0 := by omega
    rw [this]
    exact Int.le_refl _
  | m + 1, h, hf => by
    by_cases e : n = m + 1
    · rw [e]
      exact Int.le_refl _
    · have a := sumN_mono (n := n) (m := m) (by omega) fun i hi => hf i (by omega)
      have b := hf m (by omega)
      show sumN f n ≤ sumN f m + f m
      omega
/-- the sum is positive as soon as one is -/
theorem sumN_pos {f : Nat → Int} {n : Nat} (hf : ∀ i, i < n → 0 ≤ f i) : 0 < sumN f n ↔ ∃ i, i < n ∧ 0 < f i := by
  induction n with
  | zero => exact ⟨fun h => absurd h (Int.lt_irrefl 0), fun ⟨i, h, _⟩ => by omega⟩
  | succ n ih =>
    have ih := ih fun i hi => hf i (by omega)
    have a := sumN_nn (n := n) fun i hi => hf i (by omega)
    have b := hf n (by omega)
    constructor
    · intro h
      have h' : 0 < sumN f n + f n := h
      by_cases e : 0 < sumN f n
      · obtain ⟨i, h1, h2⟩ := ih.mp e
        exact ⟨i, by omega, h2⟩
      · exact ⟨n, by omega, by omega⟩
    · rintro ⟨i, h1, h2⟩
      show 0 < sumN f n + f n
      by_cases e : i = n
      · subst e
        omega
      · have := ih.mpr ⟨i, by omega, h2⟩
        omega
/-- the sum of (b + a * i) // m -/
def fls (m a b : Int) (n : Nat) : Int := sumN (fun i => (b + a * (i : Int)) / m) n
theorem tri (n : Nat) : ((n + 1 : Nat) : Int) * (((n + 1 : Nat) : Int) - 1) / 2 = (n : Int) * ((n : Int) - 1) / 2 + n := by
  have e : ((n + 1 : Nat) : Int) * (((n + 1 : Nat) : Int) - 1) = (n : Int) * ((n : Int) - 1) + (n : Int) * 2 := by
    push_cast
    rw [show (n : Int) + 1 - 1 = n by omega, Int.add_mul, Int.mul_sub, Int.mul_one, Int.one_mul]
    omega
  rw [e, Int.add_mul_ediv_right _ _ (by decide)]
theorem fls_split {m a b : Int} (hm : 0 < m) : ∀ n : Nat, fls m a b n = (n : Int) * ((n : Int) - 1) / 2 * (a / m) + n * (b / m) + fls m (a % m) (b % m) n
  | 0 => by
    unfold fls
    simp [sumN]
  | n + 1 => by
    have h := fls_split (m := m) (a := a) (b := b) hm n
    unfold fls at h ⊢
    show sumN _ n + (b + a * (n : Int)) / m = _
    rw [h, tri]
    show _ = _ + (sumN _ n + (b % m + a % m * (n : Int)) / m)
    have e : b + a * (n : Int) = (b % m + a % m * n) + m * (b / m + a / m * n) := by
      have h1 := Int.emod_def a m
      have h2 := Int.emod_def b m
      rw [h1, h2, Int.mul_add, Int.sub_mul, ← Int.mul_assoc]
      omega
    rw [e, Int.add_mul_ediv_left _ _ (by omega)]
    push_cast
    rw [Int.add_mul, Int.add_mul, Int.mul_comm (a / m) n]
    omega
/-- the same, counted the other way about -/
def gls (m a L : Int) (k : Nat) : Int := sumN (fun j => (L - m * ((j : Int) + 1)) / a) k
theorem gls_add {m a L : Int} (ha : 0 < a) : ∀ k : Nat, gls m a (L + a) k = gls m a L k + k
  | 0 => rfl
  | k + 1 => by
    have h := gls_add (m := m) (L := L) ha k
    unfold gls at h ⊢
    show sumN _ k + (L + a - m * ((k : Int) + 1)) / a = sumN _ k + (L - m * ((k : Int) + 1)) / a + ((k + 1 : Nat) : Int)
    rw [h, show L + a - m * ((k : Int) + 1) = L - m * ((k : Int) + 1) + 1 * a by omega, Int.add_mul_ediv_right _ _ (by omega)]
    push_cast
    omega
theorem fls_gls {m a b : Int} (hm : 0 < m) (a0 : 0 < a) (am : a < m) (b0 : 0 ≤ b) (bm : b < m) : ∀ n : Nat, fls m a b n = gls m a (b + a * n) ((b + a * n) / m).toNat
  | 0 => by
    rw [Int.natCast_zero, Int.mul_zero, Int.add_zero, Int.ediv_eq_zero_of_lt b0 bm]
    rfl
  | n + 1 => by
    have h := fls_gls hm a0 am b0 bm n
    have e1 : fls m a b (n + 1) = fls m a b n + (b + a * n) / m := rfl
    have an : 0 ≤ a * (n : Int) := Int.mul_nonneg (by omega) (by omega)
    obtain ⟨L, eL⟩ : ∃ L, b + a * (n : Int) = L := ⟨_, rfl⟩
    have e2 : b + a * ((n + 1 : Nat) : Int) = L + a := by
      push_cast
      rw [Int.mul_add]
      omega
    rw [e1, h, e2, eL]
    have L0 : 0 ≤ L := by omega
    have N0 : 0 ≤ L / m := Int.ediv_nonneg L0 (by omega)
    obtain ⟨N, eN⟩ := Int.eq_ofNat_of_zero_le N0
    have em := Int.emod_def L m
    have m0 := Int.emod_nonneg L (show m ≠ 0 by omega)
    have m1 := Int.emod_lt_of_pos L hm
    rw [eN] at em ⊢
    rw [Int.toNat_natCast]
    have cases2 : (L + a) / m = N ∨ ((L + a) / m = N + 1 ∧ m * (N + 1) ≤ L + a) := by
      have h1 : (N : Int) ≤ (L + a) / m := (Int.le_ediv_iff_mul_le hm).mpr (by rw [Int.mul_comm]; omega)
      have h2 : (L + a) / m < N + 2 := (Int.ediv_lt_iff_lt_mul hm).mpr (by rw [Int.add_mul, Int.mul_comm]; omega)
      by_cases h3 : (L + a) / m = N
      · exact .inl h3
      · have h4 : (L + a) / m = N + 1 := by omega
        have h5 := (Int.le_ediv_iff_mul_le hm).mp (show (N : Int) + 1 ≤ (L + a) / m by omega)
        exact .inr ⟨h4, by rw [Int.mul_comm]; exact h5⟩
    rcases cases2 with e | ⟨e, hle⟩
    · rw [e, Int.toNat_natCast, gls_add a0]
    · rw [e, show ((N : Int) + 1).toNat = N + 1 by omega]
      have e3 : gls m a (L + a) (N + 1) = gls m a (L + a) N + (L + a - m * ((N : Int) + 1)) / a := rfl
      rw [e3, gls_add a0, Int.ediv_eq_zero_of_lt (by omega) (by rw [Int.mul_add] at hle ⊢; omega)]
      omega
theorem gls_fls {m a b : Int} (N : Nat) : gls m a (m * N + b) N = fls a m b N := by
  unfold gls fls
  rw [← sumN_rev]
  refine sumN_congr fun i hi => ?_
  have e : ((N - 1 - i : Nat) : Int) = N - 1 - i := by omega
  rw [e, show m * (N : Int) + b - m * ((N : Int) - 1 - i + 1) = b + m * i by
    rw [show (N : Int) - 1 - i + 1 = N - i by omega, Int.mul_sub]
    omega]
theorem fls_zero {m b : Int} (b0 : 0 ≤ b) (bm : b < m) (n : Nat) : fls m 0 b n = 0 := by
  have e : fls m 0 b n = sumN (fun _ => 0) n := by
    unfold fls
    refine sumN_congr fun i _ => ?_
    rw [Int.zero_mul, Int.add_zero, Int.ediv_eq_zero_of_lt b0 bm]
  rw [e]
  clear e
  induction n with
  | zero => rfl
  | succ n ih =>
    show sumN (fun _ => 0) n + 0 = 0
    rw [ih]
    rfl
/-- one turn of the sum -/
theorem fls_turn {m a b : Int} (hm : 0 < m) (n : Nat) : fls m a b n = (n : Int) * ((n : Int) - 1) / 2 * (a / m) + n * (b / m) + fls (a % m) m ((b % m + a % m * n) % m) ((b % m + a % m * n) / m).toNat := by
  rw [fls_split hm n]
  have a0 := Int.emod_nonneg a (show m ≠ 0 by omega)
  have a1 := Int.emod_lt_of_pos a hm
  have b0 := Int.emod_nonneg b (show m ≠ 0 by omega)
  have b1 := Int.emod_lt_of_pos b hm
  obtain ⟨x, ex⟩ : ∃ x, a % m = x := ⟨_, rfl⟩
  obtain ⟨y, ey⟩ : ∃ y, b % m = y := ⟨_, rfl⟩
  rw [ex] at a0 a1 ⊢
  rw [ey] at b0 b1 ⊢
  congr 1
  rcases Int.lt_or_eq_of_le a0 with h | h
  · rw [fls_gls hm h a1 b0 b1]
    have L0 : 0 ≤ y + x * (n : Int) := by
      have := Int.mul_nonneg a0 (show (0 : Int) ≤ n by omega)
      omega
    obtain ⟨N, eN⟩ := Int.eq_ofNat_of_zero_le (Int.ediv_nonneg L0 (show 0 ≤ m by omega))
    have em := Int.emod_def (y + x * (n : Int)) m
    rw [eN] at em ⊢
    rw [Int.toNat_natCast, ← gls_fls N]
    congr 1
    rw [em]
    omega
  · subst h
    rw [fls_zero b0 b1, Int.zero_mul, Int.add_zero, Int.ediv_eq_zero_of_lt b0 b1]
    rfl
/-! ### the first cycle at which one line reads more -/
def IsFirst (P : Int → Prop) : Option Int → Prop
  | some a => 0 ≤ a ∧ P a ∧ ∀ b, 0 ≤ b → b < a → ¬ P b
  | none => ∀ b, 0 ≤ b → ¬ P b
theorem IsFirst.uniq {P : Int → Prop} : ∀ {x y : Option Int}, IsFirst P x → IsFirst P y → x = y
  | some a, some b, h, k => by
    rcases Int.lt_trichotomy a b with e | e | e
    · exact absurd h.2.1 (k.2.2 a h.1 e)
    · rw [e]
    · exact absurd k.2.1 (h.2.2 b k.1 e)
  | some a, none, h, k => absurd h.2.1 (k a h.1)
  | none, some b, h, k => absurd k.2.1 (h b k.1)
  | none, none, _, _ => rfl
theorem IsFirst.congr {P Q : Int → Prop} {x : Option Int} (h : IsFirst P x) (e : ∀ c, 0 ≤ c → (P c ↔ Q c)) : IsFirst Q x := by
  cases x with
  | some a => exact ⟨h.1, (e a h.1).mp h.2.1, fun b b0 b1 q => h.2.2 b b0 b1 ((e b b0).mpr q)⟩
  | none => exact fun b b0 q => h b b0 ((e b b0).mpr q)
/-- a line: value, slope, divisor -/
structure Ln where
  v : Int
  sl : Int
  s : Int
def Ln.rd (l : Ln) (c : Int) : Int := (l.v + l.sl * c) / l.s
def Ln.d (l r : Ln) (c : Int) : Int := l.rd c - r.rd c
/-- the difference ahead of rounding, times both divisors -/
def Ln.gap (l r : Ln) : Int := l.v * r.s - r.v * l.s
def Ln.gro (l r : Ln) : Int := l.sl * r.s - r.sl * l.s
theorem cross {x y s t : Int} (hs : 0 < s) (ht : 0 < t) (h : y * s ≤ x * t) : y / t ≤ x / s := by
  refine (Int.le_ediv_iff_mul_le hs).mpr ?_
  have h1 : y / t * t ≤ y := Int.ediv_mul_le _ (by omega)
  have h2 := Int.mul_le_mul_of_nonneg_right h1 (Int.le_of_lt hs)
  have h3 : y / t * s * t ≤ x * t := by
    rw [Int.mul_right_comm]
    omega
  exact Int.le_of_mul_le_mul_right h3 ht
theorem Ln.lin {l r : Ln} (c : Int) : (l.v + l.sl * c) * r.s - (r.v + r.sl * c) * l.s = l.gap r + l.gro r * c := by
  unfold Ln.gap Ln.gro
  rw [Int.add_mul, Int.add_mul, Int.sub_mul, Int.mul_right_comm l.sl, Int.mul_right_comm r.sl]
  omega
section
variable {l r : Ln} (hl : 0 < l.s) (hr : 0 < r.s)
include hl hr
theorem Ln.nn {c : Int} (h : 0 ≤ l.gap r + l.gro r * c) : 0 ≤ l.d r c := by
  have e := Ln.lin (l := l) (r := r) c
  have := cross hl hr (x := l.v + l.sl * c) (y := r.v + r.sl * c) (by omega)
  unfold Ln.d Ln.rd
  omega
theorem Ln.np {c : Int} (h : l.gap r + l.gro r * c ≤ 0) : l.d r c ≤ 0 := by
  have e := Ln.lin (l := l) (r := r) c
  have := cross hr hl (x := r.v + r.sl * c) (y := l.v + l.sl * c) (by omega)
  unfold Ln.d Ln.rd
  omega
theorem Ln.big {c : Int} (h : l.s * r.s ≤ l.gap r + l.gro r * c) : 0 < l.d r c := by
  have e := Ln.lin (l := l) (r := r) c
  have h2 : ((r.v + r.sl * c) + r.s) * l.s ≤ (l.v + l.sl * c) * r.s := by
    rw [Int.add_mul, Int.mul_comm r.s]
    omega
  have := cross hl hr h2
  have h3 : ((r.v + r.sl * c) + r.s) / r.s = (r.v + r.sl * c) / r.s + 1 := by
    rw [show (r.v + r.sl * c) + r.s = (r.v + r.sl * c) + 1 * r.s by omega, Int.add_mul_ediv_right _ _ (by omega)]
  unfold Ln.d Ln.rd
  omega
/-- lines of one growth: all comes again -/
theorem Ln.per {a b : Int} {c : Int} (hg : l.gro r = 0) (ha : l.s * a = r.s * b) : l.d r (c + l.s * a) = l.d r c := by
  have e1 : l.rd (c + l.s * a) = l.rd c + l.sl * a := by
    unfold Ln.rd
    rw [show l.v + l.sl * (c + l.s * a) = l.v + l.sl * c + l.sl * a * l.s by rw [Int.mul_add, Int.mul_comm l.s a, ← Int.mul_assoc, Int.add_assoc], Int.add_mul_ediv_right _ _ (by omega)]
  have e2 : r.rd (c + l.s * a) = r.rd c + r.sl * b := by
    unfold Ln.rd
    rw [ha, show r.v + r.sl * (c + r.s * b) = r.v + r.sl * c + r.sl * b * r.s by rw [Int.mul_add, Int.mul_comm r.s b, ← Int.mul_assoc, Int.add_assoc], Int.add_mul_ediv_right _ _ (by omega)]
  have e3 : l.sl * a = r.sl * b := by
    have h1 : l.sl * r.s = r.sl * l.s := by unfold Ln.gro at hg; omega
    have h2 : l.sl * a * (l.s * r.s) = r.sl * b * (l.s * r.s) := by
      have g1 : l.sl * a * (l.s * r.s) = (l.sl * r.s) * (l.s * a) := by simp only [Int.mul_assoc, Int.mul_comm, Int.mul_left_comm]
      have g2 : r.sl * b * (l.s * r.s) = (r.sl * l.s) * (r.s * b) := by simp only [Int.mul_assoc, Int.mul_comm, Int.mul_left_comm]
      rw [g1, g2, h1, ha]
    exact Int.eq_of_mul_eq_mul_right (Int.ne_of_gt (Int.mul_pos hl hr)) h2
  unfold Ln.d
  omega
end
theorem Ln.perN {l r : Ln} (hl : 0 < l.s) (hr : 0 < r.s) {a b : Int} {c : Int} (hg : l.gro r = 0) (ha : l.s * a = r.s * b) : ∀ k : Nat, l.d r (c + l.s * a * k) = l.d r c
  | 0 => by rw [Int.natCast_zero, Int.mul_zero, Int.add_zero]
  | k + 1 => by
    have e := Ln.per hl hr (c := c + l.s * a * k) hg ha
    rw [show c + l.s * a * ((k + 1 : Nat) : Int) = c + l.s * a * k + l.s * a by push_cast; rw [Int.mul_add]; omega, e]
    exact Ln.perN hl hr hg ha k
/-- the stretch at which one line isn't below another one: first, behind (none: no end) -/
def Ln.stretch (l r : Ln) : Option (Int × Option Int) :=
  if l.gro r = 0 then (if 0 ≤ l.gap r then some (0, none) else none)
  else if 0 < l.gro r then some (max 0 (0 - (0 - (0 - l.gap r)) / l.gro r), none)
  else if 0 ≤ l.gap r then some (0, some (l.gap r / (0 - l.gro r) + 1)) else none
theorem up_spec {n m : Int} (h : 0 < m) : n ≤ (0 - (0 - n) / m) * m ∧ (0 - (0 - n) / m - 1) * m < n := by
  have h1 := Int.emod_def (0 - n) m
  have h2 := Int.emod_nonneg (0 - n) (Int.ne_of_gt h)
  have h3 := Int.emod_lt_of_pos (0 - n) h
  have e1 : (0 - (0 - n) / m) * m = -(m * ((0 - n) / m)) := by rw [Int.zero_sub, Int.neg_mul, Int.mul_comm]
  have e2 : (0 - (0 - n) / m - 1) * m = -(m * ((0 - n) / m)) - m := by rw [Int.sub_mul, e1, Int.one_mul]
  rw [e1, e2]
  omega
/-- outside the stretch one line is below the other; within it isn't -/
theorem Ln.in_stretch {l r : Ln} {c : Int} (c0 : 0 ≤ c) : 0 ≤ l.gap r + l.gro r * c ↔ ∃ f b, l.stretch r = some (f, b) ∧ f ≤ c ∧ (∀ e, b = some e → c < e) := by
  unfold Ln.stretch
  by_cases h0 : l.gro r = 0
  · rw [if_pos h0, h0, Int.zero_mul, Int.add_zero]
    by_cases h1 : 0 ≤ l.gap r
    · rw [if_pos h1]
      exact ⟨fun _ => ⟨0, none, rfl, c0, fun e z => by cases z⟩, fun _ => h1⟩
    · rw [if_neg h1]
      exact ⟨fun h => absurd h h1, fun ⟨_, _, z, _⟩ => by cases z⟩
  · rw [if_neg h0]
    by_cases h1 : 0 < l.gro r
    · rw [if_pos h1]
      obtain ⟨k1, k2⟩ := up_spec (n := 0 - l.gap r) h1
      obtain ⟨u, eu⟩ : ∃ u, 0 - (0 - (0 - l.gap r)) / l.gro r = u := ⟨_, rfl⟩
      rw [eu] at k1 k2 ⊢
      constructor
      · intro h
        refine ⟨_, _, rfl, ?_, fun e z => by cases z⟩
        have h2 : (u - 1) * l.gro r < c * l.gro r := by rw [Int.mul_comm c]; omega
        have h3 := Int.lt_of_mul_lt_mul_right h2 (Int.le_of_lt h1)
        omega
      · rintro ⟨f, b, z, h2, _⟩
        cases z
        have h3 : u ≤ c := by omega
        have h4 := Int.mul_le_mul_of_nonneg_right h3 (Int.le_of_lt h1)
        rw [Int.mul_comm c] at h4
        omega
    · rw [if_neg h1]
      have hg : 0 < 0 - l.gro r := by omega
      have em : l.gro r * c = -((0 - l.gro r) * c) := by rw [Int.zero_sub, Int.neg_mul, Int.neg_neg]
      by_cases h2 : 0 ≤ l.gap r
      · rw [if_pos h2]
        constructor
        · intro h
          refine ⟨_, _, rfl, c0, fun e z => ?_⟩
          cases z
          have := (Int.le_ediv_iff_mul_le hg).mpr (show c * (0 - l.gro r) ≤ l.gap r by rw [Int.mul_comm]; omega)
          omega
        · rintro ⟨f, b, z, _, h4⟩
          cases z
          have h5 := h4 _ rfl
          have := (Int.le_ediv_iff_mul_le hg).mp (show c ≤ l.gap r / (0 - l.gro r) by omega)
          rw [Int.mul_comm] at this
          omega
      · rw [if_neg h2]
        refine ⟨fun h => ?_, fun ⟨_, _, z, _⟩ => by cases z⟩
        have := Int.mul_nonneg (Int.le_of_lt hg) c0
        omega
theorem Ln.stretch0 {l r : Ln} {f : Int} {b : Option Int} (h : l.stretch r = some (f, b)) : 0 ≤ f := by
  unfold Ln.stretch at h
  split at h
  · split at h
    · cases h; exact Int.le_refl 0
    · cases h
  · split at h
    · cases h; omega
    · split at h
      · cases h; exact Int.le_refl 0
      · cases h
end L3
/-! PW: is_whole. -/
namespace L3
open PySem PySem.Spec PyProof.Rows L2
local macro_rules | `(tactic| walk_at "get") => `(tactic| simp (disch := first | assumption | omega | (simp only [List.length_append, List.length_set, List.length_cons, List.length_nil, List.length_map] <;> omega) | fail) only [g_new, g_nw, g_old, g_set, g_sne, List.length_append, List.length_set, List.length_cons, List.length_nil, List.length_map, List.map_map, Function.comp_def, xs_lst, xs_tup, isL_lst, isL_tup, ↓reduceIte, *])
local macro_rules | `(tactic| walk_at "fr") => `(tactic| first | (intro _ _ _; simp (disch := first | assumption | omega | (simp only [List.length_append, List.length_set, List.length_cons, List.length_nil, List.length_map] <;> omega) | fail) only [g_new, g_nw, g_old, g_set, g_sne, List.length_append, List.length_set, List.length_cons, List.length_nil, List.length_map, List.map_map, Function.comp_def, xs_lst, xs_tup, isL_lst, isL_tup, ↓reduceIte, *]) | (intro _ _; simp (disch := first | assumption | omega | (simp only [List.length_append, List.length_set, List.length_cons, List.length_nil, List.length_map] <;> omega) | fail) only [g_new, g_nw, g_old, g_set, g_sne, List.length_append, List.length_set, List.length_cons, List.length_nil, List.length_map, List.map_map, Function.comp_def, xs_lst, xs_tup, isL_lst, isL_tup, ↓reduceIte, *]))
local macro_rules | `(tactic| walk_at "run") => `(tactic| simp -implicitDefEqProofs (disch := first | assumption | omega | (simp only [List.length_append, List.length_set, List.length_cons, List.length_nil, List.length_map] <;> omega) | fail) only [wp_ok, wp_exc, wp_stuck, ws_ok, ws_exc, ws_stuck, wp_op, kk_op, kk_un, wp_un, wp_cons, kk_cons, kk_cons2, wp_nil, wp_c, wp_app, wp_if, kk_if1, kk_if0, wp_and, kk_and1, kk_and0, wp_or, kk_or1, kk_or0, wp_not, kk_not, wp_tb, kk_tb, wp_andV, kk_andV1, kk_andV0, wp_orV, kk_orV1, kk_orV0, wp_notV, kk_notV, wp_noneS, wp_some, kk_some, wp_sl, kk_sl, kk_sl2, kk_sl3, wp_mL, kk_mL, kk_mL2, wp_mL0, kk_mL0, wp_chain, kk_ch, kk_ch2, kk_ch31, kk_ch30, ws_set, kks_nm, kks_g, kks_tup, kks_lst, ws_expr, kks_expr, ws_ret, kks_ret, ws_retN, ws_pass, ws_brk, ws_cont, ws_raise, ws_if, kks_if1, kks_if0, ws_seq, kks_next, kks_retS, kks_brk, kks_cont, kk_augE, ws_aug, kks_aug, kks_aug2, ws_par, kks_par, ws_setL, kks_sl, kks_sl2, kks_sl3, wp_def, kkd_ret, kkd_next, kkdE, kkE, ws_for, wp_lc, wp_r1, kk_r1, wp_r2, kk_r2, wp_il, wp_it, wp_ie, wp_iz, kk_il, kk_il2, kk_it, kk_it2, kk_ie, kk_ie2, kk_iz, kk_iz2, lAt_k, k_lAtL, k_lAtO, k_lAtT, wp_int, wp_add, wp_addI, wp_sub, wp_neg, wp_lt, wp_le, wp_gt, wp_ge, wp_max2, wp_min2, wp_abs, wp_mulI, wp_mul, wp_fdiv, wp_mod, wp_shl, wp_shr, wp_pow, wp_isN, wp_notN, wp_eqI, wp_neI, wp_ix, kk_ix, kk_ix2, wp_len, kk_lenL, kk_lenT, kk_lenO, kk_lenP, wp_appd, kk_app1, isL_k, kk_isL, startI_cons, startI_nil, rep_succ, rep_zero, List.getElem?_cons_zero, List.getElem?_cons_succ, List.set_cons_zero, List.set_cons_succ, f_call, m_var, List.append_nil, List.nil_append, List.cons_append, List.length_cons, List.length_nil, if_true, if_false, g_tup, g_lst, g_cons, g_nil, g_nm, Option.bind_some, kks_g, atI_0, atI_1, atI_2, atI_3, atI_4, atI_5, atI_6, atI_7, atI_8, atI_9, atI_10, atI_11, atI_12, atI_last, cutI_1, ixN_30, ixN_31, ixN_32, Int.toNat_zero, Int.reduceToNat, Int.reduceNeg, xs_lst, xs_tup, xs_ro, xs_rot, isL_lst, isL_tup, isL_ro, isL_rot, isT_tup, isT_rot, Bool.false_eq_true, Bool.true_eq_false, Bool.not_true, Bool.not_false, decide_true, decide_false, Int.reduceLT, Int.reduceLE, Nat.reduceLT, Nat.reduceLeDiff, Nat.reduceAdd, Nat.reduceEqDiff, Bool.not_eq_true, true_and, and_true, and_self, eq_self, g_new, g_nw, g_old, g_set, g_sne, List.length_set, List.length_append, wp_r3, kk_r3, Int.cast_ofNat_Int, Int.reduceEq, Int.natCast_zero, Int.natCast_one, ws_whileA, wp_isiII, wp_isiIB, wp_isiI_list, wp_isiI_tuple, wp_isiI_str, wp_isiR, tyO_l, tyO_t, kk_isi, kk_isi2, kit_ll, kit_tt, kit_lt, kit_tl, wp_isiN, wp_isiBl, wp_isiS, tyO_d, kit2_NoneType_int, kit2_NoneType_bool, kit2_NoneType_list, kit2_NoneType_tuple, kit2_NoneType_str, kit2_bool_int, kit2_bool_bool, kit2_bool_list, kit2_bool_tuple, kit2_bool_str, kit2_str_int, kit2_str_bool, kit2_str_list, kit2_str_tuple, kit2_str_str, kit2_dict_int, kit2_dict_bool, kit2_dict_list, kit2_dict_tuple, kit2_dict_str, kit2_list_int, kit2_list_bool, kit2_list_str, kit2_tuple_int, kit2_tuple_bool, kit2_tuple_str, kit2_int_list, kit2_int_tuple, kit2_int_str, kf_next, kf_cont, kf_brk, kf_ret, wipeI, ↓reduceIte, *])
theorem q_whole (c : Cs) (i l : Int) (ih : IH) (Q : PQ IV) (E : EQ) : wp (m_is_whole c [.int i, .int l] ih) Q E = Q (.bl (decide (l ≤ i))) ih := by
  have a3 : decide (IV.int l = IV.non) = false := rfl
  unfold m_is_whole b_is_whole
  walk_at "run"
theorem q_whole0 (c : Cs) (i : Int) (ih : IH) (Q : PQ IV) (E : EQ) : wp (m_is_whole c [.int i, .non] ih) Q E = Q (.bl true) ih := by
  have a3 : decide (IV.non = IV.non) = true := rfl
  unfold m_is_whole b_is_whole
  walk_at "run"
end L3
/-! P0: powers of two. -/
namespace L3
open PySem PySem.Spec PyProof.Rows L2
theorem pow_pos (w : Int) : (0 : Int) < 2 ^ w.toNat := Int.pow_pos (by decide)
theorem pow_B {w : Int} (h0 : 0 ≤ w) (h1 : w ≤ 64) : B 65 ((2 : Int) ^ w.toNat) := by
  refine B.lt (Int.le_of_lt (pow_pos w)) ?_
  obtain ⟨k, rfl⟩ := Int.eq_ofNat_of_zero_le h0
  exact_mod_cast Nat.pow_lt_pow_right (by decide) (by omega)
theorem shl_w {w : Int} (h0 : 0 ≤ w) (h1 : w ≤ 1000000) : cShl 1 w = true ∧ (1 : Int) * 2 ^ w.toNat = 2 ^ w.toNat := by
  obtain ⟨k, rfl⟩ := Int.eq_ofNat_of_zero_le h0
  exact ⟨cShl_of (lit 1 : B 1 1) (by omega), Int.one_mul _⟩
end L3
/-! QS: is_shift. -/
namespace L3
open PySem PySem.Spec PyProof.Rows L2
local macro_rules | `(tactic| walk_at "get") => `(tactic| simp (disch := first | assumption | omega | (simp only [List.length_append, List.length_set, List.length_cons, List.length_nil, List.length_map] <;> omega) | fail) only [g_new, g_nw, g_old, g_set, g_sne, List.length_append, List.length_set, List.length_cons, List.length_nil, List.length_map, List.map_map, Function.comp_def, xs_lst, xs_tup, isL_lst, isL_tup, ↓reduceIte, *])
local macro_rules | `(tactic| walk_at "fr") => `(tactic| first | (intro _ _ _; simp (disch := first | assumption | omega | (simp only [List.length_append, List.length_set, List.length_cons, List.length_nil, List.length_map] <;> omega) | fail) only [g_new, g_nw, g_old, g_set, g_sne, List.length_append, List.length_set, List.length_cons, List.length_nil, List.length_map, List.map_map, Function.comp_def, xs_lst, xs_tup, isL_lst, isL_tup, ↓reduceIte, *]) | (intro _ _; simp (disch := first | assumption | omega | (simp only [List.length_append, List.length_set, List.length_cons, List.length_nil, List.length_map] <;> omega) | fail) only [g_new, g_nw, g_old, g_set, g_sne, List.length_append, List.length_set, List.length_cons, List.length_nil, List.length_map, List.map_map, Function.comp_def, xs_lst, xs_tup, isL_lst, isL_tup, ↓reduceIte, *]))
local macro_rules | `(tactic| walk_at "run") => `(tactic| simp -implicitDefEqProofs (disch := first | assumption | omega | (simp only [List.length_append, List.length_set, List.length_cons, List.length_nil, List.length_map] <;> omega) | fail) only [wp_ok, wp_exc, wp_stuck, ws_ok, ws_exc, ws_stuck, wp_op, kk_op, kk_un, wp_un, wp_cons, kk_cons, kk_cons2, wp_nil, wp_c, wp_app, wp_if, kk_if1, kk_if0, wp_and, kk_and1, kk_and0, wp_or, kk_or1, kk_or0, wp_not, kk_not, wp_tb, kk_tb, wp_andV, kk_andV1, kk_andV0, wp_orV, kk_orV1, kk_orV0, wp_notV, kk_notV, wp_noneS, wp_some, kk_some, wp_sl, kk_sl, kk_sl2, kk_sl3, wp_mL, kk_mL, kk_mL2, wp_mL0, kk_mL0, wp_chain, kk_ch, kk_ch2, kk_ch31, kk_ch30, ws_set, kks_nm, kks_g, kks_tup, kks_lst, ws_expr, kks_expr, ws_ret, kks_ret, ws_retN, ws_pass, ws_brk, ws_cont, ws_raise, ws_if, kks_if1, kks_if0, ws_seq, kks_next, kks_retS, kks_brk, kks_cont, kk_augE, ws_aug, kks_aug, kks_aug2, ws_par, kks_par, ws_setL, kks_sl, kks_sl2, kks_sl3, wp_def, kkd_ret, kkd_next, kkdE, kkE, ws_for, wp_lc, wp_r1, kk_r1, wp_r2, kk_r2, wp_il, wp_it, wp_ie, wp_iz, kk_il, kk_il2, kk_it, kk_it2, kk_ie, kk_ie2, kk_iz, kk_iz2, lAt_k, k_lAtL, k_lAtO, k_lAtT, wp_int, wp_add, wp_addI, wp_sub, wp_neg, wp_lt, wp_le, wp_gt, wp_ge, wp_max2, wp_min2, wp_abs, wp_mulI, wp_mul, wp_fdiv, wp_mod, wp_shl, wp_shr, wp_pow, wp_isN, wp_notN, wp_eqI, wp_neI, wp_ix, kk_ix, kk_ix2, wp_len, kk_lenL, kk_lenT, kk_lenO, kk_lenP, wp_appd, kk_app1, isL_k, kk_isL, startI_cons, startI_nil, rep_succ, rep_zero, List.getElem?_cons_zero, List.getElem?_cons_succ, List.set_cons_zero, List.set_cons_succ, f_call, m_var, List.append_nil, List.nil_append, List.cons_append, List.length_cons, List.length_nil, if_true, if_false, g_tup, g_lst, g_cons, g_nil, g_nm, Option.bind_some, kks_g, atI_0, atI_1, atI_2, atI_3, atI_4, atI_5, atI_6, atI_7, atI_8, atI_9, atI_10, atI_11, atI_12, atI_last, cutI_1, ixN_30, ixN_31, ixN_32, Int.toNat_zero, Int.reduceToNat, Int.reduceNeg, xs_lst, xs_tup, xs_ro, xs_rot, isL_lst, isL_tup, isL_ro, isL_rot, isT_tup, isT_rot, Bool.false_eq_true, Bool.true_eq_false, Bool.not_true, Bool.not_false, decide_true, decide_false, Int.reduceLT, Int.reduceLE, Nat.reduceLT, Nat.reduceLeDiff, Nat.reduceAdd, Nat.reduceEqDiff, Bool.not_eq_true, true_and, and_true, and_self, eq_self, g_new, g_nw, g_old, g_set, g_sne, List.length_set, List.length_append, wp_r3, kk_r3, Int.cast_ofNat_Int, Int.reduceEq, Int.natCast_zero, Int.natCast_one, ws_whileA, wp_isiII, wp_isiIB, wp_isiI_list, wp_isiI_tuple, wp_isiI_str, wp_isiR, tyO_l, tyO_t, kk_isi, kk_isi2, kit_ll, kit_tt, kit_lt, kit_tl, wp_isiN, wp_isiBl, wp_isiS, tyO_d, kit2_NoneType_int, kit2_NoneType_bool, kit2_NoneType_list, kit2_NoneType_tuple, kit2_NoneType_str, kit2_bool_int, kit2_bool_bool, kit2_bool_list, kit2_bool_tuple, kit2_bool_str, kit2_str_int, kit2_str_bool, kit2_str_list, kit2_str_tuple, kit2_str_str, kit2_dict_int, kit2_dict_bool, kit2_dict_list, kit2_dict_tuple, kit2_dict_str, kit2_list_int, kit2_list_bool, kit2_list_str, kit2_tuple_int, kit2_tuple_bool, kit2_tuple_str, kit2_int_list, kit2_int_tuple, kit2_int_str, kf_next, kf_cont, kf_brk, kf_ret, wipeI, ↓reduceIte, *])
theorem q_shift (c : Cs) {h : Int} (h0 : 0 ≤ h) (h1 : h ≤ 64) (ih : IH) (Q : PQ IV) (E : EQ) : wp (m_is_shift c [.int h] ih) Q E = Q (.bl true) ih := by
  have a := q_whole c h 0
  unfold m_is_shift b_is_shift
  walk_at "run"
end L3
/-! PP: power. -/
namespace L3
open PySem PySem.Spec PyProof.Rows L2
local macro_rules | `(tactic| walk_at "get") => `(tactic| simp (disch := first | assumption | omega | (simp only [List.length_append, List.length_set, List.length_cons, List.length_nil, List.length_map] <;> omega) | fail) only [g_new, g_nw, g_old, g_set, g_sne, List.length_append, List.length_set, List.length_cons, List.length_nil, List.length_map, List.map_map, Function.comp_def, xs_lst, xs_tup, isL_lst, isL_tup, ↓reduceIte, *])
local macro_rules | `(tactic| walk_at "fr") => `(tactic| first | (intro _ _ _; simp (disch := first | assumption | omega | (simp only [List.length_append, List.length_set, List.length_cons, List.length_nil, List.length_map] <;> omega) | fail) only [g_new, g_nw, g_old, g_set, g_sne, List.length_append, List.length_set, List.length_cons, List.length_nil, List.length_map, List.map_map, Function.comp_def, xs_lst, xs_tup, isL_lst, isL_tup, ↓reduceIte, *]) | (intro _ _; simp (disch := first | assumption | omega | (simp only [List.length_append, List.length_set, List.length_cons, List.length_nil, List.length_map] <;> omega) | fail) only [g_new, g_nw, g_old, g_set, g_sne, List.length_append, List.length_set, List.length_cons, List.length_nil, List.length_map, List.map_map, Function.comp_def, xs_lst, xs_tup, isL_lst, isL_tup, ↓reduceIte, *]))
local macro_rules | `(tactic| walk_at "run") => `(tactic| simp -implicitDefEqProofs (disch := first | assumption | omega | (simp only [List.length_append, List.length_set, List.length_cons, List.length_nil, List.length_map] <;> omega) | fail) only [wp_ok, wp_exc, wp_stuck, ws_ok, ws_exc, ws_stuck, wp_op, kk_op, kk_un, wp_un, wp_cons, kk_cons, kk_cons2, wp_nil, wp_c, wp_app, wp_if, kk_if1, kk_if0, wp_and, kk_and1, kk_and0, wp_or, kk_or1, kk_or0, wp_not, kk_not, wp_tb, kk_tb, wp_andV, kk_andV1, kk_andV0, wp_orV, kk_orV1, kk_orV0, wp_notV, kk_notV, wp_noneS, wp_some, kk_some, wp_sl, kk_sl, kk_sl2, kk_sl3, wp_mL, kk_mL, kk_mL2, wp_mL0, kk_mL0, wp_chain, kk_ch, kk_ch2, kk_ch31, kk_ch30, ws_set, kks_nm, kks_g, kks_tup, kks_lst, ws_expr, kks_expr, ws_ret, kks_ret, ws_retN, ws_pass, ws_brk, ws_cont, ws_raise, ws_if, kks_if1, kks_if0, ws_seq, kks_next, kks_retS, kks_brk, kks_cont, kk_augE, ws_aug, kks_aug, kks_aug2, ws_par, kks_par, ws_setL, kks_sl, kks_sl2, kks_sl3, wp_def, kkd_ret, kkd_next, kkdE, kkE, ws_for, wp_lc, wp_r1, kk_r1, wp_r2, kk_r2, wp_il, wp_it, wp_ie, wp_iz, kk_il, kk_il2, kk_it, kk_it2, kk_ie, kk_ie2, kk_iz, kk_iz2, lAt_k, k_lAtL, k_lAtO, k_lAtT, wp_int, wp_add, wp_addI, wp_sub, wp_neg, wp_lt, wp_le, wp_gt, wp_ge, wp_max2, wp_min2, wp_abs, wp_mulI, wp_mul, wp_fdiv, wp_mod, wp_shl, wp_shr, wp_pow, wp_isN, wp_notN, wp_eqI, wp_neI, wp_ix, kk_ix, kk_ix2, wp_len, kk_lenL, kk_lenT, kk_lenO, kk_lenP, wp_appd, kk_app1, isL_k, kk_isL, startI_cons, startI_nil, rep_succ, rep_zero, List.getElem?_cons_zero, List.getElem?_cons_succ, List.set_cons_zero, List.set_cons_succ, f_call, m_var, List.append_nil, List.nil_append, List.cons_append, List.length_cons, List.length_nil, if_true, if_false, g_tup, g_lst, g_cons, g_nil, g_nm, Option.bind_some, kks_g, atI_0, atI_1, atI_2, atI_3, atI_4, atI_5, atI_6, atI_7, atI_8, atI_9, atI_10, atI_11, atI_12, atI_last, cutI_1, ixN_30, ixN_31, ixN_32, Int.toNat_zero, Int.reduceToNat, Int.reduceNeg, xs_lst, xs_tup, xs_ro, xs_rot, isL_lst, isL_tup, isL_ro, isL_rot, isT_tup, isT_rot, Bool.false_eq_true, Bool.true_eq_false, Bool.not_true, Bool.not_false, decide_true, decide_false, Int.reduceLT, Int.reduceLE, Nat.reduceLT, Nat.reduceLeDiff, Nat.reduceAdd, Nat.reduceEqDiff, Bool.not_eq_true, true_and, and_true, and_self, eq_self, g_new, g_nw, g_old, g_set, g_sne, List.length_set, List.length_append, wp_r3, kk_r3, Int.cast_ofNat_Int, Int.reduceEq, Int.natCast_zero, Int.natCast_one, ws_whileA, wp_isiII, wp_isiIB, wp_isiI_list, wp_isiI_tuple, wp_isiI_str, wp_isiR, tyO_l, tyO_t, kk_isi, kk_isi2, kit_ll, kit_tt, kit_lt, kit_tl, wp_isiN, wp_isiBl, wp_isiS, tyO_d, kit2_NoneType_int, kit2_NoneType_bool, kit2_NoneType_list, kit2_NoneType_tuple, kit2_NoneType_str, kit2_bool_int, kit2_bool_bool, kit2_bool_list, kit2_bool_tuple, kit2_bool_str, kit2_str_int, kit2_str_bool, kit2_str_list, kit2_str_tuple, kit2_str_str, kit2_dict_int, kit2_dict_bool, kit2_dict_list, kit2_dict_tuple, kit2_dict_str, kit2_list_int, kit2_list_bool, kit2_list_str, kit2_tuple_int, kit2_tuple_bool, kit2_tuple_str, kit2_int_list, kit2_int_tuple, kit2_int_str, kf_next, kf_cont, kf_brk, kf_ret, wipeI, ↓reduceIte, *])
theorem q_power (c : Cs) {w : Int} (h0 : 0 ≤ w) (h1 : w ≤ 1000000) (ih : IH) (Q : PQ IV) (E : EQ) : wp (m_power c [.int w] ih) Q E = Q (.int (2 ^ w.toNat)) ih := by
  obtain ⟨c1, c2⟩ := shl_w h0 h1
  unfold m_power b_power
  walk_at "run"
end L3
/-! CE0: rounding up, filters of a range. -/
namespace L3
open PySem PySem.Spec PyProof.Rows L2
local macro_rules | `(tactic| walk_at "get") => `(tactic| simp (disch := first | assumption | omega | (simp only [List.length_append, List.length_set, List.length_cons, List.length_nil, List.length_map] <;> omega) | fail) only [g_new, g_nw, g_old, g_set, g_sne, List.length_append, List.length_set, List.length_cons, List.length_nil, List.length_map, List.map_map, Function.comp_def, xs_lst, xs_tup, isL_lst, isL_tup, ↓reduceIte, *])
local macro_rules | `(tactic| walk_at "fr") => `(tactic| first | (intro _ _ _; simp (disch := first | assumption | omega | (simp only [List.length_append, List.length_set, List.length_cons, List.length_nil, List.length_map] <;> omega) | fail) only [g_new, g_nw, g_old, g_set, g_sne, List.length_append, List.length_set, List.length_cons, List.length_nil, List.length_map, List.map_map, Function.comp_def, xs_lst, xs_tup, isL_lst, isL_tup, ↓reduceIte, *]) | (intro _ _; simp (disch := first | assumption | omega | (simp only [List.length_append, List.length_set, List.length_cons, List.length_nil, List.length_map] <;> omega) | fail) only [g_new, g_nw, g_old, g_set, g_sne, List.length_append, List.length_set, List.length_cons, List.length_nil, List.length_map, List.map_map, Function.comp_def, xs_lst, xs_tup, isL_lst, isL_tup, ↓reduceIte, *]))
local macro_rules | `(tactic| walk_at "run") => `(tactic| simp -implicitDefEqProofs (disch := first | assumption | omega | (simp only [List.length_append, List.length_set, List.length_cons, List.length_nil, List.length_map] <;> omega) | fail) only [wp_ok, wp_exc, wp_stuck, ws_ok, ws_exc, ws_stuck, wp_op, kk_op, kk_un, wp_un, wp_cons, kk_cons, kk_cons2, wp_nil, wp_c, wp_app, wp_if, kk_if1, kk_if0, wp_and, kk_and1, kk_and0, wp_or, kk_or1, kk_or0, wp_not, kk_not, wp_tb, kk_tb, wp_andV, kk_andV1, kk_andV0, wp_orV, kk_orV1, kk_orV0, wp_notV, kk_notV, wp_noneS, wp_some, kk_some, wp_sl, kk_sl, kk_sl2, kk_sl3, wp_mL, kk_mL, kk_mL2, wp_mL0, kk_mL0, wp_chain, kk_ch, kk_ch2, kk_ch31, kk_ch30, ws_set, kks_nm, kks_g, kks_tup, kks_lst, ws_expr, kks_expr, ws_ret, kks_ret, ws_retN, ws_pass, ws_brk, ws_cont, ws_raise, ws_if, kks_if1, kks_if0, ws_seq, kks_next, kks_retS, kks_brk, kks_cont, kk_augE, ws_aug, kks_aug, kks_aug2, ws_par, kks_par, ws_setL, kks_sl, kks_sl2, kks_sl3, wp_def, kkd_ret, kkd_next, kkdE, kkE, ws_for, wp_lc, wp_r1, kk_r1, wp_r2, kk_r2, wp_il, wp_it, wp_ie, wp_iz, kk_il, kk_il2, kk_it, kk_it2, kk_ie, kk_ie2, kk_iz, kk_iz2, lAt_k, k_lAtL, k_lAtO, k_lAtT, wp_int, wp_add, wp_addI, wp_sub, wp_neg, wp_lt, wp_le, wp_gt, wp_ge, wp_max2, wp_min2, wp_abs, wp_mulI, wp_mul, wp_fdiv, wp_mod, wp_shl, wp_shr, wp_pow, wp_isN, wp_notN, wp_eqI, wp_neI, wp_ix, kk_ix, kk_ix2, wp_len, kk_lenL, kk_lenT, kk_lenO, kk_lenP, wp_appd, kk_app1, isL_k, kk_isL, startI_cons, startI_nil, rep_succ, rep_zero, List.getElem?_cons_zero, List.getElem?_cons_succ, List.set_cons_zero, List.set_cons_succ, f_call, m_var, List.append_nil, List.nil_append, List.cons_append, List.length_cons, List.length_nil, if_true, if_false, g_tup, g_lst, g_cons, g_nil, g_nm, Option.bind_some, kks_g, atI_0, atI_1, atI_2, atI_3, atI_4, atI_5, atI_6, atI_7, atI_8, atI_9, atI_10, atI_11, atI_12, atI_last, cutI_1, ixN_30, ixN_31, ixN_32, Int.toNat_zero, Int.reduceToNat, Int.reduceNeg, xs_lst, xs_tup, xs_ro, xs_rot, isL_lst, isL_tup, isL_ro, isL_rot, isT_tup, isT_rot, Bool.false_eq_true, Bool.true_eq_false, Bool.not_true, Bool.not_false, decide_true, decide_false, Int.reduceLT, Int.reduceLE, Nat.reduceLT, Nat.reduceLeDiff, Nat.reduceAdd, Nat.reduceEqDiff, Bool.not_eq_true, true_and, and_true, and_self, eq_self, g_new, g_nw, g_old, g_set, g_sne, List.length_set, List.length_append, wp_r3, kk_r3, Int.cast_ofNat_Int, Int.reduceEq, Int.natCast_zero, Int.natCast_one, ws_whileA, wp_isiII, wp_isiIB, wp_isiI_list, wp_isiI_tuple, wp_isiI_str, wp_isiR, tyO_l, tyO_t, kk_isi, kk_isi2, kit_ll, kit_tt, kit_lt, kit_tl, wp_isiN, wp_isiBl, wp_isiS, tyO_d, kit2_NoneType_int, kit2_NoneType_bool, kit2_NoneType_list, kit2_NoneType_tuple, kit2_NoneType_str, kit2_bool_int, kit2_bool_bool, kit2_bool_list, kit2_bool_tuple, kit2_bool_str, kit2_str_int, kit2_str_bool, kit2_str_list, kit2_str_tuple, kit2_str_str, kit2_dict_int, kit2_dict_bool, kit2_dict_list, kit2_dict_tuple, kit2_dict_str, kit2_list_int, kit2_list_bool, kit2_list_str, kit2_tuple_int, kit2_tuple_bool, kit2_tuple_str, kit2_int_list, kit2_int_tuple, kit2_int_str, kf_next, kf_cont, kf_brk, kf_ret, wipeI, ↓reduceIte, *])
def ce (n m : Int) : Int := 0 - (0 - n) / m
theorem q_up (c : Cs) {n m : Int} (h : 0 < m) (hb : B 8000 m) (ih : IH) (Q : PQ IV) (E : EQ) : wp (m_round_up c [.int n, .int m] ih) Q E = Q (.int (ce n m)) ih := by
  have a : cDiv (0 - n) m = true := cDiv_of h hb (by decide) (by decide)
  have e : ce n m = 0 - (0 - n) / m := rfl
  unfold m_round_up b_round_up
  walk_at "run"
theorem ce_spec {n m : Int} (h : 0 < m) : n ≤ ce n m * m ∧ (ce n m - 1) * m < n := by
  unfold ce
  have h1 := Int.emod_def (0 - n) m
  have h2 := Int.emod_nonneg (0 - n) (Int.ne_of_gt h)
  have h3 := Int.emod_lt_of_pos (0 - n) h
  have e1 : (0 - (0 - n) / m) * m = -(m * ((0 - n) / m)) := by rw [Int.zero_sub, Int.neg_mul, Int.mul_comm]
  have e2 : (0 - (0 - n) / m - 1) * m = -(m * ((0 - n) / m)) - m := by rw [Int.sub_mul, e1, Int.one_mul]
  rw [e1, e2]
  omega
theorem ce_nn {n m : Int} (h : 0 < m) (hn : 0 ≤ n) : 0 ≤ ce n m := by
  unfold ce
  have h1 := Int.emod_def (0 - n) m
  have h2 := Int.emod_nonneg (0 - n) (Int.ne_of_gt h)
  by_cases hq : 1 ≤ (0 - n) / m
  · have := Int.mul_le_mul_of_nonneg_left hq (Int.le_of_lt h)
    omega
  · omega
theorem filter_head {n : Nat} {T : Nat → Bool} {a : Nat} (h : a < n) (ht : T a = true) (hf : ∀ k, k < a → T k = false) : ((List.range n).filter T)[0]? = some a := by
  rw [← List.head?_eq_getElem?, List.head?_filter]
  refine List.find?_range_eq_some.mpr ⟨ht, List.mem_range.mpr h, fun k hk => ?_⟩
  rw [hf k hk]
  rfl
theorem filter_last {T : Nat → Bool} {a : Nat} (ht : T a = true) : ∀ {n : Nat}, a < n → (∀ k, a < k → k < n → T k = false) → (List.range n).filter T = (List.range a).filter T ++ [a]
  | 0, h, _ => by omega
  | n + 1, h, hf => by
    rw [List.range_succ, List.filter_append]
    by_cases e : a = n
    · subst e
      simp [ht]
    · rw [filter_last ht (show a < n by omega) fun k h1 h2 => hf k h1 (by omega)]
      simp [hf n (by omega) (by omega)]
end L3
/-! CE: cycles, rounding up, filters of a range. -/
namespace L3
open PySem PySem.Spec PyProof.Rows L2
local macro_rules | `(tactic| walk_at "get") => `(tactic| simp (disch := first | assumption | omega | (simp only [List.length_append, List.length_set, List.length_cons, List.length_nil, List.length_map] <;> omega) | fail) only [g_new, g_nw, g_old, g_set, g_sne, List.length_append, List.length_set, List.length_cons, List.length_nil, List.length_map, List.map_map, Function.comp_def, xs_lst, xs_tup, isL_lst, isL_tup, ↓reduceIte, *])
local macro_rules | `(tactic| walk_at "fr") => `(tactic| first | (intro _ _ _; simp (disch := first | assumption | omega | (simp only [List.length_append, List.length_set, List.length_cons, List.length_nil, List.length_map] <;> omega) | fail) only [g_new, g_nw, g_old, g_set, g_sne, List.length_append, List.length_set, List.length_cons, List.length_nil, List.length_map, List.map_map, Function.comp_def, xs_lst, xs_tup, isL_lst, isL_tup, ↓reduceIte, *]) | (intro _ _; simp (disch := first | assumption | omega | (simp only [List.length_append, List.length_set, List.length_cons, List.length_nil, List.length_map] <;> omega) | fail) only [g_new, g_nw, g_old, g_set, g_sne, List.length_append, List.length_set, List.length_cons, List.length_nil, List.length_map, List.map_map, Function.comp_def, xs_lst, xs_tup, isL_lst, isL_tup, ↓reduceIte, *]))
local macro_rules | `(tactic| walk_at "run") => `(tactic| simp -implicitDefEqProofs (disch := first | assumption | omega | (simp only [List.length_append, List.length_set, List.length_cons, List.length_nil, List.length_map] <;> omega) | fail) only [wp_ok, wp_exc, wp_stuck, ws_ok, ws_exc, ws_stuck, wp_op, kk_op, kk_un, wp_un, wp_cons, kk_cons, kk_cons2, wp_nil, wp_c, wp_app, wp_if, kk_if1, kk_if0, wp_and, kk_and1, kk_and0, wp_or, kk_or1, kk_or0, wp_not, kk_not, wp_tb, kk_tb, wp_andV, kk_andV1, kk_andV0, wp_orV, kk_orV1, kk_orV0, wp_notV, kk_notV, wp_noneS, wp_some, kk_some, wp_sl, kk_sl, kk_sl2, kk_sl3, wp_mL, kk_mL, kk_mL2, wp_mL0, kk_mL0, wp_chain, kk_ch, kk_ch2, kk_ch31, kk_ch30, ws_set, kks_nm, kks_g, kks_tup, kks_lst, ws_expr, kks_expr, ws_ret, kks_ret, ws_retN, ws_pass, ws_brk, ws_cont, ws_raise, ws_if, kks_if1, kks_if0, ws_seq, kks_next, kks_retS, kks_brk, kks_cont, kk_augE, ws_aug, kks_aug, kks_aug2, ws_par, kks_par, ws_setL, kks_sl, kks_sl2, kks_sl3, wp_def, kkd_ret, kkd_next, kkdE, kkE, ws_for, wp_lc, wp_r1, kk_r1, wp_r2, kk_r2, wp_il, wp_it, wp_ie, wp_iz, kk_il, kk_il2, kk_it, kk_it2, kk_ie, kk_ie2, kk_iz, kk_iz2, lAt_k, k_lAtL, k_lAtO, k_lAtT, wp_int, wp_add, wp_addI, wp_sub, wp_neg, wp_lt, wp_le, wp_gt, wp_ge, wp_max2, wp_min2, wp_abs, wp_mulI, wp_mul, wp_fdiv, wp_mod, wp_shl, wp_shr, wp_pow, wp_isN, wp_notN, wp_eqI, wp_neI, wp_ix, kk_ix, kk_ix2, wp_len, kk_lenL, kk_lenT, kk_lenO, kk_lenP, wp_appd, kk_app1, isL_k, kk_isL, startI_cons, startI_nil, rep_succ, rep_zero, List.getElem?_cons_zero, List.getElem?_cons_succ, List.set_cons_zero, List.set_cons_succ, f_call, m_var, List.append_nil, List.nil_append, List.cons_append, List.length_cons, List.length_nil, if_true, if_false, g_tup, g_lst, g_cons, g_nil, g_nm, Option.bind_some, kks_g, atI_0, atI_1, atI_2, atI_3, atI_4, atI_5, atI_6, atI_7, atI_8, atI_9, atI_10, atI_11, atI_12, atI_last, cutI_1, ixN_30, ixN_31, ixN_32, Int.toNat_zero, Int.reduceToNat, Int.reduceNeg, xs_lst, xs_tup, xs_ro, xs_rot, isL_lst, isL_tup, isL_ro, isL_rot, isT_tup, isT_rot, Bool.false_eq_true, Bool.true_eq_false, Bool.not_true, Bool.not_false, decide_true, decide_false, Int.reduceLT, Int.reduceLE, Nat.reduceLT, Nat.reduceLeDiff, Nat.reduceAdd, Nat.reduceEqDiff, Bool.not_eq_true, true_and, and_true, and_self, eq_self, g_new, g_nw, g_old, g_set, g_sne, List.length_set, List.length_append, wp_r3, kk_r3, Int.cast_ofNat_Int, Int.reduceEq, Int.natCast_zero, Int.natCast_one, ws_whileA, wp_isiII, wp_isiIB, wp_isiI_list, wp_isiI_tuple, wp_isiI_str, wp_isiR, tyO_l, tyO_t, kk_isi, kk_isi2, kit_ll, kit_tt, kit_lt, kit_tl, wp_isiN, wp_isiBl, wp_isiS, tyO_d, kit2_NoneType_int, kit2_NoneType_bool, kit2_NoneType_list, kit2_NoneType_tuple, kit2_NoneType_str, kit2_bool_int, kit2_bool_bool, kit2_bool_list, kit2_bool_tuple, kit2_bool_str, kit2_str_int, kit2_str_bool, kit2_str_list, kit2_str_tuple, kit2_str_str, kit2_dict_int, kit2_dict_bool, kit2_dict_list, kit2_dict_tuple, kit2_dict_str, kit2_list_int, kit2_list_bool, kit2_list_str, kit2_tuple_int, kit2_tuple_bool, kit2_tuple_str, kit2_int_list, kit2_int_tuple, kit2_int_str, kf_next, kf_cont, kf_brk, kf_ret, wipeI, ↓reduceIte, *])
theorem q_cycle (c : Cs) {v : Int} (h : 0 ≤ v) (ih : IH) (Q : PQ IV) (E : EQ) : wp (m_check_cycle c [.int v, .int 0] ih) Q E = Q .non ih := by
  have a := q_whole c v 0
  unfold m_check_cycle b_check_cycle
  walk_at "run"
end L3
/-! LN0: lines, the beginnings. -/
namespace L3
open PySem PySem.Spec PyProof.Rows L2
local macro_rules | `(tactic| walk_at "get") => `(tactic| simp (disch := first | assumption | omega | (simp only [List.length_append, List.length_set, List.length_cons, List.length_nil, List.length_map] <;> omega) | fail) only [g_new, g_nw, g_old, g_set, g_sne, List.length_append, List.length_set, List.length_cons, List.length_nil, List.length_map, List.map_map, Function.comp_def, xs_lst, xs_tup, isL_lst, isL_tup, ↓reduceIte, *])
local macro_rules | `(tactic| walk_at "fr") => `(tactic| first | (intro _ _ _; simp (disch := first | assumption | omega | (simp only [List.length_append, List.length_set, List.length_cons, List.length_nil, List.length_map] <;> omega) | fail) only [g_new, g_nw, g_old, g_set, g_sne, List.length_append, List.length_set, List.length_cons, List.length_nil, List.length_map, List.map_map, Function.comp_def, xs_lst, xs_tup, isL_lst, isL_tup, ↓reduceIte, *]) | (intro _ _; simp (disch := first | assumption | omega | (simp only [List.length_append, List.length_set, List.length_cons, List.length_nil, List.length_map] <;> omega) | fail) only [g_new, g_nw, g_old, g_set, g_sne, List.length_append, List.length_set, List.length_cons, List.length_nil, List.length_map, List.map_map, Function.comp_def, xs_lst, xs_tup, isL_lst, isL_tup, ↓reduceIte, *]))
local macro_rules | `(tactic| walk_at "run") => `(tactic| simp -implicitDefEqProofs (disch := first | assumption | omega | (simp only [List.length_append, List.length_set, List.length_cons, List.length_nil, List.length_map] <;> omega) | fail) only [wp_ok, wp_exc, wp_stuck, ws_ok, ws_exc, ws_stuck, wp_op, kk_op, kk_un, wp_un, wp_cons, kk_cons, kk_cons2, wp_nil, wp_c, wp_app, wp_if, kk_if1, kk_if0, wp_and, kk_and1, kk_and0, wp_or, kk_or1, kk_or0, wp_not, kk_not, wp_tb, kk_tb, wp_andV, kk_andV1, kk_andV0, wp_orV, kk_orV1, kk_orV0, wp_notV, kk_notV, wp_noneS, wp_some, kk_some, wp_sl, kk_sl, kk_sl2, kk_sl3, wp_mL, kk_mL, kk_mL2, wp_mL0, kk_mL0, wp_chain, kk_ch, kk_ch2, kk_ch31, kk_ch30, ws_set, kks_nm, kks_g, kks_tup, kks_lst, ws_expr, kks_expr, ws_ret, kks_ret, ws_retN, ws_pass, ws_brk, ws_cont, ws_raise, ws_if, kks_if1, kks_if0, ws_seq, kks_next, kks_retS, kks_brk, kks_cont, kk_augE, ws_aug, kks_aug, kks_aug2, ws_par, kks_par, ws_setL, kks_sl, kks_sl2, kks_sl3, wp_def, kkd_ret, kkd_next, kkdE, kkE, ws_for, wp_lc, wp_r1, kk_r1, wp_r2, kk_r2, wp_il, wp_it, wp_ie, wp_iz, kk_il, kk_il2, kk_it, kk_it2, kk_ie, kk_ie2, kk_iz, kk_iz2, lAt_k, k_lAtL, k_lAtO, k_lAtT, wp_int, wp_add, wp_addI, wp_sub, wp_neg, wp_lt, wp_le, wp_gt, wp_ge, wp_max2, wp_min2, wp_abs, wp_mulI, wp_mul, wp_fdiv, wp_mod, wp_shl, wp_shr, wp_pow, wp_isN, wp_notN, wp_eqI, wp_neI, wp_ix, kk_ix, kk_ix2, wp_len, kk_lenL, kk_lenT, kk_lenO, kk_lenP, wp_appd, kk_app1, isL_k, kk_isL, startI_cons, startI_nil, rep_succ, rep_zero, List.getElem?_cons_zero, List.getElem?_cons_succ, List.set_cons_zero, List.set_cons_succ, f_call, m_var, List.append_nil, List.nil_append, List.cons_append, List.length_cons, List.length_nil, if_true, if_false, g_tup, g_lst, g_cons, g_nil, g_nm, Option.bind_some, kks_g, atI_0, atI_1, atI_2, atI_3, atI_4, atI_5, atI_6, atI_7, atI_8, atI_9, atI_10, atI_11, atI_12, atI_last, cutI_1, ixN_30, ixN_31, ixN_32, Int.toNat_zero, Int.reduceToNat, Int.reduceNeg, xs_lst, xs_tup, xs_ro, xs_rot, isL_lst, isL_tup, isL_ro, isL_rot, isT_tup, isT_rot, Bool.false_eq_true, Bool.true_eq_false, Bool.not_true, Bool.not_false, decide_true, decide_false, Int.reduceLT, Int.reduceLE, Nat.reduceLT, Nat.reduceLeDiff, Nat.reduceAdd, Nat.reduceEqDiff, Bool.not_eq_true, true_and, and_true, and_self, eq_self, g_new, g_nw, g_old, g_set, g_sne, List.length_set, List.length_append, wp_r3, kk_r3, Int.cast_ofNat_Int, Int.reduceEq, Int.natCast_zero, Int.natCast_one, ws_whileA, wp_isiII, wp_isiIB, wp_isiI_list, wp_isiI_tuple, wp_isiI_str, wp_isiR, tyO_l, tyO_t, kk_isi, kk_isi2, kit_ll, kit_tt, kit_lt, kit_tl, wp_isiN, wp_isiBl, wp_isiS, tyO_d, kit2_NoneType_int, kit2_NoneType_bool, kit2_NoneType_list, kit2_NoneType_tuple, kit2_NoneType_str, kit2_bool_int, kit2_bool_bool, kit2_bool_list, kit2_bool_tuple, kit2_bool_str, kit2_str_int, kit2_str_bool, kit2_str_list, kit2_str_tuple, kit2_str_str, kit2_dict_int, kit2_dict_bool, kit2_dict_list, kit2_dict_tuple, kit2_dict_str, kit2_list_int, kit2_list_bool, kit2_list_str, kit2_tuple_int, kit2_tuple_bool, kit2_tuple_str, kit2_int_list, kit2_int_tuple, kit2_int_str, kf_next, kf_cont, kf_brk, kf_ret, wipeI, ↓reduceIte, *])
structure Trip (t : Nat) (v sl h : Int) (ih : IH) : Prop where
  g : ih[t]? = some (.tup [.int v, .int sl, .int h])
  s0 : 0 ≤ sl
  h0 : 0 ≤ h
  h1 : h ≤ 64
  vB : B 400 v
  sB : B 400 sl
theorem Trip.to {t : Nat} {v sl h : Int} {a b : IH} (p : Trip t v sl h a) (e : b[t]? = a[t]?) : Trip t v sl h b := ⟨by rw [e]; exact p.g, p.s0, p.h0, p.h1, p.vB, p.sB⟩
theorem Trip.fx {t : Nat} {v sl h : Int} {a b : IH} (p : Trip t v sl h a) (f : Fx a b) : Trip t v sl h b := p.to (f t (lt_of_get p.g))
theorem q_line (c : Cs) {t : Nat} {v sl h : Int} {ih : IH} (p : Trip t v sl h ih) (Q : PQ IV) (E : EQ) : wp (m_check_line c [.ref t] ih) Q E = Q .non ih := by
  obtain ⟨g, s0, h0, h1, _, _⟩ := p
  have a := q_whole0 c v
  have b := q_whole c sl 0
  have d := q_shift c h0 h1
  have e : decide (((0 : Nat) : Int) + 1 + 1 + 1 = 3) = true := rfl
  unfold m_check_line b_check_line
  walk_at "run"
/-- what the line reads -/
def rd (v sl s k : Int) : Int := (v + sl * k) / s
theorem rd_le {v sl s r k : Int} (hs : 0 < s) : r ≤ rd v sl s k ↔ r * s ≤ v + sl * k := Int.le_ediv_iff_mul_le hs
theorem rd_lt {v sl s r k : Int} (hs : 0 < s) : rd v sl s k < r ↔ v + sl * k < r * s := Int.ediv_lt_iff_lt_mul hs
theorem rd_mono {v sl s a b : Int} (hs : 0 < s) (h0 : 0 ≤ sl) (h : a ≤ b) : rd v sl s a ≤ rd v sl s b := by
  refine (rd_le hs).mpr ?_
  have h1 : rd v sl s a * s ≤ v + sl * a := Int.ediv_mul_le _ (by omega)
  have h2 := Int.mul_le_mul_of_nonneg_left h h0
  omega
end L3
/-! LN1: lines read. -/
namespace L3
open PySem PySem.Spec PyProof.Rows L2
local macro_rules | `(tactic| walk_at "get") => `(tactic| simp (disch := first | assumption | omega | (simp only [List.length_append, List.length_set, List.length_cons, List.length_nil, List.length_map] <;> omega) | fail) only [g_new, g_nw, g_old, g_set, g_sne, List.length_append, List.length_set, List.length_cons, List.length_nil, List.length_map, List.map_map, Function.comp_def, xs_lst, xs_tup, isL_lst, isL_tup, ↓reduceIte, *])
local macro_rules | `(tactic| walk_at "fr") => `(tactic| first | (intro _ _ _; simp (disch := first | assumption | omega | (simp only [List.length_append, List.length_set, List.length_cons, List.length_nil, List.length_map] <;> omega) | fail) only [g_new, g_nw, g_old, g_set, g_sne, List.length_append, List.length_set, List.length_cons, List.length_nil, List.length_map, List.map_map, Function.comp_def, xs_lst, xs_tup, isL_lst, isL_tup, ↓reduceIte, *]) | (intro _ _; simp (disch := first | assumption | omega | (simp only [List.length_append, List.length_set, List.length_cons, List.length_nil, List.length_map] <;> omega) | fail) only [g_new, g_nw, g_old, g_set, g_sne, List.length_append, List.length_set, List.length_cons, List.length_nil, List.length_map, List.map_map, Function.comp_def, xs_lst, xs_tup, isL_lst, isL_tup, ↓reduceIte, *]))
local macro_rules | `(tactic| walk_at "run") => `(tactic| simp -implicitDefEqProofs (disch := first | assumption | omega | (simp only [List.length_append, List.length_set, List.length_cons, List.length_nil, List.length_map] <;> omega) | fail) only [wp_ok, wp_exc, wp_stuck, ws_ok, ws_exc, ws_stuck, wp_op, kk_op, kk_un, wp_un, wp_cons, kk_cons, kk_cons2, wp_nil, wp_c, wp_app, wp_if, kk_if1, kk_if0, wp_and, kk_and1, kk_and0, wp_or, kk_or1, kk_or0, wp_not, kk_not, wp_tb, kk_tb, wp_andV, kk_andV1, kk_andV0, wp_orV, kk_orV1, kk_orV0, wp_notV, kk_notV, wp_noneS, wp_some, kk_some, wp_sl, kk_sl, kk_sl2, kk_sl3, wp_mL, kk_mL, kk_mL2, wp_mL0, kk_mL0, wp_chain, kk_ch, kk_ch2, kk_ch31, kk_ch30, ws_set, kks_nm, kks_g, kks_tup, kks_lst, ws_expr, kks_expr, ws_ret, kks_ret, ws_retN, ws_pass, ws_brk, ws_cont, ws_raise, ws_if, kks_if1, kks_if0, ws_seq, kks_next, kks_retS, kks_brk, kks_cont, kk_augE, ws_aug, kks_aug, kks_aug2, ws_par, kks_par, ws_setL, kks_sl, kks_sl2, kks_sl3, wp_def, kkd_ret, kkd_next, kkdE, kkE, ws_for, wp_lc, wp_r1, kk_r1, wp_r2, kk_r2, wp_il, wp_it, wp_ie, wp_iz, kk_il, kk_il2, kk_it, kk_it2, kk_ie, kk_ie2, kk_iz, kk_iz2, lAt_k, k_lAtL, k_lAtO, k_lAtT, wp_int, wp_add, wp_addI, wp_sub, wp_neg, wp_lt, wp_le, wp_gt, wp_ge, wp_max2, wp_min2, wp_abs, wp_mulI, wp_mul, wp_fdiv, wp_mod, wp_shl, wp_shr, wp_pow, wp_isN, wp_notN, wp_eqI, wp_neI, wp_ix, kk_ix, kk_ix2, wp_len, kk_lenL, kk_lenT, kk_lenO, kk_lenP, wp_appd, kk_app1, isL_k, kk_isL, startI_cons, startI_nil, rep_succ, rep_zero, List.getElem?_cons_zero, List.getElem?_cons_succ, List.set_cons_zero, List.set_cons_succ, f_call, m_var, List.append_nil, List.nil_append, List.cons_append, List.length_cons, List.length_nil, if_true, if_false, g_tup, g_lst, g_cons, g_nil, g_nm, Option.bind_some, kks_g, atI_0, atI_1, atI_2, atI_3, atI_4, atI_5, atI_6, atI_7, atI_8, atI_9, atI_10, atI_11, atI_12, atI_last, cutI_1, ixN_30, ixN_31, ixN_32, Int.toNat_zero, Int.reduceToNat, Int.reduceNeg, xs_lst, xs_tup, xs_ro, xs_rot, isL_lst, isL_tup, isL_ro, isL_rot, isT_tup, isT_rot, Bool.false_eq_true, Bool.true_eq_false, Bool.not_true, Bool.not_false, decide_true, decide_false, Int.reduceLT, Int.reduceLE, Nat.reduceLT, Nat.reduceLeDiff, Nat.reduceAdd, Nat.reduceEqDiff, Bool.not_eq_true, true_and, and_true, and_self, eq_self, g_new, g_nw, g_old, g_set, g_sne, List.length_set, List.length_append, wp_r3, kk_r3, Int.cast_ofNat_Int, Int.reduceEq, Int.natCast_zero, Int.natCast_one, ws_whileA, wp_isiII, wp_isiIB, wp_isiI_list, wp_isiI_tuple, wp_isiI_str, wp_isiR, tyO_l, tyO_t, kk_isi, kk_isi2, kit_ll, kit_tt, kit_lt, kit_tl, wp_isiN, wp_isiBl, wp_isiS, tyO_d, kit2_NoneType_int, kit2_NoneType_bool, kit2_NoneType_list, kit2_NoneType_tuple, kit2_NoneType_str, kit2_bool_int, kit2_bool_bool, kit2_bool_list, kit2_bool_tuple, kit2_bool_str, kit2_str_int, kit2_str_bool, kit2_str_list, kit2_str_tuple, kit2_str_str, kit2_dict_int, kit2_dict_bool, kit2_dict_list, kit2_dict_tuple, kit2_dict_str, kit2_list_int, kit2_list_bool, kit2_list_str, kit2_tuple_int, kit2_tuple_bool, kit2_tuple_str, kit2_int_list, kit2_int_tuple, kit2_int_str, kf_next, kf_cont, kf_brk, kf_ret, wipeI, ↓reduceIte, *])
theorem q_reads (c : Cs) {t : Nat} {v sl h k : Int} {ih : IH} (p : Trip t v sl h ih) (kB : B 8000 k) (Q : PQ IV) (E : EQ) : wp (m_reads c [.ref t, .int k] ih) Q E = Q (.int (rd v sl (2 ^ h.toNat) k)) ih := by
  obtain ⟨g, s0, h0, h1, vB, sB⟩ := p
  have e : rd v sl (2 ^ h.toNat) k = (v + sl * k) / 2 ^ h.toNat := rfl
  have cm : cMul sl k = true := B.cmul sB kB (by decide)
  unfold m_reads b_reads
  walk_at "run"
theorem q_lread (c : Cs) {t : Nat} {v sl h k : Int} {ih : IH} (p : Trip t v sl h ih) (k0 : 0 ≤ k) (kB : B 8000 k) (Q : PQ IV) (E : EQ) : wp (m_line_reading c [.ref t, .int k] ih) Q E = Q (.int (rd v sl (2 ^ h.toNat) k)) ih := by
  have a1 := q_line c p
  have a2 := q_cycle c k0
  have a3 := q_reads c p kB
  unfold m_line_reading b_line_reading
  walk_at "run"
end L3
/-! LN: lines. -/
namespace L3
open PySem PySem.Spec PyProof.Rows L2
local macro_rules | `(tactic| walk_at "get") => `(tactic| simp (disch := first | assumption | omega | (simp only [List.length_append, List.length_set, List.length_cons, List.length_nil, List.length_map] <;> omega) | fail) only [g_new, g_nw, g_old, g_set, g_sne, List.length_append, List.length_set, List.length_cons, List.length_nil, List.length_map, List.map_map, Function.comp_def, xs_lst, xs_tup, isL_lst, isL_tup, ↓reduceIte, *])
local macro_rules | `(tactic| walk_at "fr") => `(tactic| first | (intro _ _ _; simp (disch := first | assumption | omega | (simp only [List.length_append, List.length_set, List.length_cons, List.length_nil, List.length_map] <;> omega) | fail) only [g_new, g_nw, g_old, g_set, g_sne, List.length_append, List.length_set, List.length_cons, List.length_nil, List.length_map, List.map_map, Function.comp_def, xs_lst, xs_tup, isL_lst, isL_tup, ↓reduceIte, *]) | (intro _ _; simp (disch := first | assumption | omega | (simp only [List.length_append, List.length_set, List.length_cons, List.length_nil, List.length_map] <;> omega) | fail) only [g_new, g_nw, g_old, g_set, g_sne, List.length_append, List.length_set, List.length_cons, List.length_nil, List.length_map, List.map_map, Function.comp_def, xs_lst, xs_tup, isL_lst, isL_tup, ↓reduceIte, *]))
local macro_rules | `(tactic| walk_at "run") => `(tactic| simp -implicitDefEqProofs (disch := first | assumption | omega | (simp only [List.length_append, List.length_set, List.length_cons, List.length_nil, List.length_map] <;> omega) | fail) only [wp_ok, wp_exc, wp_stuck, ws_ok, ws_exc, ws_stuck, wp_op, kk_op, kk_un, wp_un, wp_cons, kk_cons, kk_cons2, wp_nil, wp_c, wp_app, wp_if, kk_if1, kk_if0, wp_and, kk_and1, kk_and0, wp_or, kk_or1, kk_or0, wp_not, kk_not, wp_tb, kk_tb, wp_andV, kk_andV1, kk_andV0, wp_orV, kk_orV1, kk_orV0, wp_notV, kk_notV, wp_noneS, wp_some, kk_some, wp_sl, kk_sl, kk_sl2, kk_sl3, wp_mL, kk_mL, kk_mL2, wp_mL0, kk_mL0, wp_chain, kk_ch, kk_ch2, kk_ch31, kk_ch30, ws_set, kks_nm, kks_g, kks_tup, kks_lst, ws_expr, kks_expr, ws_ret, kks_ret, ws_retN, ws_pass, ws_brk, ws_cont, ws_raise, ws_if, kks_if1, kks_if0, ws_seq, kks_next, kks_retS, kks_brk, kks_cont, kk_augE, ws_aug, kks_aug, kks_aug2, ws_par, kks_par, ws_setL, kks_sl, kks_sl2, kks_sl3, wp_def, kkd_ret, kkd_next, kkdE, kkE, ws_for, wp_lc, wp_r1, kk_r1, wp_r2, kk_r2, wp_il, wp_it, wp_ie, wp_iz, kk_il, kk_il2, kk_it, kk_it2, kk_ie, kk_ie2, kk_iz, kk_iz2, lAt_k, k_lAtL, k_lAtO, k_lAtT, wp_int, wp_add, wp_addI, wp_sub, wp_neg, wp_lt, wp_le, wp_gt, wp_ge, wp_max2, wp_min2, wp_abs, wp_mulI, wp_mul, wp_fdiv, wp_mod, wp_shl, wp_shr, wp_pow, wp_isN, wp_notN, wp_eqI, wp_neI, wp_ix, kk_ix, kk_ix2, wp_len, kk_lenL, kk_lenT, kk_lenO, kk_lenP, wp_appd, kk_app1, isL_k, kk_isL, startI_cons, startI_nil, rep_succ, rep_zero, List.getElem?_cons_zero, List.getElem?_cons_succ, List.set_cons_zero, List.set_cons_succ, f_call, m_var, List.append_nil, List.nil_append, List.cons_append, List.length_cons, List.length_nil, if_true, if_false, g_tup, g_lst, g_cons, g_nil, g_nm, Option.bind_some, kks_g, atI_0, atI_1, atI_2, atI_3, atI_4, atI_5, atI_6, atI_7, atI_8, atI_9, atI_10, atI_11, atI_12, atI_last, cutI_1, ixN_30, ixN_31, ixN_32, Int.toNat_zero, Int.reduceToNat, Int.reduceNeg, xs_lst, xs_tup, xs_ro, xs_rot, isL_lst, isL_tup, isL_ro, isL_rot, isT_tup, isT_rot, Bool.false_eq_true, Bool.true_eq_false, Bool.not_true, Bool.not_false, decide_true, decide_false, Int.reduceLT, Int.reduceLE, Nat.reduceLT, Nat.reduceLeDiff, Nat.reduceAdd, Nat.reduceEqDiff, Bool.not_eq_true, true_and, and_true, and_self, eq_self, g_new, g_nw, g_old, g_set, g_sne, List.length_set, List.length_append, wp_r3, kk_r3, Int.cast_ofNat_Int, Int.reduceEq, Int.natCast_zero, Int.natCast_one, ws_whileA, wp_isiII, wp_isiIB, wp_isiI_list, wp_isiI_tuple, wp_isiI_str, wp_isiR, tyO_l, tyO_t, kk_isi, kk_isi2, kit_ll, kit_tt, kit_lt, kit_tl, wp_isiN, wp_isiBl, wp_isiS, tyO_d, kit2_NoneType_int, kit2_NoneType_bool, kit2_NoneType_list, kit2_NoneType_tuple, kit2_NoneType_str, kit2_bool_int, kit2_bool_bool, kit2_bool_list, kit2_bool_tuple, kit2_bool_str, kit2_str_int, kit2_str_bool, kit2_str_list, kit2_str_tuple, kit2_str_str, kit2_dict_int, kit2_dict_bool, kit2_dict_list, kit2_dict_tuple, kit2_dict_str, kit2_list_int, kit2_list_bool, kit2_list_str, kit2_tuple_int, kit2_tuple_bool, kit2_tuple_str, kit2_int_list, kit2_int_tuple, kit2_int_str, kf_next, kf_cont, kf_brk, kf_ret, wipeI, ↓reduceIte, *])
theorem q_reading (c : Cs) (r : Int) (ih : IH) (Q : PQ IV) (E : EQ) : wp (m_check_reading c [.int r] ih) Q E = Q .non ih := by
  have a := q_whole0 c r
  unfold m_check_reading b_check_reading
  walk_at "run"
def rch (v sl s r : Int) : Option Int := if r * s - v ≤ 0 then some 0 else if 0 < sl then some (ce (r * s - v) sl) else none
theorem q_reached (c : Cs) {t : Nat} {v sl h r : Int} {ih : IH} (p : Trip t v sl h ih) (rB : B 8000 r) (Q : PQ IV) (E : EQ) : wp (m_reached c [.ref t, .int r] ih) Q E = Q (ofO (rch v sl (2 ^ h.toNat) r)) ih := by
  obtain ⟨g, s0, h0, h1, vB, sB⟩ := p
  have d : cShl r h = true := by
    obtain ⟨k, rfl⟩ := Int.eq_ofNat_of_zero_le h0
    exact cShl_of rB (by omega)
  obtain ⟨s, es⟩ : ∃ s : Int, 2 ^ h.toNat = s := ⟨_, rfl⟩
  unfold m_reached b_reached
  by_cases t1 : r * s - v ≤ 0
  · have d1 := decide_eq_true t1
    have e : ofO (rch v sl s r) = .int 0 := by
      unfold rch
      rw [if_pos t1]
      rfl
    clear t1
    walk_at "run"
  · have d1 := decide_eq_false t1
    by_cases t2 : 0 < sl
    · have d2 := decide_eq_true t2
      have e : ofO (rch v sl s r) = .int (ce (r * s - v) sl) := by
        unfold rch
        rw [if_neg t1, if_pos t2]
        rfl
      have u := fun n => q_up c (n := n) t2 (sB.mono (by decide))
      clear t1 t2
      walk_at "run"
    · have d2 := decide_eq_false t2
      have e : ofO (rch v sl s r) = .non := by
        unfold rch
        rw [if_neg t1, if_neg t2]
        rfl
      clear t1 t2
      walk_at "run"
theorem q_reach (c : Cs) {t : Nat} {v sl h r : Int} {ih : IH} (p : Trip t v sl h ih) (rB : B 8000 r) (Q : PQ IV) (E : EQ) : wp (m_first_reach c [.ref t, .int r] ih) Q E = Q (ofO (rch v sl (2 ^ h.toNat) r)) ih := by
  have a1 := q_line c p
  have a2 := q_reading c r
  have a3 := q_reached c p rB
  unfold m_first_reach b_first_reach
  walk_at "run"
/-- the least cycle at which the line reads so much -/
def Rch (v sl s r : Int) : Option Int → Prop
  | some a => 0 ≤ a ∧ r ≤ rd v sl s a ∧ ∀ b, 0 ≤ b → b < a → rd v sl s b < r
  | none => ∀ b, 0 ≤ b → rd v sl s b < r
theorem rch_spec {v sl s r : Int} (hs : 0 < s) (h0 : 0 ≤ sl) : Rch v sl s r (rch v sl s r) := by
  unfold rch
  split
  · refine ⟨Int.le_refl 0, (rd_le hs).mpr ?_, fun b h1 h2 => by omega⟩
    rw [Int.mul_zero]
    omega
  · split
    · rename_i t1 t2
      obtain ⟨k1, k2⟩ := ce_spec (n := r * s - v) t2
      refine ⟨ce_nn t2 (by omega), (rd_le hs).mpr ?_, fun b h1 h2 => (rd_lt hs).mpr ?_⟩
      · rw [Int.mul_comm sl]
        omega
      · have := Int.mul_le_mul_of_nonneg_right (show b ≤ ce (r * s - v) sl - 1 by omega) (show 0 ≤ sl by omega)
        rw [Int.mul_comm sl]
        omega
    · rename_i t1 t2
      intro b hb
      refine (rd_lt hs).mpr ?_
      have : sl = 0 := by omega
      subst this
      rw [Int.zero_mul]
      omega
theorem Rch.uniq {v sl s r : Int} : ∀ {x y : Option Int}, Rch v sl s r x → Rch v sl s r y → x = y
  | some a, some b, h, k => by
    rcases Int.lt_trichotomy a b with e | e | e
    · have := k.2.2 a h.1 e
      have := h.2.1
      omega
    · rw [e]
    · have := h.2.2 b k.1 e
      have := k.2.1
      omega
  | some a, none, h, k => by
    have := k a h.1
    have := h.2.1
    omega
  | none, some b, h, k => by
    have := h b k.1
    have := k.2.1
    omega
  | none, none, _, _ => rfl
def runO (v sl s r : Int) : Option (Int × Option Int) := match rch v sl s r with
  | none => none
  | some a => if rd v sl s a = r then some (a, (rch v sl s (r + 1)).map (· - 1)) else none
def runD : Option (Int × Option Int) → PyData
  | some (a, b) => .tuple [.int a, oD b]
  | none => .none
theorem shaped_runD : ∀ x : Option (Int × Option Int), SeqAt.shaped (runD x) = true
  | some (a, some b) => by simp [runD, oD, SeqAt.shaped, PyData.canLay0, PyData.canLayAll0, PyData.depth, PyData.depthAll]
  | some (a, none) => by simp [runD, oD, SeqAt.shaped, PyData.canLay0, PyData.canLayAll0, PyData.depth, PyData.depthAll]
  | none => by simp [runD, SeqAt.shaped, PyData.canLay0, PyData.depth]
theorem rch_B {v sl s r a : Int} (hs : 0 < s) (h0 : 0 ≤ sl) (vB : B 400 v) (sB : B 65 s) (rB : B 4000 r) (e : rch v sl s r = some a) : B 4500 a := by
  unfold rch at e
  split at e
  · cases e
    exact (lit 10 : B 10 0).mono (by decide)
  · split at e
    · cases e
      rename_i t1 t2
      unfold ce
      have hB : B 4066 (r * s - v) := B.sub ((B.mul rB sB).mono (by decide)) (vB.mono (by decide))
      have h1 : B 4067 (0 - (r * s - v)) := B.sub (lit 4066) hB
      exact (B.sub (lit 4067) (B.div h1 t2)).mono (by decide)
    · cases e
end L3
/-! LS: stretches of readings. -/
namespace L3
open PySem PySem.Spec PyProof.Rows L2
local macro_rules | `(tactic| walk_at "get") => `(tactic| simp (disch := first | assumption | omega | (simp only [List.length_append, List.length_set, List.length_cons, List.length_nil, List.length_map] <;> omega) | fail) only [g_new, g_nw, g_old, g_set, g_sne, List.length_append, List.length_set, List.length_cons, List.length_nil, List.length_map, List.map_map, Function.comp_def, xs_lst, xs_tup, isL_lst, isL_tup, ↓reduceIte, *])
local macro_rules | `(tactic| walk_at "fr") => `(tactic| first | (intro _ _ _; simp (disch := first | assumption | omega | (simp only [List.length_append, List.length_set, List.length_cons, List.length_nil, List.length_map] <;> omega) | fail) only [g_new, g_nw, g_old, g_set, g_sne, List.length_append, List.length_set, List.length_cons, List.length_nil, List.length_map, List.map_map, Function.comp_def, xs_lst, xs_tup, isL_lst, isL_tup, ↓reduceIte, *]) | (intro _ _; simp (disch := first | assumption | omega | (simp only [List.length_append, List.length_set, List.length_cons, List.length_nil, List.length_map] <;> omega) | fail) only [g_new, g_nw, g_old, g_set, g_sne, List.length_append, List.length_set, List.length_cons, List.length_nil, List.length_map, List.map_map, Function.comp_def, xs_lst, xs_tup, isL_lst, isL_tup, ↓reduceIte, *]))
local macro_rules | `(tactic| walk_at "run") => `(tactic| simp -implicitDefEqProofs (disch := first | assumption | omega | (simp only [List.length_append, List.length_set, List.length_cons, List.length_nil, List.length_map] <;> omega) | fail) only [wp_ok, wp_exc, wp_stuck, ws_ok, ws_exc, ws_stuck, wp_op, kk_op, kk_un, wp_un, wp_cons, kk_cons, kk_cons2, wp_nil, wp_c, wp_app, wp_if, kk_if1, kk_if0, wp_and, kk_and1, kk_and0, wp_or, kk_or1, kk_or0, wp_not, kk_not, wp_tb, kk_tb, wp_andV, kk_andV1, kk_andV0, wp_orV, kk_orV1, kk_orV0, wp_notV, kk_notV, wp_noneS, wp_some, kk_some, wp_sl, kk_sl, kk_sl2, kk_sl3, wp_mL, kk_mL, kk_mL2, wp_mL0, kk_mL0, wp_chain, kk_ch, kk_ch2, kk_ch31, kk_ch30, ws_set, kks_nm, kks_g, kks_tup, kks_lst, ws_expr, kks_expr, ws_ret, kks_ret, ws_retN, ws_pass, ws_brk, ws_cont, ws_raise, ws_if, kks_if1, kks_if0, ws_seq, kks_next, kks_retS, kks_brk, kks_cont, kk_augE, ws_aug, kks_aug, kks_aug2, ws_par, kks_par, ws_setL, kks_sl, kks_sl2, kks_sl3, wp_def, kkd_ret, kkd_next, kkdE, kkE, ws_for, wp_lc, wp_r1, kk_r1, wp_r2, kk_r2, wp_il, wp_it, wp_ie, wp_iz, kk_il, kk_il2, kk_it, kk_it2, kk_ie, kk_ie2, kk_iz, kk_iz2, lAt_k, k_lAtL, k_lAtO, k_lAtT, wp_int, wp_add, wp_addI, wp_sub, wp_neg, wp_lt, wp_le, wp_gt, wp_ge, wp_max2, wp_min2, wp_abs, wp_mulI, wp_mul, wp_fdiv, wp_mod, wp_shl, wp_shr, wp_pow, wp_isN, wp_notN, wp_eqI, wp_neI, wp_ix, kk_ix, kk_ix2, wp_len, kk_lenL, kk_lenT, kk_lenO, kk_lenP, wp_appd, kk_app1, isL_k, kk_isL, startI_cons, startI_nil, rep_succ, rep_zero, List.getElem?_cons_zero, List.getElem?_cons_succ, List.set_cons_zero, List.set_cons_succ, f_call, m_var, List.append_nil, List.nil_append, List.cons_append, List.length_cons, List.length_nil, if_true, if_false, g_tup, g_lst, g_cons, g_nil, g_nm, Option.bind_some, kks_g, atI_0, atI_1, atI_2, atI_3, atI_4, atI_5, atI_6, atI_7, atI_8, atI_9, atI_10, atI_11, atI_12, atI_last, cutI_1, ixN_30, ixN_31, ixN_32, Int.toNat_zero, Int.reduceToNat, Int.reduceNeg, xs_lst, xs_tup, xs_ro, xs_rot, isL_lst, isL_tup, isL_ro, isL_rot, isT_tup, isT_rot, Bool.false_eq_true, Bool.true_eq_false, Bool.not_true, Bool.not_false, decide_true, decide_false, Int.reduceLT, Int.reduceLE, Nat.reduceLT, Nat.reduceLeDiff, Nat.reduceAdd, Nat.reduceEqDiff, Bool.not_eq_true, true_and, and_true, and_self, eq_self, g_new, g_nw, g_old, g_set, g_sne, List.length_set, List.length_append, wp_r3, kk_r3, Int.cast_ofNat_Int, Int.reduceEq, Int.natCast_zero, Int.natCast_one, ws_whileA, wp_isiII, wp_isiIB, wp_isiI_list, wp_isiI_tuple, wp_isiI_str, wp_isiR, tyO_l, tyO_t, kk_isi, kk_isi2, kit_ll, kit_tt, kit_lt, kit_tl, wp_isiN, wp_isiBl, wp_isiS, tyO_d, kit2_NoneType_int, kit2_NoneType_bool, kit2_NoneType_list, kit2_NoneType_tuple, kit2_NoneType_str, kit2_bool_int, kit2_bool_bool, kit2_bool_list, kit2_bool_tuple, kit2_bool_str, kit2_str_int, kit2_str_bool, kit2_str_list, kit2_str_tuple, kit2_str_str, kit2_dict_int, kit2_dict_bool, kit2_dict_list, kit2_dict_tuple, kit2_dict_str, kit2_list_int, kit2_list_bool, kit2_list_str, kit2_tuple_int, kit2_tuple_bool, kit2_tuple_str, kit2_int_list, kit2_int_tuple, kit2_int_str, kf_next, kf_cont, kf_brk, kf_ret, wipeI, ↓reduceIte, *])
theorem w_shows (c : Cs) {t : Nat} {v sl h r : Int} {ih : IH} {Q : PQ IV} {E : EQ} (p : Trip t v sl h ih) (rB : B 3999 r) (k : ∀ x ih', Is ih' x (runD (runO v sl (2 ^ h.toNat) r)) → Fx ih ih' → ih.length ≤ ih'.length → Q x ih') : wp (m_shows_run c [.ref t, .int r] ih) Q E := by
  have a1 := q_line c p
  have a2 := q_reading c r
  have a3 := q_reached c p (rB.mono (by decide))
  have a4 := q_reached c p (r := r + 1) ((B.add rB (lit 3999 : B 3999 1)).mono (by decide))
  have hs := pow_pos h
  have pB := pow_B p.h0 p.h1
  have rB' := fun a => rch_B (v := v) (sl := sl) (r := r) (a := a) hs p.s0 p.vB pB (rB.mono (by decide))
  have a5 := fun a e => q_reads c (k := a) p ((rB' a e).mono (by decide))
  obtain ⟨s, es⟩ : ∃ s : Int, 2 ^ h.toNat = s := ⟨_, rfl⟩
  rw [es] at k a3 a4 a5
  clear rB' hs pB
  unfold m_shows_run b_shows_run
  unfold runO at k
  have dn : decide (IV.non = IV.non) = true := rfl
  have di : ∀ i, decide (IV.int i = IV.non) = false := fun _ => rfl
  cases e1 : rch v sl s r with
  | none =>
    rw [e1] at a3 k
    have a3' : ∀ Q E, wp (m_reached c [.ref t, .int r] ih) Q E = Q .non ih := a3
    have kz := k .non ih .non Fx.refl (Nat.le_refl _)
    clear a3 k a5 a4
    walk_at "run"
    all_goals exact kz
  | some a =>
    rw [e1] at a3 k
    have a3' : ∀ Q E, wp (m_reached c [.ref t, .int r] ih) Q E = Q (.int a) ih := a3
    have a5' := a5 a e1
    clear a3 a5
    dsimp only at k
    obtain ⟨z, ez⟩ : ∃ z, rd v sl s a = z := ⟨_, rfl⟩
    rw [ez] at k a5'
    by_cases hz : z = r
    · have d1 := decide_eq_true hz
      rw [if_pos hz] at k
      clear hz ez
      cases e2 : rch v sl s (r + 1) with
      | none =>
        rw [e2] at a4 k
        have a4' : ∀ Q E, wp (m_reached c [.ref t, .int (r + 1)] ih) Q E = Q .non ih := a4
        clear a4 e1 e2
        walk_at "run"
        refine wp_tup (by simp) (newN fun q ih2 q1 q2 l2 f2 g2 => ?_)
        have kz := k (.ref q) ih2 (.tup g2 rfl (.cons (.int a) (.cons .non .nil))) f2 (by omega)
        clear k
        walk_at "run"
        all_goals exact kz
      | some b =>
        rw [e2] at a4 k
        have a4' : ∀ Q E, wp (m_reached c [.ref t, .int (r + 1)] ih) Q E = Q (.int b) ih := a4
        clear a4 e1 e2
        walk_at "run"
        refine wp_tup (by simp) (newN fun q ih2 q1 q2 l2 f2 g2 => ?_)
        have kz := k (.ref q) ih2 (.tup g2 rfl (.cons (.int a) (.cons (.int (b - 1)) .nil))) f2 (by omega)
        clear k
        walk_at "run"
        all_goals exact kz
    · have d1 := decide_eq_false hz
      rw [if_neg hz] at k
      have kz := k .non ih .non Fx.refl (Nat.le_refl _)
      clear k hz ez e1 a4
      walk_at "run"
      all_goals exact kz
end L3
/-! SF: sums of what lines read. (L12) -/
namespace L3
open PySem PySem.Spec PyProof.Rows L2
local macro_rules | `(tactic| walk_at "get") => `(tactic| simp (disch := first | assumption | omega | (simp only [List.length_append, List.length_set, List.length_cons, List.length_nil, List.length_map] <;> omega) | fail) only [g_new, g_nw, g_old, g_set, g_sne, List.length_append, List.length_set, List.length_cons, List.length_nil, List.length_map, List.map_map, Function.comp_def, xs_lst, xs_tup, isL_lst, isL_tup, ↓reduceIte, *])
local macro_rules | `(tactic| walk_at "fr") => `(tactic| first | (intro _ _ _; simp (disch := first | assumption | omega | (simp only [List.length_append, List.length_set, List.length_cons, List.length_nil, List.length_map] <;> omega) | fail) only [g_new, g_nw, g_old, g_set, g_sne, List.length_append, List.length_set, List.length_cons, List.length_nil, List.length_map, List.map_map, Function.comp_def, xs_lst, xs_tup, isL_lst, isL_tup, ↓reduceIte, *]) | (intro _ _; simp (disch := first | assumption | omega | (simp only [List.length_append, List.length_set, List.length_cons, List.length_nil, List.length_map] <;> omega) | fail) only [g_new, g_nw, g_old, g_set, g_sne, List.length_append, List.length_set, List.length_cons, List.length_nil, List.length_map, List.map_map, Function.comp_def, xs_lst, xs_tup, isL_lst, isL_tup, ↓reduceIte, *]))
local macro_rules | `(tactic| walk_at "run") => `(tactic| simp -implicitDefEqProofs (disch := first | assumption | omega | (simp only [List.length_append, List.length_set, List.length_cons, List.length_nil, List.length_map] <;> omega) | fail) only [wp_ok, wp_exc, wp_stuck, ws_ok, ws_exc, ws_stuck, wp_op, kk_op, kk_un, wp_un, wp_cons, kk_cons, kk_cons2, wp_nil, wp_c, wp_app, wp_if, kk_if1, kk_if0, wp_and, kk_and1, kk_and0, wp_or, kk_or1, kk_or0, wp_not, kk_not, wp_tb, kk_tb, wp_andV, kk_andV1, kk_andV0, wp_orV, kk_orV1, kk_orV0, wp_notV, kk_notV, wp_noneS, wp_some, kk_some, wp_sl, kk_sl, kk_sl2, kk_sl3, wp_mL, kk_mL, kk_mL2, wp_mL0, kk_mL0, wp_chain, kk_ch, kk_ch2, kk_ch31, kk_ch30, ws_set, kks_nm, kks_g, kks_tup, kks_lst, ws_expr, kks_expr, ws_ret, kks_ret, ws_retN, ws_pass, ws_brk, ws_cont, ws_raise, ws_if, kks_if1, kks_if0, ws_seq, kks_next, kks_retS, kks_brk, kks_cont, kk_augE, ws_aug, kks_aug, kks_aug2, ws_par, kks_par, ws_setL, kks_sl, kks_sl2, kks_sl3, wp_def, kkd_ret, kkd_next, kkdE, kkE, ws_for, wp_lc, wp_r1, kk_r1, wp_r2, kk_r2, wp_il, wp_it, wp_ie, wp_iz, kk_il, kk_il2, kk_it, kk_it2, kk_ie, kk_ie2, kk_iz, kk_iz2, lAt_k, k_lAtL, k_lAtO, k_lAtT, wp_int, wp_add, wp_addI, wp_sub, wp_neg, wp_lt, wp_le, wp_gt, wp_ge, wp_max2, wp_min2, wp_abs, wp_mulI, wp_mul, wp_fdiv, wp_mod, wp_shl, wp_shr, wp_pow, wp_isN, wp_notN, wp_eqI, wp_neI, wp_ix, kk_ix, kk_ix2, wp_len, kk_lenL, kk_lenT, kk_lenO, kk_lenP, wp_appd, kk_app1, isL_k, kk_isL, startI_cons, startI_nil, rep_succ, rep_zero, List.getElem?_cons_zero, List.getElem?_cons_succ, List.set_cons_zero, List.set_cons_succ, f_call, m_var, List.append_nil, List.nil_append, List.cons_append, List.length_cons, List.length_nil, if_true, if_false, g_tup, g_lst, g_cons, g_nil, g_nm, Option.bind_some, kks_g, atI_0, atI_1, atI_2, atI_3, atI_4, atI_5, atI_6, atI_7, atI_8, atI_9, atI_10, atI_11, atI_12, atI_last, cutI_1, ixN_30, ixN_31, ixN_32, Int.toNat_zero, Int.reduceToNat, Int.reduceNeg, xs_lst, xs_tup, xs_ro, xs_rot, isL_lst, isL_tup, isL_ro, isL_rot, isT_tup, isT_rot, Bool.false_eq_true, Bool.true_eq_false, Bool.not_true, Bool.not_false, decide_true, decide_false, Int.reduceLT, Int.reduceLE, Nat.reduceLT, Nat.reduceLeDiff, Nat.reduceAdd, Nat.reduceEqDiff, Bool.not_eq_true, true_and, and_true, and_self, eq_self, g_new, g_nw, g_old, g_set, g_sne, List.length_set, List.length_append, wp_r3, kk_r3, Int.cast_ofNat_Int, Int.reduceEq, Int.natCast_zero, Int.natCast_one, ws_whileA, wp_isiII, wp_isiIB, wp_isiI_list, wp_isiI_tuple, wp_isiI_str, wp_isiR, tyO_l, tyO_t, kk_isi, kk_isi2, kit_ll, kit_tt, kit_lt, kit_tl, wp_isiN, wp_isiBl, wp_isiS, tyO_d, kit2_NoneType_int, kit2_NoneType_bool, kit2_NoneType_list, kit2_NoneType_tuple, kit2_NoneType_str, kit2_bool_int, kit2_bool_bool, kit2_bool_list, kit2_bool_tuple, kit2_bool_str, kit2_str_int, kit2_str_bool, kit2_str_list, kit2_str_tuple, kit2_str_str, kit2_dict_int, kit2_dict_bool, kit2_dict_list, kit2_dict_tuple, kit2_dict_str, kit2_list_int, kit2_list_bool, kit2_list_str, kit2_tuple_int, kit2_tuple_bool, kit2_tuple_str, kit2_int_list, kit2_int_tuple, kit2_int_str, kf_next, kf_cont, kf_brk, kf_ret, wipeI, wp_callL, wp_fits, kk_fits, kk_fits2, wp_lamB, ↓reduceIte, *])
theorem lw_sum (c : Cs) {fu n0 : Nat} (hf : 210 < fu) {m a b : Int} {ih : IH} {e5 : Option IV} {S : SQ} {F : ES} (hm : 0 < m) (mB : B 70 m) (a0 : 0 ≤ a) (aB : B 400 a) (bB : B 1300 b) (nB : B 800 (n0 : Int))
    (fin : ∀ e0 e1 e2 e3 e5 ih', Fx ih ih' → ih.length ≤ ih'.length → S (.next [e0, e1, e2, e3, some (.int (fls m a b n0)), e5]) ih') :
    ws (whileGo (wt_sum_of_floors_1 c) (wb_sum_of_floors_1 c) fu [some (.int (n0 : Int)), some (.int m), some (.int a), some (.int b), some (.int 0), e5] ih) S F := by
  obtain ⟨tot, etot⟩ : ∃ t, fls m a b n0 = t := ⟨_, rfl⟩
  rw [etot] at fin
  refine while_ind (fun _ _ => True) (fun env ih' k => Fx ih ih' ∧ ih.length ≤ ih'.length ∧ ∃ (n : Nat) (m a b f : Int) (e5 : Option IV), env = [some (.int (n : Int)), some (.int m), some (.int a), some (.int b), some (.int f), e5] ∧ f + fls m a b n = tot ∧ n ≤ n0 ∧ k ≤ 200 ∧ B (3000 + (200 - k)) f ∧ 0 ≤ a ∧ B 400 a ∧ B 1300 b ∧ B 70 m ∧
    (n = 0 ∨ (0 < m ∧ ((m ≤ a ∧ m * a < 2 ^ k) ∨ (1 ≤ k ∧ m * m < 2 ^ (k - 1)))))) (fun k env ih' _ hP => ?_) fu 200 _ ih trivial ⟨Fx.refl, Nat.le_refl _, n0, m, a, b, 0, _, rfl, by omega, Nat.le_refl _, Nat.le_refl _, (lit 1 : B 1 0).mono (by decide), a0, aB, bB, mB, .inr ⟨hm, .inr ⟨by decide, ?_⟩⟩⟩ (by omega)
  · clear hm a0 aB bB mB etot
    obtain ⟨fx, lx, n, m, a, b, f, e5, ee, hs, hn, hk2, fB, a0, aB, bB, mB, hk⟩ := hP
    subst ee
    unfold wt_sum_of_floors_1
    by_cases hz : n = 0
    · subst hz
      have d1 : decide ((0 : Int) < ((0 : Nat) : Int)) = false := rfl
      have ef : f = tot := by
        have : fls m a b 0 = 0 := rfl
        omega
      subst ef
      have kz := fun e0 e1 e2 e3 e5 => fin e0 e1 e2 e3 e5 ih' fx lx
      clear fin hk hs fx lx
      walk_at "run"
      all_goals exact kz _ _ _ _ _
    · have d1 : decide ((0 : Int) < (n : Int)) = true := decide_eq_true (by omega)
      obtain ⟨hm, hk⟩ := hk.resolve_left hz
      have nB' : B 800 (n : Int) := B.le (by omega) (by omega) nB
      have n1B : B 801 ((n : Int) - 1) := B.sub nB' (lit 800)
      have p1 : B 1601 ((n : Int) * ((n : Int) - 1)) := B.mul nB' n1B
      have p2 : B 1601 ((n : Int) * ((n : Int) - 1) / 2) := B.div p1 (by decide)
      have p3 : B 400 (a / m) := B.div aB hm
      have p4 : B 1300 (b / m) := B.div bB hm
      have c1 : cMul (n : Int) ((n : Int) - 1) = true := B.cmul nB' n1B (by decide)
      have c2 : cDiv ((n : Int) * ((n : Int) - 1)) 2 = true := cDiv_of (by decide) (lit 2 : B 2 2) (by decide) (by decide)
      have c3 : ∀ x, cDiv x m = true := fun x => cDiv_of hm mB (by decide) (by decide)
      have c4 : cMul ((n : Int) * ((n : Int) - 1) / 2) (a / m) = true := B.cmul p2 p3 (by decide)
      have c5 : cMul (n : Int) (b / m) = true := B.cmul nB' p4 (by decide)
      have am0 := Int.emod_nonneg a (show m ≠ 0 by omega)
      have am1 := Int.emod_lt_of_pos a hm
      have bm0 := Int.emod_nonneg b (show m ≠ 0 by omega)
      have bm1 := Int.emod_lt_of_pos b hm
      have amB : B 70 (a % m) := B.le am0 (Int.le_of_lt am1) mB
      have bmB : B 70 (b % m) := B.le bm0 (Int.le_of_lt bm1) mB
      have c6 : cMul (a % m) (n : Int) = true := B.cmul amB nB' (by decide)
      have an0 : 0 ≤ a % m * (n : Int) := Int.mul_nonneg am0 (by omega)
      have L0 : 0 ≤ a % m * (n : Int) + b % m := by omega
      obtain ⟨N, eN⟩ := Int.eq_ofNat_of_zero_le (Int.ediv_nonneg L0 (show 0 ≤ m by omega))
      have Nn : N ≤ n := by
        have h1 := Int.mul_le_mul_of_nonneg_right (show a % m ≤ m - 1 by omega) (show (0 : Int) ≤ n by omega)
        rw [Int.sub_mul, Int.one_mul] at h1
        have h2 : (a % m * (n : Int) + b % m) / m < n + 1 := (Int.ediv_lt_iff_lt_mul hm).mpr (by rw [Int.add_mul, Int.mul_comm (n : Int) m]; omega)
        omega
      have Lm0 := Int.emod_nonneg (a % m * (n : Int) + b % m) (show m ≠ 0 by omega)
      have Lm1 := Int.emod_lt_of_pos (a % m * (n : Int) + b % m) hm
      have turn := fls_turn (a := a) (b := b) hm n
      rw [show b % m + a % m * (n : Int) = a % m * n + b % m by omega, eN, Int.toNat_natCast] at turn
      have nk : ∃ j, j < k ∧ (N = 0 ∨ (0 < a % m ∧ ((a % m ≤ m ∧ a % m * m < 2 ^ j) ∨ (1 ≤ j ∧ a % m * (a % m) < 2 ^ (j - 1))))) := by
        have k1 : 1 ≤ k := by
          rcases hk with ⟨h1, h2⟩ | ⟨h1, _⟩
          · rcases Nat.eq_zero_or_pos k with e | e
            · subst e
              have h3 := Int.mul_le_mul (show 1 ≤ m by omega) (show 1 ≤ a by omega) (by decide) (by omega)
              have : (2 : Int) ^ 0 = 1 := rfl
              omega
            · exact e
          · exact h1
        obtain ⟨j, rfl⟩ : ∃ j, k = j + 1 := ⟨k - 1, by omega⟩
        refine ⟨j, by omega, ?_⟩
        rcases Int.lt_or_eq_of_le am0 with ha | ha
        · right
          refine ⟨ha, .inl ⟨Int.le_of_lt am1, ?_⟩⟩
          rcases hk with ⟨h1, h2⟩ | ⟨_, h2⟩
          · have q1 : 1 ≤ a / m := (Int.le_ediv_iff_mul_le hm).mpr (by omega)
            have md := Int.emod_def a m
            have q2 : m * 1 ≤ m * (a / m) := Int.mul_le_mul_of_nonneg_left q1 (by omega)
            have e3 := Int.mul_le_mul_of_nonneg_left (show 2 * (a % m) ≤ a by omega) (show 0 ≤ m by omega)
            have e4 : m * (2 * (a % m)) = 2 * (a % m * m) := by rw [Int.mul_left_comm, Int.mul_comm m]
            have e6 : (2 : Int) ^ (j + 1) = 2 ^ j * 2 := Int.pow_succ _ _
            have e7 : 2 * (a % m) ≠ a ∨ 0 < m := .inr hm
            have e8 : 2 * (a % m) < a ∨ 2 * (a % m) = a := by omega
            rcases e8 with e8 | e8
            · have e9 := Int.mul_lt_mul_of_pos_left e8 hm
              omega
            · omega
          · rw [Nat.add_sub_cancel] at h2
            have e3 := Int.mul_le_mul_of_nonneg_right (Int.le_of_lt am1) (show 0 ≤ m by omega)
            omega
        · left
          rw [← ha, Int.zero_mul, Int.zero_add, Int.ediv_eq_zero_of_lt bm0 bm1] at eN
          omega
      obtain ⟨j, jk, nk⟩ := nk
      obtain ⟨X, eX⟩ : ∃ X, (n : Int) * ((n : Int) - 1) / 2 * (a / m) + (n : Int) * (b / m) = X := ⟨_, rfl⟩
      have XB : B 3000 X := by
        rw [← eX]
        exact (B.add (n := 2200) ((B.mul p2 p3).mono (by decide)) ((B.mul nB' p4).mono (by decide))).mono (by decide)
      have fB' : B (3000 + (200 - j)) (f + X) := (B.add fB (XB.mono (by omega))).mono (by omega)
      have hs' : f + X + fls (a % m) m ((a % m * (n : Int) + b % m) % m) N = tot := by omega
      have LmB : B 1300 ((a % m * (n : Int) + b % m) % m) := (B.le Lm0 (Int.le_of_lt Lm1) mB).mono (by decide)
      have aB' : B 400 m := mB.mono (by decide)
      have m0' : 0 ≤ m := Int.le_of_lt hm
      have jk2 : j ≤ 200 := by omega
      have Nn2 : N ≤ n0 := by omega
      clear hk hs turn an0 L0 Nn Lm0 Lm1 am1 bm0 bm1 fB XB n1B p1 p2 p3 p4 bmB nB nB' bB aB a0 fin hn hk2
      walk_at "run"
      unfold wb_sum_of_floors_1
      walk_at "run"
      refine wp_tup (by simp) ?_
      generalize hP : ks_set _ _ _ = P
      refine newN fun r ih2 r1 r2 l2 f2 g2 => ?_
      subst hP
      have fx2 := fx.trans f2 lx
      have lx2 : ih.length ≤ ih2.length := by omega
      clear fx lx f2 c1 c2 c3 c4 c5 c6 d1
      walk_at "run"
      refine Inv.mk ⟨j, jk, fx2, lx2, N, a % m, m, (a % m * (n : Int) + b % m) % m, f + X, _, rfl, hs', Nn2, jk2, fB', m0', aB', LmB, amB, nk⟩
  · have h1 := B.mul mB mB
    unfold B at h1
    have h3 := Int.le_natAbs (a := m * m)
    have h4 := Int.ofNat_lt.mpr h1
    have h5 : ((2 ^ (70 + 70) : Nat) : Int) = (2 : Int) ^ 140 := by norm_cast
    rw [h5] at h4
    refine Int.lt_of_le_of_lt h3 (Int.lt_of_lt_of_le h4 ?_)
    exact_mod_cast Nat.pow_le_pow_right (by decide) (by decide)
theorem w_sum (c : Cs) {n : Nat} {m a b : Int} {ih : IH} {Q : PQ IV} {E : EQ} (hm : 0 < m) (mB : B 70 m) (a0 : 0 ≤ a) (aB : B 400 a) (bB : B 1300 b) (nB : B 800 (n : Int)) (q : ∀ ih', Fx ih ih' → ih.length ≤ ih'.length → Q (.int (fls m a b n)) ih') : wp (m_sum_of_floors c [.int (n : Int), .int m, .int a, .int b] ih) Q E := by
  unfold m_sum_of_floors b_sum_of_floors
  walk_at "run"
  intro fu hfu
  refine lw_sum c (by omega) hm mB a0 aB bB nB fun e0 e1 e2 e3 e5 ih' fx lx => ?_
  have kz := q ih' fx lx
  clear q fx lx
  walk_at "run"
  all_goals exact kz
/-- what a line reads, summed -/
def Ln.tot (l : Ln) (b : Int) (n : Nat) : Int := sumN (fun i => l.rd (b + (i : Int))) n
theorem tot_fls {l : Ln} {b : Int} (n : Nat) : fls l.s l.sl (l.v + l.sl * b) n = l.tot b n := by
  unfold fls Ln.tot
  refine sumN_congr fun i _ => ?_
  unfold Ln.rd
  rw [Int.mul_add, Int.add_assoc]
/-- the line of a triple -/
def lnO (v sl h : Int) : Ln := ⟨v, sl, 2 ^ h.toNat⟩
theorem w_total (c : Cs) {t n : Nat} {v sl h b : Int} {ih : IH} {Q : PQ IV} {E : EQ} (p : Trip t v sl h ih) (bB : B 800 b) (nB : B 800 (n : Int)) (q : ∀ ih', Fx ih ih' → ih.length ≤ ih'.length → Q (.int ((lnO v sl h).tot b n)) ih') : wp (m_total c [.ref t, .int b, .int (n : Int)] ih) Q E := by
  obtain ⟨g, s0, h0, h1, vB, sB⟩ := p
  have e1 := q_power c h0 (Int.le_trans h1 (by decide))
  have cm : cMul sl b = true := B.cmul sB bB (by decide)
  have pB := (pow_B h0 h1).mono (show 65 ≤ 70 by decide)
  have p0 := pow_pos h
  have bb : B 1300 (v + sl * b) := (B.add (vB.mono (by decide : 400 ≤ 1200)) (B.mul sB bB)).mono (by decide)
  have e2 := tot_fls (l := lnO v sl h) (b := b) n
  rw [← e2] at q
  have q' : ∀ ih', Fx ih ih' → ih.length ≤ ih'.length → Q (.int (fls (2 ^ h.toNat) sl (v + sl * b) n)) ih' := q
  unfold m_total b_total
  clear q e2
  walk_at "run"
  refine w_sum c p0 pB s0 sB bb nB fun ih' fx lx => ?_
  have kz := q' ih' fx lx
  clear q' fx lx
  walk_at "run"
  all_goals exact kz
/-- two lines, each with its triple -/
structure Two (t u : Nat) (l r : Ln) (ih : IH) : Prop where
  lt : ∃ h, Trip t l.v l.sl h ih ∧ l.s = 2 ^ h.toNat
  rt : ∃ h, Trip u r.v r.sl h ih ∧ r.s = 2 ^ h.toNat
theorem Two.fx {t u : Nat} {l r : Ln} {a b : IH} (p : Two t u l r a) (f : Fx a b) : Two t u l r b :=
  ⟨let ⟨h, x, e⟩ := p.lt; ⟨h, x.fx f, e⟩, let ⟨h, x, e⟩ := p.rt; ⟨h, x.fx f, e⟩⟩
theorem Two.swap {t u : Nat} {l r : Ln} {a : IH} (p : Two t u l r a) : Two u t r l a := ⟨p.rt, p.lt⟩
theorem Two.ls {t u : Nat} {l r : Ln} {a : IH} (p : Two t u l r a) : 0 < l.s := by obtain ⟨h, _, e⟩ := p.lt; rw [e]; exact pow_pos h
theorem Two.rs {t u : Nat} {l r : Ln} {a : IH} (p : Two t u l r a) : 0 < r.s := p.swap.ls
def Ln.exc (l r : Ln) (b : Int) (n : Nat) : Int := sumN (fun i => l.d r (b + (i : Int))) n
theorem exc_eq {l r : Ln} {b : Int} (n : Nat) : l.tot b n - r.tot b n = l.exc r b n := by
  unfold Ln.tot Ln.exc
  rw [← sumN_sub]
  rfl
theorem w_exc (c : Cs) {t u n : Nat} {l r : Ln} {b : Int} {ih : IH} {Q : PQ IV} {E : EQ} (p : Two t u l r ih) (bB : B 800 b) (nB : B 800 (n : Int)) (q : ∀ ih', Fx ih ih' → ih.length ≤ ih'.length → Q (.int (l.exc r b n)) ih') : wp (m_excess c [.ref t, .ref u, .int b, .int (n : Int)] ih) Q E := by
  obtain ⟨h, pl, e1⟩ := p.lt
  rw [← exc_eq] at q
  unfold m_excess b_excess
  walk_at "run"
  refine w_total c pl bB nB fun ih1 f1 l1 => ?_
  obtain ⟨k, pr, e2⟩ := (p.fx f1).rt
  walk_at "run"
  refine w_total c pr bB nB fun ih2 f2 l2 => ?_
  have kz := q ih2 (f1.trans f2 l1) (by omega)
  have el : lnO l.v l.sl h = l := by unfold lnO; rw [← e1]
  have er : lnO r.v r.sl k = r := by unfold lnO; rw [← e2]
  rw [el, er]
  clear q f1 f2
  walk_at "run"
  all_goals exact kz
end L3
/-! FC: the first count that fits. (L12) -/
namespace L3
open PySem PySem.Spec PyProof.Rows L2
local macro_rules | `(tactic| walk_at "get") => `(tactic| simp (disch := first | assumption | omega | (simp only [List.length_append, List.length_set, List.length_cons, List.length_nil, List.length_map] <;> omega) | fail) only [g_new, g_nw, g_old, g_set, g_sne, List.length_append, List.length_set, List.length_cons, List.length_nil, List.length_map, List.map_map, Function.comp_def, xs_lst, xs_tup, isL_lst, isL_tup, ↓reduceIte, *])
local macro_rules | `(tactic| walk_at "fr") => `(tactic| first | (intro _ _ _; simp (disch := first | assumption | omega | (simp only [List.length_append, List.length_set, List.length_cons, List.length_nil, List.length_map] <;> omega) | fail) only [g_new, g_nw, g_old, g_set, g_sne, List.length_append, List.length_set, List.length_cons, List.length_nil, List.length_map, List.map_map, Function.comp_def, xs_lst, xs_tup, isL_lst, isL_tup, ↓reduceIte, *]) | (intro _ _; simp (disch := first | assumption | omega | (simp only [List.length_append, List.length_set, List.length_cons, List.length_nil, List.length_map] <;> omega) | fail) only [g_new, g_nw, g_old, g_set, g_sne, List.length_append, List.length_set, List.length_cons, List.length_nil, List.length_map, List.map_map, Function.comp_def, xs_lst, xs_tup, isL_lst, isL_tup, ↓reduceIte, *]))
local macro_rules | `(tactic| walk_at "run") => `(tactic| simp -implicitDefEqProofs (disch := first | assumption | omega | (simp only [List.length_append, List.length_set, List.length_cons, List.length_nil, List.length_map] <;> omega) | fail) only [wp_ok, wp_exc, wp_stuck, ws_ok, ws_exc, ws_stuck, wp_op, kk_op, kk_un, wp_un, wp_cons, kk_cons, kk_cons2, wp_nil, wp_c, wp_app, wp_if, kk_if1, kk_if0, wp_and, kk_and1, kk_and0, wp_or, kk_or1, kk_or0, wp_not, kk_not, wp_tb, kk_tb, wp_andV, kk_andV1, kk_andV0, wp_orV, kk_orV1, kk_orV0, wp_notV, kk_notV, wp_noneS, wp_some, kk_some, wp_sl, kk_sl, kk_sl2, kk_sl3, wp_mL, kk_mL, kk_mL2, wp_mL0, kk_mL0, wp_chain, kk_ch, kk_ch2, kk_ch31, kk_ch30, ws_set, kks_nm, kks_g, kks_tup, kks_lst, ws_expr, kks_expr, ws_ret, kks_ret, ws_retN, ws_pass, ws_brk, ws_cont, ws_raise, ws_if, kks_if1, kks_if0, ws_seq, kks_next, kks_retS, kks_brk, kks_cont, kk_augE, ws_aug, kks_aug, kks_aug2, ws_par, kks_par, ws_setL, kks_sl, kks_sl2, kks_sl3, wp_def, kkd_ret, kkd_next, kkdE, kkE, ws_for, wp_lc, wp_r1, kk_r1, wp_r2, kk_r2, wp_il, wp_it, wp_ie, wp_iz, kk_il, kk_il2, kk_it, kk_it2, kk_ie, kk_ie2, kk_iz, kk_iz2, lAt_k, k_lAtL, k_lAtO, k_lAtT, wp_int, wp_add, wp_addI, wp_sub, wp_neg, wp_lt, wp_le, wp_gt, wp_ge, wp_max2, wp_min2, wp_abs, wp_mulI, wp_mul, wp_fdiv, wp_mod, wp_shl, wp_shr, wp_pow, wp_isN, wp_notN, wp_eqI, wp_neI, wp_ix, kk_ix, kk_ix2, wp_len, kk_lenL, kk_lenT, kk_lenO, kk_lenP, wp_appd, kk_app1, isL_k, kk_isL, startI_cons, startI_nil, rep_succ, rep_zero, List.getElem?_cons_zero, List.getElem?_cons_succ, List.set_cons_zero, List.set_cons_succ, f_call, m_var, List.append_nil, List.nil_append, List.cons_append, List.length_cons, List.length_nil, if_true, if_false, g_tup, g_lst, g_cons, g_nil, g_nm, Option.bind_some, kks_g, atI_0, atI_1, atI_2, atI_3, atI_4, atI_5, atI_6, atI_7, atI_8, atI_9, atI_10, atI_11, atI_12, atI_last, cutI_1, ixN_30, ixN_31, ixN_32, Int.toNat_zero, Int.reduceToNat, Int.reduceNeg, xs_lst, xs_tup, xs_ro, xs_rot, isL_lst, isL_tup, isL_ro, isL_rot, isT_tup, isT_rot, Bool.false_eq_true, Bool.true_eq_false, Bool.not_true, Bool.not_false, decide_true, decide_false, Int.reduceLT, Int.reduceLE, Nat.reduceLT, Nat.reduceLeDiff, Nat.reduceAdd, Nat.reduceEqDiff, Bool.not_eq_true, true_and, and_true, and_self, eq_self, g_new, g_nw, g_old, g_set, g_sne, List.length_set, List.length_append, wp_r3, kk_r3, Int.cast_ofNat_Int, Int.reduceEq, Int.natCast_zero, Int.natCast_one, ws_whileA, wp_isiII, wp_isiIB, wp_isiI_list, wp_isiI_tuple, wp_isiI_str, wp_isiR, tyO_l, tyO_t, kk_isi, kk_isi2, kit_ll, kit_tt, kit_lt, kit_tl, wp_isiN, wp_isiBl, wp_isiS, tyO_d, kit2_NoneType_int, kit2_NoneType_bool, kit2_NoneType_list, kit2_NoneType_tuple, kit2_NoneType_str, kit2_bool_int, kit2_bool_bool, kit2_bool_list, kit2_bool_tuple, kit2_bool_str, kit2_str_int, kit2_str_bool, kit2_str_list, kit2_str_tuple, kit2_str_str, kit2_dict_int, kit2_dict_bool, kit2_dict_list, kit2_dict_tuple, kit2_dict_str, kit2_list_int, kit2_list_bool, kit2_list_str, kit2_tuple_int, kit2_tuple_bool, kit2_tuple_str, kit2_int_list, kit2_int_tuple, kit2_int_str, kf_next, kf_cont, kf_brk, kf_ret, wipeI, wp_callL, wp_fits, kk_fits, kk_fits2, wp_lamB, ↓reduceIte, *])
/-- a closure tells whether a number fits -/
def Fits (N : Nat) (lam : IV → IH → Res IV) (f : Nat → Bool) (ih : IH) : Prop :=
  ∀ (x : Nat) (ih' : IH) (Q : PQ IV), x ≤ 2 ^ N → Fx ih ih' → ih.length ≤ ih'.length → (∀ ih'', Fx ih' ih'' → ih'.length ≤ ih''.length → Q (.bl (f x)) ih'') → wp (lam (.int (x : Int)) ih') Q E0
theorem lw_fc1 (c : Cs) {fu N m : Nat} {lam : IV → IH → Res IV} {f : Nat → Bool} {ih : IH} {a3 a4 a5 : Option IV} {S : SQ} {F : ES} (hf : 1000 < fu) (hN : N ≤ 700) (hl : Fits N lam f ih) (hm : ∀ x y, x ≤ y → f x = true → f y = true) (hK : f (2 ^ N) = true)
    (fin : ∀ j ih', j ≤ N → f (2 ^ j) = true → (j = 0 ∨ f (2 ^ (j - 1)) = false) → Fx ih ih' → ih.length ≤ ih'.length → S (.next [some (.int 0), some (.ref m), some (.int (2 ^ j)), a3, a4, a5]) ih') :
    ws (whileGo (wt_first_count_1 c m lam) (wb_first_count_1 c m lam) fu [some (.int 0), some (.ref m), some (.int 1), a3, a4, a5] ih) S F := by
  refine while_ind (fun _ _ => True) (fun env ih' k => Fx ih ih' ∧ ih.length ≤ ih'.length ∧ ∃ j : Nat, env = [some (.int 0), some (.ref m), some (.int (2 ^ j)), a3, a4, a5] ∧ k + j = N ∧ (j = 0 ∨ f (2 ^ (j - 1)) = false)) (fun k env ih' _ hP => ?_) fu N _ ih trivial ⟨Fx.refl, Nat.le_refl _, 0, rfl, by omega, .inl rfl⟩ (by omega)
  obtain ⟨fx, lx, j, ee, kj, hj⟩ := hP
  subst ee
  have c2 : ((2 ^ j : Nat) : Int) = 2 ^ j := by norm_cast
  have hx := hl (2 ^ j) ih'
  rw [c2] at hx
  have jB : B 701 ((2 : Int) ^ j) := B.lt (Int.le_of_lt (Int.pow_pos (by decide))) (by exact_mod_cast Nat.pow_lt_pow_right (by decide) (show j < 701 by omega))
  have cm : cMul ((2 : Int) ^ j) 2 = true := B.cmul jB (lit 701 : B 701 2) (by decide)
  have nx : (2 : Int) ^ j * 2 = 2 ^ (j + 1) := (Int.pow_succ _ _).symm
  unfold wt_first_count_1
  have z2 : (0 : Int) + 2 ^ j = 2 ^ j := Int.zero_add _
  clear c2
  walk_at "run"
  refine hx _ (Nat.pow_le_pow_right (by decide) (by omega)) fx lx fun ih2 f2 l2 => ?_
  have fx2 := fx.trans f2 lx
  cases hb : f (2 ^ j) with
  | true =>
    have kz := fin j ih2 (by omega) hb hj fx2 (by omega)
    clear fin hl f2 fx hj hm hK hb hx
    walk_at "run"
    all_goals exact kz
  | false =>
    have jN : j < N := by
      rcases Nat.lt_or_ge j N with e | e
      · exact e
      · have : j = N := by omega
        rw [this, hK] at hb
        cases hb
    have nxt : ∃ i, i < k ∧ (Fx ih ih2 ∧ ih.length ≤ ih2.length ∧ ∃ j' : Nat, [some (IV.int 0), some (.ref m), some (.int (2 ^ j * 2)), a3, a4, a5] = [some (.int 0), some (.ref m), some (.int (2 ^ j')), a3, a4, a5] ∧ i + j' = N ∧ (j' = 0 ∨ f (2 ^ (j' - 1)) = false)) :=
      ⟨k - 1, by omega, fx2, by omega, j + 1, by rw [nx], by omega, .inr (by rw [Nat.add_sub_cancel]; exact hb)⟩
    clear fin hl f2 fx hj hm hK hb nx fx2 z2 jB hx
    walk_at "run"
    unfold wb_first_count_1
    walk_at "run"
    exact Inv.mk nxt
theorem lw_fc2 (c : Cs) {fu N m lo hi : Nat} {lam : IV → IH → Res IV} {f : Nat → Bool} {ih0 ih : IH} {a2 a5 : Option IV} {S : SQ} {F : ES} (hf : 1000 < fu) (hN : N ≤ 700) (hl : Fits N lam f ih0) (fx0 : Fx ih0 ih) (lx0 : ih0.length ≤ ih.length) (hm : ∀ x y, x ≤ y → f x = true → f y = true) (h0 : lo < hi) (h1 : hi ≤ 2 ^ N) (hlo : f lo = false) (hhi : f hi = true)
    (fin : ∀ a b a5 ih', f b = true → (∀ x, x < b → f x = false) → Fx ih0 ih' → ih0.length ≤ ih'.length → S (.next [some (.int 0), some (.ref m), a2, some (.int a), some (.int ((b : Nat) : Int)), a5]) ih') :
    ws (whileGo (wt_first_count_2 c m lam) (wb_first_count_2 c m lam) fu [some (.int 0), some (.ref m), a2, some (.int (lo : Int)), some (.int (hi : Int)), a5] ih) S F := by
  refine while_ind (fun _ _ => True) (fun env ih' k => Fx ih0 ih' ∧ ih0.length ≤ ih'.length ∧ ∃ (lo hi : Nat) (a5 : Option IV), env = [some (.int 0), some (.ref m), a2, some (.int (lo : Int)), some (.int (hi : Int)), a5] ∧ lo < hi ∧ hi ≤ 2 ^ N ∧ f lo = false ∧ f hi = true ∧ hi - lo ≤ 2 ^ k) (fun k env ih' _ hP => ?_) fu N _ ih trivial ⟨fx0, lx0, lo, hi, _, rfl, h0, h1, hlo, hhi, by omega⟩ (by omega)
  clear h0 h1 hlo hhi fx0 lx0
  obtain ⟨fx, lx, lo, hi, b5, ee, h0, h1, hlo, hhi, hk⟩ := hP
  subst ee
  unfold wt_first_count_2
  by_cases t1 : (1 : Int) < (hi : Int) - (lo : Int)
  · have d1 := decide_eq_true t1
    have k1 : ∃ j, k = j + 1 := by
      cases k with
      | zero =>
        have : 2 ^ 0 = 1 := rfl
        omega
      | succ j => exact ⟨j, rfl⟩
    obtain ⟨j, rfl⟩ := k1
    have pj : 2 ^ (j + 1) = 2 ^ j * 2 := Nat.pow_succ _ _
    obtain ⟨mid, em⟩ : ∃ mid, (lo + hi) / 2 = mid := ⟨_, rfl⟩
    have arg : ((lo : Int) + (hi : Int)) / 2 = (mid : Int) := by rw [← em]; norm_cast
    have c3 : ∀ x, cDiv x 2 = true := fun x => cDiv_of (n := 2) (by decide) (by unfold B; decide) (by decide) (by decide)
    have hl' := hl mid ih'
    clear hl fin
    walk_at "run"
    unfold wb_first_count_2
    walk_at "run"
    refine hl' _ (by omega) fx lx fun ih2 f2 l2 => ?_
    have fx2 := fx.trans f2 lx
    have lx2 : ih0.length ≤ ih2.length := by omega
    clear hl' fx f2
    cases hb : f mid with
    | true =>
      walk_at "run"
      exact Inv.mk ⟨j, by omega, fx2, lx2, lo, mid, _, rfl, by omega, by omega, hlo, hb, by omega⟩
    | false =>
      walk_at "run"
      exact Inv.mk ⟨j, by omega, fx2, lx2, mid, hi, _, rfl, by omega, by omega, hb, hhi, by omega⟩
  · have d1 := decide_eq_false t1
    have kz := fin lo hi b5 ih' hhi (fun x hx => by
      cases e : f x with
      | false => rfl
      | true =>
        have : f lo = true := hm x lo (by omega) e
        rw [hlo] at this
        cases this) fx lx
    clear fin hl hm t1
    walk_at "run"
    all_goals exact kz
theorem w_fc (c : Cs) {N m : Nat} {lam : IV → IH → Res IV} {f : Nat → Bool} {ih : IH} {Q : PQ IV} (hN : N ≤ 700) (hl : Fits N lam f ih) (hm : ∀ x y, x ≤ y → f x = true → f y = true) (hK : f (2 ^ N) = true)
    (k : ∀ (a : Nat) ih', f a = true → (∀ x, x < a → f x = false) → Fx ih ih' → ih.length ≤ ih'.length → Q (.int (a : Int)) ih') : wp (defRun 6 (b_first_count c m lam) [.int 0, .ref m] ih) Q E0 := by
  unfold b_first_count
  have hl0 := hl 0 ih
  walk_at "run"
  refine hl0 _ (Nat.zero_le _) Fx.refl (Nat.le_refl _) fun ih1 f1 l1 => ?_
  clear hl0
  cases h0 : f 0 with
  | true =>
    have kz := k 0 ih1 h0 (fun x hx => by omega) f1 l1
    clear k hl hm hK f1
    walk_at "run"
    all_goals exact kz
  | false =>
    have hl1 : Fits N lam f ih1 := fun x ih' Q h1 h2 h3 h4 => hl x ih' Q h1 (f1.trans h2 l1) (by omega) h4
    clear hl
    walk_at "run"
    intro fu hfu
    refine lw_fc1 c (by omega) hN hl1 hm hK fun j ih2 jN hj1 hj2 f2 l2 => ?_
    have f12 := f1.trans f2 l1
    have c2 : ((2 ^ j : Nat) : Int) = 2 ^ j := by norm_cast
    obtain ⟨lo, elo, hlo, hlt⟩ : ∃ lo : Nat, (2 : Int) ^ j / 2 = (lo : Int) ∧ f lo = false ∧ lo < 2 ^ j := by
      rcases hj2 with e | e
      · subst e
        exact ⟨0, by decide, h0, by decide⟩
      · by_cases hz : j = 0
        · subst hz
          exact ⟨0, by decide, h0, by decide⟩
        · obtain ⟨i, rfl⟩ : ∃ i, j = i + 1 := ⟨j - 1, by omega⟩
          rw [Nat.add_sub_cancel] at e
          refine ⟨2 ^ i, ?_, e, Nat.pow_lt_pow_right (by decide) (by omega)⟩
          rw [Int.pow_succ, Int.mul_ediv_cancel _ (by decide)]
          norm_cast
    have c3 : ∀ x, cDiv x 2 = true := fun x => cDiv_of (n := 2) (by decide) (by unfold B; decide) (by decide) (by decide)
    have e1 : (0 : Int) + 2 ^ j / 2 = (lo : Int) := by rw [elo, Int.zero_add]
    have e2 : (0 : Int) + 2 ^ j = ((2 ^ j : Nat) : Int) := by rw [c2, Int.zero_add]
    obtain ⟨hi, ehi⟩ : ∃ hi : Nat, 2 ^ j = hi := ⟨_, rfl⟩
    have hiN : hi ≤ 2 ^ N := by rw [← ehi]; exact Nat.pow_le_pow_right (by decide) jN
    rw [ehi] at hj1 hlt e2
    obtain ⟨st, est⟩ : ∃ st : Int, 2 ^ j = st := ⟨_, rfl⟩
    rw [est] at e1 e2
    rw [est]
    clear c2 elo est fu hfu
    clear f12
    walk_at "run"
    intro fu hfu
    refine lw_fc2 c (ih0 := ih1) (by omega) hN hl1 f2 l2 hm hlt hiN hlo hj1 fun a b a5 ih3 hb hx f3 l3 => ?_
    have kz := k b ih3 hb hx (f1.trans f3 l1) (by omega)
    clear k hl1 hm hK f1 f2 f3 e1 e2 hx
    walk_at "run"
    all_goals exact kz
end L3
/-! FA: the first cycle at which one line reads more. (L12) -/
namespace L3
open PySem PySem.Spec PyProof.Rows L2
local macro_rules | `(tactic| walk_at "get") => `(tactic| simp (disch := first | assumption | omega | (simp only [List.length_append, List.length_set, List.length_cons, List.length_nil, List.length_map] <;> omega) | fail) only [g_new, g_nw, g_old, g_set, g_sne, List.length_append, List.length_set, List.length_cons, List.length_nil, List.length_map, List.map_map, Function.comp_def, xs_lst, xs_tup, isL_lst, isL_tup, ↓reduceIte, *])
local macro_rules | `(tactic| walk_at "fr") => `(tactic| first | (intro _ _ _; simp (disch := first | assumption | omega | (simp only [List.length_append, List.length_set, List.length_cons, List.length_nil, List.length_map] <;> omega) | fail) only [g_new, g_nw, g_old, g_set, g_sne, List.length_append, List.length_set, List.length_cons, List.length_nil, List.length_map, List.map_map, Function.comp_def, xs_lst, xs_tup, isL_lst, isL_tup, ↓reduceIte, *]) | (intro _ _; simp (disch := first | assumption | omega | (simp only [List.length_append, List.length_set, List.length_cons, List.length_nil, List.length_map] <;> omega) | fail) only [g_new, g_nw, g_old, g_set, g_sne, List.length_append, List.length_set, List.length_cons, List.length_nil, List.length_map, List.map_map, Function.comp_def, xs_lst, xs_tup, isL_lst, isL_tup, ↓reduceIte, *]))
local macro_rules | `(tactic| walk_at "run") => `(tactic| simp -implicitDefEqProofs (disch := first | assumption | omega | (simp only [List.length_append, List.length_set, List.length_cons, List.length_nil, List.length_map] <;> omega) | fail) only [wp_ok, wp_exc, wp_stuck, ws_ok, ws_exc, ws_stuck, wp_op, kk_op, kk_un, wp_un, wp_cons, kk_cons, kk_cons2, wp_nil, wp_c, wp_app, wp_if, kk_if1, kk_if0, wp_and, kk_and1, kk_and0, wp_or, kk_or1, kk_or0, wp_not, kk_not, wp_tb, kk_tb, wp_andV, kk_andV1, kk_andV0, wp_orV, kk_orV1, kk_orV0, wp_notV, kk_notV, wp_noneS, wp_some, kk_some, wp_sl, kk_sl, kk_sl2, kk_sl3, wp_mL, kk_mL, kk_mL2, wp_mL0, kk_mL0, wp_chain, kk_ch, kk_ch2, kk_ch31, kk_ch30, ws_set, kks_nm, kks_g, kks_tup, kks_lst, ws_expr, kks_expr, ws_ret, kks_ret, ws_retN, ws_pass, ws_brk, ws_cont, ws_raise, ws_if, kks_if1, kks_if0, ws_seq, kks_next, kks_retS, kks_brk, kks_cont, kk_augE, ws_aug, kks_aug, kks_aug2, ws_par, kks_par, ws_setL, kks_sl, kks_sl2, kks_sl3, wp_def, kkd_ret, kkd_next, kkdE, kkE, ws_for, wp_lc, wp_r1, kk_r1, wp_r2, kk_r2, wp_il, wp_it, wp_ie, wp_iz, kk_il, kk_il2, kk_it, kk_it2, kk_ie, kk_ie2, kk_iz, kk_iz2, lAt_k, k_lAtL, k_lAtO, k_lAtT, wp_int, wp_add, wp_addI, wp_sub, wp_neg, wp_lt, wp_le, wp_gt, wp_ge, wp_max2, wp_min2, wp_abs, wp_mulI, wp_mul, wp_fdiv, wp_mod, wp_shl, wp_shr, wp_pow, wp_isN, wp_notN, wp_eqI, wp_neI, wp_ix, kk_ix, kk_ix2, wp_len, kk_lenL, kk_lenT, kk_lenO, kk_lenP, wp_appd, kk_app1, isL_k, kk_isL, startI_cons, startI_nil, rep_succ, rep_zero, List.getElem?_cons_zero, List.getElem?_cons_succ, List.set_cons_zero, List.set_cons_succ, f_call, m_var, List.append_nil, List.nil_append, List.cons_append, List.length_cons, List.length_nil, if_true, if_false, g_tup, g_lst, g_cons, g_nil, g_nm, Option.bind_some, kks_g, atI_0, atI_1, atI_2, atI_3, atI_4, atI_5, atI_6, atI_7, atI_8, atI_9, atI_10, atI_11, atI_12, atI_last, cutI_1, ixN_30, ixN_31, ixN_32, Int.toNat_zero, Int.reduceToNat, Int.reduceNeg, xs_lst, xs_tup, xs_ro, xs_rot, isL_lst, isL_tup, isL_ro, isL_rot, isT_tup, isT_rot, Bool.false_eq_true, Bool.true_eq_false, Bool.not_true, Bool.not_false, decide_true, decide_false, Int.reduceLT, Int.reduceLE, Nat.reduceLT, Nat.reduceLeDiff, Nat.reduceAdd, Nat.reduceEqDiff, Bool.not_eq_true, true_and, and_true, and_self, eq_self, g_new, g_nw, g_old, g_set, g_sne, List.length_set, List.length_append, wp_r3, kk_r3, Int.cast_ofNat_Int, Int.reduceEq, Int.natCast_zero, Int.natCast_one, ws_whileA, wp_isiII, wp_isiIB, wp_isiI_list, wp_isiI_tuple, wp_isiI_str, wp_isiR, tyO_l, tyO_t, kk_isi, kk_isi2, kit_ll, kit_tt, kit_lt, kit_tl, wp_isiN, wp_isiBl, wp_isiS, tyO_d, kit2_NoneType_int, kit2_NoneType_bool, kit2_NoneType_list, kit2_NoneType_tuple, kit2_NoneType_str, kit2_bool_int, kit2_bool_bool, kit2_bool_list, kit2_bool_tuple, kit2_bool_str, kit2_str_int, kit2_str_bool, kit2_str_list, kit2_str_tuple, kit2_str_str, kit2_dict_int, kit2_dict_bool, kit2_dict_list, kit2_dict_tuple, kit2_dict_str, kit2_list_int, kit2_list_bool, kit2_list_str, kit2_tuple_int, kit2_tuple_bool, kit2_tuple_str, kit2_int_list, kit2_int_tuple, kit2_int_str, kf_next, kf_cont, kf_brk, kf_ret, wipeI, wp_callL, wp_fits, kk_fits, kk_fits2, wp_lamB, ↓reduceIte, *])
/-! ### in plain numbers -/
theorem firstA {d : Nat → Int} {W a : Nat} (h : ∀ i, i < W → 0 ≤ d i) (aW : a < W) (ha : 0 < sumN d (a + 1)) (hb : ∀ x, x < a → ¬ 0 < sumN d (x + 1)) : 0 < d a ∧ ∀ x, x < a → d x ≤ 0 := by
  have low : ∀ x, x < a → d x ≤ 0 := fun x hx => by
    have h1 := hb x hx
    rw [sumN_pos fun i hi => h i (by omega)] at h1
    rcases Int.lt_or_le 0 (d x) with e | e
    · exact absurd ⟨x, by omega, e⟩ h1
    · exact e
  refine ⟨?_, low⟩
  rw [sumN_pos fun i hi => h i (by omega)] at ha
  obtain ⟨i, h1, h2⟩ := ha
  by_cases e : i = a
  · rw [← e]
    exact h2
  · have := low i (by omega)
    omega
theorem first_at {l r : Ln} {b : Int} {a : Nat} (b0 : 0 ≤ b) (hb : ∀ c, 0 ≤ c → c < b → l.d r c ≤ 0) (ha : 0 < l.d r (b + a)) (hx : ∀ x : Nat, x < a → l.d r (b + x) ≤ 0) : IsFirst (fun c => 0 < l.d r c) (some (b + a)) := by
  refine ⟨by omega, ha, fun c c0 c1 hc => ?_⟩
  rcases Int.lt_or_le c b with e | e
  · have := hb c c0 e
    omega
  · obtain ⟨x, hx'⟩ := Int.eq_ofNat_of_zero_le (show 0 ≤ c - b by omega)
    have := hx x (by omega)
    rw [show b + (x : Int) = c by omega] at this
    omega
section
variable {t u : Nat} {l r : Ln} {ih : IH}
theorem Two.gapB (p : Two t u l r ih) : B 466 (l.gap r) ∧ B 466 (l.gro r) ∧ B 65 l.s ∧ B 65 r.s := by
  obtain ⟨h, x, e1⟩ := p.lt
  obtain ⟨k, y, e2⟩ := p.rt
  have s1 := pow_B x.h0 x.h1
  have s2 := pow_B y.h0 y.h1
  rw [← e1] at s1
  rw [← e2] at s2
  exact ⟨B.sub (B.mul x.vB s2) (B.mul y.vB s1), B.sub (B.mul x.sB s2) (B.mul y.sB s1), s1, s2⟩
theorem Two.mul_le (p : Two t u l r ih) : l.s * r.s ≤ 2 ^ 128 := by
  obtain ⟨h, x, e1⟩ := p.lt
  obtain ⟨k, y, e2⟩ := p.rt
  have a0 := x.h0
  have a1 := x.h1
  have b0 := y.h0
  have b1 := y.h1
  rw [e1, e2, ← Int.pow_add]
  exact_mod_cast Nat.pow_le_pow_right (by decide) (show h.toNat + k.toNat ≤ 128 by omega)
end
theorem B.toNat {n : Nat} {x : Nat} (h : B n (x : Int)) : x < 2 ^ n := by
  unfold B at h
  rw [Int.natAbs_natCast] at h
  exact h
theorem B.ofNat {n : Nat} {x : Nat} (h : x < 2 ^ n) : B n (x : Int) := by
  unfold B
  rw [Int.natAbs_natCast]
  exact h
/-! ### the program -/
section
variable {t u : Nat} {l r : Ln} {ih : IH} {Q : PQ IV} {E : EQ}
theorem w_turning (c : Cs) (p : Two t u l r ih) (q : ∀ n ih', ih.length ≤ n → n < ih'.length → Fx ih ih' → ih.length ≤ ih'.length → ih'[n]? = some (.tup [.int (l.gap r), .int (l.gro r)]) → Q (.ref n) ih') : wp (m_turning c [.ref t, .ref u] ih) Q E := by
  obtain ⟨h, ⟨g, s0, h0, h1, vB, sB⟩, e1⟩ := p.lt
  obtain ⟨k, ⟨g2, s02, h02, h12, vB2, sB2⟩, e2⟩ := p.rt
  have q1 := q_power c h0 (Int.le_trans h1 (by decide))
  have q2 := q_power c h02 (Int.le_trans h12 (by decide))
  have z1 := pow_B h0 h1
  have z2 := pow_B h02 h12
  rw [← e1] at q1 z1
  rw [← e2] at q2 z2
  have c1 : cMul l.v r.s = true := B.cmul vB z2 (by decide)
  have c2 : cMul r.v l.s = true := B.cmul vB2 z1 (by decide)
  have c3 : cMul l.sl r.s = true := B.cmul sB z2 (by decide)
  have c4 : cMul r.sl l.s = true := B.cmul sB2 z1 (by decide)
  unfold Ln.gap Ln.gro at q
  clear e1 e2
  unfold m_turning b_turning
  walk_at "run"
  refine wp_tup (by simp) ?_
  generalize hP : ks_ret _ = P
  refine newN fun n ih' n1 n2 l1 f1 gn => ?_
  subst hP
  have kz := q n ih' n1 n2 f1 (by omega) gn
  clear q f1 gn
  walk_at "run"
  all_goals exact kz
theorem w_ahead (c : Cs) (p : Two t u l r ih) (q0 : ∀ ih', l.stretch r = none → Fx ih ih' → ih.length ≤ ih'.length → Q .non ih')
    (q : ∀ f b n ih', l.stretch r = some (f, b) → ih.length ≤ n → n < ih'.length → Fx ih ih' → ih.length ≤ ih'.length → ih'[n]? = some (.tup [.int f, ofO b]) → Q (.ref n) ih') : wp (m_ahead_from c [.ref t, .ref u] ih) Q E := by
  obtain ⟨gB, rB, _, _⟩ := p.gapB
  unfold m_ahead_from b_ahead_from
  walk_at "run"
  refine w_turning c p fun n ih1 n1 n2 f1 l1 g1 => ?_
  unfold Ln.stretch at q0 q
  obtain ⟨gap, eg⟩ : ∃ g, l.gap r = g := ⟨_, rfl⟩
  obtain ⟨gro, er⟩ : ∃ g, l.gro r = g := ⟨_, rfl⟩
  rw [eg, er] at q0 q g1
  rw [eg] at gB
  rw [er] at rB
  have tup0 : ∀ (o : IV) (K : PQ IV), (∀ m ih2, ih1.length ≤ m → m < ih2.length → Fx ih1 ih2 → ih1.length ≤ ih2.length → ih2[m]? = some (.tup [.int 0, o]) → K (.ref m) ih2) → wp (f_tup [.int 0, o] ih1) K (kE (kdE E) [some (.ref t), some (.ref u), some (.int gap), some (.int gro)]) := by
    intro o K hK
    refine wp_tup (by simp) ?_
    refine newN fun m ih2 m1 m2 l2 f2 g2 => ?_
    exact hK m ih2 m1 m2 f2 (by omega) g2
  clear eg er
  by_cases t1 : gro = 0
  · have d1 := decide_eq_true t1
    rw [if_pos t1] at q0 q
    by_cases t2 : 0 ≤ gap
    · have d2 := decide_eq_true t2
      rw [if_pos t2] at q0 q
      have kz := fun m ih2 => q 0 none m ih2 rfl
      clear q q0 t1 t2
      walk_at "run"
      refine tup0 _ _ fun m ih2 m1 m2 f2 l2 g2 => ?_
      have ky := kz m ih2 (by omega) m2 (f1.trans f2 l1) (by omega) g2
      clear kz f1 f2 g1 tup0 g2
      walk_at "run"
      all_goals exact ky
    · have d2 := decide_eq_false t2
      rw [if_neg t2] at q0 q
      have kz := q0 ih1 rfl f1 l1
      clear q q0 t1 t2 f1
      walk_at "run"
      all_goals exact kz
  · have d1 := decide_eq_false t1
    rw [if_neg t1] at q0 q
    by_cases t2 : 0 < gro
    · have d2 := decide_eq_true t2
      rw [if_pos t2] at q0 q
      have u1 := fun n => q_up c (n := n) t2 (rB.mono (by decide))
      have em : (if 0 < ce (0 - gap) gro then ce (0 - gap) gro else 0) = max 0 (0 - (0 - (0 - gap)) / gro) := by
        unfold ce
        split <;> omega
      have kz := fun m ih2 => q (max 0 (0 - (0 - (0 - gap)) / gro)) none m ih2 rfl
      rw [← em] at kz
      clear q q0 t1 t2 em
      walk_at "run"
      refine wp_tup (by simp) ?_
      generalize hP : ks_ret _ = P
      refine newN fun m ih2 m1 m2 l2 f2 g2 => ?_
      subst hP
      have ky := kz m ih2 (by omega) m2 (f1.trans f2 l1) (by omega) g2
      clear kz f1 f2 g1 tup0 g2
      walk_at "run"
      all_goals exact ky
    · have d2 := decide_eq_false t2
      rw [if_neg t2] at q0 q
      have g0 : 0 < 0 - gro := by omega
      have gB' : B 467 (0 - gro) := B.sub (lit 466) rB
      have c1 : cDiv gap (0 - gro) = true := cDiv_of g0 gB' (by decide) (by decide)
      by_cases t3 : 0 ≤ gap
      · have d3 := decide_eq_true t3
        rw [if_pos t3] at q0 q
        have kz := fun m ih2 => q 0 (some (gap / (0 - gro) + 1)) m ih2 rfl
        clear q q0 t1 t2 t3 g0
        walk_at "run"
        refine tup0 _ _ fun m ih2 m1 m2 f2 l2 g2 => ?_
        have ky := kz m ih2 (by omega) m2 (f1.trans f2 l1) (by omega) g2
        clear kz f1 f2 g1 tup0 g2
        walk_at "run"
        all_goals exact ky
      · have d3 := decide_eq_false t3
        rw [if_neg t3] at q0 q
        have kz := q0 ih1 rfl f1 l1
        clear q q0 t1 t2 t3 g0 f1
        walk_at "run"
        all_goals exact kz
end
end L3
/-! FB: first_more, first_above. (L12) -/
namespace L3
open PySem PySem.Spec PyProof.Rows L2
local macro_rules | `(tactic| walk_at "get") => `(tactic| simp (disch := first | assumption | omega | (simp only [List.length_append, List.length_set, List.length_cons, List.length_nil, List.length_map] <;> omega) | fail) only [g_new, g_nw, g_old, g_set, g_sne, List.length_append, List.length_set, List.length_cons, List.length_nil, List.length_map, List.map_map, Function.comp_def, xs_lst, xs_tup, isL_lst, isL_tup, ↓reduceIte, *])
local macro_rules | `(tactic| walk_at "fr") => `(tactic| first | (intro _ _ _; simp (disch := first | assumption | omega | (simp only [List.length_append, List.length_set, List.length_cons, List.length_nil, List.length_map] <;> omega) | fail) only [g_new, g_nw, g_old, g_set, g_sne, List.length_append, List.length_set, List.length_cons, List.length_nil, List.length_map, List.map_map, Function.comp_def, xs_lst, xs_tup, isL_lst, isL_tup, ↓reduceIte, *]) | (intro _ _; simp (disch := first | assumption | omega | (simp only [List.length_append, List.length_set, List.length_cons, List.length_nil, List.length_map] <;> omega) | fail) only [g_new, g_nw, g_old, g_set, g_sne, List.length_append, List.length_set, List.length_cons, List.length_nil, List.length_map, List.map_map, Function.comp_def, xs_lst, xs_tup, isL_lst, isL_tup, ↓reduceIte, *]))
local macro_rules | `(tactic| walk_at "run") => `(tactic| simp -implicitDefEqProofs (disch := first | assumption | omega | (simp only [List.length_append, List.length_set, List.length_cons, List.length_nil, List.length_map] <;> omega) | fail) only [wp_ok, wp_exc, wp_stuck, ws_ok, ws_exc, ws_stuck, wp_op, kk_op, kk_un, wp_un, wp_cons, kk_cons, kk_cons2, wp_nil, wp_c, wp_app, wp_if, kk_if1, kk_if0, wp_and, kk_and1, kk_and0, wp_or, kk_or1, kk_or0, wp_not, kk_not, wp_tb, kk_tb, wp_andV, kk_andV1, kk_andV0, wp_orV, kk_orV1, kk_orV0, wp_notV, kk_notV, wp_noneS, wp_some, kk_some, wp_sl, kk_sl, kk_sl2, kk_sl3, wp_mL, kk_mL, kk_mL2, wp_mL0, kk_mL0, wp_chain, kk_ch, kk_ch2, kk_ch31, kk_ch30, ws_set, kks_nm, kks_g, kks_tup, kks_lst, ws_expr, kks_expr, ws_ret, kks_ret, ws_retN, ws_pass, ws_brk, ws_cont, ws_raise, ws_if, kks_if1, kks_if0, ws_seq, kks_next, kks_retS, kks_brk, kks_cont, kk_augE, ws_aug, kks_aug, kks_aug2, ws_par, kks_par, ws_setL, kks_sl, kks_sl2, kks_sl3, wp_def, kkd_ret, kkd_next, kkdE, kkE, ws_for, wp_lc, wp_r1, kk_r1, wp_r2, kk_r2, wp_il, wp_it, wp_ie, wp_iz, kk_il, kk_il2, kk_it, kk_it2, kk_ie, kk_ie2, kk_iz, kk_iz2, lAt_k, k_lAtL, k_lAtO, k_lAtT, wp_int, wp_add, wp_addI, wp_sub, wp_neg, wp_lt, wp_le, wp_gt, wp_ge, wp_max2, wp_min2, wp_abs, wp_mulI, wp_mul, wp_fdiv, wp_mod, wp_shl, wp_shr, wp_pow, wp_isN, wp_notN, wp_eqI, wp_neI, wp_ix, kk_ix, kk_ix2, wp_len, kk_lenL, kk_lenT, kk_lenO, kk_lenP, wp_appd, kk_app1, isL_k, kk_isL, startI_cons, startI_nil, rep_succ, rep_zero, List.getElem?_cons_zero, List.getElem?_cons_succ, List.set_cons_zero, List.set_cons_succ, f_call, m_var, List.append_nil, List.nil_append, List.cons_append, List.length_cons, List.length_nil, if_true, if_false, g_tup, g_lst, g_cons, g_nil, g_nm, Option.bind_some, kks_g, atI_0, atI_1, atI_2, atI_3, atI_4, atI_5, atI_6, atI_7, atI_8, atI_9, atI_10, atI_11, atI_12, atI_last, cutI_1, ixN_30, ixN_31, ixN_32, Int.toNat_zero, Int.reduceToNat, Int.reduceNeg, xs_lst, xs_tup, xs_ro, xs_rot, isL_lst, isL_tup, isL_ro, isL_rot, isT_tup, isT_rot, Bool.false_eq_true, Bool.true_eq_false, Bool.not_true, Bool.not_false, decide_true, decide_false, Int.reduceLT, Int.reduceLE, Nat.reduceLT, Nat.reduceLeDiff, Nat.reduceAdd, Nat.reduceEqDiff, Bool.not_eq_true, true_and, and_true, and_self, eq_self, g_new, g_nw, g_old, g_set, g_sne, List.length_set, List.length_append, wp_r3, kk_r3, Int.cast_ofNat_Int, Int.reduceEq, Int.natCast_zero, Int.natCast_one, ws_whileA, wp_isiII, wp_isiIB, wp_isiI_list, wp_isiI_tuple, wp_isiI_str, wp_isiR, tyO_l, tyO_t, kk_isi, kk_isi2, kit_ll, kit_tt, kit_lt, kit_tl, wp_isiN, wp_isiBl, wp_isiS, tyO_d, kit2_NoneType_int, kit2_NoneType_bool, kit2_NoneType_list, kit2_NoneType_tuple, kit2_NoneType_str, kit2_bool_int, kit2_bool_bool, kit2_bool_list, kit2_bool_tuple, kit2_bool_str, kit2_str_int, kit2_str_bool, kit2_str_list, kit2_str_tuple, kit2_str_str, kit2_dict_int, kit2_dict_bool, kit2_dict_list, kit2_dict_tuple, kit2_dict_str, kit2_list_int, kit2_list_bool, kit2_list_str, kit2_tuple_int, kit2_tuple_bool, kit2_tuple_str, kit2_int_list, kit2_int_tuple, kit2_int_str, kf_next, kf_cont, kf_brk, kf_ret, wipeI, wp_callL, wp_fits, kk_fits, kk_fits2, wp_lamB, ↓reduceIte, *])
section
variable {t u : Nat} {l r : Ln} {ih : IH} {Q : PQ IV} {E : EQ}
theorem fits1 (c : Cs) {b : Int} {N : Nat} {e3 e4 e5 e6 : Option IV} (hN : N ≤ 700) (p : Two t u l r ih) (bB : B 800 b) : Fits N (lamB 6 (ll_first_more_1 c) [some (.ref t), some (.ref u), some (.int b), e3, e4, e5, e6]) (fun x => decide (0 < l.exc r b (x + 1))) ih := by
  intro x ih' Q hx fx lx k
  rw [wp_lamB]
  unfold ll_first_more_1
  have e : (x : Int) + 1 = ((x + 1 : Nat) : Int) := by push_cast; rfl
  have nB : B 800 ((x + 1 : Nat) : Int) := B.ofNat (by
    have h1 : 2 ^ N ≤ 2 ^ 700 := Nat.pow_le_pow_right (by decide) hN
    have h2 : (2 : Nat) ^ 700 + 1 < 2 ^ 800 := by decide
    omega)
  have p' := p.fx fx
  clear fx p
  walk_at "run"
  refine w_exc c p' bB nB fun ih2 f2 l2 => ?_
  have kz := k ih2 f2 l2
  clear k f2 p' nB e
  walk_at "run"
  all_goals exact kz
theorem fits2 (c : Cs) {b e : Int} {N W : Nat} {e4 e5 e6 : Option IV} (hN : N ≤ 700) (p : Two t u l r ih) (bB : B 800 b) (eW : e - b = (W : Int)) : Fits N (lamB 6 (ll_first_more_2 c) [some (.ref t), some (.ref u), some (.int b), some (.int e), e4, e5, e6]) (fun x => decide (0 < l.exc r b (min (x + 1) W))) ih := by
  intro x ih' Q hx fx lx k
  rw [wp_lamB]
  unfold ll_first_more_2
  have em : (if (W : Int) < (x : Int) + 1 then (W : Int) else (x : Int) + 1) = ((min (x + 1) W : Nat) : Int) := by
    split <;> omega
  have nB : B 800 ((min (x + 1) W : Nat) : Int) := B.ofNat (by
    have h1 : 2 ^ N ≤ 2 ^ 700 := Nat.pow_le_pow_right (by decide) hN
    have h2 : (2 : Nat) ^ 700 + 1 < 2 ^ 800 := by decide
    omega)
  have p' := p.fx fx
  clear fx p
  walk_at "run"
  refine w_exc c p' bB nB fun ih2 f2 l2 => ?_
  have kz := k ih2 f2 l2
  clear k f2 p' nB em
  walk_at "run"
  all_goals exact kz
noncomputable abbrev tlMore (c : Cs) : Env → IH → RS := (ms_seq (ms_if (m_or (m_tb (m_op f_ge (m_var 2) (m_var 3))) (m_tb (m_op f_eq (m_app (f_call 4 [] (m_excess c)) (m_cons (m_var 0) (m_cons (m_var 1) (m_cons (m_var 2) (m_cons (m_op f_sub (m_var 3) (m_var 2)) m_nil))))) (m_c (.int 0)))))
 (ms_ret (m_c .non))
 ms_pass)
 (ms_ret (m_op f_add (m_var 2) (m_callL (fun m lam => defRun 6 (b_first_count c m lam)) (lamB 6 (ll_first_more_2 c)) (m_cons (m_c (.int 0)) m_nil)))))
theorem w_tail (c : Cs) {b e : Int} {e4 e5 e6 : Option IV} (p : Two t u l r ih) (bB : B 700 b) (we : e - b < 2 ^ 600) (hnn : ∀ x, b ≤ x → x < e → 0 ≤ l.d r x)
    (kN : (∀ x, b ≤ x → x < e → l.d r x ≤ 0) → ∀ ih', Fx ih ih' → ih.length ≤ ih'.length → Q .non ih')
    (kS : ∀ a : Nat, b + a < e → 0 < l.d r (b + a) → (∀ x : Nat, x < a → l.d r (b + x) ≤ 0) → ∀ ih', Fx ih ih' → ih.length ≤ ih'.length → Q (.int (b + a)) ih') :
    ks_seq (tlMore c) (kd Q) (kdE E) (.next [some (.ref t), some (.ref u), some (.int b), some (.int e), e4, e5, e6]) ih := by
  rw [kks_next]
  unfold tlMore
  by_cases t1 : e ≤ b
  · have d1 := decide_eq_true t1
    have kz := kN (fun x h1 h2 => by omega) ih Fx.refl (Nat.le_refl _)
    clear kN kS hnn we t1
    walk_at "run"
    all_goals exact kz
  · have d1 := decide_eq_false t1
    obtain ⟨W, eW⟩ := Int.eq_ofNat_of_zero_le (show 0 ≤ e - b by omega)
    have WB : B 800 (W : Int) := B.lt (by omega) (Int.lt_of_lt_of_le (show (W : Int) < 2 ^ 600 by omega) (by decide))
    have nn : ∀ i : Nat, i < W → 0 ≤ l.d r (b + i) := fun i hi => hnn _ (by omega) (by omega)
    have fit := fun (ih1 : IH) (f1 : Fx ih ih1) => fits2 c (e4 := e4) (e5 := e5) (e6 := e6) (N := 600) (ih := ih1) (by decide) (p.fx f1) (bB.mono (by decide)) eW
    walk_at "run"
    refine w_exc c p (bB.mono (by decide)) WB fun ih1 f1 l1 => ?_
    by_cases t2 : l.exc r b W = 0
    · have d2 := decide_eq_true t2
      have kz := kN (fun x h1 h2 => by
        rcases Int.lt_or_le 0 (l.d r x) with h | h
        · obtain ⟨i, hi⟩ := Int.eq_ofNat_of_zero_le (show 0 ≤ x - b by omega)
          have := (sumN_pos (f := fun i : Nat => l.d r (b + i)) nn).mpr ⟨i, by omega, by rw [show b + (i : Int) = x by omega]; exact h⟩
          have e0 : sumN (fun i : Nat => l.d r (b + i)) W = 0 := t2
          omega
        · exact h) ih1 f1 l1
      clear kN kS hnn we t1 t2 fit f1 nn
      walk_at "run"
      all_goals exact kz
    · have d2 := decide_eq_false t2
      have pos : 0 < l.exc r b W := by
        have : 0 ≤ sumN (fun i : Nat => l.d r (b + i)) W := sumN_nn nn
        have e0 : l.exc r b W = sumN (fun i : Nat => l.d r (b + i)) W := rfl
        omega
      have fit1 := fit ih1 f1
      have W1 : W ≤ 2 ^ 600 := by
        have : ((2 ^ 600 : Nat) : Int) = (2 : Int) ^ 600 := by norm_cast
        omega
      have kS1 := fun a h1 h2 h3 ih' (f' : Fx ih1 ih') (l' : ih1.length ≤ ih'.length) => kS a h1 h2 h3 ih' (f1.trans f' l1) (by omega)
      clear kN kS hnn we t2 fit f1 l1 p bB WB
      walk_at "run"
      refine callL_new fun n ih2 n1 n2 n3 f2 g2 => ?_
      show wp (defRun 6 (b_first_count c n _) [.int 0, .ref n] ih2) _ E0
      have fit2 : Fits 600 (lamB 6 (ll_first_more_2 c) [some (.ref t), some (.ref u), some (.int b), some (.int e), e4, e5, e6]) (fun x => decide (0 < l.exc r b (min (x + 1) W))) ih2 := fun x ih' Q h1 h2 h3 h4 => fit1 x ih' Q h1 (f2.trans h2 (by omega)) (by omega) h4
      have mono : ∀ x y : Nat, x ≤ y → 0 < l.exc r b (min (x + 1) W) → 0 < l.exc r b (min (y + 1) W) := fun x y h h1 =>
        Int.lt_of_lt_of_le h1 (sumN_mono (by omega) fun i hi => nn i (by omega))
      refine w_fc c (by decide) fit2 (fun x y h h1 => decide_eq_true (mono x y h (of_decide_eq_true h1))) (decide_eq_true (by rw [Nat.min_eq_right (by omega)]; exact pos)) fun a ih3 ha hb f3 l3 => ?_
      have ha' := of_decide_eq_true ha
      have aW : a < W := by
        rcases Nat.lt_or_ge a W with h | h
        · exact h
        · have h1 := hb (W - 1) (by omega)
          have h2 := of_decide_eq_false h1
          rw [Nat.min_eq_right (by omega)] at ha'
          rw [show min (W - 1 + 1) W = W by omega] at h2
          exact absurd ha' h2
      rw [Nat.min_eq_left (by omega)] at ha'
      obtain ⟨g1, g3⟩ := firstA (d := fun i : Nat => l.d r (b + i)) nn aW ha' fun x hx h => of_decide_eq_false (hb x hx) (by rw [Nat.min_eq_left (by omega)]; exact h)
      have kz := kS1 a (by omega) g1 g3 ih3 (f2.trans f3 (by omega)) (by omega)
      clear kS1 fit1 fit2 f2 f3 nn mono ha hb g1 g3 ha' pos
      walk_at "run"
      all_goals exact kz
/-- what the search is for -/
theorem w_more (c : Cs) {b : Int} {eb : Option Int} (p : Two t u l r ih) (hs : l.stretch r = some (b, eb))
    (k : ∀ o ih', IsFirst (fun x => 0 < l.d r x) o → Fx ih ih' → ih.length ≤ ih'.length → Q (ofO o) ih') : wp (m_first_more c [.ref t, .ref u, .int b, ofO eb] ih) Q E := by
  have ls := p.ls
  have rs := p.rs
  obtain ⟨gB, rB, lsB, rsB⟩ := p.gapB
  have b0 := Ln.stretch0 hs
  have low : ∀ x, 0 ≤ x → x < b → l.d r x ≤ 0 := fun x x0 x1 => by
    refine Ln.np ls rs ?_
    rcases Int.lt_or_le (l.gap r + l.gro r * x) 0 with h | h
    · exact Int.le_of_lt h
    · obtain ⟨f, b', e1, e2, _⟩ := (Ln.in_stretch x0).mp h
      rw [hs] at e1
      cases e1
      omega
  have nn : ∀ x, b ≤ x → (∀ e, eb = some e → x < e) → 0 ≤ l.d r x := fun x x0 x1 => Ln.nn ls rs ((Ln.in_stretch (by omega)).mpr ⟨_, _, hs, x0, x1⟩)
  have hi : ∀ e x, eb = some e → b ≤ x → e ≤ x → l.d r x ≤ 0 := fun e x he x0 x1 => by
    refine Ln.np ls rs ?_
    rcases Int.lt_or_le (l.gap r + l.gro r * x) 0 with h | h
    · exact Int.le_of_lt h
    · obtain ⟨f, b', e1, e2, e3⟩ := (Ln.in_stretch (show 0 ≤ x by omega)).mp h
      rw [hs] at e1
      cases e1
      have := e3 _ he
      omega
  have bB : B 700 b := by
    unfold Ln.stretch at hs
    split at hs
    · split at hs
      · cases hs; exact (lit 1 : B 1 0).mono (by decide)
      · cases hs
    · split at hs
      · cases hs
        rename_i h0 h1
        have h2 : B 469 (0 - (0 - (0 - l.gap r)) / l.gro r) := B.sub (lit 468) ((B.div (B.sub (lit 467) (B.sub (lit 466) gB)) h1).mono (by decide))
        rcases Int.lt_or_le 0 (0 - (0 - (0 - l.gap r)) / l.gro r) with h | h
        · rw [show max 0 (0 - (0 - (0 - l.gap r)) / l.gro r) = 0 - (0 - (0 - l.gap r)) / l.gro r by omega]
          exact h2.mono (by decide)
        · rw [show max 0 (0 - (0 - (0 - l.gap r)) / l.gro r) = 0 by omega]
          exact (lit 1 : B 1 0).mono (by decide)
      · split at hs
        · cases hs; exact (lit 1 : B 1 0).mono (by decide)
        · cases hs
  unfold m_first_more b_first_more
  rw [wp_def, ws_seq]
  show ws _ (ks_seq (tlMore c) (kd Q) (kdE E)) _
  cases eb with
  | some e =>
    have we : e - b < 2 ^ 600 := by
      unfold Ln.stretch at hs
      split at hs
      · split at hs <;> cases hs
      · split at hs
        · cases hs
        · split at hs
          · cases hs
            rename_i h0 h1 h2
            have hg : 0 < 0 - l.gro r := by omega
            have h3 := B.div gB hg
            unfold B at h3
            have h4 := Int.le_natAbs (a := l.gap r / (0 - l.gro r))
            have h5 := Int.ofNat_lt.mpr h3
            have h6 : ((2 ^ 466 : Nat) : Int) = (2 : Int) ^ 466 := by norm_cast
            rw [h6] at h5
            have h7 : (2 : Int) ^ 466 + 1 < 2 ^ 600 := by decide
            omega
          · cases hs
    have tail := fun e4 e5 e6 => w_tail (E := E) (Q := Q) c (e4 := e4) (e5 := e5) (e6 := e6) p bB we (fun x x0 x1 => nn x x0 fun e' he => by cases he; exact x1)
      (fun h ih' f' l' => k none ih' (fun x x0 hx => by
        rcases Int.lt_or_le x b with h1 | h1
        · have := low x x0 h1
          omega
        · rcases Int.lt_or_le x e with h2 | h2
          · have := h x h1 h2
            omega
          · have := hi e x rfl h1 h2
            omega) f' l')
      (fun a h1 h2 h3 ih' f' l' => k (some (b + a)) ih' (first_at b0 low h2 h3) f' l')
    have a3 : decide (IV.int e = IV.non) = false := rfl
    have eo : ofO (some e) = .int e := rfl
    obtain ⟨K, hK⟩ : ∃ K, K = ks_seq (tlMore c) (kd Q) (kdE E) := ⟨_, rfl⟩
    rw [← hK] at tail ⊢
    clear k low nn hi hK
    walk_at "run"
    all_goals exact tail _ _ _
  | none =>
    have a3 : decide (IV.non = IV.non) = true := rfl
    have eo : ofO none = .non := rfl
    by_cases t1 : 0 < l.gro r
    · have d1 := decide_eq_true t1
      have nn' : ∀ i : Nat, 0 ≤ l.d r (b + i) := fun i => nn _ (by omega) fun e he => by cases he
      have big : 0 < l.exc r b (2 ^ 128 + 1) := by
        refine (sumN_pos (f := fun i : Nat => l.d r (b + i)) fun i _ => nn' i).mpr ⟨2 ^ 128, by omega, ?_⟩
        refine Ln.big ls rs (Int.le_trans p.mul_le ?_)
        have h0 : 0 ≤ l.gap r + l.gro r * b := (Ln.in_stretch b0).mpr ⟨_, _, hs, Int.le_refl _, fun e he => by cases he⟩
        have h1 := Int.mul_le_mul_of_nonneg_right (show 1 ≤ l.gro r by omega) (show (0 : Int) ≤ ((2 ^ 128 : Nat) : Int) by omega)
        have h2 : ((2 ^ 128 : Nat) : Int) = (2 : Int) ^ 128 := by norm_cast
        rw [Int.mul_add, h2]
        rw [h2] at h1
        omega
      walk_at "run"
      refine w_turning c p fun n ih1 n1 n2 f1 l1 g1 => ?_
      have p1 := p.fx f1
      have k1 := fun o ih' h (f' : Fx ih1 ih') (l' : ih1.length ≤ ih'.length) => k o ih' h (f1.trans f' l1) (by omega)
      clear k f1 p
      walk_at "run"
      refine callL_new fun m ih2 m1 m2 m3 f2 g2 => ?_
      show wp (defRun 6 (b_first_count c m _) [.int 0, .ref m] ih2) _ E0
      have fit := fits1 c (b := b) (N := 128) (ih := ih2) (e3 := some .non) (e4 := some (.int (l.gap r))) (e5 := some (.int (l.gro r))) (e6 := none) (by decide) (p1.fx f2) (bB.mono (by decide))
      refine w_fc c (by decide) fit (fun x y h h1 => decide_eq_true (Int.lt_of_lt_of_le (of_decide_eq_true h1) (sumN_mono (by omega) fun i _ => nn' i))) (decide_eq_true big) fun a ih3 ha hb f3 l3 => ?_
      obtain ⟨h2, h3⟩ := firstA (d := fun i : Nat => l.d r (b + i)) (W := a + 1) (fun i _ => nn' i) (by omega) (of_decide_eq_true ha) fun x hx => of_decide_eq_false (hb x hx)
      have kz := k1 (some (b + a)) ih3 (first_at b0 low h2 h3) (f2.trans f3 (by omega)) (by omega)
      have eo2 : ofO (some (b + (a : Int))) = .int (b + a) := rfl
      rw [eo2] at kz
      clear k1 fit f2 f3 nn nn' low hi ha hb h2 h3 big p1 g1 eo2
      walk_at "run"
      all_goals exact kz
    · have d1 := decide_eq_false t1
      have g0 : l.gro r = 0 := by
        unfold Ln.stretch at hs
        split at hs
        · assumption
        · first
          | (split at hs <;> cases hs)
          | (rw [if_neg t1] at hs; split at hs <;> cases hs)
      have bz : b = 0 := by
        unfold Ln.stretch at hs
        rw [if_pos g0] at hs
        split at hs
        · cases hs; rfl
        · cases hs
      subst bz
      obtain ⟨h, ⟨gt, s0, h0, h1, vB, sB⟩, e1⟩ := p.lt
      obtain ⟨k', ⟨gu, s02, h02, h12, vB2, sB2⟩, e2⟩ := p.rt
      have q1 := q_power c h0 (Int.le_trans h1 (by decide))
      have q2 := q_power c h02 (Int.le_trans h12 (by decide))
      rw [← e1] at q1
      rw [← e2] at q2
      obtain ⟨M, eM⟩ : ∃ M : Int, (if r.s > l.s then r.s else l.s) = M := ⟨_, rfl⟩
      have eM2 : M = max l.s r.s := by rw [← eM]; split <;> omega
      have M0 : 0 < M := by omega
      have Mle : M < 2 ^ 600 := by
        have z1 : l.s ≤ 2 ^ 64 := by rw [e1]; exact_mod_cast Nat.pow_le_pow_right (by decide) (show h.toNat ≤ 64 by omega)
        have z2 : r.s ≤ 2 ^ 64 := by rw [e2]; exact_mod_cast Nat.pow_le_pow_right (by decide) (show k'.toNat ≤ 64 by omega)
        have z3 : (2 : Int) ^ 64 < 2 ^ 600 := by decide
        omega
      have per : ∃ a b : Int, l.s * a = M ∧ l.s * a = r.s * b := by
        rcases Nat.le_total h.toNat k'.toNat with hle | hle
        · have hp : r.s = l.s * 2 ^ (k'.toNat - h.toNat) := by rw [e1, e2, ← Int.pow_add]; congr 1; omega
          have hle2 : l.s ≤ r.s := by rw [e1, e2]; exact_mod_cast Nat.pow_le_pow_right (by decide) hle
          exact ⟨_, 1, by rw [← hp]; omega, by rw [← hp, Int.mul_one]⟩
        · have hp : l.s = r.s * 2 ^ (h.toNat - k'.toNat) := by rw [e1, e2, ← Int.pow_add]; congr 1; omega
          have hle2 : r.s ≤ l.s := by rw [e1, e2]; exact_mod_cast Nat.pow_le_pow_right (by decide) hle
          exact ⟨1, _, by omega, by rw [Int.mul_one]; exact hp⟩
      clear e1 e2
      walk_at "run"
      refine w_turning c p fun n ih1 n1 n2 f1 l1 g1 => ?_
      have p1 := p.fx f1
      have gt1 : ih1[t]? = some (.tup [.int l.v, .int l.sl, .int h]) := by rw [f1 t (lt_of_get gt)]; exact gt
      have gu1 : ih1[u]? = some (.tup [.int r.v, .int r.sl, .int k']) := by rw [f1 u (lt_of_get gu)]; exact gu
      have k1 := fun o ih' h (f' : Fx ih1 ih') (l' : ih1.length ≤ ih'.length) => k o ih' h (f1.trans f' l1) (by omega)
      have tail := fun e4 e5 e6 => w_tail (E := E) (Q := Q) c (b := 0) (e := M) (e4 := e4) (e5 := e5) (e6 := e6) p1 bB (by omega) (fun x x0 x1 => nn x x0 fun e' he => by cases he)
        (fun hz ih' f' l' => k1 none ih' (fun x x0 hx => by
          obtain ⟨a, b, ea, eb⟩ := per
          obtain ⟨q, eq⟩ := Int.eq_ofNat_of_zero_le (Int.ediv_nonneg x0 (show 0 ≤ M by omega))
          have hp := Ln.perN ls rs (c := x % M) g0 eb q
          have hx2 : x % M + l.s * a * q = x := by
            have := Int.emod_def x M
            rw [ea, ← eq]
            omega
          rw [hx2] at hp
          have := hz (x % M) (Int.emod_nonneg _ (by omega)) (Int.emod_lt_of_pos _ M0)
          have hx' : 0 < l.d r x := hx
          omega) f' l')
        (fun a h1 h2 h3 ih' f' l' => k1 (some (0 + a)) ih' (first_at b0 low h2 h3) f' l')
      obtain ⟨K, hK⟩ : ∃ K, K = ks_seq (tlMore c) (kd Q) (kdE E) := ⟨_, rfl⟩
      rw [← hK] at tail ⊢
      have ez : (0 : Int) + M = M := Int.zero_add _
      clear k k1 low nn hi hK f1 gt gu p p1 per g0 eM2 hs
      walk_at "run"
      all_goals exact tail _ _ _
/-- the least cycle at which one line reads more -/
theorem w_above (c : Cs) (p : Two t u l r ih) (k : ∀ o ih', IsFirst (fun x => 0 < l.d r x) o → Fx ih ih' → ih.length ≤ ih'.length → Q (ofO o) ih') : wp (m_first_above c [.ref t, .ref u] ih) Q E := by
  unfold m_first_above b_first_above
  walk_at "run"
  refine w_ahead c p (fun ih1 hs f1 l1 => ?_) fun f b n ih1 hs n1 n2 f1 l1 g1 => ?_
  · have kz := k none ih1 (fun x x0 hx => by
      have hd : 0 < l.d r x := hx
      rcases Int.lt_or_le 0 (l.gap r + l.gro r * x) with h | h
      · obtain ⟨f, b, e, _⟩ := (Ln.in_stretch x0).mp (Int.le_of_lt h)
        rw [hs] at e
        cases e
      · have := Ln.np p.ls p.rs h
        omega) f1 l1
    have a3 : decide (IV.non = IV.non) = true := rfl
    clear k f1 hs
    walk_at "run"
    all_goals exact kz
  · have a3 : decide (IV.ref n = IV.non) = false := rfl
    have p1 := p.fx f1
    have k1 := fun o ih' h (f' : Fx ih1 ih') (l' : ih1.length ≤ ih'.length) => k o ih' h (f1.trans f' l1) (by omega)
    clear k f1 p
    walk_at "run"
    refine w_more c p1 hs fun o ih2 ho f2 l2 => ?_
    have kz := k1 o ih2 ho f2 l2
    clear k1 f2 ho p1 hs g1
    walk_at "run"
    all_goals exact kz
end
end L3
/-! FD: first_ahead, first_apart. (L12) -/
namespace L3
open PySem PySem.Spec PyProof.Rows L2
local macro_rules | `(tactic| walk_at "get") => `(tactic| simp (disch := first | assumption | omega | (simp only [List.length_append, List.length_set, List.length_cons, List.length_nil, List.length_map] <;> omega) | fail) only [g_new, g_nw, g_old, g_set, g_sne, List.length_append, List.length_set, List.length_cons, List.length_nil, List.length_map, List.map_map, Function.comp_def, xs_lst, xs_tup, isL_lst, isL_tup, ↓reduceIte, *])
local macro_rules | `(tactic| walk_at "fr") => `(tactic| first | (intro _ _ _; simp (disch := first | assumption | omega | (simp only [List.length_append, List.length_set, List.length_cons, List.length_nil, List.length_map] <;> omega) | fail) only [g_new, g_nw, g_old, g_set, g_sne, List.length_append, List.length_set, List.length_cons, List.length_nil, List.length_map, List.map_map, Function.comp_def, xs_lst, xs_tup, isL_lst, isL_tup, ↓reduceIte, *]) | (intro _ _; simp (disch := first | assumption | omega | (simp only [List.length_append, List.length_set, List.length_cons, List.length_nil, List.length_map] <;> omega) | fail) only [g_new, g_nw, g_old, g_set, g_sne, List.length_append, List.length_set, List.length_cons, List.length_nil, List.length_map, List.map_map, Function.comp_def, xs_lst, xs_tup, isL_lst, isL_tup, ↓reduceIte, *]))
local macro_rules | `(tactic| walk_at "run") => `(tactic| simp -implicitDefEqProofs (disch := first | assumption | omega | (simp only [List.length_append, List.length_set, List.length_cons, List.length_nil, List.length_map] <;> omega) | fail) only [wp_ok, wp_exc, wp_stuck, ws_ok, ws_exc, ws_stuck, wp_op, kk_op, kk_un, wp_un, wp_cons, kk_cons, kk_cons2, wp_nil, wp_c, wp_app, wp_if, kk_if1, kk_if0, wp_and, kk_and1, kk_and0, wp_or, kk_or1, kk_or0, wp_not, kk_not, wp_tb, kk_tb, wp_andV, kk_andV1, kk_andV0, wp_orV, kk_orV1, kk_orV0, wp_notV, kk_notV, wp_noneS, wp_some, kk_some, wp_sl, kk_sl, kk_sl2, kk_sl3, wp_mL, kk_mL, kk_mL2, wp_mL0, kk_mL0, wp_chain, kk_ch, kk_ch2, kk_ch31, kk_ch30, ws_set, kks_nm, kks_g, kks_tup, kks_lst, ws_expr, kks_expr, ws_ret, kks_ret, ws_retN, ws_pass, ws_brk, ws_cont, ws_raise, ws_if, kks_if1, kks_if0, ws_seq, kks_next, kks_retS, kks_brk, kks_cont, kk_augE, ws_aug, kks_aug, kks_aug2, ws_par, kks_par, ws_setL, kks_sl, kks_sl2, kks_sl3, wp_def, kkd_ret, kkd_next, kkdE, kkE, ws_for, wp_lc, wp_r1, kk_r1, wp_r2, kk_r2, wp_il, wp_it, wp_ie, wp_iz, kk_il, kk_il2, kk_it, kk_it2, kk_ie, kk_ie2, kk_iz, kk_iz2, lAt_k, k_lAtL, k_lAtO, k_lAtT, wp_int, wp_add, wp_addI, wp_sub, wp_neg, wp_lt, wp_le, wp_gt, wp_ge, wp_max2, wp_min2, wp_abs, wp_mulI, wp_mul, wp_fdiv, wp_mod, wp_shl, wp_shr, wp_pow, wp_isN, wp_notN, wp_eqI, wp_neI, wp_ix, kk_ix, kk_ix2, wp_len, kk_lenL, kk_lenT, kk_lenO, kk_lenP, wp_appd, kk_app1, isL_k, kk_isL, startI_cons, startI_nil, rep_succ, rep_zero, List.getElem?_cons_zero, List.getElem?_cons_succ, List.set_cons_zero, List.set_cons_succ, f_call, m_var, List.append_nil, List.nil_append, List.cons_append, List.length_cons, List.length_nil, if_true, if_false, g_tup, g_lst, g_cons, g_nil, g_nm, Option.bind_some, kks_g, atI_0, atI_1, atI_2, atI_3, atI_4, atI_5, atI_6, atI_7, atI_8, atI_9, atI_10, atI_11, atI_12, atI_last, cutI_1, ixN_30, ixN_31, ixN_32, Int.toNat_zero, Int.reduceToNat, Int.reduceNeg, xs_lst, xs_tup, xs_ro, xs_rot, isL_lst, isL_tup, isL_ro, isL_rot, isT_tup, isT_rot, Bool.false_eq_true, Bool.true_eq_false, Bool.not_true, Bool.not_false, decide_true, decide_false, Int.reduceLT, Int.reduceLE, Nat.reduceLT, Nat.reduceLeDiff, Nat.reduceAdd, Nat.reduceEqDiff, Bool.not_eq_true, true_and, and_true, and_self, eq_self, g_new, g_nw, g_old, g_set, g_sne, List.length_set, List.length_append, wp_r3, kk_r3, Int.cast_ofNat_Int, Int.reduceEq, Int.natCast_zero, Int.natCast_one, ws_whileA, wp_isiII, wp_isiIB, wp_isiI_list, wp_isiI_tuple, wp_isiI_str, wp_isiR, tyO_l, tyO_t, kk_isi, kk_isi2, kit_ll, kit_tt, kit_lt, kit_tl, wp_isiN, wp_isiBl, wp_isiS, tyO_d, kit2_NoneType_int, kit2_NoneType_bool, kit2_NoneType_list, kit2_NoneType_tuple, kit2_NoneType_str, kit2_bool_int, kit2_bool_bool, kit2_bool_list, kit2_bool_tuple, kit2_bool_str, kit2_str_int, kit2_str_bool, kit2_str_list, kit2_str_tuple, kit2_str_str, kit2_dict_int, kit2_dict_bool, kit2_dict_list, kit2_dict_tuple, kit2_dict_str, kit2_list_int, kit2_list_bool, kit2_list_str, kit2_tuple_int, kit2_tuple_bool, kit2_tuple_str, kit2_int_list, kit2_int_tuple, kit2_int_str, kf_next, kf_cont, kf_brk, kf_ret, wipeI, wp_callL, wp_fits, kk_fits, kk_fits2, wp_lamB, ↓reduceIte, *])
/-- [part for part in (x, y) if test], nothing allocated -/
theorem lc_two {Q : PQ IV} {E : EQ} {env : Env} {ih : IH} {vs : List Nat} {i n : Nat} {mt : Env → IH → Res Bool} {me : Env → IH → Res IV} {x y : IV} (T : IV → Bool) (ho : ih[n]? = some (.tup [x, y]))
    (ht : ∀ z, z = x ∨ z = y → ∀ ih', Fx ih ih' → wp (mt ((wipeI env vs).set i (some z)) ih') (fun v ih'' => v = T z ∧ ih'' = ih') E0)
    (he : ∀ z ih', Fx ih ih' → wp (me ((wipeI env vs).set i (some z)) ih') (fun v ih'' => v = z ∧ ih'' = ih') E0)
    (q : Q (.ref ih.length) (ih ++ [.lst ([x, y].filter T)])) : k_lc vs (g_nm i) mt me env Q E (.tup n) ih := by
  have hs : (Src.tup n).size ih = 2 := by
    unfold Src.size
    dsimp only
    rw [ho]
    rfl
  refine lc_gen 2 (fun k acc ih' => acc = (([x, y].take k).filter T) ∧ ih' = ih ++ [.lst acc]) (by rw [hs]; exact Nat.le_refl _) ⟨rfl, rfl⟩ (fun k acc ih' hk ⟨ha, ei⟩ hd => ?_) (fun acc ih' ⟨_, ei⟩ _ => ?_) fun acc ih' ⟨ha, ei⟩ hd => ?_
  · subst ei
    have ho' : (ih ++ [MO.lst acc])[n]? = some (.tup [x, y]) := by rw [g_old (lt_of_get ho)]; exact ho
    have la : lAt (ih ++ [MO.lst acc]) n false = some [x, y] := by
      unfold lAt
      rw [ho']
      rfl
    have hx : [x, y][k]? = some ([x, y][k]) := List.getElem?_eq_getElem hk
    obtain ⟨z, ez⟩ : ∃ z, [x, y][k] = z := ⟨_, rfl⟩
    rw [ez] at hx
    have hz : z = x ∨ z = y := by
      have := List.mem_of_getElem? hx
      simpa using this
    have et : [x, y].take (k + 1) = [x, y].take k ++ [z] := by rw [List.take_add_one, hx]; rfl
    refine ⟨z, _, _, by unfold Src.turn; dsimp only; rw [la]; dsimp only; rw [hx], rfl, wp.imp (ht z hz _ Fx.app) (fun v ih2 hv => ?_) fun _ _ h => h⟩
    obtain ⟨hv, hi⟩ := hv
    subst hi
    refine ⟨fun hb => ⟨hd, ?_, rfl⟩, fun hb => wp.imp (he z _ Fx.app) (fun w ih3 hw => ?_) fun _ _ h => h⟩
    · rw [et, List.filter_append, ha, List.filter_cons, ← hv, hb]
      simp
    · obtain ⟨hw, hi3⟩ := hw
      subst hi3
      refine ⟨hd, ?_, ?_, ?_⟩
      · rw [ha]
        exact Nat.lt_of_le_of_lt (List.length_filter_le _ _) (Nat.lt_of_le_of_lt (List.length_take_le _ _) (by omega))
      · rw [et, List.filter_append, ha, List.filter_cons, ← hv, hb, hw]
        simp
      · rw [set_append_last]
  · subst ei
    have ho' : (ih ++ [MO.lst acc])[n]? = some (.tup [x, y]) := by rw [g_old (lt_of_get ho)]; exact ho
    have la : lAt (ih ++ [MO.lst acc]) n false = some [x, y] := by
      unfold lAt
      rw [ho']
      rfl
    unfold Src.turn
    dsimp only
    rw [la]
    rfl
  · rw [ei, ha]
    exact q
def minO : Option Int → Option Int → Option Int
  | some a, some b => some (min a b)
  | some a, none => some a
  | none, b => b
theorem Ln.d_neg (l r : Ln) (c : Int) : r.d l c = -(l.d r c) := by
  unfold Ln.d
  omega
theorem first_min {l r : Ln} {a b : Option Int} (ha : IsFirst (fun x => 0 < l.d r x) a) (hb : IsFirst (fun x => 0 < r.d l x) b) : IsFirst (fun x => l.d r x ≠ 0) (minO a b) := by
  have neg := Ln.d_neg l r
  cases a with
  | none =>
    cases b with
    | none =>
      intro x x0 hx
      have h1 : ¬ 0 < l.d r x := ha x x0
      have h2 : ¬ 0 < r.d l x := hb x x0
      have := neg x
      have hx' : l.d r x ≠ 0 := hx
      omega
    | some b =>
      obtain ⟨b0, b1, b2⟩ := hb
      have b1' : 0 < r.d l b := b1
      refine ⟨b0, ?_, fun x x0 x1 hx => ?_⟩
      · have := neg b
        show l.d r b ≠ 0
        omega
      · have h1 : ¬ 0 < l.d r x := ha x x0
        have h2 : ¬ 0 < r.d l x := b2 x x0 x1
        have := neg x
        have hx' : l.d r x ≠ 0 := hx
        omega
  | some a =>
    obtain ⟨a0, a1, a2⟩ := ha
    have a1' : 0 < l.d r a := a1
    cases b with
    | none =>
      refine ⟨a0, ?_, fun x x0 x1 hx => ?_⟩
      · show l.d r a ≠ 0
        omega
      · have h1 : ¬ 0 < l.d r x := a2 x x0 x1
        have h2 : ¬ 0 < r.d l x := hb x x0
        have := neg x
        have hx' : l.d r x ≠ 0 := hx
        omega
    | some b =>
      obtain ⟨b0, b1, b2⟩ := hb
      have b1' : 0 < r.d l b := b1
      refine ⟨show 0 ≤ min a b by omega, ?_, fun x x0 x1 hx => ?_⟩
      · show l.d r (min a b) ≠ 0
        have := neg b
        rcases Int.le_total a b with h | h
        · rw [Int.min_eq_left h]
          omega
        · rw [Int.min_eq_right h]
          omega
      · have x1' : x < min a b := x1
        have h1 : ¬ 0 < l.d r x := a2 x x0 (by omega)
        have h2 : ¬ 0 < r.d l x := b2 x x0 (by omega)
        have := neg x
        have hx' : l.d r x ≠ 0 := hx
        omega
section
variable {t u : Nat} {l r : Ln} {ih : IH} {Q : PQ IV} {E : EQ}
theorem w_fahead (c : Cs) (p : Two t u l r ih) (k : ∀ o ih', IsFirst (fun x => 0 < l.d r x) o → Fx ih ih' → ih.length ≤ ih'.length → Q (ofO o) ih') : wp (m_first_ahead c [.ref t, .ref u] ih) Q E := by
  obtain ⟨h, pl, _⟩ := p.lt
  obtain ⟨h2, pr, _⟩ := p.rt
  have a1 := q_line c pl
  have a2 := q_line c pr
  unfold m_first_ahead b_first_ahead
  walk_at "run"
  refine w_above c p fun o ih1 ho f1 l1 => ?_
  have kz := k o ih1 ho f1 l1
  clear k f1 ho a1 a2
  walk_at "run"
  all_goals exact kz
theorem w_parting (c : Cs) (p : Two t u l r ih) (k : ∀ o ih', IsFirst (fun x => l.d r x ≠ 0) o → Fx ih ih' → ih.length ≤ ih'.length → Q (ofO o) ih') : wp (m_parting c [.ref t, .ref u] ih) Q E := by
  unfold m_parting b_parting
  walk_at "run"
  unfold lc_parting_1
  walk_at "run"
  refine w_above c p fun oa ih1 ha f1 l1 => ?_
  walk_at "run"
  refine w_above c (p.fx f1).swap fun ob ih2 hb f2 l2 => ?_
  have F2 := f1.trans f2 l1
  have ho := first_min ha hb
  clear f1 f2 ha hb
  walk_at "run"
  refine wp_tup (by simp) ?_
  generalize hP : k_it _ = P
  refine newN fun n ih3 n1 n2 l3 f3 g3 => ?_
  subst hP
  have F3 := F2.trans f3 (by omega)
  clear F2 f3
  walk_at "run"
  have ht : ∀ z, z = ofO oa ∨ z = ofO ob → ∀ ih', Fx ih3 ih' → wp (ln_parting_1 c ((wipeI [some (.ref t), some (.ref u), none, none] [3]).set 3 (some z)) ih') (fun v ih'' => v = (!decide (z = .non)) ∧ ih'' = ih') E0 := fun z _ ih' f' => by
    clear F3 f' g3 k
    unfold ln_parting_1
    walk_at "run"
  have he : ∀ z ih', Fx ih3 ih' → wp (le_parting_1 c ((wipeI [some (.ref t), some (.ref u), none, none] [3]).set 3 (some z)) ih') (fun v ih'' => v = z ∧ ih'' = ih') E0 := fun z ih' f' => by
    clear F3 f' g3 k
    unfold le_parting_1
    walk_at "run"
  refine lc_two (fun z => !decide (z = .non)) g3 ht he ?_
  generalize hP : ks_set _ _ _ = P
  refine newN fun m ih4 m1 m2 l4 f4 g4 => ?_
  subst hP
  have F4 := F3.trans f4 (by omega)
  have kz := k (minO oa ob) ih4 ho F4 (by omega)
  clear ht he F3 f4 g3 k F4 ho
  walk_at "run"
  have fin : ∀ ns : List Int, [ofO oa, ofO ob].filter (fun z => !decide (z = IV.non)) = ns.map IV.int → minL ns = ofO (minO oa ob) → wp (f_minD (.ref m) ih4) (ks_ret (kd Q)) (kE (kdE E) [some (.ref t), some (.ref u), some (.ref m), none]) := fun ns e1 e2 => by
    rw [e1] at g4
    refine wp_minDL g4 ?_
    rw [e2]
    exact kz
  cases oa with
  | none =>
    cases ob with
    | none => exact fin [] rfl rfl
    | some b => exact fin [b] rfl rfl
  | some a =>
    cases ob with
    | none => exact fin [a] rfl rfl
    | some b => exact fin [a, b] rfl rfl
theorem w_fapart (c : Cs) (p : Two t u l r ih) (k : ∀ o ih', IsFirst (fun x => l.d r x ≠ 0) o → Fx ih ih' → ih.length ≤ ih'.length → Q (ofO o) ih') : wp (m_first_apart c [.ref t, .ref u] ih) Q E := by
  obtain ⟨h, pl, _⟩ := p.lt
  obtain ⟨h2, pr, _⟩ := p.rt
  have a1 := q_line c pl
  have a2 := q_line c pr
  unfold m_first_apart b_first_apart
  walk_at "run"
  refine w_parting c p fun o ih1 ho f1 l1 => ?_
  have kz := k o ih1 ho f1 l1
  clear k f1 ho a1 a2
  walk_at "run"
  all_goals exact kz
end
end L3
/-! FM: how often two lines of one slope are apart. (L12) -/
namespace L3
open PySem PySem.Spec PyProof.Rows L2
local macro_rules | `(tactic| walk_at "get") => `(tactic| simp (disch := first | assumption | omega | (simp only [List.length_append, List.length_set, List.length_cons, List.length_nil, List.length_map] <;> omega) | fail) only [g_new, g_nw, g_old, g_set, g_sne, List.length_append, List.length_set, List.length_cons, List.length_nil, List.length_map, List.map_map, Function.comp_def, xs_lst, xs_tup, isL_lst, isL_tup, ↓reduceIte, *])
local macro_rules | `(tactic| walk_at "fr") => `(tactic| first | (intro _ _ _; simp (disch := first | assumption | omega | (simp only [List.length_append, List.length_set, List.length_cons, List.length_nil, List.length_map] <;> omega) | fail) only [g_new, g_nw, g_old, g_set, g_sne, List.length_append, List.length_set, List.length_cons, List.length_nil, List.length_map, List.map_map, Function.comp_def, xs_lst, xs_tup, isL_lst, isL_tup, ↓reduceIte, *]) | (intro _ _; simp (disch := first | assumption | omega | (simp only [List.length_append, List.length_set, List.length_cons, List.length_nil, List.length_map] <;> omega) | fail) only [g_new, g_nw, g_old, g_set, g_sne, List.length_append, List.length_set, List.length_cons, List.length_nil, List.length_map, List.map_map, Function.comp_def, xs_lst, xs_tup, isL_lst, isL_tup, ↓reduceIte, *]))
local macro_rules | `(tactic| walk_at "run") => `(tactic| simp -implicitDefEqProofs (disch := first | assumption | omega | (simp only [List.length_append, List.length_set, List.length_cons, List.length_nil, List.length_map] <;> omega) | fail) only [wp_ok, wp_exc, wp_stuck, ws_ok, ws_exc, ws_stuck, wp_op, kk_op, kk_un, wp_un, wp_cons, kk_cons, kk_cons2, wp_nil, wp_c, wp_app, wp_if, kk_if1, kk_if0, wp_and, kk_and1, kk_and0, wp_or, kk_or1, kk_or0, wp_not, kk_not, wp_tb, kk_tb, wp_andV, kk_andV1, kk_andV0, wp_orV, kk_orV1, kk_orV0, wp_notV, kk_notV, wp_noneS, wp_some, kk_some, wp_sl, kk_sl, kk_sl2, kk_sl3, wp_mL, kk_mL, kk_mL2, wp_mL0, kk_mL0, wp_chain, kk_ch, kk_ch2, kk_ch31, kk_ch30, ws_set, kks_nm, kks_g, kks_tup, kks_lst, ws_expr, kks_expr, ws_ret, kks_ret, ws_retN, ws_pass, ws_brk, ws_cont, ws_raise, ws_if, kks_if1, kks_if0, ws_seq, kks_next, kks_retS, kks_brk, kks_cont, kk_augE, ws_aug, kks_aug, kks_aug2, ws_par, kks_par, ws_setL, kks_sl, kks_sl2, kks_sl3, wp_def, kkd_ret, kkd_next, kkdE, kkE, ws_for, wp_lc, wp_r1, kk_r1, wp_r2, kk_r2, wp_il, wp_it, wp_ie, wp_iz, kk_il, kk_il2, kk_it, kk_it2, kk_ie, kk_ie2, kk_iz, kk_iz2, lAt_k, k_lAtL, k_lAtO, k_lAtT, wp_int, wp_add, wp_addI, wp_sub, wp_neg, wp_lt, wp_le, wp_gt, wp_ge, wp_max2, wp_min2, wp_abs, wp_mulI, wp_mul, wp_fdiv, wp_mod, wp_shl, wp_shr, wp_pow, wp_isN, wp_notN, wp_eqI, wp_neI, wp_ix, kk_ix, kk_ix2, wp_len, kk_lenL, kk_lenT, kk_lenO, kk_lenP, wp_appd, kk_app1, isL_k, kk_isL, startI_cons, startI_nil, rep_succ, rep_zero, List.getElem?_cons_zero, List.getElem?_cons_succ, List.set_cons_zero, List.set_cons_succ, f_call, m_var, List.append_nil, List.nil_append, List.cons_append, List.length_cons, List.length_nil, if_true, if_false, g_tup, g_lst, g_cons, g_nil, g_nm, Option.bind_some, kks_g, atI_0, atI_1, atI_2, atI_3, atI_4, atI_5, atI_6, atI_7, atI_8, atI_9, atI_10, atI_11, atI_12, atI_last, cutI_1, ixN_30, ixN_31, ixN_32, Int.toNat_zero, Int.reduceToNat, Int.reduceNeg, xs_lst, xs_tup, xs_ro, xs_rot, isL_lst, isL_tup, isL_ro, isL_rot, isT_tup, isT_rot, Bool.false_eq_true, Bool.true_eq_false, Bool.not_true, Bool.not_false, decide_true, decide_false, Int.reduceLT, Int.reduceLE, Nat.reduceLT, Nat.reduceLeDiff, Nat.reduceAdd, Nat.reduceEqDiff, Bool.not_eq_true, true_and, and_true, and_self, eq_self, g_new, g_nw, g_old, g_set, g_sne, List.length_set, List.length_append, wp_r3, kk_r3, Int.cast_ofNat_Int, Int.reduceEq, Int.natCast_zero, Int.natCast_one, ws_whileA, wp_isiII, wp_isiIB, wp_isiI_list, wp_isiI_tuple, wp_isiI_str, wp_isiR, tyO_l, tyO_t, kk_isi, kk_isi2, kit_ll, kit_tt, kit_lt, kit_tl, wp_isiN, wp_isiBl, wp_isiS, tyO_d, kit2_NoneType_int, kit2_NoneType_bool, kit2_NoneType_list, kit2_NoneType_tuple, kit2_NoneType_str, kit2_bool_int, kit2_bool_bool, kit2_bool_list, kit2_bool_tuple, kit2_bool_str, kit2_str_int, kit2_str_bool, kit2_str_list, kit2_str_tuple, kit2_str_str, kit2_dict_int, kit2_dict_bool, kit2_dict_list, kit2_dict_tuple, kit2_dict_str, kit2_list_int, kit2_list_bool, kit2_list_str, kit2_tuple_int, kit2_tuple_bool, kit2_tuple_str, kit2_int_list, kit2_int_tuple, kit2_int_str, kf_next, kf_cont, kf_brk, kf_ret, wipeI, wp_callL, wp_fits, kk_fits, kk_fits2, wp_lamB, ↓reduceIte, *])
/-- at how many of the first cycles two lines are apart -/
def cnt (l r : Ln) : Nat → Nat
  | 0 => 0
  | n + 1 => cnt l r n + if l.d r (n : Int) = 0 then 0 else 1
theorem cnt_swap (l r : Ln) : ∀ n, cnt l r n = cnt r l n
  | 0 => rfl
  | n + 1 => by
    unfold cnt
    rw [cnt_swap l r n]
    have := Ln.d_neg l r n
    by_cases h : l.d r (n : Int) = 0
    · rw [if_pos h, if_pos (by omega)]
    · rw [if_neg h, if_neg (by omega)]
theorem cnt_far {l r : Ln} (h : ∀ n : Nat, l.d r n ≠ 0) : ∀ n, cnt l r n = n
  | 0 => rfl
  | n + 1 => by
    unfold cnt
    rw [cnt_far h n, if_neg (h n)]
theorem cnt_sum {l r : Ln} (h : ∀ n : Nat, l.d r n = 0 ∨ l.d r n = 1) : ∀ n, sumN (fun i : Nat => l.d r (0 + (i : Int))) n = cnt l r n
  | 0 => rfl
  | n + 1 => by
    show sumN _ n + l.d r (0 + (n : Int)) = ((cnt l r n + if l.d r (n : Int) = 0 then 0 else 1 : Nat) : Int)
    rw [cnt_sum h n, Int.zero_add]
    push_cast
    rcases h n with e | e
    · rw [e, if_pos rfl]
      rfl
    · rw [e, if_neg (by decide)]
      rfl
theorem sumN_neg (f : Nat → Int) : ∀ n, sumN (fun i => -(f i)) n = -(sumN f n)
  | 0 => rfl
  | n + 1 => by
    show sumN (fun i => -(f i)) n + -(f n) = -(sumN f n + f n)
    rw [sumN_neg f n]
    omega
/-- lines of one slope and shift -/
structure One (l r : Ln) : Prop where
  sl : l.sl = r.sl
  s : l.s = r.s
  pos : 0 < l.s
theorem One.swap {l r : Ln} (h : One l r) : One r l := ⟨h.sl.symm, h.s.symm, by rw [← h.s]; exact h.pos⟩
theorem One.near {l r : Ln} (h : One l r) (h0 : r.v ≤ l.v) (h1 : l.v - r.v < l.s) (c : Int) : l.d r c = 0 ∨ l.d r c = 1 := by
  have hs := h.pos
  unfold Ln.d Ln.rd
  rw [← h.sl, ← h.s]
  have a := Int.ediv_le_ediv hs (show r.v + l.sl * c ≤ l.v + l.sl * c by omega)
  have b := Int.ediv_le_ediv hs (show l.v + l.sl * c ≤ r.v + l.sl * c + 1 * l.s by omega)
  rw [Int.add_mul_ediv_right _ _ (by omega)] at b
  omega
theorem One.far {l r : Ln} (h : One l r) (h1 : l.s ≤ l.v - r.v) (c : Int) : 0 < l.d r c := by
  have hs := h.pos
  unfold Ln.d Ln.rd
  rw [← h.sl, ← h.s]
  have a := Int.ediv_le_ediv hs (show r.v + l.sl * c + 1 * l.s ≤ l.v + l.sl * c by omega)
  rw [Int.add_mul_ediv_right _ _ (by omega)] at a
  omega
theorem One.cnt_far {l r : Ln} (h : One l r) (hd : l.s ≤ (if l.v - r.v < 0 then -(l.v - r.v) else l.v - r.v)) (n : Nat) : cnt l r n = n := by
  refine L3.cnt_far (fun n => ?_) n
  split at hd
  · have := h.swap.far (by rw [← h.s]; omega) n
    have := Ln.d_neg l r n
    omega
  · have := h.far hd n
    omega
theorem One.cnt_abs {l r : Ln} (h : One l r) (hd : (if l.v - r.v < 0 then -(l.v - r.v) else l.v - r.v) < l.s) (n : Nat) : (if l.exc r 0 n < 0 then -(l.exc r 0 n) else l.exc r 0 n) = cnt l r n := by
  split at hd
  · have e := cnt_sum (fun m => h.swap.near (by omega) (by rw [← h.s]; omega) (m : Int)) n
    rw [← cnt_swap] at e
    have e2 : l.exc r 0 n = -(cnt l r n : Int) := by
      rw [← e, ← sumN_neg]
      unfold Ln.exc
      refine sumN_congr fun i _ => ?_
      rw [Ln.d_neg r l]
    rw [e2]
    split <;> omega
  · have e := cnt_sum (fun m => h.near (by omega) hd (m : Int)) n
    have e2 : l.exc r 0 n = cnt l r n := e
    rw [e2]
    split <;> omega
theorem wp_slT {n : Nat} {xs : List IV} {lo hi : Option Int} {ih : IH} {Q : PQ IV} {E : EQ} (h : ih[n]? = some (.tup xs)) (hn : ¬ (HT.sIx xs.length 0 lo = 0 ∧ HT.sIx xs.length xs.length hi = xs.length)) (q : Q (.ref ih.length) (ih ++ [.tup (cutI xs lo hi)])) : wp (f_sl (.ref n) lo hi ih) Q E := by
  have e : f_sl (.ref n) lo hi ih = .ok (.ref ih.length) (ih ++ [.tup (cutI xs lo hi)]) := by
    unfold f_sl
    dsimp only
    rw [h]
    dsimp only
    rw [if_pos hn]
  exact wp.of e q
theorem shaped_pr (a b : Int) : SeqAt.shaped (.tuple [.int a, .int b]) = true := by simp [SeqAt.shaped, PyData.canLay0, PyData.canLayAll0, PyData.depth, PyData.depthAll]
section
variable {t u n : Nat} {l r : Ln} {ih : IH} {Q : PQ IV} {E : EQ}
theorem w_many (c : Cs) (p : Two t u l r ih) (o : One l r) (nB : B 800 (n : Int)) (k : ∀ ih', Fx ih ih' → ih.length ≤ ih'.length → Q (.int (cnt l r n : Int)) ih') : wp (m_apart_many c [.ref t, .ref u, .int (n : Int)] ih) Q E := by
  have p' := p
  obtain ⟨h, pl, e1⟩ := p.lt
  obtain ⟨h2, pr, e2⟩ := p.rt
  have a1 := q_line c pl
  have a2 := q_line c pr
  have a3 := q_power c pl.h0 (Int.le_trans pl.h1 (by decide))
  have a4 := q_cycle c (v := (n : Int)) (by omega)
  have hh : h = h2 := by
    have e3 : (2 : Int) ^ h.toNat = 2 ^ h2.toNat := by rw [← e1, ← e2]; exact o.s
    have b0 := pl.h0
    have b1 := pr.h0
    rcases Nat.lt_trichotomy h.toNat h2.toNat with z | z | z
    · have : (2 : Int) ^ h.toNat < 2 ^ h2.toNat := by exact_mod_cast Nat.pow_lt_pow_right (by decide) z
      omega
    · omega
    · have : (2 : Int) ^ h2.toNat < 2 ^ h.toNat := by exact_mod_cast Nat.pow_lt_pow_right (by decide) z
      omega
  subst hh
  have gt := pl.g
  have gu := pr.g
  rw [← o.sl] at gu
  rw [← e1] at a3
  have cut : ∀ x : Int, cutI [IV.int x, .int l.sl, .int h] (some 1) none = [.int l.sl, .int h] := fun x => rfl
  have ncut : ∀ x : Int, ¬ (HT.sIx [IV.int x, .int l.sl, .int h].length 0 (some 1) = 0 ∧ HT.sIx [IV.int x, .int l.sl, .int h].length [IV.int x, .int l.sl, .int h].length none = [IV.int x, .int l.sl, .int h].length) := fun x z => by
    have : HT.sIx 3 0 (some 1) = 1 := rfl
    have z1 : HT.sIx 3 0 (some 1) = 0 := z.1
    omega
  clear e1 e2 pl pr p
  unfold m_apart_many b_apart_many
  walk_at "run"
  refine wp_slT gt (ncut _) ?_
  rw [cut]
  generalize hP : k_op _ _ _ _ _ = P
  refine newN fun x ih1 x1 x2 l1 f1 g1 => ?_
  subst hP
  have gu1 : ih1[u]? = some (.tup [.int r.v, .int l.sl, .int h]) := by rw [f1 u (lt_of_get gu)]; exact gu
  have gt1 : ih1[t]? = some (.tup [.int l.v, .int l.sl, .int h]) := by rw [f1 t (lt_of_get gt)]; exact gt
  have p1 := p'.fx f1
  have F1 : Fx ih ih1 := f1
  clear f1 gt gu p'
  walk_at "run"
  refine wp_slT gu1 (ncut _) ?_
  rw [cut]
  generalize hP : k_un _ _ _ = P
  refine newN fun y ih2 y1 y2 l2 f2 g2 => ?_
  subst hP
  have g12 : ih2[x]? = some (.tup [.int l.sl, .int h]) := by rw [f2 x x2]; exact g1
  have gt2 : ih2[t]? = some (.tup [.int l.v, .int l.sl, .int h]) := by rw [f2 t (lt_of_get gt1)]; exact gt1
  have gu2 : ih2[u]? = some (.tup [.int r.v, .int l.sl, .int h]) := by rw [f2 u (lt_of_get gu1)]; exact gu1
  have p2 := p1.fx f2
  have F2 := F1.trans f2 (by omega)
  clear f2 F1 gt1 gu1 g1 p1
  walk_at "run"
  have i1 : Is ih2 (.ref x) (.tuple [.int l.sl, .int h]) := .tup g12 rfl (.cons (.int _) (.cons (.int _) .nil))
  have i2 : Is ih2 (.ref y) (.tuple [.int l.sl, .int h]) := .tup g2 rfl (.cons (.int _) (.cons (.int _) .nil))
  refine wp_ne i1 i2 (shaped_pr _ _) (shaped_pr _ _) ?_
  rw [eqv_same (shaped_pr _ _)]
  clear i1 i2 g12 g2
  by_cases hd : l.s ≤ (if l.v - r.v < 0 then -(l.v - r.v) else l.v - r.v)
  · have d1 := decide_eq_true hd
    have kz := k ih2 F2 (by omega)
    rw [o.cnt_far hd] at kz
    clear k F2 hd p2
    walk_at "run"
    all_goals exact kz
  · have d1 := decide_eq_false hd
    have e := o.cnt_abs (by omega) n
    clear hd
    walk_at "run"
    refine w_exc c p2 ((lit 1 : B 1 0).mono (by decide)) nB fun ih3 f3 l3 => ?_
    have kz := k ih3 (F2.trans f3 (by omega)) (by omega)
    rw [← e] at kz
    clear k F2 f3 p2 gt2 gu2 e
    walk_at "run"
    all_goals exact kz
end
end L3
/-! L15: a caught exception by its name, count and index, texts, values of all kinds; backwards. -/
namespace L3
open PySem PySem.Spec PyProof.Rows L2
open Classical in
noncomputable def tryH (i : Nat) (exm : Addr → Option Bool) (ms : Addr → Addr → Env → IH → RS) (c : Addr) (env1 : Env) (ih1 : IH) : RS := match exm c with
  | some true => if ∀ a, (ms a c (env1.set i (some (.gl a))) ih1).unset i = (ms 0 c (env1.set i (some (.gl 0))) ih1).unset i then (ms 0 c (env1.set i (some (.gl 0))) ih1).unset i else .stuck
  | some false => .exc c env1 ih1
  | none => .stuck
def k_try (i : Nat) (exm : Addr → Option Bool) (ms : Addr → Addr → Env → IH → RS) (S : SQ) (F : ES) : ES := fun c env ih => ws (tryH i exm ms c env ih) S F
section
variable {i : Nat} {exm : Addr → Option Bool} {ms : Addr → Addr → Env → IH → RS} {mb : Env → IH → RS} {S : SQ} {F : ES} {Q : PQ IV} {E : EQ} {env : Env} {ih ih' : IH} {c a d : Addr} {v x y : IV} {K : PySem.W.Frag} {T : String} {b : Bool} {n p : Nat} {xs : List IV}
theorem ws_try : ws (ms_try i exm mb ms env ih) S F = ws (mb env ih) S (k_try i exm ms S F) := by
  unfold ms_try
  cases mb env ih <;> with_unfolding_all rfl
theorem kk_try (he : exm c = some true) (h : ∀ a, ms a c (env.set i (some (.gl a))) ih = .ok (.ret v) ih') (q : S (.ret v) ih') : k_try i exm ms S F c env ih := by
  unfold k_try tryH
  rw [he]
  dsimp only
  rw [if_pos (fun a => by rw [h a, h 0]), h 0]
  with_unfolding_all exact q
theorem kk_tryF (he : exm c = some false) (q : F c env ih) : k_try i exm ms S F c env ih := by
  unfold k_try tryH
  rw [he]
  with_unfolding_all exact q
def k_isE (Q : PQ IV) (ih : IH) : Option Bool → Prop
  | some b => Q (.bl b) ih
  | none => False
theorem kk_isE : k_isE Q ih (some b) = Q (.bl b) ih := rfl
theorem wp_isEg (h : ExcC K c) : wp (f_isE K a c [.gl a, .gl d] ih) Q E = k_isE Q ih (PySem.W.kitOne K (.ref c) (.ref d)) := by
  unfold f_isE
  dsimp only
  rw [if_pos ⟨rfl, h⟩]
  dsimp only [clsOf]
  cases PySem.W.kitOne K (.ref c) (.ref d) <;> with_unfolding_all rfl
theorem wp_isEt (h : ExcC K c) : wp (f_isE K a c [.gl a, .ty T] ih) Q E = k_isE Q ih (PySem.W.kitOne K (.ref c) (.type T)) := by
  unfold f_isE
  dsimp only
  rw [if_pos ⟨rfl, h⟩]
  dsimp only [clsOf]
  cases PySem.W.kitOne K (.ref c) (.type T) <;> with_unfolding_all rfl
theorem wp_count {k : Int} (h : ih[n]? = some (.lst xs)) (f : (flatI y && xs.all flatI) = true) (e : ((xs.countP (eqI y) : Nat) : Int) = k) (q : Q (.int k) ih) : wp (f_count (.ref n) [y] ih) Q E := by
  rw [Bool.and_eq_true] at f
  have : f_count (.ref n) [y] ih = .ok (.int k) ih := by
    unfold f_count
    dsimp only
    rw [h]
    dsimp only
    rw [if_pos ⟨rfl, f.1, f.2⟩]
    show Res.ok (IV.int ((xs.countP (eqI y) : Nat) : Int)) ih = _
    rw [e]
  exact wp.of this q
theorem wp_index {j : Nat} (h : ih[n]? = some (.lst xs)) (f : (flatI y && xs.all flatI) = true) (e : xs.findIdx? (eqI y) = some j) (q : Q (.int (j : Int)) ih) : wp (f_index (.ref n) [y] ih) Q E := by
  rw [Bool.and_eq_true] at f
  have : f_index (.ref n) [y] ih = .ok (.int (j : Int)) ih := by
    unfold f_index
    dsimp only
    rw [h]
    dsimp only
    rw [if_pos ⟨rfl, f.1, f.2⟩]
    show (match xs.findIdx? (eqI y) with
      | some j => Res.ok (IV.int (j : Nat)) ih
      | none => .stuck) = _
    rw [e]
  exact wp.of this q
def b2i (b : Bool) : Int := if b = true then 1 else 0
theorem wp_int2 : wp (f_int [.bl b] ih) Q E = Q (.int (b2i b)) ih := by with_unfolding_all rfl
theorem pick2 : atI [x, y] (b2i b) = some (if b = true then y else x) := by cases b <;> rfl
theorem wp_dct (q : Q (.ref ih.length) (ih ++ [.dct])) : wp (m_dct env ih) Q E := by with_unfolding_all exact q
theorem wp_mulL {k : Int} (h : ih[n]? = some (.lst xs)) (h0 : 0 ≤ k) (h1 : k ≤ 100000) (h2 : xs.length * k.toNat ≤ 100000) (q : Q (.ref ih.length) (ih ++ [.lst (List.replicate k.toNat xs).flatten])) : wp (f_mulA (.ref n) (.int k) ih) Q E := by
  have : f_mulA (.ref n) (.int k) ih = .ok (.ref ih.length) (ih ++ [.lst (List.replicate k.toNat xs).flatten]) := by
    unfold f_mulA
    dsimp only
    rw [h]
    dsimp only
    rw [if_pos ⟨h0, h1, h2⟩]
  exact wp.of this q
theorem wp_tupleL (h : ih[n]? = some (.lst xs)) (q : Q (.ref ih.length) (ih ++ [.tup xs])) : wp (f_tuple [.ref n] ih) Q E := by
  have : f_tuple [.ref n] ih = .ok (.ref ih.length) (ih ++ [.tup xs]) := by
    unfold f_tuple
    dsimp only
    rw [h]
    rfl
  exact wp.of this q
theorem wp_eqLen {m : Nat} {ys : List IV} (h1 : ih[n]? = some (.lst xs)) (h2 : ih[m]? = some (.lst ys)) (hl : xs.length ≠ ys.length) (q : Q (.bl false) ih) : wp (f_eq (.ref n) (.ref m) ih) Q E :=
  wp.of (f_eqn_len h1 h2 rfl rfl hl) q
end
/-! ### values of all kinds -/
def KV (p : Nat) (ih : IH) : IV → Prop
  | .ref k => k ≠ p ∧ ∃ t, tyO ih[k]? = some t
  | .gl _ => False
  | .ty _ => False
  | _ => True
def whl (l : Int) : IV → Bool
  | .int i => decide (l ≤ i)
  | _ => false
theorem tyO_lt {ih : IH} {k : Nat} {t : String} (h : tyO ih[k]? = some t) : k < ih.length := by
  rcases Nat.lt_or_ge k ih.length with l | l
  · exact l
  · rw [List.getElem?_eq_none l] at h
    cases h
theorem KV.fr {p : Nat} {ih ih' : IH} {v : IV} (h : KV p ih v) (f : Fr p ih ih') : KV p ih' v := by
  cases v with
  | ref k =>
    obtain ⟨h1, t, h2⟩ := h
    exact ⟨h1, t, by rw [f k (tyO_lt h2) h1]; exact h2⟩
  | _ => exact h
theorem KV.fx {p : Nat} {ih ih' : IH} {v : IV} (h : KV p ih v) (f : Fx ih ih') : KV p ih' v := h.fr f.fr
theorem tyO_cases {ih : IH} {k : Nat} {t : String} (h : tyO ih[k]? = some t) : (t = "list" ∧ ∃ xs, ih[k]? = some (.lst xs)) ∨ t = "tuple" ∨ t = "dict" := by
  unfold tyO at h
  split at h
  · rename_i xs e
    cases h
    exact .inl ⟨rfl, xs, e⟩
  · cases h; exact .inr (.inl rfl)
  · cases h; exact .inr (.inr rfl)
  · cases h; exact .inr (.inr rfl)
  · cases h
/-- what is no good list; T: the good ones -/
def Bad (T : List IV → Bool) (p : Nat) (ih : IH) : IV → Prop
  | .ref k => k ≠ p ∧ ((∃ xs, ih[k]? = some (.lst xs) ∧ xs.length < 1000 ∧ (∀ x ∈ xs, KV p ih x) ∧ T xs = false) ∨ ∃ t, tyO ih[k]? = some t ∧ t ≠ "list")
  | .gl _ => False
  | .ty _ => False
  | _ => True
theorem Bad.fr {T : List IV → Bool} {p : Nat} {ih ih' : IH} {v : IV} (h : Bad T p ih v) (f : Fr p ih ih') : Bad T p ih' v := by
  cases v with
  | ref k =>
    obtain ⟨h1, h2⟩ := h
    refine ⟨h1, ?_⟩
    rcases h2 with ⟨xs, g, a, b, d⟩ | ⟨t, g, b⟩
    · exact .inl ⟨xs, by rw [f k (lt_of_get g) h1]; exact g, a, fun x hx => (b x hx).fr f, d⟩
    · exact .inr ⟨t, by rw [f k (tyO_lt g) h1]; exact g, b⟩
  | _ => exact h
theorem whl_int {xs : List IV} {l : Int} (h : xs.all (whl l) = true) : ∃ ns : List Int, xs = ns.map IV.int ∧ ∀ n ∈ ns, l ≤ n := by
  induction xs with
  | nil => exact ⟨[], rfl, fun _ h => nomatch h⟩
  | cons x r ih =>
    rw [List.all_cons, Bool.and_eq_true] at h
    obtain ⟨ns, e, hn⟩ := ih h.2
    cases x with
    | int i => exact ⟨i :: ns, by rw [e]; rfl, fun n hm => by
        rcases List.mem_cons.mp hm with e2 | e2
        · rw [e2]; exact of_decide_eq_true h.1
        · exact hn n e2⟩
    | _ => cases h.1
theorem strOk_sh (x : Str) (hx : PyData.strOk x = true) : SeqAt.shaped (.str x) = true := by
  simp [hx, SeqAt.shaped, PyData.canLay0, PyData.canLayAll0, PyData.depth, PyData.depthAll]
section
variable {Q : PQ IV} {E : EQ} {ih : IH} {x y : Str}
theorem wp_neS (hx : PyData.strOk x = true) (hy : PyData.strOk y = true) : wp (f_ne (.str x) (.str y) ih) Q E = Q (.bl (!decide (x = y))) ih := by
  rw [f_ne_of (.str x) (.str y) (strOk_sh x hx) (strOk_sh y hy)]
  with_unfolding_all show Q (.bl (!PyData.eqv (.str x) (.str y))) ih = _
  have : PyData.eqv (.str x) (.str y) = decide (x = y) := by
    unfold PyData.eqv
    by_cases h : x = y
    · subst h; simp
    · simp [h]
  rw [this]
end
/-! ### several objects that stay -/
/-- objects, none of them the source -/
structure Kp (p : Nat) (ih : IH) (L : List (Nat × MO)) : Prop where
  all : ∀ x ∈ L, ih[x.1]? = some x.2 ∧ x.1 ≠ p
theorem Kp.nil {p : Nat} {ih : IH} : Kp p ih [] := ⟨fun _ h => nomatch h⟩
theorem Kp.fr {p : Nat} {ih ih' : IH} {L : List (Nat × MO)} (h : Kp p ih L) (f : Fr p ih ih') : Kp p ih' L := ⟨fun x hx => by
  obtain ⟨a, b⟩ := h.all x hx
  exact ⟨(f x.1 (lt_of_get a) b).trans a, b⟩⟩
theorem Kp.fx {p : Nat} {ih ih' : IH} {L : List (Nat × MO)} (h : Kp p ih L) (f : Fx ih ih') : Kp p ih' L := h.fr f.fr
theorem Kp.put {p q : Nat} {ih : IH} {o : MO} {L : List (Nat × MO)} (h : Kp p ih L) (g : ih[q]? = some o) (e : q ≠ p) : Kp p ih ((q, o) :: L) := ⟨fun x hx => by
  rcases List.mem_cons.mp hx with rfl | hx
  · exact ⟨g, e⟩
  · exact h.all x hx⟩
theorem Kp.add {p q : Nat} {ih ih' : IH} {o : MO} {L : List (Nat × MO)} (h : Kp p ih L) (f : Fx ih ih') (g : ih'[q]? = some o) (l : ih.length ≤ q) (lp : p < ih.length) : Kp p ih' ((q, o) :: L) := (h.fx f).put g (by omega)
theorem Kp.get {p q : Nat} {ih : IH} {o : MO} {L : List (Nat × MO)} (h : Kp p ih L) (i : Nat) (e : L[i]? = some (q, o) := by rfl) : ih[q]? = some o := (h.all _ (List.mem_of_getElem? e)).1
theorem Kp.ne {p q : Nat} {ih : IH} {o : MO} {L : List (Nat × MO)} (h : Kp p ih L) (i : Nat) (e : L[i]? = some (q, o) := by rfl) : q ≠ p := (h.all _ (List.mem_of_getElem? e)).2
end L3
/-! L16: lambdas kept as objects, run backwards. -/
namespace L3
open PySem PySem.Spec PyProof.Rows L2
section
variable {lams : Nat → Nat → IH → Res IV} {mb : (Nat → Nat → IH → Res IV) → Env → IH → RS} {mF : Nat → Env → IH → RS} {ml : Nat → Env → IH → Res IV} {mla : Env → IH → Res IV} {env : Env} {ih : IH} {Q : PQ IV} {E : EQ} {i j n N e e0 : Nat} {xs : List IV} {vs : List Nat}
theorem wp_lam (h : e0 ≤ ih.length) (q : Q (.ref ih.length) (ih ++ [.fn e0 j])) : wp (m_lam e0 j env ih) Q E := by
  unfold m_lam
  rw [if_pos h]
  with_unfolding_all exact q
theorem wp_call0 (h : env[i]? = some (some (.ref n))) (g : ih[n]? = some (.fn e j)) (q : wp (lams e j ih) Q E) : wp (m_call0 i lams env ih) Q E := by
  unfold m_call0
  rw [h]
  dsimp only
  rw [g]
  exact q
theorem wp_callV (q : wp (mla env ih) (fun y ih2 => wp (defRun N (mb (lamsAt e0 ml (wipeI env vs))) [y] ih2) Q E) E) : wp (m_callV vs 1 N e0 mb ml m_nil mla env ih) Q E := by
  unfold m_callV
  rw [wp_bind]
  with_unfolding_all show wp ((mla env ih).bind _) Q E
  rw [wp_bind]
  exact q
theorem wp_defF : wp (defRunF N mF xs ih) Q E = ws (mF ih.length (startI N xs) (ih ++ [.clo])) (kd Q) (kdE E) := by
  unfold defRunF
  cases mF ih.length (startI N xs) (ih ++ [.clo]) with
  | ok f ih =>
    cases f <;> with_unfolding_all rfl
  | exc c env ih => with_unfolding_all rfl
  | stuck => with_unfolding_all rfl
theorem lamsAt_at {env : Env} {ih : IH} : lamsAt e0 ml env e0 j ih = ml j env ih := if_pos rfl
theorem wp_callK {l : Nat} {g : {α : Type} → List α → List α} {m : List IV → IH → Res IV} (h : xs.length = l ∧ (g xs).length = n) (q : wp (m (g xs) ih) Q E) : wp (f_callK n l g m xs ih) Q E := by
  unfold f_callK
  rw [if_pos h]
  exact q
end
end L3
/-! L17: new objects by simp: the heap is an old one and a written tail. -/
namespace L3
open PySem PySem.Spec PyProof.Rows L2
section
variable {Q : PQ IV} {E : EQ} {ih : IH} {env : Env} {xs ys : List IV} {L : List MO} {o : MO} {n m i e0 j : Nat}
theorem wp_lstE (h : xs.length ≤ 100000) : wp (f_lst xs ih) Q E = Q (.ref ih.length) (ih ++ [.lst xs]) := by
  rw [a_lst h]
  with_unfolding_all rfl
theorem wp_tupE (h : xs.length ≤ 100000) : wp (f_tup xs ih) Q E = Q (.ref ih.length) (ih ++ [.tup xs]) := by
  rw [a_tup h]
  with_unfolding_all rfl
theorem wp_dctE : wp (m_dct env ih) Q E = Q (.ref ih.length) (ih ++ [.dct]) := by with_unfolding_all rfl
theorem wp_lamE : wp (m_lam e0 j env ih) Q E = (e0 ≤ ih.length ∧ Q (.ref ih.length) (ih ++ [.fn e0 j])) := by
  unfold m_lam
  by_cases h : e0 ≤ ih.length
  · rw [if_pos h, eq_true h, true_and]
    with_unfolding_all rfl
  · rw [if_neg h, eq_false h, false_and]
    with_unfolding_all rfl
def k_cat (Q : PQ IV) (ih : IH) : Option MO → Option MO → Prop
  | some (.lst xs), some (.lst ys) => xs.length + ys.length ≤ 100000 ∧ Q (.ref ih.length) (ih ++ [.lst (xs ++ ys)])
  | some (.tup xs), some (.tup ys) => (xs ≠ [] ∧ ys ≠ [] ∧ xs.length + ys.length ≤ 100000) ∧ Q (.ref ih.length) (ih ++ [.tup (xs ++ ys)])
  | _, _ => False
theorem wp_catE : wp (f_add (.ref n) (.ref m) ih) Q E = k_cat Q ih ih[n]? ih[m]? := by
  unfold f_add
  dsimp only
  cases ih[n]? with
  | none => with_unfolding_all rfl
  | some o =>
    cases ih[m]? with
    | none => cases o <;> with_unfolding_all rfl
    | some u =>
      cases o with
      | lst xs =>
        cases u with
        | lst ys =>
          unfold k_cat
          dsimp only
          by_cases h : xs.length + ys.length ≤ 100000
          · rw [if_pos h, eq_true h, true_and]
            with_unfolding_all rfl
          · rw [if_neg h, eq_false h, false_and]
            with_unfolding_all rfl
        | _ => with_unfolding_all rfl
      | tup xs =>
        cases u with
        | tup ys =>
          unfold k_cat
          dsimp only
          by_cases h : xs ≠ [] ∧ ys ≠ [] ∧ xs.length + ys.length ≤ 100000
          · rw [if_pos h, eq_true h, true_and]
            with_unfolding_all rfl
          · rw [if_neg h, eq_false h, false_and]
            with_unfolding_all rfl
        | _ => with_unfolding_all rfl
      | _ => cases u <;> with_unfolding_all rfl
theorem kk_catL : k_cat Q ih (some (.lst xs)) (some (.lst ys)) = (xs.length + ys.length ≤ 100000 ∧ Q (.ref ih.length) (ih ++ [.lst (xs ++ ys)])) := rfl
def k_list (Q : PQ IV) (ih : IH) : Option MO → Prop
  | some (.lst xs) => Q (.ref ih.length) (ih ++ [.lst xs])
  | some (.tup xs) => Q (.ref ih.length) (ih ++ [.lst xs])
  | _ => False
theorem wp_listE {o : MO} (h : ih[n]? = some o) (hs : o.isS = true) : wp (f_list [.ref n] ih) Q E = Q (.ref ih.length) (ih ++ [.lst o.xs]) := by
  rw [a_list h hs]
  with_unfolding_all rfl
theorem g_appn : (ih ++ L)[ih.length + n]? = L[n]? := by
  rw [List.getElem?_append_right (by omega)]
  congr 1
  omega
theorem g_app0 : (ih ++ L)[ih.length]? = L[0]? := g_appn (n := 0)
theorem g_appo (h : n < ih.length) : (ih ++ L)[n]? = ih[n]? := List.getElem?_append_left h
theorem g_setn : (ih ++ L).set (ih.length + n) o = ih ++ L.set n o := by
  rw [List.set_append_right _ _ (by omega)]
  congr 2
  omega
theorem g_set0 : (ih ++ L).set ih.length o = ih ++ L.set 0 o := g_setn (n := 0)
theorem g_seto (h : n < ih.length) : (ih ++ L).set n o = ih.set n o ++ L := List.set_append_left _ _ h
/-- the continuation hidden, lest the unifier runs it -/
theorem hide_wp {α : Type} {r : Res α} {Q : PQ α} {E : EQ} (h : ∀ P, P = Q → wp r P E) : wp r Q E := h Q rfl
theorem Fx.apps {a : IH} {L : List MO} : Fx a (a ++ L) := fun n h => g_appo h
end
end L3
/-! PV0: is_whole of values of all kinds. -/
namespace L3
open PySem PySem.Spec PyProof.Rows L2
local macro_rules | `(tactic| walk_at "get") => `(tactic| simp (disch := first | assumption | omega | (simp only [List.length_append, List.length_set, List.length_cons, List.length_nil, List.length_map] <;> omega) | fail) only [g_new, g_nw, g_old, g_set, g_sne, List.length_append, List.length_set, List.length_cons, List.length_nil, List.length_map, List.map_map, Function.comp_def, xs_lst, xs_tup, isL_lst, isL_tup, ↓reduceIte, *])
local macro_rules | `(tactic| walk_at "fr") => `(tactic| first | (intro _ _ _; simp (disch := first | assumption | omega | (simp only [List.length_append, List.length_set, List.length_cons, List.length_nil, List.length_map] <;> omega) | fail) only [g_new, g_nw, g_old, g_set, g_sne, List.length_append, List.length_set, List.length_cons, List.length_nil, List.length_map, List.map_map, Function.comp_def, xs_lst, xs_tup, isL_lst, isL_tup, ↓reduceIte, *]) | (intro _ _; simp (disch := first | assumption | omega | (simp only [List.length_append, List.length_set, List.length_cons, List.length_nil, List.length_map] <;> omega) | fail) only [g_new, g_nw, g_old, g_set, g_sne, List.length_append, List.length_set, List.length_cons, List.length_nil, List.length_map, List.map_map, Function.comp_def, xs_lst, xs_tup, isL_lst, isL_tup, ↓reduceIte, *]))
local macro_rules | `(tactic| walk_at "run") => `(tactic| simp -implicitDefEqProofs (disch := first | assumption | omega | (simp only [List.length_append, List.length_set, List.length_cons, List.length_nil, List.length_map] <;> omega) | fail) only [wp_ok, wp_exc, wp_stuck, ws_ok, ws_exc, ws_stuck, wp_op, kk_op, kk_un, wp_un, wp_cons, kk_cons, kk_cons2, wp_nil, wp_c, wp_app, wp_if, kk_if1, kk_if0, wp_and, kk_and1, kk_and0, wp_or, kk_or1, kk_or0, wp_not, kk_not, wp_tb, kk_tb, wp_andV, kk_andV1, kk_andV0, wp_orV, kk_orV1, kk_orV0, wp_notV, kk_notV, wp_noneS, wp_some, kk_some, wp_sl, kk_sl, kk_sl2, kk_sl3, wp_mL, kk_mL, kk_mL2, wp_mL0, kk_mL0, wp_chain, kk_ch, kk_ch2, kk_ch31, kk_ch30, ws_set, kks_nm, kks_g, kks_tup, kks_lst, ws_expr, kks_expr, ws_ret, kks_ret, ws_retN, ws_pass, ws_brk, ws_cont, ws_raise, ws_if, kks_if1, kks_if0, ws_seq, kks_next, kks_retS, kks_brk, kks_cont, kk_augE, ws_aug, kks_aug, kks_aug2, ws_par, kks_par, ws_setL, kks_sl, kks_sl2, kks_sl3, wp_def, kkd_ret, kkd_next, kkdE, kkE, ws_for, wp_lc, wp_r1, kk_r1, wp_r2, kk_r2, wp_il, wp_it, wp_ie, wp_iz, kk_il, kk_il2, kk_it, kk_it2, kk_ie, kk_ie2, kk_iz, kk_iz2, lAt_k, k_lAtL, k_lAtO, k_lAtT, wp_int, wp_add, wp_addI, wp_sub, wp_neg, wp_lt, wp_le, wp_gt, wp_ge, wp_max2, wp_min2, wp_abs, wp_mulI, wp_mul, wp_fdiv, wp_mod, wp_shl, wp_shr, wp_pow, wp_isN, wp_notN, wp_eqI, wp_neI, wp_ix, kk_ix, kk_ix2, wp_len, kk_lenL, kk_lenT, kk_lenO, kk_lenP, wp_appd, kk_app1, isL_k, kk_isL, startI_cons, startI_nil, rep_succ, rep_zero, List.getElem?_cons_zero, List.getElem?_cons_succ, List.set_cons_zero, List.set_cons_succ, f_call, m_var, List.append_nil, List.nil_append, List.cons_append, List.length_cons, List.length_nil, if_true, if_false, g_tup, g_lst, g_cons, g_nil, g_nm, Option.bind_some, kks_g, atI_0, atI_1, atI_2, atI_3, atI_4, atI_5, atI_6, atI_7, atI_8, atI_9, atI_10, atI_11, atI_12, atI_last, cutI_1, ixN_30, ixN_31, ixN_32, Int.toNat_zero, Int.reduceToNat, Int.reduceNeg, xs_lst, xs_tup, xs_ro, xs_rot, isL_lst, isL_tup, isL_ro, isL_rot, isT_tup, isT_rot, Bool.false_eq_true, Bool.true_eq_false, Bool.not_true, Bool.not_false, decide_true, decide_false, Int.reduceLT, Int.reduceLE, Nat.reduceLT, Nat.reduceLeDiff, Nat.reduceAdd, Nat.reduceEqDiff, Bool.not_eq_true, true_and, and_true, and_self, eq_self, g_new, g_nw, g_old, g_set, g_sne, List.length_set, List.length_append, wp_r3, kk_r3, Int.cast_ofNat_Int, Int.reduceEq, Int.natCast_zero, Int.natCast_one, ws_whileA, wp_isiII, wp_isiIB, wp_isiI_list, wp_isiI_tuple, wp_isiI_str, wp_isiR, tyO_l, tyO_t, kk_isi, kk_isi2, kit_ll, kit_tt, kit_lt, kit_tl, wp_isiN, wp_isiBl, wp_isiS, tyO_d, kit2_NoneType_int, kit2_NoneType_bool, kit2_NoneType_list, kit2_NoneType_tuple, kit2_NoneType_str, kit2_bool_int, kit2_bool_bool, kit2_bool_list, kit2_bool_tuple, kit2_bool_str, kit2_str_int, kit2_str_bool, kit2_str_list, kit2_str_tuple, kit2_str_str, kit2_dict_int, kit2_dict_bool, kit2_dict_list, kit2_dict_tuple, kit2_dict_str, kit2_list_int, kit2_list_bool, kit2_list_str, kit2_tuple_int, kit2_tuple_bool, kit2_tuple_str, kit2_int_list, kit2_int_tuple, kit2_int_str, kf_next, kf_cont, kf_brk, kf_ret, wipeI, ↓reduceIte, *])
theorem w_wholeV (c : Cs) {p : Nat} {ih : IH} {v : IV} {Q : PQ IV} {E : EQ} (h : KV p ih v) (l : Int) (q : Q (.bl (whl l v)) ih) : wp (m_is_whole c [v, .int l] ih) Q E := by
  have a3 : decide (IV.int l = IV.non) = false := rfl
  unfold m_is_whole b_is_whole
  cases v with
  | int i =>
    unfold whl at q
    walk_at "run"
    all_goals exact q
  | non => walk_at "run"; all_goals exact q
  | bl b => walk_at "run"; all_goals exact q
  | str x => walk_at "run"; all_goals exact q
  | gl a => exact h.elim
  | ty a => exact h.elim
  | ref k =>
    obtain ⟨_, t, ht⟩ := h
    unfold whl at q
    rcases tyO_cases ht with ⟨e, _⟩ | e | e <;> (subst e; walk_at "run"; all_goals exact q)
/-- None stands for no least one -/
def whl0 : IV → Bool
  | .int _ => true
  | _ => false
theorem w_wholeV0 (c : Cs) {p : Nat} {ih : IH} {v : IV} {Q : PQ IV} {E : EQ} (h : KV p ih v) (q : Q (.bl (whl0 v)) ih) : wp (m_is_whole c [v, .non] ih) Q E := by
  have a3 : decide (IV.non = IV.non) = true := rfl
  unfold m_is_whole b_is_whole
  cases v with
  | int i =>
    unfold whl0 at q
    walk_at "run"
    all_goals exact q
  | non => walk_at "run"; all_goals exact q
  | bl b => walk_at "run"; all_goals exact q
  | str x => walk_at "run"; all_goals exact q
  | gl a => exact h.elim
  | ty a => exact h.elim
  | ref k =>
    obtain ⟨_, t, ht⟩ := h
    unfold whl0 at q
    rcases tyO_cases ht with ⟨e, _⟩ | e | e <;> (subst e; walk_at "run"; all_goals exact q)
end L3
/-! P08s: shifts of any kind. (L15) -/
namespace L3
open PySem PySem.Spec PyProof.Rows L2
local macro_rules | `(tactic| walk_at "get") => `(tactic| simp (disch := first | assumption | omega | (simp only [List.length_append, List.length_set, List.length_cons, List.length_nil, List.length_map] <;> omega) | fail) only [g_new, g_nw, g_old, g_set, g_sne, List.length_append, List.length_set, List.length_cons, List.length_nil, List.length_map, List.map_map, Function.comp_def, xs_lst, xs_tup, isL_lst, isL_tup, ↓reduceIte, *])
local macro_rules | `(tactic| walk_at "fr") => `(tactic| first | (intro _ _ _; simp (disch := first | assumption | omega | (simp only [List.length_append, List.length_set, List.length_cons, List.length_nil, List.length_map] <;> omega) | fail) only [g_new, g_nw, g_old, g_set, g_sne, List.length_append, List.length_set, List.length_cons, List.length_nil, List.length_map, List.map_map, Function.comp_def, xs_lst, xs_tup, isL_lst, isL_tup, ↓reduceIte, *]) | (intro _ _; simp (disch := first | assumption | omega | (simp only [List.length_append, List.length_set, List.length_cons, List.length_nil, List.length_map] <;> omega) | fail) only [g_new, g_nw, g_old, g_set, g_sne, List.length_append, List.length_set, List.length_cons, List.length_nil, List.length_map, List.map_map, Function.comp_def, xs_lst, xs_tup, isL_lst, isL_tup, ↓reduceIte, *]))
local macro_rules | `(tactic| walk_at "run") => `(tactic| simp -implicitDefEqProofs (disch := first | assumption | omega | (simp only [List.length_append, List.length_set, List.length_cons, List.length_nil, List.length_map] <;> omega) | fail) only [wp_ok, wp_exc, wp_stuck, ws_ok, ws_exc, ws_stuck, wp_op, kk_op, kk_un, wp_un, wp_cons, kk_cons, kk_cons2, wp_nil, wp_c, wp_app, wp_if, kk_if1, kk_if0, wp_and, kk_and1, kk_and0, wp_or, kk_or1, kk_or0, wp_not, kk_not, wp_tb, kk_tb, wp_andV, kk_andV1, kk_andV0, wp_orV, kk_orV1, kk_orV0, wp_notV, kk_notV, wp_noneS, wp_some, kk_some, wp_sl, kk_sl, kk_sl2, kk_sl3, wp_mL, kk_mL, kk_mL2, wp_mL0, kk_mL0, wp_chain, kk_ch, kk_ch2, kk_ch31, kk_ch30, ws_set, kks_nm, kks_g, kks_tup, kks_lst, ws_expr, kks_expr, ws_ret, kks_ret, ws_retN, ws_pass, ws_brk, ws_cont, ws_raise, ws_if, kks_if1, kks_if0, ws_seq, kks_next, kks_retS, kks_brk, kks_cont, kk_augE, ws_aug, kks_aug, kks_aug2, ws_par, kks_par, ws_setL, kks_sl, kks_sl2, kks_sl3, wp_def, kkd_ret, kkd_next, kkdE, kkE, ws_for, wp_lc, wp_r1, kk_r1, wp_r2, kk_r2, wp_il, wp_it, wp_ie, wp_iz, kk_il, kk_il2, kk_it, kk_it2, kk_ie, kk_ie2, kk_iz, kk_iz2, lAt_k, k_lAtL, k_lAtO, k_lAtT, wp_int, wp_add, wp_addI, wp_sub, wp_neg, wp_lt, wp_le, wp_gt, wp_ge, wp_max2, wp_min2, wp_abs, wp_mulI, wp_mul, wp_fdiv, wp_mod, wp_shl, wp_shr, wp_pow, wp_isN, wp_notN, wp_eqI, wp_neI, wp_ix, kk_ix, kk_ix2, wp_len, kk_lenL, kk_lenT, kk_lenO, kk_lenP, wp_appd, kk_app1, isL_k, kk_isL, startI_cons, startI_nil, rep_succ, rep_zero, List.getElem?_cons_zero, List.getElem?_cons_succ, List.set_cons_zero, List.set_cons_succ, f_call, m_var, List.append_nil, List.nil_append, List.cons_append, List.length_cons, List.length_nil, if_true, if_false, g_tup, g_lst, g_cons, g_nil, g_nm, Option.bind_some, kks_g, atI_0, atI_1, atI_2, atI_3, atI_4, atI_5, atI_6, atI_7, atI_8, atI_9, atI_10, atI_11, atI_12, atI_last, cutI_1, ixN_30, ixN_31, ixN_32, Int.toNat_zero, Int.reduceToNat, Int.reduceNeg, xs_lst, xs_tup, xs_ro, xs_rot, isL_lst, isL_tup, isL_ro, isL_rot, isT_tup, isT_rot, Bool.false_eq_true, Bool.true_eq_false, Bool.not_true, Bool.not_false, decide_true, decide_false, Int.reduceLT, Int.reduceLE, Nat.reduceLT, Nat.reduceLeDiff, Nat.reduceAdd, Nat.reduceEqDiff, Bool.not_eq_true, true_and, and_true, and_self, eq_self, g_new, g_nw, g_old, g_set, g_sne, List.length_set, List.length_append, wp_r3, kk_r3, Int.cast_ofNat_Int, Int.reduceEq, Int.natCast_zero, Int.natCast_one, ws_whileA, wp_isiII, wp_isiIB, wp_isiI_list, wp_isiI_tuple, wp_isiI_str, wp_isiR, tyO_l, tyO_t, kk_isi, kk_isi2, kit_ll, kit_tt, kit_lt, kit_tl, wp_isiN, wp_isiBl, wp_isiS, tyO_d, kit2_NoneType_int, kit2_NoneType_bool, kit2_NoneType_list, kit2_NoneType_tuple, kit2_NoneType_str, kit2_bool_int, kit2_bool_bool, kit2_bool_list, kit2_bool_tuple, kit2_bool_str, kit2_str_int, kit2_str_bool, kit2_str_list, kit2_str_tuple, kit2_str_str, kit2_dict_int, kit2_dict_bool, kit2_dict_list, kit2_dict_tuple, kit2_dict_str, kit2_list_int, kit2_list_bool, kit2_list_str, kit2_tuple_int, kit2_tuple_bool, kit2_tuple_str, kit2_int_list, kit2_int_tuple, kit2_int_str, kf_next, kf_cont, kf_brk, kf_ret, wipeI, ws_try, wp_isEg, wp_isEt, kk_isE, wp_neS, wp_int2, ↓reduceIte, *])
section
variable {p : Nat} {ih : IH} {v : IV} {Q : PQ IV} {E : EQ}
def ltW (s : Int) : IV → Bool
  | .int a => decide (a < s)
  | _ => false
theorem all_id {f : IV → Bool} {xs : List IV} : ((xs.map f).all id) = xs.all f := by
  rw [List.all_map]
  rfl
def goodM (v : IV) : Bool := whl 1 v && ltW (2 ^ 64) v
def leW (s : Int) : IV → Bool
  | .int a => decide (a ≤ s)
  | _ => false
def goodS (v : IV) : Bool := whl 0 v && leW 64 v
theorem w_shiftV (c : Cs) (h : KV p ih v) (q : Q (.bl (goodS v)) ih) : wp (m_is_shift c [v] ih) Q E := by
  unfold m_is_shift b_is_shift
  walk_at "run"
  refine w_wholeV c h 0 ?_
  unfold goodS at q
  cases hw : whl 0 v with
  | false =>
    rw [hw] at q
    walk_at "run"
    all_goals exact q
  | true =>
    cases v with
    | int z =>
      rw [hw] at q
      unfold leW at q
      have q := Hide.mk q
      walk_at "run"
      all_goals exact q.get
    | _ => cases hw
end
end L3
/-! P17: what the checks of lines refuse. (L15) -/
namespace L3
open PySem PySem.Spec PyProof.Rows L2
local macro_rules | `(tactic| walk_at "get") => `(tactic| simp (disch := first | assumption | omega | (simp only [List.length_append, List.length_set, List.length_cons, List.length_nil, List.length_map] <;> omega) | fail) only [g_new, g_nw, g_old, g_set, g_sne, List.length_append, List.length_set, List.length_cons, List.length_nil, List.length_map, List.map_map, Function.comp_def, xs_lst, xs_tup, isL_lst, isL_tup, ↓reduceIte, *])
local macro_rules | `(tactic| walk_at "fr") => `(tactic| first | (intro _ _ _; simp (disch := first | assumption | omega | (simp only [List.length_append, List.length_set, List.length_cons, List.length_nil, List.length_map] <;> omega) | fail) only [g_new, g_nw, g_old, g_set, g_sne, List.length_append, List.length_set, List.length_cons, List.length_nil, List.length_map, List.map_map, Function.comp_def, xs_lst, xs_tup, isL_lst, isL_tup, ↓reduceIte, *]) | (intro _ _; simp (disch := first | assumption | omega | (simp only [List.length_append, List.length_set, List.length_cons, List.length_nil, List.length_map] <;> omega) | fail) only [g_new, g_nw, g_old, g_set, g_sne, List.length_append, List.length_set, List.length_cons, List.length_nil, List.length_map, List.map_map, Function.comp_def, xs_lst, xs_tup, isL_lst, isL_tup, ↓reduceIte, *]))
local macro_rules | `(tactic| walk_at "run") => `(tactic| simp -implicitDefEqProofs (disch := first | assumption | omega | (simp only [List.length_append, List.length_set, List.length_cons, List.length_nil, List.length_map] <;> omega) | fail) only [wp_ok, wp_exc, wp_stuck, ws_ok, ws_exc, ws_stuck, wp_op, kk_op, kk_un, wp_un, wp_cons, kk_cons, kk_cons2, wp_nil, wp_c, wp_app, wp_if, kk_if1, kk_if0, wp_and, kk_and1, kk_and0, wp_or, kk_or1, kk_or0, wp_not, kk_not, wp_tb, kk_tb, wp_andV, kk_andV1, kk_andV0, wp_orV, kk_orV1, kk_orV0, wp_notV, kk_notV, wp_noneS, wp_some, kk_some, wp_sl, kk_sl, kk_sl2, kk_sl3, wp_mL, kk_mL, kk_mL2, wp_mL0, kk_mL0, wp_chain, kk_ch, kk_ch2, kk_ch31, kk_ch30, ws_set, kks_nm, kks_g, kks_tup, kks_lst, ws_expr, kks_expr, ws_ret, kks_ret, ws_retN, ws_pass, ws_brk, ws_cont, ws_raise, ws_if, kks_if1, kks_if0, ws_seq, kks_next, kks_retS, kks_brk, kks_cont, kk_augE, ws_aug, kks_aug, kks_aug2, ws_par, kks_par, ws_setL, kks_sl, kks_sl2, kks_sl3, wp_def, kkd_ret, kkd_next, kkdE, kkE, ws_for, wp_lc, wp_r1, kk_r1, wp_r2, kk_r2, wp_il, wp_it, wp_ie, wp_iz, kk_il, kk_il2, kk_it, kk_it2, kk_ie, kk_ie2, kk_iz, kk_iz2, lAt_k, k_lAtL, k_lAtO, k_lAtT, wp_int, wp_add, wp_addI, wp_sub, wp_neg, wp_lt, wp_le, wp_gt, wp_ge, wp_max2, wp_min2, wp_abs, wp_mulI, wp_mul, wp_fdiv, wp_mod, wp_shl, wp_shr, wp_pow, wp_isN, wp_notN, wp_eqI, wp_neI, wp_ix, kk_ix, kk_ix2, wp_len, kk_lenL, kk_lenT, kk_lenO, kk_lenP, wp_appd, kk_app1, isL_k, kk_isL, startI_cons, startI_nil, rep_succ, rep_zero, List.getElem?_cons_zero, List.getElem?_cons_succ, List.set_cons_zero, List.set_cons_succ, f_call, m_var, List.append_nil, List.nil_append, List.cons_append, List.length_cons, List.length_nil, if_true, if_false, g_tup, g_lst, g_cons, g_nil, g_nm, Option.bind_some, kks_g, atI_0, atI_1, atI_2, atI_3, atI_4, atI_5, atI_6, atI_7, atI_8, atI_9, atI_10, atI_11, atI_12, atI_last, cutI_1, ixN_30, ixN_31, ixN_32, Int.toNat_zero, Int.reduceToNat, Int.reduceNeg, xs_lst, xs_tup, xs_ro, xs_rot, isL_lst, isL_tup, isL_ro, isL_rot, isT_tup, isT_rot, Bool.false_eq_true, Bool.true_eq_false, Bool.not_true, Bool.not_false, decide_true, decide_false, Int.reduceLT, Int.reduceLE, Nat.reduceLT, Nat.reduceLeDiff, Nat.reduceAdd, Nat.reduceEqDiff, Bool.not_eq_true, true_and, and_true, and_self, eq_self, g_new, g_nw, g_old, g_set, g_sne, List.length_set, List.length_append, wp_r3, kk_r3, Int.cast_ofNat_Int, Int.reduceEq, Int.natCast_zero, Int.natCast_one, ws_whileA, wp_isiII, wp_isiIB, wp_isiI_list, wp_isiI_tuple, wp_isiI_str, wp_isiR, tyO_l, tyO_t, kk_isi, kk_isi2, kit_ll, kit_tt, kit_lt, kit_tl, wp_isiN, wp_isiBl, wp_isiS, tyO_d, kit2_NoneType_int, kit2_NoneType_bool, kit2_NoneType_list, kit2_NoneType_tuple, kit2_NoneType_str, kit2_bool_int, kit2_bool_bool, kit2_bool_list, kit2_bool_tuple, kit2_bool_str, kit2_str_int, kit2_str_bool, kit2_str_list, kit2_str_tuple, kit2_str_str, kit2_dict_int, kit2_dict_bool, kit2_dict_list, kit2_dict_tuple, kit2_dict_str, kit2_list_int, kit2_list_bool, kit2_list_str, kit2_tuple_int, kit2_tuple_bool, kit2_tuple_str, kit2_int_list, kit2_int_tuple, kit2_int_str, kf_next, kf_cont, kf_brk, kf_ret, wipeI, ws_try, wp_isEg, wp_isEt, kk_isE, wp_neS, wp_int2, ↓reduceIte, *])
section
variable {p : Nat} {ih ih' : IH} {v : IV} {Q : PQ IV} {E : EQ}
/-- the items of a tuple that is no line -/
def BadL (p : Nat) (ih : IH) (xs : List IV) : Prop := (xs.length ≠ 3 ∧ xs.length < 1000) ∨ ∃ x y z, xs = [x, y, z] ∧ KV p ih x ∧ KV p ih y ∧ KV p ih z ∧ (whl0 x && (whl 0 y && goodS z)) = false
def OddL (p : Nat) (ih : IH) : IV → Prop
  | .ref k => k ≠ p ∧ ((∃ xs, ih[k]? = some (.tup xs) ∧ BadL p ih xs) ∨ ∃ t, tyO ih[k]? = some t ∧ t ≠ "tuple")
  | .gl _ => False
  | .ty _ => False
  | _ => True
theorem BadL.fr {xs : List IV} (h : BadL p ih xs) (f : Fr p ih ih') : BadL p ih' xs := by
  rcases h with h | ⟨x, y, z, e, a, b, c, d⟩
  · exact .inl h
  · exact .inr ⟨x, y, z, e, a.fr f, b.fr f, c.fr f, d⟩
theorem OddL.fr (h : OddL p ih v) (f : Fr p ih ih') : OddL p ih' v := by
  cases v with
  | ref k =>
    obtain ⟨h1, h2⟩ := h
    refine ⟨h1, ?_⟩
    rcases h2 with ⟨xs, g, a⟩ | ⟨t, g, b⟩
    · exact .inl ⟨xs, by rw [f k (lt_of_get g) h1]; exact g, a.fr f⟩
    · exact .inr ⟨t, by rw [f k (tyO_lt g) h1]; exact g, b⟩
  | _ => exact h
theorem w_lineO (c : Cs) (h : OddL p ih v) (q : E c.NoLine ih) : wp (m_check_line c [v] ih) Q E := by
  unfold m_check_line b_check_line
  cases v with
  | gl a => exact h.elim
  | ty a => exact h.elim
  | non => walk_at "run"; all_goals exact q
  | bl b => walk_at "run"; all_goals exact q
  | int b => walk_at "run"; all_goals exact q
  | str b => walk_at "run"; all_goals exact q
  | ref k =>
    obtain ⟨hp, h⟩ := h
    rcases h with ⟨xs, g, hb⟩ | ⟨t, ht, hn⟩
    · rcases hb with ⟨hb, _⟩ | ⟨x, y, z, e, hx, hy, hz, hg⟩
      · have d1 : decide ((xs.length : Int) = 3) = false := decide_eq_false (by omega)
        clear hb
        walk_at "run"
        all_goals exact q
      · subst e
        have d1 : decide (((0 : Nat) : Int) + 1 + 1 + 1 = 3) = true := rfl
        have q := Hide.mk q
        walk_at "run"
        refine w_wholeV0 c hx ?_
        cases h1 : whl0 x with
        | false =>
          walk_at "run"
          all_goals exact q.get
        | true =>
          rw [h1] at hg
          walk_at "run"
          refine w_wholeV c hy 0 ?_
          cases h2 : whl 0 y with
          | false =>
            walk_at "run"
            all_goals exact q.get
          | true =>
            rw [h2] at hg
            have h3 : goodS z = false := hg
            walk_at "run"
            refine w_shiftV c hz ?_
            walk_at "run"
            all_goals exact q.get
    · rcases tyO_cases ht with ⟨e, _⟩ | e | e
      · subst e
        walk_at "run"
        all_goals exact q
      · exact absurd e hn
      · subst e
        walk_at "run"
        all_goals exact q
theorem w_cycleO (c : Cs) (h : KV p ih v) (ho : whl 0 v = false) (q : E c.NoCycle ih) : wp (m_check_cycle c [v, .int 0] ih) Q E := by
  unfold m_check_cycle b_check_cycle
  walk_at "run"
  refine w_wholeV c h 0 ?_
  walk_at "run"
  all_goals exact q
theorem w_readingO (c : Cs) (h : KV p ih v) (ho : whl0 v = false) (q : E c.NoReading ih) : wp (m_check_reading c [v] ih) Q E := by
  unfold m_check_reading b_check_reading
  walk_at "run"
  refine w_wholeV0 c h ?_
  walk_at "run"
  all_goals exact q
end
end L3
/-! K17: odd lines drawn. (L15) (L17) -/
namespace L3
open PySem PySem.Spec PyProof.Rows L2
local macro_rules | `(tactic| walk_at "get") => `(tactic| simp (disch := first | assumption | omega | (simp only [List.length_append, List.length_set, List.length_cons, List.length_nil, List.length_map] <;> omega) | fail) only [g_new, g_nw, g_old, g_set, g_sne, List.length_append, List.length_set, List.length_cons, List.length_nil, List.length_map, List.map_map, Function.comp_def, xs_lst, xs_tup, isL_lst, isL_tup, ↓reduceIte, *])
local macro_rules | `(tactic| walk_at "fr") => `(tactic| first | (intro _ _ _; simp (disch := first | assumption | omega | (simp only [List.length_append, List.length_set, List.length_cons, List.length_nil, List.length_map] <;> omega) | fail) only [g_new, g_nw, g_old, g_set, g_sne, List.length_append, List.length_set, List.length_cons, List.length_nil, List.length_map, List.map_map, Function.comp_def, xs_lst, xs_tup, isL_lst, isL_tup, ↓reduceIte, *]) | (intro _ _; simp (disch := first | assumption | omega | (simp only [List.length_append, List.length_set, List.length_cons, List.length_nil, List.length_map] <;> omega) | fail) only [g_new, g_nw, g_old, g_set, g_sne, List.length_append, List.length_set, List.length_cons, List.length_nil, List.length_map, List.map_map, Function.comp_def, xs_lst, xs_tup, isL_lst, isL_tup, ↓reduceIte, *]))
local macro_rules | `(tactic| walk_at "run") => `(tactic| simp -implicitDefEqProofs (disch := first | assumption | omega | (simp only [List.length_append, List.length_set, List.length_cons, List.length_nil, List.length_map] <;> omega) | fail) only [wp_ok, wp_exc, wp_stuck, ws_ok, ws_exc, ws_stuck, wp_op, kk_op, kk_un, wp_un, wp_cons, kk_cons, kk_cons2, wp_nil, wp_c, wp_app, wp_if, kk_if1, kk_if0, wp_and, kk_and1, kk_and0, wp_or, kk_or1, kk_or0, wp_not, kk_not, wp_tb, kk_tb, wp_andV, kk_andV1, kk_andV0, wp_orV, kk_orV1, kk_orV0, wp_notV, kk_notV, wp_noneS, wp_some, kk_some, wp_sl, kk_sl, kk_sl2, kk_sl3, wp_mL, kk_mL, kk_mL2, wp_mL0, kk_mL0, wp_chain, kk_ch, kk_ch2, kk_ch31, kk_ch30, ws_set, kks_nm, kks_g, kks_tup, kks_lst, ws_expr, kks_expr, ws_ret, kks_ret, ws_retN, ws_pass, ws_brk, ws_cont, ws_raise, ws_if, kks_if1, kks_if0, ws_seq, kks_next, kks_retS, kks_brk, kks_cont, kk_augE, ws_aug, kks_aug, kks_aug2, ws_par, kks_par, ws_setL, kks_sl, kks_sl2, kks_sl3, wp_def, kkd_ret, kkd_next, kkdE, kkE, ws_for, wp_lc, wp_r1, kk_r1, wp_r2, kk_r2, wp_il, wp_it, wp_ie, wp_iz, kk_il, kk_il2, kk_it, kk_it2, kk_ie, kk_ie2, kk_iz, kk_iz2, lAt_k, k_lAtL, k_lAtO, k_lAtT, wp_int, wp_add, wp_addI, wp_sub, wp_neg, wp_lt, wp_le, wp_gt, wp_ge, wp_max2, wp_min2, wp_abs, wp_mulI, wp_mul, wp_fdiv, wp_mod, wp_shl, wp_shr, wp_pow, wp_isN, wp_notN, wp_eqI, wp_neI, wp_ix, kk_ix, kk_ix2, wp_len, kk_lenL, kk_lenT, kk_lenO, kk_lenP, wp_appd, kk_app1, isL_k, kk_isL, startI_cons, startI_nil, rep_succ, rep_zero, List.getElem?_cons_zero, List.getElem?_cons_succ, List.set_cons_zero, List.set_cons_succ, f_call, m_var, List.append_nil, List.nil_append, List.cons_append, List.length_cons, List.length_nil, if_true, if_false, g_tup, g_lst, g_cons, g_nil, g_nm, Option.bind_some, kks_g, atI_0, atI_1, atI_2, atI_3, atI_4, atI_5, atI_6, atI_7, atI_8, atI_9, atI_10, atI_11, atI_12, atI_last, cutI_1, ixN_30, ixN_31, ixN_32, Int.toNat_zero, Int.reduceToNat, Int.reduceNeg, xs_lst, xs_tup, xs_ro, xs_rot, isL_lst, isL_tup, isL_ro, isL_rot, isT_tup, isT_rot, Bool.false_eq_true, Bool.true_eq_false, Bool.not_true, Bool.not_false, decide_true, decide_false, Int.reduceLT, Int.reduceLE, Nat.reduceLT, Nat.reduceLeDiff, Nat.reduceAdd, Nat.reduceEqDiff, Bool.not_eq_true, true_and, and_true, and_self, eq_self, g_new, g_nw, g_old, g_set, g_sne, List.length_set, List.length_append, wp_r3, kk_r3, Int.cast_ofNat_Int, Int.reduceEq, Int.natCast_zero, Int.natCast_one, ws_whileA, wp_isiII, wp_isiIB, wp_isiI_list, wp_isiI_tuple, wp_isiI_str, wp_isiR, tyO_l, tyO_t, kk_isi, kk_isi2, kit_ll, kit_tt, kit_lt, kit_tl, wp_isiN, wp_isiBl, wp_isiS, tyO_d, kit2_NoneType_int, kit2_NoneType_bool, kit2_NoneType_list, kit2_NoneType_tuple, kit2_NoneType_str, kit2_bool_int, kit2_bool_bool, kit2_bool_list, kit2_bool_tuple, kit2_bool_str, kit2_str_int, kit2_str_bool, kit2_str_list, kit2_str_tuple, kit2_str_str, kit2_dict_int, kit2_dict_bool, kit2_dict_list, kit2_dict_tuple, kit2_dict_str, kit2_list_int, kit2_list_bool, kit2_list_str, kit2_tuple_int, kit2_tuple_bool, kit2_tuple_str, kit2_int_list, kit2_int_tuple, kit2_int_str, kf_next, kf_cont, kf_brk, kf_ret, wipeI, wp_lstE, wp_tupE, wp_dctE, wp_lamE, wp_catE, kk_catL, g_appn, g_app0, g_appo, g_setn, g_set0, List.append_assoc, Nat.zero_add, ws_try, wp_isEg, wp_isEt, kk_isE, wp_neS, wp_int2, ↓reduceIte, *])
section
variable {p m : Nat} {ih ih' : IH} {v : IV} {Q : PQ IV} {E : EQ}
theorem w_odd_line (c : Cs) (s : Src0 p m ih) (hm : m + 1 ≤ 1000000) (k : ∀ v ih', OddL p ih' v → Src0 p (m + 1) ih' → Fr p ih ih' → ih.length ≤ ih'.length → Q v ih') : wp (m_law_odd_line c [.ref p] ih) Q E := by
  have lp := s.lt
  have k := Hide.mk k
  unfold m_law_odd_line b_law_odd_line
  walk_at "run"
  refine w_next c (s.fx Fx.apps) (by decide) ((lit 19 : B 19 19).mono (by decide)) (by omega) fun a ih1 a0 a1 s1 f1 l1 => ?_
  have l1' : ih.length + 19 ≤ ih1.length := by rw [l1]; simp
  have fr : Fr p ih ih1 := Fx.apps.fr.trans f1 (by simp)
  have G : ∀ j, j < 19 → ih1[ih.length + j]? = _ := fun j hj => (f1 (ih.length + j) (by simp; omega) (by omega)).trans g_appn
  walk_at "run"
  refine k_pick a0 (by simpa using a1) fun o ho => ?_
  simp only [List.mem_cons, List.not_mem_nil, or_false] at ho
  have fin := fun v h1 => k.get v ih1 h1 s1 fr (by omega)
  clear k
  rcases ho with e | e | e | e | e | e | e | e | e | e | e | e | e | e | e | e | e | e | e <;> subst e
  · exact fin _ ⟨by omega, .inl ⟨_, (show ih1[ih.length]? = _ from G 0 (by decide)), .inl ⟨by decide, by decide⟩⟩⟩
  · exact fin _ ⟨by omega, .inl ⟨_, (show ih1[ih.length + 1]? = _ from G 1 (by decide)), .inr ⟨_, _, _, rfl, trivial, trivial, trivial, by decide⟩⟩⟩
  · exact fin _ ⟨by omega, .inl ⟨_, (show ih1[ih.length + 2]? = _ from G 2 (by decide)), .inr ⟨_, _, _, rfl, trivial, trivial, trivial, by decide⟩⟩⟩
  · exact fin _ ⟨by omega, .inl ⟨_, (show ih1[ih.length + 3]? = _ from G 3 (by decide)), .inr ⟨_, _, _, rfl, trivial, trivial, trivial, by decide⟩⟩⟩
  · exact fin _ ⟨by omega, .inl ⟨_, (show ih1[ih.length + 4]? = _ from G 4 (by decide)), .inr ⟨_, _, _, rfl, trivial, trivial, trivial, by decide⟩⟩⟩
  · exact fin _ ⟨by omega, .inl ⟨_, (show ih1[ih.length + 5]? = _ from G 5 (by decide)), .inr ⟨_, _, _, rfl, trivial, trivial, trivial, by decide⟩⟩⟩
  · exact fin _ ⟨by omega, .inl ⟨_, (show ih1[ih.length + 6]? = _ from G 6 (by decide)), .inr ⟨_, _, _, rfl, trivial, trivial, trivial, by decide⟩⟩⟩
  · exact fin _ ⟨by omega, .inr ⟨_, by rw [(show ih1[ih.length + 7]? = _ from G 7 (by decide))]; rfl, by decide⟩⟩
  · exact fin _ trivial
  · exact fin _ trivial
  · exact fin _ ⟨by omega, .inl ⟨_, (show ih1[ih.length + 9]? = _ from G 9 (by decide)), .inl ⟨by decide, by decide⟩⟩⟩
  · exact fin _ ⟨by omega, .inl ⟨_, (show ih1[ih.length + 10]? = _ from G 10 (by decide)), .inr ⟨_, _, _, rfl, trivial, trivial, trivial, by decide⟩⟩⟩
  · exact fin _ ⟨by omega, .inl ⟨_, (show ih1[ih.length + 12]? = _ from G 12 (by decide)), .inr ⟨_, _, _, rfl, trivial, ⟨by omega, _, by rw [(show ih1[ih.length + 11]? = _ from G 11 (by decide))]; rfl⟩, trivial, rfl⟩⟩⟩
  · exact fin _ ⟨by omega, .inl ⟨_, (show ih1[ih.length + 14]? = _ from G 14 (by decide)), .inr ⟨_, _, _, rfl, ⟨by omega, _, by rw [(show ih1[ih.length + 13]? = _ from G 13 (by decide))]; rfl⟩, trivial, trivial, rfl⟩⟩⟩
  · exact fin _ ⟨by omega, .inl ⟨_, (show ih1[ih.length + 15]? = _ from G 15 (by decide)), .inr ⟨_, _, _, rfl, trivial, trivial, trivial, by decide⟩⟩⟩
  · exact fin _ ⟨by omega, .inr ⟨_, by rw [(show ih1[ih.length + 16]? = _ from G 16 (by decide))]; rfl, by decide⟩⟩
  · exact fin _ trivial
  · exact fin _ ⟨by omega, .inl ⟨_, (show ih1[ih.length + 17]? = _ from G 17 (by decide)), .inl ⟨by decide, by decide⟩⟩⟩
  · exact fin _ ⟨by omega, .inl ⟨_, (show ih1[ih.length + 18]? = _ from G 18 (by decide)), .inr ⟨_, _, _, rfl, trivial, trivial, trivial, by decide⟩⟩⟩
theorem w_odd (c : Cs) (s : Src0 p m ih) (hm : m + 1 ≤ 1000000) (k : ∀ v ih', KV p ih' v → whl0 v = false → Src0 p (m + 1) ih' → Fr p ih ih' → ih.length ≤ ih'.length → Q v ih') : wp (m_law_odd c [.ref p] ih) Q E := by
  have lp := s.lt
  have k := Hide.mk k
  unfold m_law_odd b_law_odd
  walk_at "run"
  refine w_next c (s.fx Fx.apps) (by decide) ((lit 9 : B 9 7).mono (by decide)) (by omega) fun a ih1 a0 a1 s1 f1 l1 => ?_
  have l1' : ih.length + 3 ≤ ih1.length := by rw [l1]; simp
  have fr : Fr p ih ih1 := Fx.apps.fr.trans f1 (by simp)
  have G : ∀ j, j < 3 → ih1[ih.length + j]? = _ := fun j hj => (f1 (ih.length + j) (by simp; omega) (by omega)).trans g_appn
  walk_at "run"
  refine k_pick a0 (by simpa using a1) fun o ho => ?_
  simp only [List.mem_cons, List.not_mem_nil, or_false] at ho
  have fin := fun v h1 h2 => k.get v ih1 h1 h2 s1 fr (by omega)
  rcases ho with e | e | e | e | e | e | e <;> subst e
  · exact fin _ trivial rfl
  · exact fin _ trivial rfl
  · exact fin _ trivial rfl
  · exact fin _ trivial rfl
  · exact fin _ ⟨by omega, _, by rw [show ih1[ih.length]? = _ from G 0 (by decide)]; rfl⟩ rfl
  · exact fin _ ⟨by omega, _, by rw [show ih1[ih.length + 1]? = _ from G 1 (by decide)]; rfl⟩ rfl
  · exact fin _ ⟨by omega, _, by rw [show ih1[ih.length + 2]? = _ from G 2 (by decide)]; rfl⟩ rfl
theorem trip_mk {t : Nat} {v sl h : Int} (g : ih[t]? = some (.tup [.int v, .int sl, .int h])) (v0 : -1000 ≤ v) (v1 : v ≤ 1000) (s0 : 0 ≤ sl) (s1 : sl ≤ 1000) (h0 : 0 ≤ h) (h1 : h ≤ 64) : Trip t v sl h ih :=
  ⟨g, s0, h0, h1, B.mono (show B 11 v from by unfold B; omega) (by decide), B.mono (show B 11 sl from by unfold B; omega) (by decide)⟩
theorem w_line (c : Cs) (s : Src0 p m ih) (hm : m + 3 ≤ 1000000) (k : ∀ t v sl h ih', ih'[t]? = some (.tup [.int v, .int sl, .int h]) → -50 ≤ v → v ≤ 48 → 0 ≤ sl → sl ≤ 8 → 0 ≤ h → h ≤ 64 → ih.length ≤ t → Src0 p (m + 3) ih' → Fr p ih ih' → ih.length ≤ ih'.length → Q (.ref t) ih') : wp (m_law_line c [.ref p] ih) Q E := by
  have lp := s.lt
  have k := Hide.mk k
  unfold m_law_line b_law_line
  walk_at "run"
  refine w_next c s (by decide) ((lit 7 : B 7 99).mono (by decide)) (by omega) fun a ih1 a0 a1 s1 f1 l1 => ?_
  have F := Hide.mk f1
  replace l1 : ih.length ≤ ih1.length := by omega
  clear f1 s
  walk_at "run"
  refine w_next c s1 (by decide) ((lit 7 : B 7 9).mono (by decide)) (by omega) fun b ih2 b0 b1 s2 f2 l2 => ?_
  have F := Hide.mk (F.get.trans f2 l1)
  replace l2 : ih1.length ≤ ih2.length := by omega
  clear f2 s1
  walk_at "run"
  refine w_next c s2 (by decide) ((lit 7 : B 7 65).mono (by decide)) (by omega) fun d ih3 d0 d1 s3 f3 l3 => ?_
  have F := Hide.mk (F.get.trans f3 (by omega))
  replace l3 : ih2.length ≤ ih3.length := by omega
  clear f3 s2
  walk_at "run"
  exact k.get _ (a - 50) b d _ g_app0 (by omega) (by omega) b0 (by omega) d0 (by omega) (by omega) (s3.fx Fx.apps) (F.get.trans Fx.apps.fr (by omega)) (by simp; omega)
end
end L3
/-! K17b: the words of calls. (L15) (L17) -/
namespace L3
open PySem PySem.Spec PyProof.Rows L2
local macro_rules | `(tactic| walk_at "get") => `(tactic| simp (disch := first | assumption | omega | (simp only [List.length_append, List.length_set, List.length_cons, List.length_nil, List.length_map] <;> omega) | fail) only [g_new, g_nw, g_old, g_set, g_sne, List.length_append, List.length_set, List.length_cons, List.length_nil, List.length_map, List.map_map, Function.comp_def, xs_lst, xs_tup, isL_lst, isL_tup, ↓reduceIte, *])
local macro_rules | `(tactic| walk_at "fr") => `(tactic| first | (intro _ _ _; simp (disch := first | assumption | omega | (simp only [List.length_append, List.length_set, List.length_cons, List.length_nil, List.length_map] <;> omega) | fail) only [g_new, g_nw, g_old, g_set, g_sne, List.length_append, List.length_set, List.length_cons, List.length_nil, List.length_map, List.map_map, Function.comp_def, xs_lst, xs_tup, isL_lst, isL_tup, ↓reduceIte, *]) | (intro _ _; simp (disch := first | assumption | omega | (simp only [List.length_append, List.length_set, List.length_cons, List.length_nil, List.length_map] <;> omega) | fail) only [g_new, g_nw, g_old, g_set, g_sne, List.length_append, List.length_set, List.length_cons, List.length_nil, List.length_map, List.map_map, Function.comp_def, xs_lst, xs_tup, isL_lst, isL_tup, ↓reduceIte, *]))
local macro_rules | `(tactic| walk_at "run") => `(tactic| simp -implicitDefEqProofs (disch := first | assumption | omega | (simp only [List.length_append, List.length_set, List.length_cons, List.length_nil, List.length_map] <;> omega) | fail) only [wp_ok, wp_exc, wp_stuck, ws_ok, ws_exc, ws_stuck, wp_op, kk_op, kk_un, wp_un, wp_cons, kk_cons, kk_cons2, wp_nil, wp_c, wp_app, wp_if, kk_if1, kk_if0, wp_and, kk_and1, kk_and0, wp_or, kk_or1, kk_or0, wp_not, kk_not, wp_tb, kk_tb, wp_andV, kk_andV1, kk_andV0, wp_orV, kk_orV1, kk_orV0, wp_notV, kk_notV, wp_noneS, wp_some, kk_some, wp_sl, kk_sl, kk_sl2, kk_sl3, wp_mL, kk_mL, kk_mL2, wp_mL0, kk_mL0, wp_chain, kk_ch, kk_ch2, kk_ch31, kk_ch30, ws_set, kks_nm, kks_g, kks_tup, kks_lst, ws_expr, kks_expr, ws_ret, kks_ret, ws_retN, ws_pass, ws_brk, ws_cont, ws_raise, ws_if, kks_if1, kks_if0, ws_seq, kks_next, kks_retS, kks_brk, kks_cont, kk_augE, ws_aug, kks_aug, kks_aug2, ws_par, kks_par, ws_setL, kks_sl, kks_sl2, kks_sl3, wp_def, kkd_ret, kkd_next, kkdE, kkE, ws_for, wp_lc, wp_r1, kk_r1, wp_r2, kk_r2, wp_il, wp_it, wp_ie, wp_iz, kk_il, kk_il2, kk_it, kk_it2, kk_ie, kk_ie2, kk_iz, kk_iz2, lAt_k, k_lAtL, k_lAtO, k_lAtT, wp_int, wp_add, wp_addI, wp_sub, wp_neg, wp_lt, wp_le, wp_gt, wp_ge, wp_max2, wp_min2, wp_abs, wp_mulI, wp_mul, wp_fdiv, wp_mod, wp_shl, wp_shr, wp_pow, wp_isN, wp_notN, wp_eqI, wp_neI, wp_ix, kk_ix, kk_ix2, wp_len, kk_lenL, kk_lenT, kk_lenO, kk_lenP, wp_appd, kk_app1, isL_k, kk_isL, startI_cons, startI_nil, rep_succ, rep_zero, List.getElem?_cons_zero, List.getElem?_cons_succ, List.set_cons_zero, List.set_cons_succ, f_call, m_var, List.append_nil, List.nil_append, List.cons_append, List.length_cons, List.length_nil, if_true, if_false, g_tup, g_lst, g_cons, g_nil, g_nm, Option.bind_some, kks_g, atI_0, atI_1, atI_2, atI_3, atI_4, atI_5, atI_6, atI_7, atI_8, atI_9, atI_10, atI_11, atI_12, atI_last, cutI_1, ixN_30, ixN_31, ixN_32, Int.toNat_zero, Int.reduceToNat, Int.reduceNeg, xs_lst, xs_tup, xs_ro, xs_rot, isL_lst, isL_tup, isL_ro, isL_rot, isT_tup, isT_rot, Bool.false_eq_true, Bool.true_eq_false, Bool.not_true, Bool.not_false, decide_true, decide_false, Int.reduceLT, Int.reduceLE, Nat.reduceLT, Nat.reduceLeDiff, Nat.reduceAdd, Nat.reduceEqDiff, Bool.not_eq_true, true_and, and_true, and_self, eq_self, g_new, g_nw, g_old, g_set, g_sne, List.length_set, List.length_append, wp_r3, kk_r3, Int.cast_ofNat_Int, Int.reduceEq, Int.natCast_zero, Int.natCast_one, ws_whileA, wp_isiII, wp_isiIB, wp_isiI_list, wp_isiI_tuple, wp_isiI_str, wp_isiR, tyO_l, tyO_t, kk_isi, kk_isi2, kit_ll, kit_tt, kit_lt, kit_tl, wp_isiN, wp_isiBl, wp_isiS, tyO_d, kit2_NoneType_int, kit2_NoneType_bool, kit2_NoneType_list, kit2_NoneType_tuple, kit2_NoneType_str, kit2_bool_int, kit2_bool_bool, kit2_bool_list, kit2_bool_tuple, kit2_bool_str, kit2_str_int, kit2_str_bool, kit2_str_list, kit2_str_tuple, kit2_str_str, kit2_dict_int, kit2_dict_bool, kit2_dict_list, kit2_dict_tuple, kit2_dict_str, kit2_list_int, kit2_list_bool, kit2_list_str, kit2_tuple_int, kit2_tuple_bool, kit2_tuple_str, kit2_int_list, kit2_int_tuple, kit2_int_str, kf_next, kf_cont, kf_brk, kf_ret, wipeI, wp_lstE, wp_tupE, wp_dctE, wp_lamE, wp_catE, kk_catL, g_appn, g_app0, g_appo, g_setn, g_set0, List.append_assoc, Nat.zero_add, ws_try, wp_isEg, wp_isEt, kk_isE, wp_neS, wp_int2, ↓reduceIte, *])
abbrev wordsL : List IV := [.str "width", .str "looks", .str "cycle", .str "rate", .str "reading", .str "line"]
theorem ts_run (c : Cs) (lams : Nat → Nat → IH → Res IV) (cl : Addr) {b1 b2 b3 b4 b5 b6 : Bool} {x : Str} {j : Nat} {v0 v2 : Option IV} (hE : ExcC c.K cl)
    (k1 : PySem.W.kitOne c.K (.ref cl) (.ref c.NoWidth) = some b1) (k2 : PySem.W.kitOne c.K (.ref cl) (.ref c.NoLooks) = some b2) (k3 : PySem.W.kitOne c.K (.ref cl) (.ref c.NoCycle) = some b3)
    (k4 : PySem.W.kitOne c.K (.ref cl) (.ref c.NoRate) = some b4) (k5 : PySem.W.kitOne c.K (.ref cl) (.ref c.NoReading) = some b5) (k6 : PySem.W.kitOne c.K (.ref cl) (.ref c.NoLine) = some b6)
    (k7 : PySem.W.kitOne c.K (.ref cl) (.type "ValueError") = some true) (ih : IH)
    (hc : (([b1, b2, b3, b4, b5, b6].map IV.bl).countP (eqI (.bl true)) : Int) = 1) (hi : ([b1, b2, b3, b4, b5, b6].map IV.bl).findIdx? (eqI (.bl true)) = some j) (hx : atI wordsL (j : Int) = some (.str x)) :
    ∃ ih', Fx ih ih' ∧ ih.length ≤ ih'.length ∧ ∀ a, ts_law_word_1 c lams a cl [v0, some (.gl a), v2] ih = .ok (.ret (.str x)) ih' := by
  have key : ∀ a, ws (ts_law_word_1 c lams a cl [v0, some (.gl a), v2] ih) (fun f ih' => f = .ret (.str x) ∧ ih' = ih ++ [.lst [.bl b1, .bl b2, .bl b3, .bl b4], .lst [.bl b5, .bl b6], .lst [.bl b1, .bl b2, .bl b3, .bl b4, .bl b5, .bl b6], .lst wordsL]) S0 := fun a => by
    unfold ts_law_word_1
    walk_at "run"
    refine wp_count (k := 1) (xs := [.bl b1, .bl b2, .bl b3, .bl b4, .bl b5, .bl b6]) (by walk_at "run") rfl hc ?_
    walk_at "run"
    refine wp_index (j := j) (xs := [.bl b1, .bl b2, .bl b3, .bl b4, .bl b5, .bl b6]) (by walk_at "run") rfl hi ?_
    walk_at "run"
  refine ⟨?w, ?_, ?_, fun a => ?_⟩
  rotate_left 3
  · obtain ⟨f, ih', e, e1, e2⟩ := (key a).out
    rw [e, e1, e2]
  · exact Fx.apps
  · simp
section
variable {p m : Nat} {ih : IH} {v : IV} {Q : PQ IV} {E : EQ}
def Wd (c : Cs) (cl : Addr) (x : Str) : Prop := (cl = c.NoLine ∧ x = "line") ∨ (cl = c.NoCycle ∧ x = "cycle") ∨ (cl = c.NoReading ∧ x = "reading")
theorem word_of (c : Cs) (ok : CsOk c) (lams : Nat → Nat → IH → Res IV) {cl : Addr} {x : Str} (h : Wd c cl x) (ih : IH) {S : SQ} {F : ES} (q : ∀ ih', ih.length ≤ ih'.length → Fx ih ih' → S (.ret (.str x)) ih')
    (v0 v1 v2 : Option IV) : k_try 1 (fun cl => PySem.W.exmOne c.K (.ref cl) (.ref c.KernelError)) (fun ea ec => ts_law_word_1 c lams ea ec) S F cl [v0, v1, v2] ih := by
  rcases h with ⟨rfl, rfl⟩ | ⟨rfl, rfl⟩ | ⟨rfl, rfl⟩
  · obtain ⟨ih', f, l, e⟩ := ts_run c lams c.NoLine (j := 5) (x := "line") (v0 := v0) (v2 := v2) ok.xc_NoLine ok.xi_NoLine_NoWidth ok.xi_NoLine_NoLooks ok.xi_NoLine_NoCycle ok.xi_NoLine_NoRate ok.xi_NoLine_NoReading ok.xi_NoLine_NoLine ok.xi_NoLine_ValueError ih (by decide) (by decide) rfl
    exact kk_try ok.xm_NoLine_KernelError e (q ih' l f)
  · obtain ⟨ih', f, l, e⟩ := ts_run c lams c.NoCycle (j := 2) (x := "cycle") (v0 := v0) (v2 := v2) ok.xc_NoCycle ok.xi_NoCycle_NoWidth ok.xi_NoCycle_NoLooks ok.xi_NoCycle_NoCycle ok.xi_NoCycle_NoRate ok.xi_NoCycle_NoReading ok.xi_NoCycle_NoLine ok.xi_NoCycle_ValueError ih (by decide) (by decide) rfl
    exact kk_try ok.xm_NoCycle_KernelError e (q ih' l f)
  · obtain ⟨ih', f, l, e⟩ := ts_run c lams c.NoReading (j := 4) (x := "reading") (v0 := v0) (v2 := v2) ok.xc_NoReading ok.xi_NoReading_NoWidth ok.xi_NoReading_NoLooks ok.xi_NoReading_NoCycle ok.xi_NoReading_NoRate ok.xi_NoReading_NoReading ok.xi_NoReading_NoLine ok.xi_NoReading_ValueError ih (by decide) (by decide) rfl
    exact kk_try ok.xm_NoReading_KernelError e (q ih' l f)
/-- a lambda that raises, called by the word -/
theorem w_wordE (c : Cs) (ok : CsOk c) {lams : Nat → Nat → IH → Res IV} {n e j : Nat} {cl : Addr} {x : Str} {Pz : IH → Prop} (h : Wd c cl x) (g : ih[n]? = some (.fn e j)) (hl : wp (lams e j ih) (fun _ _ => False) (fun c' ih' => c' = cl ∧ Pz ih'))
    (q : ∀ ih1 ih2, Pz ih1 → ih1.length ≤ ih2.length → Fx ih1 ih2 → Q (.str x) ih2) : wp (defRun 3 (b_law_word c lams) [.ref n] ih) Q E := by
  unfold b_law_word
  rw [wp_def, ws_try]
  unfold tb_law_word_1
  have hl := Hide.mk hl
  have q := Hide.mk q
  generalize hK : k_try 1 (fun cl => PySem.W.exmOne c.K (.ref cl) (.ref c.KernelError)) (fun ea ec => ts_law_word_1 c lams ea ec) (kd Q) (kdE E) = K
  have hK := Hide.mk hK
  walk_at "run"
  refine wp_call0 rfl g ?_
  refine wp.imp hl.get (fun _ _ h => h.elim) fun c' ih' ⟨e1, hP⟩ => ?_
  subst e1
  rw [kkE, ← hK.get]
  exact word_of c ok lams h ih' (fun ih2 l f => q.get ih' ih2 hP l f) _ _ _
/-- the words of calls in a list -/
theorem lc_words {env : Env} {vs : List Nat} {i0 q : Nat} {me : Env → IH → Res IV} {ns : List Nat} {ws : List Str} (s : Src0 p m ih) (hq : ih[q]? = some (.lst (ns.map IV.ref))) (qp : q ≠ p) (hl : ns.length = ws.length) (hz : ns.length < 1000)
    (he : ∀ i n x, ns[i]? = some n → ws[i]? = some x → ∀ ih', Src0 p (m + i) ih' → Fr p ih ih' → ih.length < ih'.length → wp (me ((wipeI env vs).set i0 (some (.ref n))) ih') (fun v ih'' => v = .str x ∧ Src0 p (m + (i + 1)) ih'' ∧ Fr p ih' ih'' ∧ ih'.length ≤ ih''.length) E0)
    (k : ∀ ih', Src0 p (m + ns.length) ih' → Fr p ih ih' → ih.length < ih'.length → ih'[ih.length]? = some (.lst (ws.map IV.str)) → Q (.ref ih.length) ih') : k_lc vs (g_nm i0) n_yes me env Q E (.lst q) ih := by
  have ql := lt_of_get hq
  have hsz : (Src.lst q).size ih = ns.length := by
    unfold Src.size
    dsimp only
    rw [hq]
    show (ns.map IV.ref).length = _
    rw [List.length_map]
  refine lc_gen ns.length (fun i acc ih' => acc = (ws.take i).map IV.str ∧ Src0 p (m + i) ih' ∧ Fr p ih ih' ∧ ih.length < ih'.length) (by rw [hsz]; exact Nat.le_refl _) ⟨rfl, s.fx Fx.app, Fx.app.fr, by simp⟩ (fun i acc ih' hi ⟨ha, s', fr, lx⟩ hd => ?_) (fun acc ih' ⟨ha, s', fr, lx⟩ _ => ?_) fun acc ih' ⟨ha, s', fr, lx⟩ hd => ?_
  · have g1 : ih'[q]? = some (.lst (ns.map IV.ref)) := by rw [fr q ql qp]; exact hq
    obtain ⟨n, hn⟩ : ∃ n, ns[i]? = some n := ⟨_, List.getElem?_eq_getElem hi⟩
    obtain ⟨x, hx⟩ : ∃ x, ws[i]? = some x := ⟨_, List.getElem?_eq_getElem (by omega)⟩
    with_unfolding_all refine ⟨.ref n, _, _, turn_lst g1 rfl (by show (ns.map IV.ref)[i]? = _; rw [List.getElem?_map, hn]; rfl), rfl, ⟨(fun h => nomatch h), fun _ => wp.imp (he i n x hn hx ih' s' fr lx) (fun v ih2 hv => ?_) fun _ _ h => h⟩⟩
    obtain ⟨rfl, s2, f2, l2⟩ := hv
    have lp := s.lt
    have hd2 : ih2[ih.length]? = some (.lst acc) := by rw [f2 _ lx (by omega)]; exact hd
    refine ⟨hd2, by rw [ha, List.length_map, List.length_take]; omega, ?_, s2.set (by omega), (fr.trans f2 (by omega)).set (Nat.le_refl _), by rw [List.length_set]; omega⟩
    rw [ha, List.take_add_one, hx, List.map_append]
    rfl
  · have g1 : ih'[q]? = some (.lst (ns.map IV.ref)) := by rw [fr q ql qp]; exact hq
    have := stop_lst g1 rfl
    rw [show (MO.lst (ns.map IV.ref)).xs.length = ns.length from List.length_map _] at this
    exact this
  · rw [ha, hl, List.take_length] at hd
    exact k ih' s' fr lx hd
end
end L3
/-! K17c: each call is refused. (L15) (L17) -/
namespace L3
open PySem PySem.Spec PyProof.Rows L2
local macro_rules | `(tactic| walk_at "get") => `(tactic| simp (disch := first | assumption | omega | (simp only [List.length_append, List.length_set, List.length_cons, List.length_nil, List.length_map] <;> omega) | fail) only [g_new, g_nw, g_old, g_set, g_sne, List.length_append, List.length_set, List.length_cons, List.length_nil, List.length_map, List.map_map, Function.comp_def, xs_lst, xs_tup, isL_lst, isL_tup, ↓reduceIte, *])
local macro_rules | `(tactic| walk_at "fr") => `(tactic| first | (intro _ _ _; simp (disch := first | assumption | omega | (simp only [List.length_append, List.length_set, List.length_cons, List.length_nil, List.length_map] <;> omega) | fail) only [g_new, g_nw, g_old, g_set, g_sne, List.length_append, List.length_set, List.length_cons, List.length_nil, List.length_map, List.map_map, Function.comp_def, xs_lst, xs_tup, isL_lst, isL_tup, ↓reduceIte, *]) | (intro _ _; simp (disch := first | assumption | omega | (simp only [List.length_append, List.length_set, List.length_cons, List.length_nil, List.length_map] <;> omega) | fail) only [g_new, g_nw, g_old, g_set, g_sne, List.length_append, List.length_set, List.length_cons, List.length_nil, List.length_map, List.map_map, Function.comp_def, xs_lst, xs_tup, isL_lst, isL_tup, ↓reduceIte, *]))
local macro_rules | `(tactic| walk_at "run") => `(tactic| simp -implicitDefEqProofs (disch := first | assumption | omega | (simp only [List.length_append, List.length_set, List.length_cons, List.length_nil, List.length_map] <;> omega) | fail) only [wp_ok, wp_exc, wp_stuck, ws_ok, ws_exc, ws_stuck, wp_op, kk_op, kk_un, wp_un, wp_cons, kk_cons, kk_cons2, wp_nil, wp_c, wp_app, wp_if, kk_if1, kk_if0, wp_and, kk_and1, kk_and0, wp_or, kk_or1, kk_or0, wp_not, kk_not, wp_tb, kk_tb, wp_andV, kk_andV1, kk_andV0, wp_orV, kk_orV1, kk_orV0, wp_notV, kk_notV, wp_noneS, wp_some, kk_some, wp_sl, kk_sl, kk_sl2, kk_sl3, wp_mL, kk_mL, kk_mL2, wp_mL0, kk_mL0, wp_chain, kk_ch, kk_ch2, kk_ch31, kk_ch30, ws_set, kks_nm, kks_g, kks_tup, kks_lst, ws_expr, kks_expr, ws_ret, kks_ret, ws_retN, ws_pass, ws_brk, ws_cont, ws_raise, ws_if, kks_if1, kks_if0, ws_seq, kks_next, kks_retS, kks_brk, kks_cont, kk_augE, ws_aug, kks_aug, kks_aug2, ws_par, kks_par, ws_setL, kks_sl, kks_sl2, kks_sl3, wp_def, kkd_ret, kkd_next, kkdE, kkE, ws_for, wp_lc, wp_r1, kk_r1, wp_r2, kk_r2, wp_il, wp_it, wp_ie, wp_iz, kk_il, kk_il2, kk_it, kk_it2, kk_ie, kk_ie2, kk_iz, kk_iz2, lAt_k, k_lAtL, k_lAtO, k_lAtT, wp_int, wp_add, wp_addI, wp_sub, wp_neg, wp_lt, wp_le, wp_gt, wp_ge, wp_max2, wp_min2, wp_abs, wp_mulI, wp_mul, wp_fdiv, wp_mod, wp_shl, wp_shr, wp_pow, wp_isN, wp_notN, wp_eqI, wp_neI, wp_ix, kk_ix, kk_ix2, wp_len, kk_lenL, kk_lenT, kk_lenO, kk_lenP, wp_appd, kk_app1, isL_k, kk_isL, startI_cons, startI_nil, rep_succ, rep_zero, List.getElem?_cons_zero, List.getElem?_cons_succ, List.set_cons_zero, List.set_cons_succ, f_call, m_var, List.append_nil, List.nil_append, List.cons_append, List.length_cons, List.length_nil, if_true, if_false, g_tup, g_lst, g_cons, g_nil, g_nm, Option.bind_some, kks_g, atI_0, atI_1, atI_2, atI_3, atI_4, atI_5, atI_6, atI_7, atI_8, atI_9, atI_10, atI_11, atI_12, atI_last, cutI_1, ixN_30, ixN_31, ixN_32, Int.toNat_zero, Int.reduceToNat, Int.reduceNeg, xs_lst, xs_tup, xs_ro, xs_rot, isL_lst, isL_tup, isL_ro, isL_rot, isT_tup, isT_rot, Bool.false_eq_true, Bool.true_eq_false, Bool.not_true, Bool.not_false, decide_true, decide_false, Int.reduceLT, Int.reduceLE, Nat.reduceLT, Nat.reduceLeDiff, Nat.reduceAdd, Nat.reduceEqDiff, Bool.not_eq_true, true_and, and_true, and_self, eq_self, g_new, g_nw, g_old, g_set, g_sne, List.length_set, List.length_append, wp_r3, kk_r3, Int.cast_ofNat_Int, Int.reduceEq, Int.natCast_zero, Int.natCast_one, ws_whileA, wp_isiII, wp_isiIB, wp_isiI_list, wp_isiI_tuple, wp_isiI_str, wp_isiR, tyO_l, tyO_t, kk_isi, kk_isi2, kit_ll, kit_tt, kit_lt, kit_tl, wp_isiN, wp_isiBl, wp_isiS, tyO_d, kit2_NoneType_int, kit2_NoneType_bool, kit2_NoneType_list, kit2_NoneType_tuple, kit2_NoneType_str, kit2_bool_int, kit2_bool_bool, kit2_bool_list, kit2_bool_tuple, kit2_bool_str, kit2_str_int, kit2_str_bool, kit2_str_list, kit2_str_tuple, kit2_str_str, kit2_dict_int, kit2_dict_bool, kit2_dict_list, kit2_dict_tuple, kit2_dict_str, kit2_list_int, kit2_list_bool, kit2_list_str, kit2_tuple_int, kit2_tuple_bool, kit2_tuple_str, kit2_int_list, kit2_int_tuple, kit2_int_str, kf_next, kf_cont, kf_brk, kf_ret, wipeI, wp_lstE, wp_tupE, wp_dctE, wp_lamE, wp_catE, kk_catL, g_appn, g_app0, g_appo, g_setn, g_set0, List.append_assoc, Nat.zero_add, ws_try, wp_isEg, wp_isEt, kk_isE, wp_neS, wp_int2, ↓reduceIte, *])
section
variable {p m t : Nat} {ih ih' : IH} {Q : PQ IV} {E : EQ}
theorem cut3 (x y z : IV) : cutI [x, y, z] (some 1) none = [y, z] := rfl
theorem ncut3 (x y z : IV) : ¬ (HT.sIx [x, y, z].length 0 (some 1) = 0 ∧ HT.sIx [x, y, z].length [x, y, z].length none = [x, y, z].length) := fun q => by
  have : HT.sIx 3 0 (some 1) = 1 := rfl
  have z1 : HT.sIx 3 0 (some 1) = 0 := q.1
  omega
/-- apart_many up to the test of slopes and shifts -/
theorem w_manyX (c : Cs) {t u : Nat} {v sl h v2 sl2 h2 : Int} {w : IV} (a : Trip t v sl h ih) (b : Trip u v2 sl2 h2 ih)
    (hn : (sl = sl2 ∧ h = h2) → KV p ih w ∧ whl 0 w = false) (k : ∀ ih', ih.length ≤ ih'.length → Fx ih ih' → ((¬ (sl = sl2 ∧ h = h2)) → E c.NoLine ih') ∧ ((sl = sl2 ∧ h = h2) → E c.NoCycle ih')) : wp (m_apart_many c [.ref t, .ref u, w] ih) Q E := by
  have a1 := q_line c a
  have a2 := q_line c b
  have ga := a.g
  have gb := b.g
  have ta := lt_of_get ga
  have tb := lt_of_get gb
  have k := Hide.mk k
  unfold m_apart_many b_apart_many
  clear a b
  walk_at "run"
  refine wp_slT ga (ncut3 _ _ _) ?_
  rw [cut3]
  walk_at "run"
  refine wp_slT (by rw [g_appo tb]; exact gb) (ncut3 _ _ _) ?_
  rw [cut3]
  walk_at "run"
  have i1 : Is (ih ++ [MO.tup [.int sl, .int h], MO.tup [.int sl2, .int h2]]) (.ref ih.length) (.tuple [.int sl, .int h]) := .tup g_app0 rfl (.cons (.int _) (.cons (.int _) .nil))
  have i2 : Is (ih ++ [MO.tup [.int sl, .int h], MO.tup [.int sl2, .int h2]]) (.ref (ih.length + 1)) (.tuple [.int sl2, .int h2]) := .tup g_appn rfl (.cons (.int _) (.cons (.int _) .nil))
  refine wp_ne i1 i2 (shaped_pr _ _) (shaped_pr _ _) ?_
  obtain ⟨k1, k2⟩ := k.get (ih ++ [MO.tup [.int sl, .int h], MO.tup [.int sl2, .int h2]]) (by simp) Fx.apps
  by_cases e : sl = sl2 ∧ h = h2
  · obtain ⟨e1, e2⟩ := hn e
    have k2 := Hide.mk (k2 e)
    obtain ⟨rfl, rfl⟩ := e
    rw [eqv_same (shaped_pr _ _)]
    have e1 := e1.fx (Fx.apps (L := [MO.tup [.int sl, .int h], MO.tup [.int sl, .int h]]))
    clear k1 hn a1 a2 i1 i2
    walk_at "run"
    exact w_cycleO c e1 e2 k2.get
  · have k1 := Hide.mk (k1 e)
    have ev : PyData.eqv (.tuple [.int sl, .int h]) (.tuple [.int sl2, .int h2]) = false := by
      by_cases e1 : sl = sl2
      · have e2 : h ≠ h2 := fun z => e ⟨e1, z⟩
        simp [PyData.eqv, PyData.eqvAll, e1, e2]
      · simp [PyData.eqv, PyData.eqvAll, e1]
    rw [ev]
    clear k2 hn a1 a2 i1 i2
    walk_at "run"
    all_goals exact k1.get
/-- what was drawn -/
structure Drawn (p : Nat) (ih : IH) (t t6 t7 : Nat) (v sl h : Int) (v2 v3 v4 v5 : IV) : Prop where
  tp : t ≠ p
  t6p : t6 ≠ p
  t7p : t7 ≠ p
  g : ih[t]? = some (.tup [.int v, .int sl, .int h])
  g6 : ih[t6]? = some (.tup [.int v, .int (sl + 1), .int h])
  g7 : ih[t7]? = some (.tup [.int v, .int sl, .int ((h + 1) % 65)])
  v0 : -50 ≤ v
  v1 : v ≤ 48
  s0 : 0 ≤ sl
  s1 : sl ≤ 8
  h0 : 0 ≤ h
  h1 : h ≤ 64
  o2 : OddL p ih v2
  o4 : KV p ih v4
  w4 : whl0 v4 = false
  o5 : KV p ih v5
  w5 : whl 0 v5 = false
variable {t6 t7 : Nat} {v sl h : Int} {v2 v3 v4 v5 : IV}
theorem Drawn.fr (d : Drawn p ih t t6 t7 v sl h v2 v3 v4 v5) (f : Fr p ih ih') : Drawn p ih' t t6 t7 v sl h v2 v3 v4 v5 := by
  obtain ⟨a, b, c, g, g6, g7, x1, x2, x3, x4, x5, x6, o2, o4, w4, o5, w5⟩ := d
  exact ⟨a, b, c, (f t (lt_of_get g) a).trans g, (f t6 (lt_of_get g6) b).trans g6, (f t7 (lt_of_get g7) c).trans g7, x1, x2, x3, x4, x5, x6, o2.fr f, o4.fr f, w4, o5.fr f, w5⟩
abbrev EV (p t t6 t7 : Nat) (v2 v3 v4 v5 : IV) (o : Option IV) : Env := [some (.ref p), some (.ref t), some v2, some v3, some v4, some v5, some (.ref t6), some (.ref t7), o, none]
def clsJ (c : Cs) (j : Nat) : Addr := if j < 11 then c.NoLine else if j < 14 then c.NoCycle else c.NoReading
/-- what each lambda raises -/
theorem w_lams (c : Cs) {e0 j : Nat} {o : Option IV} (hj : j < 16) (s : Src0 p m ih) (d : Drawn p ih t t6 t7 v sl h v2 v3 v4 v5) :
    wp (lams_law_all_refused c e0 j (EV p t t6 t7 v2 v3 v4 v5 o) ih) (fun _ _ => False) (fun c' ih' => c' = clsJ c j ∧ Src0 p m ih' ∧ Fr p ih ih' ∧ ih.length ≤ ih'.length) := by
  have fin := Hide.mk (show Src0 p m ih ∧ Fr p ih ih ∧ ih.length ≤ ih.length from ⟨s, Fr.refl, Nat.le_refl _⟩)
  have finx : ∀ ih', ih.length ≤ ih'.length → Fx ih ih' → Src0 p m ih' ∧ Fr p ih ih' ∧ ih.length ≤ ih'.length := fun ih' l f => ⟨s.fx f, f.fr, l⟩
  have finx := Hide.mk finx
  obtain ⟨tp, t6p, t7p, g, g6, g7, v0, v1, s0, s1, h0, h1, o2, o4, w4, o5, w5⟩ := d
  have T := trip_mk g (by omega) (by omega) s0 (by omega) h0 h1
  have T6 := trip_mk g6 (by omega) (by omega) (by omega) (by omega) h0 h1
  have T7 := trip_mk g7 (by omega) (by omega) s0 (by omega) (by omega) (by omega)
  have a1 := q_line c T
  clear s
  match j, hj with
  | 0, _ =>
    show wp (ll_law_all_refused_1 c e0 _ ih) _ _
    unfold ll_law_all_refused_1
    walk_at "run"
    unfold m_line_reading b_line_reading
    walk_at "run"
    exact w_lineO c o2 ⟨rfl, fin.get⟩
  | 1, _ =>
    show wp (ll_law_all_refused_2 c e0 _ ih) _ _
    unfold ll_law_all_refused_2
    walk_at "run"
    unfold m_first_reach b_first_reach
    walk_at "run"
    exact w_lineO c o2 ⟨rfl, fin.get⟩
  | 2, _ =>
    show wp (ll_law_all_refused_3 c e0 _ ih) _ _
    unfold ll_law_all_refused_3
    walk_at "run"
    unfold m_shows_run b_shows_run
    walk_at "run"
    exact w_lineO c o2 ⟨rfl, fin.get⟩
  | 3, _ =>
    show wp (ll_law_all_refused_4 c e0 _ ih) _ _
    unfold ll_law_all_refused_4
    walk_at "run"
    unfold m_first_apart b_first_apart
    walk_at "run"
    exact w_lineO c o2 ⟨rfl, fin.get⟩
  | 4, _ =>
    show wp (ll_law_all_refused_5 c e0 _ ih) _ _
    unfold ll_law_all_refused_5
    walk_at "run"
    unfold m_first_apart b_first_apart
    walk_at "run"
    exact w_lineO c o2 ⟨rfl, fin.get⟩
  | 5, _ =>
    show wp (ll_law_all_refused_6 c e0 _ ih) _ _
    unfold ll_law_all_refused_6
    walk_at "run"
    unfold m_first_ahead b_first_ahead
    walk_at "run"
    exact w_lineO c o2 ⟨rfl, fin.get⟩
  | 6, _ =>
    show wp (ll_law_all_refused_7 c e0 _ ih) _ _
    unfold ll_law_all_refused_7
    walk_at "run"
    unfold m_first_ahead b_first_ahead
    walk_at "run"
    exact w_lineO c o2 ⟨rfl, fin.get⟩
  | 7, _ =>
    show wp (ll_law_all_refused_8 c e0 _ ih) _ _
    unfold ll_law_all_refused_8
    walk_at "run"
    unfold m_apart_many b_apart_many
    walk_at "run"
    exact w_lineO c o2 ⟨rfl, fin.get⟩
  | 8, _ =>
    show wp (ll_law_all_refused_9 c e0 _ ih) _ _
    unfold ll_law_all_refused_9
    walk_at "run"
    unfold m_apart_many b_apart_many
    walk_at "run"
    exact w_lineO c o2 ⟨rfl, fin.get⟩
  | 9, _ =>
    show wp (ll_law_all_refused_10 c e0 _ ih) _ _
    unfold ll_law_all_refused_10
    walk_at "run"
    exact w_manyX (p := p) c T T6 (fun e => by omega) fun ih' l f => ⟨fun _ => ⟨rfl, finx.get ih' l f⟩, fun e => by omega⟩
  | 10, _ =>
    show wp (ll_law_all_refused_11 c e0 _ ih) _ _
    unfold ll_law_all_refused_11
    walk_at "run"
    exact w_manyX (p := p) c T T7 (fun e => by omega) fun ih' l f => ⟨fun _ => ⟨rfl, finx.get ih' l f⟩, fun e => by omega⟩
  | 11, _ =>
    show wp (ll_law_all_refused_12 c e0 _ ih) _ _
    unfold ll_law_all_refused_12
    walk_at "run"
    unfold m_line_reading b_line_reading
    walk_at "run"
    exact w_cycleO c o5 w5 ⟨rfl, fin.get⟩
  | 12, _ =>
    show wp (ll_law_all_refused_13 c e0 _ ih) _ _
    unfold ll_law_all_refused_13
    walk_at "run"
    exact w_manyX (p := p) c T T (fun _ => ⟨o5, w5⟩) fun ih' l f => ⟨fun e => absurd ⟨rfl, rfl⟩ e, fun _ => ⟨rfl, finx.get ih' l f⟩⟩
  | 13, _ =>
    show wp (ll_law_all_refused_14 c e0 _ ih) _ _
    unfold ll_law_all_refused_14
    walk_at "run"
    have g2 : (ih ++ [MO.tup [IV.int (v + 3), IV.int sl, IV.int h]])[ih.length]? = some (.tup [.int (v + 3), .int sl, .int h]) := g_app0
    have T2 := trip_mk g2 (by omega) (by omega) s0 (by omega) h0 h1
    exact w_manyX (p := p) c (T.fx Fx.apps) T2 (fun _ => ⟨o5.fx Fx.apps, w5⟩) fun ih' l f => ⟨fun e => absurd ⟨rfl, rfl⟩ e, fun _ => ⟨rfl, finx.get ih' (Nat.le_trans (by simp) l) (Fx.apps.trans f (by simp))⟩⟩
  | 14, _ =>
    show wp (ll_law_all_refused_15 c e0 _ ih) _ _
    unfold ll_law_all_refused_15
    walk_at "run"
    unfold m_first_reach b_first_reach
    walk_at "run"
    exact w_readingO c o4 w4 ⟨rfl, fin.get⟩
  | 15, _ =>
    show wp (ll_law_all_refused_16 c e0 _ ih) _ _
    unfold ll_law_all_refused_16
    walk_at "run"
    unfold m_shows_run b_shows_run
    walk_at "run"
    exact w_readingO c o4 w4 ⟨rfl, fin.get⟩
  | j + 16, hj => exact absurd hj (by omega)
end
end L3
/-! K17d: all refused. (L15) (L17) -/
namespace L3
open PySem PySem.Spec PyProof.Rows L2
local macro_rules | `(tactic| walk_at "get") => `(tactic| simp (disch := first | assumption | omega | (simp only [List.length_append, List.length_set, List.length_cons, List.length_nil, List.length_map] <;> omega) | fail) only [g_new, g_nw, g_old, g_set, g_sne, List.length_append, List.length_set, List.length_cons, List.length_nil, List.length_map, List.map_map, Function.comp_def, xs_lst, xs_tup, isL_lst, isL_tup, ↓reduceIte, *])
local macro_rules | `(tactic| walk_at "fr") => `(tactic| first | (intro _ _ _; simp (disch := first | assumption | omega | (simp only [List.length_append, List.length_set, List.length_cons, List.length_nil, List.length_map] <;> omega) | fail) only [g_new, g_nw, g_old, g_set, g_sne, List.length_append, List.length_set, List.length_cons, List.length_nil, List.length_map, List.map_map, Function.comp_def, xs_lst, xs_tup, isL_lst, isL_tup, ↓reduceIte, *]) | (intro _ _; simp (disch := first | assumption | omega | (simp only [List.length_append, List.length_set, List.length_cons, List.length_nil, List.length_map] <;> omega) | fail) only [g_new, g_nw, g_old, g_set, g_sne, List.length_append, List.length_set, List.length_cons, List.length_nil, List.length_map, List.map_map, Function.comp_def, xs_lst, xs_tup, isL_lst, isL_tup, ↓reduceIte, *]))
local macro_rules | `(tactic| walk_at "run") => `(tactic| simp -implicitDefEqProofs (disch := first | assumption | omega | (simp only [List.length_append, List.length_set, List.length_cons, List.length_nil, List.length_map] <;> omega) | fail) only [wp_ok, wp_exc, wp_stuck, ws_ok, ws_exc, ws_stuck, wp_op, kk_op, kk_un, wp_un, wp_cons, kk_cons, kk_cons2, wp_nil, wp_c, wp_app, wp_if, kk_if1, kk_if0, wp_and, kk_and1, kk_and0, wp_or, kk_or1, kk_or0, wp_not, kk_not, wp_tb, kk_tb, wp_andV, kk_andV1, kk_andV0, wp_orV, kk_orV1, kk_orV0, wp_notV, kk_notV, wp_noneS, wp_some, kk_some, wp_sl, kk_sl, kk_sl2, kk_sl3, wp_mL, kk_mL, kk_mL2, wp_mL0, kk_mL0, wp_chain, kk_ch, kk_ch2, kk_ch31, kk_ch30, ws_set, kks_nm, kks_g, kks_tup, kks_lst, ws_expr, kks_expr, ws_ret, kks_ret, ws_retN, ws_pass, ws_brk, ws_cont, ws_raise, ws_if, kks_if1, kks_if0, ws_seq, kks_next, kks_retS, kks_brk, kks_cont, kk_augE, ws_aug, kks_aug, kks_aug2, ws_par, kks_par, ws_setL, kks_sl, kks_sl2, kks_sl3, wp_def, kkd_ret, kkd_next, kkdE, kkE, ws_for, wp_lc, wp_r1, kk_r1, wp_r2, kk_r2, wp_il, wp_it, wp_ie, wp_iz, kk_il, kk_il2, kk_it, kk_it2, kk_ie, kk_ie2, kk_iz, kk_iz2, lAt_k, k_lAtL, k_lAtO, k_lAtT, wp_int, wp_add, wp_addI, wp_sub, wp_neg, wp_lt, wp_le, wp_gt, wp_ge, wp_max2, wp_min2, wp_abs, wp_mulI, wp_mul, wp_fdiv, wp_mod, wp_shl, wp_shr, wp_pow, wp_isN, wp_notN, wp_eqI, wp_neI, wp_ix, kk_ix, kk_ix2, wp_len, kk_lenL, kk_lenT, kk_lenO, kk_lenP, wp_appd, kk_app1, isL_k, kk_isL, startI_cons, startI_nil, rep_succ, rep_zero, List.getElem?_cons_zero, List.getElem?_cons_succ, List.set_cons_zero, List.set_cons_succ, f_call, m_var, List.append_nil, List.nil_append, List.cons_append, List.length_cons, List.length_nil, if_true, if_false, g_tup, g_lst, g_cons, g_nil, g_nm, Option.bind_some, kks_g, atI_0, atI_1, atI_2, atI_3, atI_4, atI_5, atI_6, atI_7, atI_8, atI_9, atI_10, atI_11, atI_12, atI_last, cutI_1, ixN_30, ixN_31, ixN_32, Int.toNat_zero, Int.reduceToNat, Int.reduceNeg, xs_lst, xs_tup, xs_ro, xs_rot, isL_lst, isL_tup, isL_ro, isL_rot, isT_tup, isT_rot, Bool.false_eq_true, Bool.true_eq_false, Bool.not_true, Bool.not_false, decide_true, decide_false, Int.reduceLT, Int.reduceLE, Nat.reduceLT, Nat.reduceLeDiff, Nat.reduceAdd, Nat.reduceEqDiff, Bool.not_eq_true, true_and, and_true, and_self, eq_self, g_new, g_nw, g_old, g_set, g_sne, List.length_set, List.length_append, wp_r3, kk_r3, Int.cast_ofNat_Int, Int.reduceEq, Int.natCast_zero, Int.natCast_one, ws_whileA, wp_isiII, wp_isiIB, wp_isiI_list, wp_isiI_tuple, wp_isiI_str, wp_isiR, tyO_l, tyO_t, kk_isi, kk_isi2, kit_ll, kit_tt, kit_lt, kit_tl, wp_isiN, wp_isiBl, wp_isiS, tyO_d, kit2_NoneType_int, kit2_NoneType_bool, kit2_NoneType_list, kit2_NoneType_tuple, kit2_NoneType_str, kit2_bool_int, kit2_bool_bool, kit2_bool_list, kit2_bool_tuple, kit2_bool_str, kit2_str_int, kit2_str_bool, kit2_str_list, kit2_str_tuple, kit2_str_str, kit2_dict_int, kit2_dict_bool, kit2_dict_list, kit2_dict_tuple, kit2_dict_str, kit2_list_int, kit2_list_bool, kit2_list_str, kit2_tuple_int, kit2_tuple_bool, kit2_tuple_str, kit2_int_list, kit2_int_tuple, kit2_int_str, kf_next, kf_cont, kf_brk, kf_ret, wipeI, wp_lstE, wp_tupE, wp_dctE, wp_lamE, wp_catE, kk_catL, g_appn, g_app0, g_appo, g_setn, g_set0, List.append_assoc, Nat.zero_add, ws_try, wp_isEg, wp_isEt, kk_isE, wp_neS, wp_int2, ↓reduceIte, *])
section
variable {p m t t6 t7 : Nat} {ih ih' : IH} {v sl h : Int} {v2 v3 v4 v5 : IV} {Q : PQ IV} {E : EQ}
abbrev lines11 : List Str := ["line", "line", "line", "line", "line", "line", "line", "line", "line", "line", "line"]
abbrev words5 : List Str := ["cycle", "cycle", "cycle", "reading", "reading"]
theorem w_elt (c : Cs) (ok : CsOk c) {e0 j n : Nat} {x : Str} {o : Option IV} (hj : j < 16) (hW : Wd c (clsJ c j) x) (g : ih[n]? = some (.fn e0 j)) (s : Src0 p m ih) (d : Drawn p ih t t6 t7 v sl h v2 v3 v4 v5) :
    wp (m_callV [9] 1 3 e0 (b_law_word c) (lams_law_all_refused c e0) m_nil (m_var 9) [some (.ref p), some (.ref t), some v2, some v3, some v4, some v5, some (.ref t6), some (.ref t7), o, some (.ref n)] ih) (fun v ih'' => v = .str x ∧ Src0 p m ih'' ∧ Fr p ih ih'' ∧ ih.length ≤ ih''.length) E0 := by
  refine wp_callV ?_
  refine wp.of (a := .ref n) (b := ih) rfl ?_
  refine w_wordE c ok (cl := clsJ c j) (Pz := fun ih' => Src0 p m ih' ∧ Fr p ih ih' ∧ ih.length ≤ ih'.length) hW g ?_ fun ih1 ih2 ⟨h1, h2, h3⟩ l f => ⟨rfl, h1.fx f, h2.trans f.fr h3, by omega⟩
  rw [lamsAt_at]
  exact w_lams c hj s d
theorem IsAll.strs {ih : IH} : ∀ ws : List Str, IsAll ih (ws.map IV.str) (ws.map PyData.str)
  | [] => .nil
  | w :: r => .cons (.str w) (IsAll.strs r)
theorem w_refused (c : Cs) (ok : CsOk c) (s : Src0 p m ih) (hm : m + 60 ≤ 1000000) (k : ∀ ih', Src0 p (m + 60) ih' → Fr p ih ih' → ih.length ≤ ih'.length → Q (.bl true) ih') : wp (m_law_all_refused c [.ref p] ih) Q E := by
  have lp := s.lt
  have k := Hide.mk k
  have c30 : cPow 10 30 = true := by decide
  unfold m_law_all_refused
  rw [wp_defF]
  unfold b_law_all_refused
  obtain ⟨e0, he0⟩ : ∃ e0, e0 = ih.length := ⟨_, rfl⟩
  obtain ⟨ih0, h0⟩ : ∃ ih0, ih0 = ih ++ [MO.clo] := ⟨_, rfl⟩
  have s0 : Src0 p m ih0 := h0 ▸ s.app
  have F0 : Fr p ih ih0 := h0 ▸ Fx.app.fr
  have l0 : ih.length ≤ ih0.length := by rw [h0]; simp
  have l0e : e0 ≤ ih0.length := by rw [he0]; exact l0
  rw [← h0, ← he0]
  have F := Hide.mk F0
  clear h0 F0 he0
  rw [ws_seq]
  generalize hK : ks_seq _ (kd Q) (kdE E) = K
  have hK := Hide.mk hK
  walk_at "run"
  refine w_line c s0 (by omega) fun t v sl h ih1 gt v0 v1 sl0 sl1 h0 h1 tl s1 f1 l1 => ?_
  have F := Hide.mk (F.get.trans f1 (by omega))
  have tp : t ≠ p := by omega
  clear f1 s0
  walk_at "run"
  refine w_odd_line c s1 (by omega) fun v2 ih2 o2 s2 f2 l2 => ?_
  have gt := (f2 t (lt_of_get gt) tp).trans gt
  have F := Hide.mk (F.get.trans f2 (by omega))
  clear f2 s1
  walk_at "run"
  rw [← hK.get, kks_next, ws_seq]
  clear hK
  generalize hK : ks_seq _ (kd Q) (kdE E) = K
  have hK := Hide.mk hK
  obtain ⟨ih3, h3⟩ : ∃ x, x = ih2 ++ [MO.tup [IV.ref t, v2]] := ⟨_, rfl⟩
  have f3 : Fx ih2 ih3 := h3 ▸ Fx.app
  have s3 := s2.fx f3
  have gt := (f3 t (lt_of_get gt)).trans gt
  have o2 := o2.fr (f3.fr (p := p))
  have l3 : ih2.length ≤ ih3.length := by rw [h3]; simp
  have F := Hide.mk (F.get.trans f3.fr (by omega))
  rw [← h3]
  clear h3 f3 s2
  walk_at "run"
  refine w_odd_line c s3 (by omega) fun v3 ih4 o3 s4 f4 l4 => ?_
  have gt := (f4 t (lt_of_get gt) tp).trans gt
  have o2 := o2.fr f4
  have F := Hide.mk (F.get.trans f4 (by omega))
  clear f4 s3 o3
  walk_at "run"
  rw [← hK.get, kks_next, ws_seq]
  clear hK
  generalize hK : ks_seq _ (kd Q) (kdE E) = K
  have hK := Hide.mk hK
  walk_at "run"
  refine w_odd c s4 (by omega) fun v4 ih5 o4 w4 s5 f5 l5 => ?_
  have gt := (f5 t (lt_of_get gt) tp).trans gt
  have o2 := o2.fr f5
  have F := Hide.mk (F.get.trans f5 (by omega))
  clear f5 s4
  walk_at "run"
  refine w_odd c s5 (by omega) fun w ih6 ow ww s6 f6 l6 => ?_
  have gt := (f6 t (lt_of_get gt) tp).trans gt
  have o2 := o2.fr f6
  have o4 := o4.fr f6
  have F := Hide.mk (F.get.trans f6 (by omega))
  clear f6 s5
  have lp6 : p < ih6.length := s6.lt
  walk_at "run"
  refine w_next c (s6.fx Fx.apps) (by decide) ((lit 7 : B 7 3).mono (by decide)) (by omega) fun d ih7 d0 d1 s7 f7 l7 => ?_
  have G7 : ih7[ih6.length]? = _ := (f7 ih6.length (by simp) (by omega)).trans g_app0
  have F7 : Fr p ih6 ih7 := Fx.apps.fr.trans f7 (by simp)
  replace l7 : ih6.length + 1 ≤ ih7.length := by rw [l7]; simp
  have gt := (F7 t (lt_of_get gt) tp).trans gt
  have o2 := o2.fr F7
  have o4 := o4.fr F7
  have ow := ow.fr F7
  have F := Hide.mk (F.get.trans F7 (by omega))
  clear f7 s6 F7
  walk_at "run"
  refine k_pick (xs := [IV.int (-1), IV.int (-10 ^ 30), w]) d0 (by simpa using d1) fun v5 hv5 => ?_
  have o5 : KV p ih7 v5 ∧ whl 0 v5 = false := by
    simp only [List.mem_cons, List.not_mem_nil, or_false] at hv5
    rcases hv5 with e | e | e
    · subst e
      exact ⟨trivial, rfl⟩
    · subst e
      exact ⟨trivial, by decide⟩
    · subst e
      refine ⟨ow, ?_⟩
      cases v5 with
      | int i => cases ww
      | _ => rfl
  obtain ⟨o5, w5⟩ := o5
  clear hv5 G7 ow ww
  walk_at "run"
  rw [← hK.get, kks_next, ws_seq]
  clear hK
  generalize hK : ks_seq _ (kd Q) (kdE E) = K
  have hK := Hide.mk hK
  have lt7 := lt_of_get gt
  walk_at "run"
  rw [← hK.get, kks_next, ws_seq]
  clear hK
  generalize hK : ks_seq _ (kd Q) (kdE E) = K
  have hK := Hide.mk hK
  walk_at "run"
  rw [← hK.get, kks_next]
  clear hK
  obtain ⟨ih8, h8⟩ : ∃ x, x = ih7 ++ [MO.tup [v4, v5], MO.tup [IV.int v, IV.int (sl + 1), IV.int h], MO.tup [IV.int v, IV.int sl, IV.int ((h + 1) % 65)]] := ⟨_, rfl⟩
  have f8 : Fx ih7 ih8 := h8 ▸ Fx.apps
  have g6 : ih8[ih7.length + 1]? = some (.tup [.int v, .int (sl + 1), .int h]) := by rw [h8]; exact g_appn
  have g7 : ih8[ih7.length + 2]? = some (.tup [.int v, .int sl, .int ((h + 1) % 65)]) := by rw [h8]; exact g_appn
  obtain ⟨t6, h6⟩ : ∃ x, x = ih7.length + 1 := ⟨_, rfl⟩
  obtain ⟨t7, h7⟩ : ∃ x, x = ih7.length + 2 := ⟨_, rfl⟩
  rw [← h6] at g6
  rw [← h7] at g7
  rw [← h8, ← h6, ← h7]
  have s8 := s7.fx f8
  have D : Drawn p ih8 t t6 t7 v sl h v2 v3 v4 v5 := ⟨tp, by omega, by omega, (f8 t lt7).trans gt, g6, g7, v0, v1, sl0, sl1, h0, h1, o2.fr f8.fr, o4.fr f8.fr, w4, o5.fr f8.fr, w5⟩
  have l8 : ih7.length ≤ ih8.length := by rw [h8]; simp
  have F := Hide.mk (F.get.trans f8.fr (by omega))
  have L8 : ih.length ≤ ih8.length := by omega
  have E8 : e0 ≤ ih8.length := by omega
  have lp8 : p < ih8.length := s8.lt
  clear h8 f8 s7 g6 g7 h6 h7 gt o2 o4 o5 w4 w5 v0 v1 sl0 sl1 h0 h1 l0 l0e l1 l2 l3 l4 l5 l6 l7 l8 d0 d1 lt7 tl lp6
  walk_at "run"
  unfold lc_law_all_refused_1
  walk_at "run"
  refine ⟨by omega, by omega, by omega, by omega, by omega, by omega, by omega, by omega, by omega, by omega, ?_⟩
  obtain ⟨ihB, hB⟩ : ∃ x, x = ih8 ++ [MO.fn e0 0, MO.lst [IV.ref ih8.length, IV.ref (ih8.length + 2), IV.ref (ih8.length + 3), IV.ref (ih8.length + 4), IV.ref (ih8.length + 5), IV.ref (ih8.length + 6), IV.ref (ih8.length + 7), IV.ref (ih8.length + 8), IV.ref (ih8.length + 9), IV.ref (ih8.length + 10), IV.ref (ih8.length + 11)], MO.fn e0 1, MO.fn e0 2, MO.fn e0 3, MO.fn e0 4, MO.fn e0 5, MO.fn e0 6, MO.fn e0 7, MO.fn e0 8, MO.fn e0 9, MO.fn e0 10] := ⟨_, rfl⟩
  have GB : ∀ j, j < 12 → ihB[ih8.length + j]? = [MO.fn e0 0, MO.lst [IV.ref ih8.length, IV.ref (ih8.length + 2), IV.ref (ih8.length + 3), IV.ref (ih8.length + 4), IV.ref (ih8.length + 5), IV.ref (ih8.length + 6), IV.ref (ih8.length + 7), IV.ref (ih8.length + 8), IV.ref (ih8.length + 9), IV.ref (ih8.length + 10), IV.ref (ih8.length + 11)], MO.fn e0 1, MO.fn e0 2, MO.fn e0 3, MO.fn e0 4, MO.fn e0 5, MO.fn e0 6, MO.fn e0 7, MO.fn e0 8, MO.fn e0 9, MO.fn e0 10][j]? := fun j _ => by rw [hB]; exact g_appn
  have fB : Fx ih8 ihB := hB ▸ Fx.apps
  have lB : ihB.length = ih8.length + 12 := by rw [hB]; simp
  have sB := s8.fx fB
  have DB := D.fr fB.fr
  have F := Hide.mk (F.get.trans fB.fr L8)
  rw [← hB]
  clear hB D s8 fB
  refine lc_words (ns := [ih8.length, ih8.length + 2, ih8.length + 3, ih8.length + 4, ih8.length + 5, ih8.length + 6, ih8.length + 7, ih8.length + 8, ih8.length + 9, ih8.length + 10, ih8.length + 11]) (ws := lines11) sB (GB 1 (by decide)) (by omega) rfl (by simp) (fun i n x hn hx ih' s' fr lx => ?_) fun ihC sC fC lC gC => ?_
  · have A : ∃ j, j < 11 ∧ ihB[n]? = some (.fn e0 j) ∧ x = "line" ∧ n ≠ p := by
      match i, hn, hx with
      | 0, hn, hx => cases hn; cases hx; exact ⟨0, by decide, GB 0 (by decide), rfl, by omega⟩
      | 1, hn, hx => cases hn; cases hx; exact ⟨1, by decide, GB 2 (by decide), rfl, by omega⟩
      | 2, hn, hx => cases hn; cases hx; exact ⟨2, by decide, GB 3 (by decide), rfl, by omega⟩
      | 3, hn, hx => cases hn; cases hx; exact ⟨3, by decide, GB 4 (by decide), rfl, by omega⟩
      | 4, hn, hx => cases hn; cases hx; exact ⟨4, by decide, GB 5 (by decide), rfl, by omega⟩
      | 5, hn, hx => cases hn; cases hx; exact ⟨5, by decide, GB 6 (by decide), rfl, by omega⟩
      | 6, hn, hx => cases hn; cases hx; exact ⟨6, by decide, GB 7 (by decide), rfl, by omega⟩
      | 7, hn, hx => cases hn; cases hx; exact ⟨7, by decide, GB 8 (by decide), rfl, by omega⟩
      | 8, hn, hx => cases hn; cases hx; exact ⟨8, by decide, GB 9 (by decide), rfl, by omega⟩
      | 9, hn, hx => cases hn; cases hx; exact ⟨9, by decide, GB 10 (by decide), rfl, by omega⟩
      | 10, hn, hx => cases hn; cases hx; exact ⟨10, by decide, GB 11 (by decide), rfl, by omega⟩
      | i + 11, hn, hx => cases hn
    obtain ⟨j, hj, g, rfl, np⟩ := A
    have g := (fr n (lt_of_get g) np).trans g
    have W := w_elt c ok (o := some (.ref (ih8.length + 1))) (j := j) (x := "line") (by omega) (.inl ⟨if_pos hj, rfl⟩) g s' (DB.fr fr)
    exact wp.imp W (fun _ _ ⟨a, b, c⟩ => ⟨a, b.mono (by omega), c⟩) fun _ _ h => h
  have DC := DB.fr fC
  have F := Hide.mk (F.get.trans fC (by omega))
  clear GB DB sB fC
  walk_at "run"
  refine wp_mulL (xs := [IV.str "line"]) (by walk_at "run") (by decide) (by decide) (by decide) ?_
  obtain ⟨ihE, hE⟩ : ∃ x, x = ihC ++ [MO.lst [IV.str "line"]] ++ [MO.lst (List.replicate (Int.toNat 11) [IV.str "line"]).flatten] := ⟨_, rfl⟩
  have fE : Fx ihC ihE := by rw [hE, List.append_assoc]; exact Fx.apps
  have lE : ihE.length = ihC.length + 2 := by rw [hE]; simp
  have gE : ihE[ihC.length + 1]? = some (.lst (lines11.map IV.str)) := by rw [hE, List.append_assoc]; exact g_appn
  have gC := (fE _ (lt_of_get gC)).trans gC
  have sE := sC.fx fE
  have DE := DC.fr fE.fr
  have F := Hide.mk (F.get.trans fE.fr (by omega))
  rw [← hE, show (ihC ++ [MO.lst [IV.str "line"]]).length = ihC.length + 1 by simp]
  rw [lB] at gC
  clear hE fE DC sC
  rw [kk_un]
  refine wp_ne (.lst gC rfl (IsAll.strs _)) (.lst gE rfl (IsAll.strs _)) (by decide +kernel) (by decide +kernel) ?_
  have eq : (!PyData.eqv (.list (lines11.map PyData.str)) (.list (lines11.map PyData.str))) = false := by decide +kernel
  rw [eq]
  have lpE : p < ihE.length := sE.lt
  replace lE : ihC.length + 2 ≤ ihE.length := by omega
  clear gC gE eq
  walk_at "run"
  unfold lc_law_all_refused_2
  walk_at "run"
  refine ⟨by omega, by omega, by omega, by omega, by omega, ?_⟩
  obtain ⟨ihG, hG⟩ : ∃ x, x = ihE ++ [MO.fn e0 11, MO.lst [IV.ref ihE.length, IV.ref (ihE.length + 2), IV.ref (ihE.length + 3), IV.ref (ihE.length + 4), IV.ref (ihE.length + 5)], MO.fn e0 12, MO.fn e0 13, MO.fn e0 14, MO.fn e0 15] := ⟨_, rfl⟩
  have GB : ∀ j, j < 6 → ihG[ihE.length + j]? = [MO.fn e0 11, MO.lst [IV.ref ihE.length, IV.ref (ihE.length + 2), IV.ref (ihE.length + 3), IV.ref (ihE.length + 4), IV.ref (ihE.length + 5)], MO.fn e0 12, MO.fn e0 13, MO.fn e0 14, MO.fn e0 15][j]? := fun j _ => by rw [hG]; exact g_appn
  have fG : Fx ihE ihG := hG ▸ Fx.apps
  have lG : ihG.length = ihE.length + 6 := by rw [hG]; simp
  have sG := sE.fx fG
  have DG := DE.fr fG.fr
  have F := Hide.mk (F.get.trans fG.fr (by omega))
  rw [← hG]
  clear hG DE sE fG
  refine lc_words (ns := [ihE.length, ihE.length + 2, ihE.length + 3, ihE.length + 4, ihE.length + 5]) (ws := words5) sG (GB 1 (by decide)) (by omega) rfl (by simp) (fun i n x hn hx ih' s' fr lx => ?_) fun ihH sH fH lH gH => ?_
  · have A : ∃ j, j < 16 ∧ ihG[n]? = some (.fn e0 j) ∧ Wd c (clsJ c j) x ∧ n ≠ p := by
      match i, hn, hx with
      | 0, hn, hx => cases hn; cases hx; exact ⟨11, by decide, GB 0 (by decide), .inr (.inl ⟨rfl, rfl⟩), by omega⟩
      | 1, hn, hx => cases hn; cases hx; exact ⟨12, by decide, GB 2 (by decide), .inr (.inl ⟨rfl, rfl⟩), by omega⟩
      | 2, hn, hx => cases hn; cases hx; exact ⟨13, by decide, GB 3 (by decide), .inr (.inl ⟨rfl, rfl⟩), by omega⟩
      | 3, hn, hx => cases hn; cases hx; exact ⟨14, by decide, GB 4 (by decide), .inr (.inr ⟨rfl, rfl⟩), by omega⟩
      | 4, hn, hx => cases hn; cases hx; exact ⟨15, by decide, GB 5 (by decide), .inr (.inr ⟨rfl, rfl⟩), by omega⟩
      | i + 5, hn, hx => cases hn
    obtain ⟨j, hj, g, hW, np⟩ := A
    have g := (fr n (lt_of_get g) np).trans g
    have W := w_elt c ok (o := some (.ref (ihE.length + 1))) (j := j) (x := x) hj hW g s' (DG.fr fr)
    exact wp.imp W (fun _ _ ⟨a, b, c⟩ => ⟨a, b.mono (by omega), c⟩) fun _ _ h => h
  have F := Hide.mk (F.get.trans fH (by omega))
  clear GB DG sG fH
  have sH := Hide.mk sH
  replace lG : ihE.length + 6 ≤ ihG.length := by omega
  have LG : ih.length ≤ ihG.length := by omega
  obtain ⟨gq, hgq⟩ : ∃ x, x = ihG.length := ⟨_, rfl⟩
  rw [← hgq] at lH gH LG
  rw [← hgq]
  clear hgq lG
  walk_at "run"
  refine wp_mulL (xs := [IV.str "cycle"]) (by walk_at "run") (by decide) (by decide) (by decide) ?_
  rw [show (List.replicate (Int.toNat 3) [IV.str "cycle"]).flatten = [IV.str "cycle", IV.str "cycle", IV.str "cycle"] from rfl]
  walk_at "run"
  refine wp_mulL (xs := [IV.str "reading"]) (by walk_at "run") (by decide) (by decide) (by decide) ?_
  rw [show (List.replicate (Int.toNat 2) [IV.str "reading"]).flatten = [IV.str "reading", IV.str "reading"] from rfl]
  walk_at "run"
  have gI := fun L => (g_appo (L := L) lH).trans gH
  refine wp_eq (.lst (gI _) rfl (IsAll.strs _)) (.lst g_appn rfl (IsAll.strs words5)) (by decide +kernel) (by decide +kernel) ?_
  have eq : PyData.eqv (.list (words5.map PyData.str)) (.list (words5.map PyData.str)) = true := by decide +kernel
  rw [eq]
  exact k.get _ ((sH.get.fx Fx.apps).mono (by simp only [List.length_cons, List.length_nil]; omega)) (F.get.trans Fx.apps.fr (by omega)) (by simp; omega)
end
end L3
/-! K17e: by name and by position. (L15) (L17) -/
namespace L3
open PySem PySem.Spec PyProof.Rows L2
local macro_rules | `(tactic| walk_at "get") => `(tactic| simp (disch := first | assumption | omega | (simp only [List.length_append, List.length_set, List.length_cons, List.length_nil, List.length_map] <;> omega) | fail) only [g_new, g_nw, g_old, g_set, g_sne, List.length_append, List.length_set, List.length_cons, List.length_nil, List.length_map, List.map_map, Function.comp_def, xs_lst, xs_tup, isL_lst, isL_tup, ↓reduceIte, *])
local macro_rules | `(tactic| walk_at "fr") => `(tactic| first | (intro _ _ _; simp (disch := first | assumption | omega | (simp only [List.length_append, List.length_set, List.length_cons, List.length_nil, List.length_map] <;> omega) | fail) only [g_new, g_nw, g_old, g_set, g_sne, List.length_append, List.length_set, List.length_cons, List.length_nil, List.length_map, List.map_map, Function.comp_def, xs_lst, xs_tup, isL_lst, isL_tup, ↓reduceIte, *]) | (intro _ _; simp (disch := first | assumption | omega | (simp only [List.length_append, List.length_set, List.length_cons, List.length_nil, List.length_map] <;> omega) | fail) only [g_new, g_nw, g_old, g_set, g_sne, List.length_append, List.length_set, List.length_cons, List.length_nil, List.length_map, List.map_map, Function.comp_def, xs_lst, xs_tup, isL_lst, isL_tup, ↓reduceIte, *]))
local macro_rules | `(tactic| walk_at "run") => `(tactic| simp -implicitDefEqProofs (disch := first | assumption | omega | (simp only [List.length_append, List.length_set, List.length_cons, List.length_nil, List.length_map] <;> omega) | fail) only [wp_ok, wp_exc, wp_stuck, ws_ok, ws_exc, ws_stuck, wp_op, kk_op, kk_un, wp_un, wp_cons, kk_cons, kk_cons2, wp_nil, wp_c, wp_app, wp_if, kk_if1, kk_if0, wp_and, kk_and1, kk_and0, wp_or, kk_or1, kk_or0, wp_not, kk_not, wp_tb, kk_tb, wp_andV, kk_andV1, kk_andV0, wp_orV, kk_orV1, kk_orV0, wp_notV, kk_notV, wp_noneS, wp_some, kk_some, wp_sl, kk_sl, kk_sl2, kk_sl3, wp_mL, kk_mL, kk_mL2, wp_mL0, kk_mL0, wp_chain, kk_ch, kk_ch2, kk_ch31, kk_ch30, ws_set, kks_nm, kks_g, kks_tup, kks_lst, ws_expr, kks_expr, ws_ret, kks_ret, ws_retN, ws_pass, ws_brk, ws_cont, ws_raise, ws_if, kks_if1, kks_if0, ws_seq, kks_next, kks_retS, kks_brk, kks_cont, kk_augE, ws_aug, kks_aug, kks_aug2, ws_par, kks_par, ws_setL, kks_sl, kks_sl2, kks_sl3, wp_def, kkd_ret, kkd_next, kkdE, kkE, ws_for, wp_lc, wp_r1, kk_r1, wp_r2, kk_r2, wp_il, wp_it, wp_ie, wp_iz, kk_il, kk_il2, kk_it, kk_it2, kk_ie, kk_ie2, kk_iz, kk_iz2, lAt_k, k_lAtL, k_lAtO, k_lAtT, wp_int, wp_add, wp_addI, wp_sub, wp_neg, wp_lt, wp_le, wp_gt, wp_ge, wp_max2, wp_min2, wp_abs, wp_mulI, wp_mul, wp_fdiv, wp_mod, wp_shl, wp_shr, wp_pow, wp_isN, wp_notN, wp_eqI, wp_neI, wp_ix, kk_ix, kk_ix2, wp_len, kk_lenL, kk_lenT, kk_lenO, kk_lenP, wp_appd, kk_app1, isL_k, kk_isL, startI_cons, startI_nil, rep_succ, rep_zero, List.getElem?_cons_zero, List.getElem?_cons_succ, List.set_cons_zero, List.set_cons_succ, f_call, m_var, List.append_nil, List.nil_append, List.cons_append, List.length_cons, List.length_nil, if_true, if_false, g_tup, g_lst, g_cons, g_nil, g_nm, Option.bind_some, kks_g, atI_0, atI_1, atI_2, atI_3, atI_4, atI_5, atI_6, atI_7, atI_8, atI_9, atI_10, atI_11, atI_12, atI_last, cutI_1, ixN_30, ixN_31, ixN_32, Int.toNat_zero, Int.reduceToNat, Int.reduceNeg, xs_lst, xs_tup, xs_ro, xs_rot, isL_lst, isL_tup, isL_ro, isL_rot, isT_tup, isT_rot, Bool.false_eq_true, Bool.true_eq_false, Bool.not_true, Bool.not_false, decide_true, decide_false, Int.reduceLT, Int.reduceLE, Nat.reduceLT, Nat.reduceLeDiff, Nat.reduceAdd, Nat.reduceEqDiff, Bool.not_eq_true, true_and, and_true, and_self, eq_self, g_new, g_nw, g_old, g_set, g_sne, List.length_set, List.length_append, wp_r3, kk_r3, Int.cast_ofNat_Int, Int.reduceEq, Int.natCast_zero, Int.natCast_one, ws_whileA, wp_isiII, wp_isiIB, wp_isiI_list, wp_isiI_tuple, wp_isiI_str, wp_isiR, tyO_l, tyO_t, kk_isi, kk_isi2, kit_ll, kit_tt, kit_lt, kit_tl, wp_isiN, wp_isiBl, wp_isiS, tyO_d, kit2_NoneType_int, kit2_NoneType_bool, kit2_NoneType_list, kit2_NoneType_tuple, kit2_NoneType_str, kit2_bool_int, kit2_bool_bool, kit2_bool_list, kit2_bool_tuple, kit2_bool_str, kit2_str_int, kit2_str_bool, kit2_str_list, kit2_str_tuple, kit2_str_str, kit2_dict_int, kit2_dict_bool, kit2_dict_list, kit2_dict_tuple, kit2_dict_str, kit2_list_int, kit2_list_bool, kit2_list_str, kit2_tuple_int, kit2_tuple_bool, kit2_tuple_str, kit2_int_list, kit2_int_tuple, kit2_int_str, kf_next, kf_cont, kf_brk, kf_ret, wipeI, wp_lstE, wp_tupE, wp_dctE, wp_lamE, wp_catE, kk_catL, g_appn, g_app0, g_appo, g_setn, g_set0, List.append_assoc, Nat.zero_add, ws_try, wp_isEg, wp_isEt, kk_isE, wp_neS, wp_int2, ↓reduceIte, *])
section
variable {p m t : Nat} {ih ih' : IH} {Q : PQ IV} {E : EQ}
/-- two of each, alike -/
theorem lc_alike {env : Env} {vs : List Nat} {i j q : Nat} {me : Env → IH → Res IV} {xs : List IV} (hq : ih[q]? = some (.lst xs)) (hz : xs.length < 1000)
    (hx : ∀ x ∈ xs, ∃ (t : Nat) (v w : IV) (d : PyData), x = .ref t ∧ ih[t]? = some (.tup [v, w]) ∧ Is ih v d ∧ Is ih w d ∧ SeqAt.shaped d = true)
    (he : ∀ v w ih', me (((wipeI env vs).set i (some v)).set j (some w)) ih' = f_eq v w ih')
    (k : Q (.ref ih.length) (ih ++ [.lst (xs.map fun _ => .bl true)])) : k_lc vs (g_tup 2 (g_cons (g_nm i) (g_cons (g_nm j) g_nil))) n_yes me env Q E (.lst q) ih := by
  have ql := lt_of_get hq
  refine lc_gen xs.length (fun k acc ih' => acc = (xs.take k).map (fun _ => .bl true) ∧ ih' = ih ++ [.lst acc]) (by unfold Src.size; dsimp only; rw [hq]; exact Nat.le_refl _) ⟨rfl, rfl⟩ (fun k acc ih' hk ⟨ha, hi⟩ hd => ?_) (fun acc ih' ⟨ha, hi⟩ _ => ?_) fun acc ih' ⟨ha, hi⟩ hd => ?_
  · have fx : Fx ih ih' := hi ▸ Fx.app
    obtain ⟨t, v, w, d, hr, ht, h1, h2, hs⟩ := hx _ (List.getElem_mem hk)
    refine ⟨.ref t, ih', _, turn_lst ((fx q ql).trans hq) rfl (by show xs[k]? = _; rw [List.getElem?_eq_getElem hk, hr]), g_pairR ((fx t (lt_of_get ht)).trans ht), by
      rw [show n_yes _ _ = Res.ok true _ from rfl, wp_ok]
      exact ⟨(fun h => nomatch h), fun _ => by
        rw [he]
        refine wp_eq (h1.fx fx) (h2.fx fx) hs hs ?_
        have e : PyData.eqv d d = true := eqv_same hs
        rw [e]
        refine ⟨hd, by rw [ha, List.length_map, List.length_take]; omega, ?_, ?_⟩
        · rw [ha, List.take_add_one, List.getElem?_eq_getElem hk, List.map_append]
          rfl
        · rw [hi, set_append_last]⟩⟩
  · have fx : Fx ih ih' := hi ▸ Fx.app
    exact stop_lst ((fx q ql).trans hq) rfl
  · rw [ha, List.take_length] at hi
    rw [hi]
    exact k
/-- flat data: an int, None, a tuple of flat items -/
def Fla (ih : IH) (v : IV) (d : PyData) : Prop := (∃ i, v = .int i ∧ d = .int i) ∨ (v = .non ∧ d = .none) ∨ ∃ t o ds, v = .ref t ∧ ih[t]? = some o ∧ o.isT = true ∧ IsAll [] o.xs ds ∧ d = .tuple ds
theorem ext_nil {ih : IH} : Ext [] ih := fun n o h => by simp at h
theorem IsAll.up {ih : IH} : ∀ {xs : List IV} {ds : List PyData}, IsAll [] xs ds → IsAll ih xs ds
  | _, _, .nil => .nil
  | _, _, .cons a b => .cons (Is.ext ext_nil _ _ a) (IsAll.up b)
theorem Fla.is {v : IV} {d : PyData} (h : Fla ih v d) : Is ih v d := by
  rcases h with ⟨i, rfl, rfl⟩ | ⟨rfl, rfl⟩ | ⟨t, o, ds, rfl, g, ht, a, rfl⟩
  · exact .int i
  · exact .non
  · exact .tup g ht a.up
def Tps (ih ih' : IH) : Prop := ∀ (t : Nat) (o : MO), ih[t]? = some o → o.isT = true → ih'[t]? = some o
theorem Fla.tp {v : IV} {d : PyData} (h : Fla ih v d) (f : Tps ih ih') : Fla ih' v d := by
  rcases h with h | h | ⟨t, o, ds, rfl, g, ht, a, rfl⟩
  · exact .inl h
  · exact .inr (.inl h)
  · exact .inr (.inr ⟨t, o, ds, rfl, f t o g ht, ht, a, rfl⟩)
theorem Fx.tp (f : Fx ih ih') : Tps ih ih' := fun t o g _ => (f t (lt_of_get g)).trans g
def Twi (ih : IH) (y : IV) : Prop := ∃ (t : Nat) (v w : IV) (d : PyData), y = .ref t ∧ ih[t]? = some (.tup [v, w]) ∧ Fla ih v d ∧ Fla ih w d ∧ SeqAt.shaped d = true
theorem Twi.tp {y : IV} (h : Twi ih y) (f : Tps ih ih') : Twi ih' y := by
  obtain ⟨t, v, w, d, e, g, a, b, s⟩ := h
  exact ⟨t, v, w, d, e, f t _ g rfl, a.tp f, b.tp f, s⟩
def Al (z : Nat) (ih : IH) (n : Nat) : Prop := ∃ ys, ih[z]? = some (.lst ys) ∧ ys.length = n ∧ ∀ y ∈ ys, Twi ih y
theorem Al.fx {z n : Nat} (h : Al z ih n) (f : Fx ih ih') : Al z ih' n := by
  obtain ⟨ys, g, l, a⟩ := h
  exact ⟨ys, (f z (lt_of_get g)).trans g, l, fun y hy => (a y hy).tp f.tp⟩
theorem Al.push {z n t : Nat} {ys : List IV} {v w : IV} {d : PyData} (g : ih[z]? = some (.lst ys)) (l : ys.length = n) (a : ∀ y ∈ ys, Twi ih y) (gt : ih[t]? = some (.tup [v, w])) (hv : Fla ih v d) (hw : Fla ih w d) (s : SeqAt.shaped d = true) : Al z (ih.set z (.lst (ys ++ [.ref t]))) (n + 1) := by
  have f : Tps ih (ih.set z (.lst (ys ++ [.ref t]))) := fun j o h ho => by
    rw [g_sne (fun e => by subst e; rw [g] at h; cases h; cases ho)]
    exact h
  refine ⟨_, g_set (lt_of_get g), by simp [l], fun y hy => ?_⟩
  rcases List.mem_append.mp hy with h | h
  · exact (a y h).tp f
  · rw [List.mem_singleton] at h
    exact ⟨t, v, w, d, h, f t _ gt rfl, hv.tp f, hw.tp f, s⟩
theorem push {z : Nat} {ys : List IV} {v w : IV} {d : PyData} (g : ih[z]? = some (.lst ys)) (a : ∀ y ∈ ys, Twi ih y) (hv : Fla ih v d) (hw : Fla ih w d) (sh : SeqAt.shaped d = true) :
    ∃ ih2, ih2 = (ih ++ [MO.tup [v, w]]).set z (.lst (ys ++ [.ref ih.length])) ∧ ih2[z]? = some (.lst (ys ++ [.ref ih.length])) ∧ (∀ y ∈ ys ++ [.ref ih.length], Twi ih2 y) ∧ Fr z ih ih2 ∧ ih2.length = ih.length + 1 := by
  have zl := lt_of_get g
  have g1 : (ih ++ [MO.tup [v, w]])[z]? = some (.lst ys) := by rw [g_appo zl]; exact g
  obtain ⟨ys', e1, e2, e3⟩ := Al.push g1 rfl (fun y hy => (a y hy).tp Fx.apps.tp) (t := ih.length) g_app0 (hv.tp Fx.apps.tp) (hw.tp Fx.apps.tp) sh
  have e4 : ((ih ++ [MO.tup [v, w]]).set z (.lst (ys ++ [.ref ih.length])))[z]? = some (.lst (ys ++ [.ref ih.length])) := g_set (by simp; omega)
  rw [e4] at e1
  cases e1
  exact ⟨_, rfl, e4, e3, fun n h1 h2 => by rw [g_sne (Ne.symm h2)]; exact g_appo h1, by simp⟩
theorem Src0.frz {z : Nat} (s : Src0 p m ih) (f : Fr z ih ih') (h : z ≠ p) : Src0 p m ih' := by
  obtain ⟨a, b, k, g, r⟩ := s
  exact ⟨a, b, k, (f p (lt_of_get g) (Ne.symm h)).trans g, r⟩
theorem is_run {x : IV} {o : Option (Int × Option Int)} (h : Is ih x (runD o)) : Fla ih x (runD o) := by
  cases o with
  | none =>
    cases h
    exact .inr (.inl ⟨rfl, rfl⟩)
  | some r =>
    obtain ⟨a, b⟩ := r
    cases h with
    | tup g ht q =>
      refine .inr (.inr ⟨_, _, _, rfl, g, ht, ?_, rfl⟩)
      generalize hz : MO.xs _ = zs at q ⊢
      cases q with
      | cons h1 q =>
        cases q with
        | cons h2 q =>
          cases q with
          | nil =>
            cases h1
            cases b with
            | none => cases h2; exact .cons (.int _) (.cons .non .nil)
            | some y => cases h2; exact .cons (.int _) (.cons (.int _) .nil)
theorem ofO_fla (o : Option Int) : Fla ih (ofO o) (oD o) := by
  cases o with
  | none => exact .inr (.inl ⟨rfl, rfl⟩)
  | some x => exact .inl ⟨x, rfl, rfl⟩
theorem w_named (c : Cs) (s : Src0 p m ih) (hm : m + 30 ≤ 1000000) (k : ∀ ih', Src0 p (m + 30) ih' → Fr p ih ih' → ih.length ≤ ih'.length → Q (.bl true) ih') : wp (m_law_named c [.ref p] ih) Q E := by
  have lp := s.lt
  have k := Hide.mk k
  unfold m_law_named b_law_named
  walk_at "run"
  refine w_line c s (by omega) fun t v sl h ih1 gt v0 v1 sl0 sl1 h0 h1 tl s1 f1 l1 => ?_
  have F := Hide.mk f1
  have tp : t ≠ p := by omega
  clear f1 s
  walk_at "run"
  refine w_line c s1 (by omega) fun u w sk kk ih2 gu w0 w1 sk0 sk1 k0 k1 ul s2 f2 l2 => ?_
  have F := Hide.mk (F.get.trans f2 (by omega))
  have up : u ≠ p := by omega
  have gt := (f2 t (lt_of_get gt) tp).trans gt
  clear f2 s1
  have lp2 : p < ih2.length := s2.lt
  have lt2 := lt_of_get gt
  have lu2 := lt_of_get gu
  walk_at "run"
  refine w_next c (s2.fx Fx.apps) (by decide) ((lit 7 : B 7 30).mono (by decide)) (by omega) fun g ih3 g0 g1 s3 f3 l3 => ?_
  have gn : ih3[ih2.length]? = some (.tup [.int w, .int sl, .int h]) := (f3 ih2.length (by simp) (by omega)).trans g_app0
  have F3 : Fr p ih2 ih3 := Fx.apps.fr.trans f3 (by simp)
  have gt := (F3 t lt2 tp).trans gt
  have gu := (F3 u lu2 up).trans gu
  have F := Hide.mk (F.get.trans F3 (by omega))
  replace l3 : ih2.length + 1 ≤ ih3.length := by rw [l3]; simp
  obtain ⟨tn, htn⟩ : ∃ tn, tn = ih2.length := ⟨_, rfl⟩
  have np : tn ≠ p := by omega
  rw [← htn] at gn
  rw [← htn]
  clear f3 F3 s2 htn
  have T := trip_mk gt (by omega) (by omega) sl0 (by omega) h0 h1
  have U := trip_mk gu (by omega) (by omega) sk0 (by omega) k0 k1
  have N := trip_mk gn (by omega) (by omega) sl0 (by omega) h0 h1
  have gB : B 100 (g - 15) := B.mono (show B 10 (g - 15) from by unfold B; omega) (by decide)
  have tB : B 8000 (3 : Int) := (lit 2 : B 2 3).mono (by decide)
  walk_at "run"
  refine wp_callK ⟨rfl, rfl⟩ ?_
  show wp (m_line_reading c [.ref t, .int 3] ih3) _ _
  rw [q_lread c T (by decide) tB]
  walk_at "run"
  rw [q_lread c T (by decide) tB]
  walk_at "run"
  refine wp_callK ⟨rfl, rfl⟩ ?_
  show wp (m_first_reach c [.ref t, .int (g - 15)] _) _ _
  rw [q_reach c (T.fx Fx.apps) (gB.mono (by decide))]
  walk_at "run"
  rw [q_reach c (T.fx Fx.apps) (gB.mono (by decide))]
  walk_at "run"
  generalize eU : IV.int (rd v sl (2 ^ h.toNat) 3) = u1
  generalize eW : rch v sl (2 ^ h.toNat) (g - 15) = u2
  obtain ⟨z, hz⟩ : ∃ z, z = ih3.length + 1 := ⟨_, rfl⟩
  obtain ⟨ihA, hA⟩ : ∃ x, x = ih3 ++ [MO.tup [u1, u1], MO.lst [IV.ref ih3.length, IV.ref (ih3.length + 2)], MO.tup [ofO u2, ofO u2]] := ⟨_, rfl⟩
  rw [← hA, ← hz]
  have fA : Fx ih3 ihA := hA ▸ Fx.apps
  have lA : ihA.length = ih3.length + 3 := by rw [hA]; simp
  have G0 : ihA[ih3.length]? = some (.tup [u1, u1]) := by rw [hA]; exact g_app0
  have gz : ihA[z]? = some (.lst [IV.ref ih3.length, IV.ref (ih3.length + 2)]) := by rw [hA, hz]; exact g_appn
  have G2 : ihA[ih3.length + 2]? = some (.tup [ofO u2, ofO u2]) := by rw [hA]; exact g_appn
  have aA : ∀ y ∈ [IV.ref ih3.length, IV.ref (ih3.length + 2)], Twi ihA y := fun y hy => by
    simp only [List.mem_cons, List.not_mem_nil, or_false] at hy
    rcases hy with e | e <;> subst e
    · exact ⟨_, _, _, .int (rd v sl (2 ^ h.toNat) 3), rfl, G0, .inl ⟨_, eU.symm, rfl⟩, .inl ⟨_, eU.symm, rfl⟩, shaped_int _⟩
    · exact ⟨_, _, _, oD u2, rfl, G2, ofO_fla _, ofO_fla _, shaped_oD _⟩
  have sA := s3.fx fA
  have F := Hide.mk (F.get.trans fA.fr (by omega))
  have gt := (fA t (lt_of_get gt)).trans gt
  have gu := (fA u (lt_of_get gu)).trans gu
  have gn := (fA tn (lt_of_get gn)).trans gn
  have T := T.fx fA
  have U := U.fx fA
  have N := N.fx fA
  have zlA : z < ihA.length := by omega
  have zp : z ≠ p := by omega
  replace lA : ih3.length + 3 ≤ ihA.length := by omega
  have zo : ih.length ≤ z := by omega
  generalize hys : [IV.ref ih3.length, IV.ref (ih3.length + 2)] = ys at gz aA
  have ly : ys.length = 2 := by rw [← hys]; rfl
  clear hA fA G0 G2 hys eU eW s3 hz lt2 lu2
  refine wp_callK ⟨rfl, rfl⟩ ?_
  show wp (m_shows_run c [.ref t, .int (g - 15)] ihA) _ _
  refine w_shows c T (gB.mono (by decide)) fun x ihB hx fB lB => ?_
  have gz := (fB z zlA).trans gz
  have aB : ∀ y ∈ ys, Twi ihB y := fun y hy => (aA y hy).tp fB.tp
  have gt := (fB t (lt_of_get gt)).trans gt
  have gu := (fB u (lt_of_get gu)).trans gu
  have gn := (fB tn (lt_of_get gn)).trans gn
  have sB := sA.fx fB
  have F := Hide.mk (F.get.trans fB.fr (by omega))
  have zlB : z < ihB.length := by omega
  have T := T.fx fB
  have U := U.fx fB
  have N := N.fx fB
  clear fB aA sA
  walk_at "run"
  refine w_shows c T (gB.mono (by decide)) fun y ihC hy fC lC => ?_
  have hx := (is_run hx).tp fC.tp
  have hy := is_run hy
  have gz := (fC z zlB).trans gz
  have aC : ∀ y ∈ ys, Twi ihC y := fun y hy => (aB y hy).tp fC.tp
  have gt := (fC t (lt_of_get gt)).trans gt
  have gu := (fC u (lt_of_get gu)).trans gu
  have gn := (fC tn (lt_of_get gn)).trans gn
  have sC := sB.fx fC
  have F := Hide.mk (F.get.trans fC.fr (by omega))
  have zlC : z < ihC.length := by omega
  have T := T.fx fC
  have U := U.fx fC
  have N := N.fx fC
  clear fC aB sB
  walk_at "run"
  have gz0 := gz
  obtain ⟨ihD, eD, gz, aD, fD, lD⟩ := push gz aC (v := x) (w := y) (d := _) hx hy (shaped_runD _)
  rw [← eD]
  have lyys2 : (ys ++ [IV.ref ihC.length]).length = 3 := by simp [ly]
  replace ly := lyys2
  generalize ys ++ [IV.ref ihC.length] = ys2 at gz aD ly
  have zlD : z < ihD.length := by omega
  have nz : ∀ n xs, ihC[n]? = some (MO.tup xs) → n ≠ z := fun n xs h e => by rw [e, gz0] at h; cases h
  have gt := (fD t (lt_of_get gt) (nz _ _ gt)).trans gt
  have gu := (fD u (lt_of_get gu) (nz _ _ gu)).trans gu
  have gn := (fD tn (lt_of_get gn) (nz _ _ gn)).trans gn
  have sD := sC.frz fD zp
  have F := Hide.mk (show Fr p ih ihD from fun n h1 h2 => (fD n (by omega) (by omega)).trans (F.get n h1 h2))
  replace lD : ihC.length + 1 ≤ ihD.length := by omega
  clear eD gz0 fD aC sC nz lyys2
  have T := trip_mk gt (by omega) (by omega) sl0 (by omega) h0 h1
  have U := trip_mk gu (by omega) (by omega) sk0 (by omega) k0 k1
  have N := trip_mk gn (by omega) (by omega) sl0 (by omega) h0 h1
  have W : Two t u ⟨v, sl, 2 ^ h.toNat⟩ ⟨w, sk, 2 ^ kk.toNat⟩ ihD := ⟨⟨h, T, rfl⟩, ⟨kk, U, rfl⟩⟩
  clear hx hy
  refine wp_callK ⟨rfl, rfl⟩ ?_
  show wp (m_first_apart c [.ref t, .ref u] ihD) _ _
  refine w_fapart c W fun x ihG hx fG lG => ?_
  have gz := (fG z zlD).trans gz
  have aG : ∀ y ∈ ys2, Twi ihG y := fun y hy => (aD y hy).tp fG.tp
  have gt := (fG t (lt_of_get gt)).trans gt
  have gu := (fG u (lt_of_get gu)).trans gu
  have gn := (fG tn (lt_of_get gn)).trans gn
  have sG := sD.fx fG
  have F := Hide.mk (F.get.trans fG.fr (by omega))
  have zlG : z < ihG.length := by omega
  have T := T.fx fG
  have U := U.fx fG
  have N := N.fx fG
  have W := W.fx fG
  clear fG aD sD
  walk_at "run"
  refine w_fapart c W fun y ihH hy fH lH => ?_
  obtain rfl := hx.uniq hy
  have gz := (fH z zlG).trans gz
  have aH : ∀ y ∈ ys2, Twi ihH y := fun y hy => (aG y hy).tp fH.tp
  have gt := (fH t (lt_of_get gt)).trans gt
  have gu := (fH u (lt_of_get gu)).trans gu
  have gn := (fH tn (lt_of_get gn)).trans gn
  have sH := sG.fx fH
  have F := Hide.mk (F.get.trans fH.fr (by omega))
  have zlH : z < ihH.length := by omega
  have T := T.fx fH
  have U := U.fx fH
  have N := N.fx fH
  clear fH aG sG hx hy W
  walk_at "run"
  have gz0 := gz
  obtain ⟨ihI, eI, gz, aI, fI, lI⟩ := push gz aH (v := ofO x) (w := ofO x) (d := oD x) (ofO_fla _) (ofO_fla _) (shaped_oD _)
  rw [← eI]
  have lyys3 : (ys2 ++ [IV.ref ihH.length]).length = 4 := by simp [ly]
  replace ly := lyys3
  generalize ys2 ++ [IV.ref ihH.length] = ys3 at gz aI ly
  have zlI : z < ihI.length := by omega
  have nz : ∀ n xs, ihH[n]? = some (MO.tup xs) → n ≠ z := fun n xs h e => by rw [e, gz0] at h; cases h
  have gt := (fI t (lt_of_get gt) (nz _ _ gt)).trans gt
  have gu := (fI u (lt_of_get gu) (nz _ _ gu)).trans gu
  have gn := (fI tn (lt_of_get gn) (nz _ _ gn)).trans gn
  have sI := sH.frz fI zp
  have F := Hide.mk (show Fr p ih ihI from fun n h1 h2 => (fI n (by omega) (by omega)).trans (F.get n h1 h2))
  replace lI : ihH.length + 1 ≤ ihI.length := by omega
  clear eI gz0 fI aH sH nz lyys3
  have T := trip_mk gt (by omega) (by omega) sl0 (by omega) h0 h1
  have U := trip_mk gu (by omega) (by omega) sk0 (by omega) k0 k1
  have N := trip_mk gn (by omega) (by omega) sl0 (by omega) h0 h1
  have W : Two t u ⟨v, sl, 2 ^ h.toNat⟩ ⟨w, sk, 2 ^ kk.toNat⟩ ihI := ⟨⟨h, T, rfl⟩, ⟨kk, U, rfl⟩⟩
  refine wp_callK ⟨rfl, rfl⟩ ?_
  show wp (m_first_ahead c [.ref t, .ref u] ihI) _ _
  refine w_fahead c W fun x ihJ hx fJ lJ => ?_
  have gz := (fJ z zlI).trans gz
  have aJ : ∀ y ∈ ys3, Twi ihJ y := fun y hy => (aI y hy).tp fJ.tp
  have gt := (fJ t (lt_of_get gt)).trans gt
  have gu := (fJ u (lt_of_get gu)).trans gu
  have gn := (fJ tn (lt_of_get gn)).trans gn
  have sJ := sI.fx fJ
  have F := Hide.mk (F.get.trans fJ.fr (by omega))
  have zlJ : z < ihJ.length := by omega
  have T := T.fx fJ
  have U := U.fx fJ
  have N := N.fx fJ
  have W := W.fx fJ
  clear fJ aI sI
  walk_at "run"
  refine w_fahead c W fun y ihK hy fK lK => ?_
  obtain rfl := hx.uniq hy
  have gz := (fK z zlJ).trans gz
  have aK : ∀ y ∈ ys3, Twi ihK y := fun y hy => (aJ y hy).tp fK.tp
  have gt := (fK t (lt_of_get gt)).trans gt
  have gu := (fK u (lt_of_get gu)).trans gu
  have gn := (fK tn (lt_of_get gn)).trans gn
  have sK := sJ.fx fK
  have F := Hide.mk (F.get.trans fK.fr (by omega))
  have zlK : z < ihK.length := by omega
  have T := T.fx fK
  have U := U.fx fK
  have N := N.fx fK
  clear fK aJ sJ hx hy W
  walk_at "run"
  have gz0 := gz
  obtain ⟨ihL, eL, gz, aL, fL, lL⟩ := push gz aK (v := ofO x) (w := ofO x) (d := oD x) (ofO_fla _) (ofO_fla _) (shaped_oD _)
  rw [← eL]
  have lyys4 : (ys3 ++ [IV.ref ihK.length]).length = 5 := by simp [ly]
  replace ly := lyys4
  generalize ys3 ++ [IV.ref ihK.length] = ys4 at gz aL ly
  have zlL : z < ihL.length := by omega
  have nz : ∀ n xs, ihK[n]? = some (MO.tup xs) → n ≠ z := fun n xs h e => by rw [e, gz0] at h; cases h
  have gt := (fL t (lt_of_get gt) (nz _ _ gt)).trans gt
  have gu := (fL u (lt_of_get gu) (nz _ _ gu)).trans gu
  have gn := (fL tn (lt_of_get gn) (nz _ _ gn)).trans gn
  have sL := sK.frz fL zp
  have F := Hide.mk (show Fr p ih ihL from fun n h1 h2 => (fL n (by omega) (by omega)).trans (F.get n h1 h2))
  replace lL : ihK.length + 1 ≤ ihL.length := by omega
  clear eL gz0 fL aK sK nz lyys4
  have T := trip_mk gt (by omega) (by omega) sl0 (by omega) h0 h1
  have U := trip_mk gu (by omega) (by omega) sk0 (by omega) k0 k1
  have N := trip_mk gn (by omega) (by omega) sl0 (by omega) h0 h1
  have W : Two t tn ⟨v, sl, 2 ^ h.toNat⟩ ⟨w, sl, 2 ^ h.toNat⟩ ihL := ⟨⟨h, T, rfl⟩, ⟨h, N, rfl⟩⟩
  have O : One ⟨v, sl, 2 ^ h.toNat⟩ ⟨w, sl, 2 ^ h.toNat⟩ := ⟨rfl, rfl, W.ls⟩
  have nB : B 800 ((77 : Nat) : Int) := (lit 7 : B 7 77).mono (by decide)
  refine wp_callK ⟨rfl, rfl⟩ ?_
  show wp (m_apart_many c [.ref t, .ref tn, .int ((77 : Nat) : Int)] ihL) _ _
  refine w_many c W O nB fun ihM fM lM => ?_
  have gz := (fM z zlL).trans gz
  have aM : ∀ y ∈ ys4, Twi ihM y := fun y hy => (aL y hy).tp fM.tp
  have gt := (fM t (lt_of_get gt)).trans gt
  have gu := (fM u (lt_of_get gu)).trans gu
  have gn := (fM tn (lt_of_get gn)).trans gn
  have sM := sL.fx fM
  have F := Hide.mk (F.get.trans fM.fr (by omega))
  have zlM : z < ihM.length := by omega
  have T := T.fx fM
  have U := U.fx fM
  have N := N.fx fM
  have W := W.fx fM
  clear fM aL sL
  generalize eC : cnt _ _ 77 = q77
  walk_at "run"
  show wp (m_apart_many c [.ref t, .ref tn, .int ((77 : Nat) : Int)] ihM) _ _
  refine w_many c W O nB fun ihN fN lN => ?_
  have gz := (fN z zlM).trans gz
  have aN : ∀ y ∈ ys4, Twi ihN y := fun y hy => (aM y hy).tp fN.tp
  have gt := (fN t (lt_of_get gt)).trans gt
  have gu := (fN u (lt_of_get gu)).trans gu
  have gn := (fN tn (lt_of_get gn)).trans gn
  have sN := sM.fx fN
  have F := Hide.mk (F.get.trans fN.fr (by omega))
  have zlN : z < ihN.length := by omega
  have T := T.fx fN
  have U := U.fx fN
  have N := N.fx fN
  clear fN aM sM W
  rw [eC]
  walk_at "run"
  have gz0 := gz
  obtain ⟨ihO, eO, gz, aO, fO, lO⟩ := push gz aN (v := IV.int (q77 : Int)) (w := IV.int (q77 : Int)) (d := .int (q77 : Int)) (.inl ⟨_, rfl, rfl⟩) (.inl ⟨_, rfl, rfl⟩) (shaped_int _)
  rw [← eO]
  have lyys5 : (ys4 ++ [IV.ref ihN.length]).length = 6 := by simp [ly]
  replace ly := lyys5
  generalize ys4 ++ [IV.ref ihN.length] = ys5 at gz aO ly
  have zlO : z < ihO.length := by omega
  have nz : ∀ n xs, ihN[n]? = some (MO.tup xs) → n ≠ z := fun n xs h e => by rw [e, gz0] at h; cases h
  have gt := (fO t (lt_of_get gt) (nz _ _ gt)).trans gt
  have gu := (fO u (lt_of_get gu) (nz _ _ gu)).trans gu
  have gn := (fO tn (lt_of_get gn) (nz _ _ gn)).trans gn
  have sO := sN.frz fO zp
  have F := Hide.mk (show Fr p ih ihO from fun n h1 h2 => (fO n (by omega) (by omega)).trans (F.get n h1 h2))
  replace lO : ihN.length + 1 ≤ ihO.length := by omega
  clear eO gz0 fO aN sN nz lyys5
  have T := trip_mk gt (by omega) (by omega) sl0 (by omega) h0 h1
  have U := trip_mk gu (by omega) (by omega) sk0 (by omega) k0 k1
  have N := trip_mk gn (by omega) (by omega) sl0 (by omega) h0 h1
  unfold lc_law_named_1
  walk_at "run"
  refine lc_alike gz (by omega) (fun x hx => ?_) (fun v w ih' => rfl) ?_
  · obtain ⟨t, v, w, d, e, g, h1, h2, h3⟩ := aO x hx
    exact ⟨t, v, w, d, e, g, h1.is, h2.is, h3⟩
  rw [show (ys5.map fun _ => IV.bl true) = (ys5.map fun _ => true).map IV.bl by rw [List.map_map]; rfl]
  obtain ⟨ihP, hP⟩ : ∃ x, x = ihO ++ [MO.lst ((ys5.map fun _ => true).map IV.bl)] := ⟨_, rfl⟩
  have gP : ihP[ihO.length]? = some (.lst ((ys5.map fun _ => true).map IV.bl)) := by rw [hP]; exact g_app0
  have fP : Fx ihO ihP := hP ▸ Fx.app
  have lP : ihO.length ≤ ihP.length := by rw [hP]; simp
  rw [← hP]
  have sP := Hide.mk (sO.fx fP)
  have F := Hide.mk (F.get.trans fP.fr (by omega))
  clear hP fP sO gz aO
  walk_at "run"
  refine wp_allL (ys5.map fun _ => true) gP ?_
  rw [show (ys5.map fun _ => true).all id = true by simp]
  clear gP
  walk_at "run"
  exact k.get ihP (sP.get.mono (by omega)) F.get (by omega)
theorem w_body_loop (c : Cs) (ok : CsOk c) {kk p : Nat} (hk : kk ≤ 4) {k : Int} {ih1 : IH} {S : SQ} {F : ES} (s1 : Src0 p 0 ih1) {a3 : Option IV}
    (fin : ∀ a3 ih', Src0 p (100 * kk) ih' → Fr p ih1 ih' → ih1.length ≤ ih'.length → S (.next [some (.ref 0), some (.int k), some (.ref p), a3]) ih') :
    ks_for (g_nm 3) (lb_law_1 c) [some (.ref 0), some (.int k), some (.ref p), a3] S F (.rng 0 1 kk) ih1 := by
  refine for_rng0 (fun i env ih' => (∃ a3, env = [some (.ref 0), some (.int k), some (.ref p), a3]) ∧ Src0 p (100 * i) ih' ∧ Fr p ih1 ih' ∧ ih1.length ≤ ih'.length) ⟨⟨_, rfl⟩, s1, Fr.refl, Nat.le_refl _⟩ (fun i env ih2 hi hP => ?_) fun env ih2 hP => ?_
  · obtain ⟨⟨a3, ee⟩, s2, f2, l2⟩ := hP
    subst ee
    have f2 := Hide.mk f2
    unfold lb_law_1
    walk_at "run"
    refine w_refused c ok s2 (by omega) fun ih3 s3 f3 l3 => ?_
    have f3 := Hide.mk (f2.get.trans f3 l2)
    walk_at "run"
    refine w_named c s3 (by omega) fun ih4 s4 f4 l4 => ?_
    have f4 := Hide.mk (f3.get.trans f4 (by omega))
    walk_at "run"
    exact Inv.mk ⟨⟨_, rfl⟩, s4.mono (by omega), f4.get, by omega⟩
  · obtain ⟨⟨a3, ee⟩, s2, f2, l2⟩ := hP
    subst ee
    exact fin _ _ s2 f2 l2
theorem w_body (c : Cs) (ok : CsOk c) {ns : List Int} {k : Nat} {a2 a3 : Option IV} {S : SQ} {F : ES} (h : Scr ns ih) (hb : ∀ z ∈ ns, ibits z ≤ 1048576) (hk : k ≤ 1000) (P : Env → IH → Prop)
    (kk : ∀ b2 b3 ih', Scr ns ih' → P [some (.ref 0), some (.int (k : Int)), b2, b3] ih') : ws (lb_law_2 c [some (.ref 0), some (.int (k : Int)), a2, a3] ih) (kf P S) F := by
  have hl : 0 < ih.length := lt_of_get h
  have hs : ih[0]? = some (.ro (ns.map IV.int)) := h
  unfold lb_law_2
  walk_at "run"
  refine w_source c h hb (by omega) fun ih1 s1 f1 l1 => ?_
  obtain ⟨p, ep⟩ : ∃ p, ih.length = p := ⟨_, rfl⟩
  rw [ep] at s1 l1 hl ⊢
  have hs1 : ih1[0]? = some (.ro (ns.map IV.int)) := by rw [f1 0 (by omega)]; exact hs
  walk_at "run"
  refine ⟨smallI_mk (by omega) (by omega), ?_⟩
  refine w_body_loop c ok (Nat.le_refl 4) s1 fun a3 ih2 s2 f2 l2 => ?_
  have hs2 : Scr ns ih2 := by
    unfold Scr
    rw [f2 0 (by omega) (by omega)]
    exact hs1
  have kz := kk (some (.ref p)) a3 ih2 hs2
  clear kk
  walk_at "run"
  exact Inv.mk kz
theorem w_law (c : Cs) (ok : CsOk c) {ns : List Int} (h : Scr ns ih) (hb : ∀ z ∈ ns, ibits z ≤ 1048576) (hl : ns.length ≤ 63) (q : ∀ ih', Q (.bl true) ih') : wp (m_law c [.ref 0] ih) Q E := by
  have h' : ih[0]? = some (.ro (ns.map IV.int)) := h
  unfold m_law b_law
  walk_at "run"
  rw [List.length_map]
  obtain ⟨j, ej⟩ : ∃ j : Int, (if (if (ns.length : Int) > 1 then (ns.length : Int) else 1) < 4 then (if (ns.length : Int) > 1 then (ns.length : Int) else 1) else 4) = j := ⟨_, rfl⟩
  have hj : 1 ≤ j ∧ j ≤ 4 := by rw [← ej]; split <;> split <;> omega
  rw [ej]
  refine ⟨smallI_mk (by omega) (by omega), ?_⟩
  refine for_rng0 (fun i env ih' => (∃ a1 a2 a3, env = [some (.ref 0), a1, a2, a3]) ∧ Scr ns ih') ⟨⟨_, _, _, rfl⟩, h⟩ (fun i env ih' hi hP => ?_) fun env ih' hP => ?_
  · obtain ⟨⟨a1, a2, a3, ee⟩, h2⟩ := hP
    subst ee
    exact w_body c ok h2 hb (by omega) _ fun b2 b3 ih3 h3 => ⟨⟨_, _, _, rfl⟩, h3⟩
  · obtain ⟨⟨a1, a2, a3, ee⟩, h2⟩ := hP
    subst ee
    walk_at "run"
    all_goals exact q _
theorem run_law (c : Cs) (ok : CsOk c) (ns : List Int) (h : ns.length ≤ 63) (hb : ∀ z ∈ ns, ibits z ≤ 1048576) : ∃ ih, m_law c [.ref 0] [.ro (ns.map IV.int)] = .ok (.bl true) ih := by
  obtain ⟨v, ih, e, rfl⟩ := (w_law c ok (ns := ns) (ih := [.ro (ns.map IV.int)]) (Q := fun v _ => v = .bl true) (E := E0) rfl hb h fun _ => rfl).out
  exact ⟨ih, e⟩
end
end L3
namespace L3
open PySem PySem.Spec PyProof.Rows L2

abbrev topS (i : Nat) : Stmt := PySem.Challenge.pw_timekernel_k17_lines_refused.main.body.getD i (.Pass ⟨0, 0, 0, 0⟩)
structure Txt (K : PySem.W.Frag) (mg : Str → Option Value) (c : Cs) : Prop where
  kk : c.K = K
  b_ValueError : mg "ValueError" = none
  b_abs : mg "abs" = none
  b_all : mg "all" = none
  b_bool : mg "bool" = none
  b_int : mg "int" = none
  b_isinstance : mg "isinstance" = none
  b_len : mg "len" = none
  b_max : mg "max" = none
  b_min : mg "min" = none
  b_range : mg "range" = none
  b_tuple : mg "tuple" = none
  g_MOST_SHIFT : ∃ u, mg "MOST_SHIFT" = some u ∧ RelV ((.int 64) : V) u
  x_KernelError : ExcX K mg "KernelError" c.KernelError
  x_NoCycle : ExcX K mg "NoCycle" c.NoCycle
  x_NoLine : ExcX K mg "NoLine" c.NoLine
  x_NoLooks : ExcX K mg "NoLooks" c.NoLooks
  x_NoRate : ExcX K mg "NoRate" c.NoRate
  x_NoReading : ExcX K mg "NoReading" c.NoReading
  x_NoWidth : ExcX K mg "NoWidth" c.NoWidth
section
variable [TabT] {P : Program} {w : World} {K : PySem.W.Frag} {mg : Str → Option Value} {base : Heap} {c : Cs} {f : Addr} {fd : FuncData}
abbrev s__law_mixed : Stmt := topS 39
abbrev N__law_mixed : List Str := ["cell", "k", "low"]
theorem S__law_mixed : FnScope N__law_mixed ["cell", "k"] (defScope s__law_mixed) := ⟨rfl, rfl, rfl, by decide +kernel, rfl, by decide +kernel, by decide +kernel⟩
theorem ok__law_mixed (T : Txt K mg c) (F : FunD K "_law_mixed" "_law_mixed" (defArgs s__law_mixed) (defBody s__law_mixed) (defScope s__law_mixed) [] [] f fd) (hm : mg "_law_mixed" = some (.ref f))  : ∀ [LamT], Df P w K mg base 1 "_law_mixed" 2 [] (m_law_mixed c) := by
 intro I
 obtain rfl := T.kk
 exact df0 (N := N__law_mixed) (mb := b_law_mixed c) F S__law_mixed hm (fun _ _ _ _ _ _ us hl => match us, hl with | [_, _], _ => rfl) fun cdv A outer s H E hr tk hp hu =>
 (lss_cons (ls_set (i := 2) S__law_mixed.nd rfl (Or.inl rfl) (lm_op op_addA s_add (lm_op op_mod s_mod (lm_callTy call_int1 s_int rfl T.b_int (by decide +kernel) (la_cons (lm_var 0) la_nil)) (lm_c (.int 2147483629) pe_int)) (lm_op op_mulA s_mulA (lm_op op_fdivW s_fdiv (lm_var 0) (lm_c (.int 2147483629) pe_int)) (lm_c (.int 30011) pe_int))))
 (lss_cons (ls_set (i := 2) S__law_mixed.nd rfl (Or.inl rfl) (lm_op op_mod s_mod (lm_callTy call_int1 s_int rfl T.b_int (by decide +kernel) (la_cons (lm_op op_mulA s_mulA (lm_op op_addA s_add (lm_op op_addA s_add (lm_var 2) (lm_op op_mulA s_mulA (lm_c (.int 69621) pe_int) (lm_var 1))) (lm_c (.int 1) pe_int)) (lm_c (.int 48271) pe_int)) la_nil)) (lm_c (.int 2147483629) pe_int)))
 (lss_cons (ls_set (i := 2) S__law_mixed.nd rfl (Or.inl rfl) (lm_op op_mod s_mod (lm_callTy call_int1 s_int rfl T.b_int (by decide +kernel) (la_cons (lm_op op_mulA s_mulA (lm_var 2) (lm_op op_addA s_add (lm_op op_addA s_add (lm_op op_fdivW s_fdiv (lm_var 2) (lm_c (.int 907) pe_int)) (lm_c (.int 16831) pe_int)) (lm_var 1))) la_nil)) (lm_c (.int 2147483587) pe_int)))
 (lss_one (ls_ret (lm_op op_mod s_mod (lm_callTy call_int1 s_int rfl T.b_int (by decide +kernel) (la_cons (lm_op op_mulA s_mulA (lm_var 2) (lm_op op_addA s_add (lm_op op_fdivW s_fdiv (lm_var 2) (lm_c (.int 1201) pe_int)) (lm_c (.int 30011) pe_int))) la_nil)) (lm_c (.int 2147483563) pe_int)))))))
abbrev s__law_next : Stmt := topS 41
abbrev N__law_next : List Str := ["source", "many", "found"]
theorem S__law_next : FnScope N__law_next ["source", "many"] (defScope s__law_next) := ⟨rfl, rfl, rfl, by decide +kernel, rfl, by decide +kernel, by decide +kernel⟩
theorem ok__law_next (T : Txt K mg c) (F : FunD K "_law_next" "_law_next" (defArgs s__law_next) (defBody s__law_next) (defScope s__law_next) [] [] f fd) (hm : mg "_law_next" = some (.ref f)) (D__law_mixed : ∀ [LamT], Df P w K mg base 1 "_law_mixed" 2 [] (m_law_mixed c)) : ∀ [LamT], Df P w K mg base 2 "_law_next" 2 [] (m_law_next c) := by
 intro I
 obtain rfl := T.kk
 exact df0 (N := N__law_next) (mb := b_law_next c) F S__law_next hm (fun _ _ _ _ _ _ us hl => match us, hl with | [_, _], _ => rfl) fun cdv A outer s H E hr tk hp hu =>
 (lss_cons (ls_if (lt_cmp op_ge s_ge (lm_ix ix_seq s_ix (lm_var 0) (lm_c (.int 0) pe_int)) (lm_op op_pow s_pow (lm_c (.int 10) pe_int) (lm_c (.int 18) pe_int)))
 (lss_cons (ls_set (i := 2) S__law_next.nd rfl (Or.inl rfl) (lm_op op_mod s_mod (lm_callTy call_int1 s_int rfl T.b_int (by decide +kernel) (la_cons (lm_ix ix_seq s_ix (lm_var 0) (lm_c (.int 0) pe_int)) la_nil)) (lm_var 1)))
 (lss_cons (ls_setL (lm_op op_fdivW s_fdiv (lm_ix ix_seq s_ix (lm_var 0) (lm_c (.int 0) pe_int)) (lm_var 1)) (fun h1 h2 => pg_sub h1 h2 set_list) (lm_var 0) (lm_c (.int 0) pe_int))
 (lss_one (ls_ret (lm_var 2)))))
 lss_nil)
 (lss_cons (ls_setL (lm_op op_addA s_add (lm_ix ix_seq s_ix (lm_var 0) (lm_c (.int 2) pe_int)) (lm_c (.int 1) pe_int)) (fun h1 h2 => pg_sub h1 h2 set_list) (lm_var 0) (lm_c (.int 2) pe_int))
 (lss_one (ls_ret (lm_op op_mod s_mod (lm_callTy call_int1 s_int rfl T.b_int (by decide +kernel) (la_cons (lm_call (x := "_law_mixed") (dvs := []) D__law_mixed 0 (by decide) (hr.mono (by decide)) rfl tk (la_cons (lm_ix ix_seq s_ix (lm_var 0) (lm_c (.int 1) pe_int)) (la_cons (lm_ix ix_seq s_ix (lm_var 0) (lm_c (.int 2) pe_int)) la_nil))) la_nil)) (lm_var 1))))))
abbrev s__law_line : Stmt := topS 45
abbrev N__law_line : List Str := ["source"]
theorem S__law_line : FnScope N__law_line ["source"] (defScope s__law_line) := ⟨rfl, rfl, rfl, by decide +kernel, rfl, by decide +kernel, by decide +kernel⟩
theorem ok__law_line (T : Txt K mg c) (F : FunD K "_law_line" "_law_line" (defArgs s__law_line) (defBody s__law_line) (defScope s__law_line) [] [] f fd) (hm : mg "_law_line" = some (.ref f)) (D__law_next : ∀ [LamT], Df P w K mg base 2 "_law_next" 2 [] (m_law_next c)) : ∀ [LamT], Df P w K mg base 3 "_law_line" 1 [] (m_law_line c) := by
 intro I
 obtain rfl := T.kk
 exact df0 (N := N__law_line) (mb := b_law_line c) F S__law_line hm (fun _ _ _ _ _ _ us hl => match us, hl with | [_], _ => rfl) fun cdv A outer s H E hr tk hp hu =>
 (lss_one (ls_ret (lm_tup (la_cons (lm_op op_sub s_sub (lm_call (x := "_law_next") (dvs := []) D__law_next 0 (by decide) (hr.mono (by decide)) rfl tk (la_cons (lm_var 0) (la_cons (lm_c (.int 99) pe_int) la_nil))) (lm_c (.int 50) pe_int)) (la_cons (lm_call (x := "_law_next") (dvs := []) D__law_next 0 (by decide) (hr.mono (by decide)) rfl tk (la_cons (lm_var 0) (la_cons (lm_c (.int 9) pe_int) la_nil))) (la_cons (lm_call (x := "_law_next") (dvs := []) D__law_next 0 (by decide) (hr.mono (by decide)) rfl tk (la_cons (lm_var 0) (la_cons (lm_c (.int 65) pe_int) la_nil))) la_nil))))))
abbrev s__law_odd : Stmt := topS 44
abbrev N__law_odd : List Str := ["source"]
theorem S__law_odd : FnScope N__law_odd ["source"] (defScope s__law_odd) := ⟨rfl, rfl, rfl, by decide +kernel, rfl, by decide +kernel, by decide +kernel⟩
theorem ok__law_odd (T : Txt K mg c) (F : FunD K "_law_odd" "_law_odd" (defArgs s__law_odd) (defBody s__law_odd) (defScope s__law_odd) [] [] f fd) (hm : mg "_law_odd" = some (.ref f)) (D__law_next : ∀ [LamT], Df P w K mg base 2 "_law_next" 2 [] (m_law_next c)) : ∀ [LamT], Df P w K mg base 3 "_law_odd" 1 [] (m_law_odd c) := by
 intro I
 obtain rfl := T.kk
 exact df0 (N := N__law_odd) (mb := b_law_odd c) F S__law_odd hm (fun _ _ _ _ _ _ us hl => match us, hl with | [_], _ => rfl) fun cdv A outer s H E hr tk hp hu =>
 (lss_one (ls_ret (lm_ix ix_seq s_ix (lm_lst (la_cons (lm_c (.bl true) pe_bl) (la_cons (lm_c (.bl false) pe_bl) (la_cons (lm_c .non pe_non) (la_cons (lm_c (.str "1") pe_str) (la_cons (lm_tup (la_cons (lm_c (.int 1) pe_int) la_nil)) (la_cons (lm_lst (la_cons (lm_c (.int 1) pe_int) la_nil)) (la_cons lm_dct la_nil)))))))) (lm_call (x := "_law_next") (dvs := []) D__law_next 0 (by decide) (hr.mono (by decide)) rfl tk (la_cons (lm_var 0) (la_cons (lm_c (.int 7) pe_int) la_nil))))))
abbrev s__law_odd_line : Stmt := topS 43
abbrev N__law_odd_line : List Str := ["source", "some"]
theorem S__law_odd_line : FnScope N__law_odd_line ["source"] (defScope s__law_odd_line) := ⟨rfl, rfl, rfl, by decide +kernel, rfl, by decide +kernel, by decide +kernel⟩
theorem ok__law_odd_line (T : Txt K mg c) (F : FunD K "_law_odd_line" "_law_odd_line" (defArgs s__law_odd_line) (defBody s__law_odd_line) (defScope s__law_odd_line) [] [] f fd) (hm : mg "_law_odd_line" = some (.ref f)) (D__law_next : ∀ [LamT], Df P w K mg base 2 "_law_next" 2 [] (m_law_next c)) : ∀ [LamT], Df P w K mg base 3 "_law_odd_line" 1 [] (m_law_odd_line c) := by
 intro I
 obtain rfl := T.kk
 exact df0 (N := N__law_odd_line) (mb := b_law_odd_line c) F S__law_odd_line hm (fun _ _ _ _ _ _ us hl => match us, hl with | [_], _ => rfl) fun cdv A outer s H E hr tk hp hu =>
 (lss_cons (ls_set (i := 1) S__law_odd_line.nd rfl (Or.inl rfl) (lm_lst (la_cons (lm_tup (la_cons (lm_c (.int 0) pe_int) (la_cons (lm_c (.int 1) pe_int) la_nil))) (la_cons (lm_tup (la_cons (lm_c (.int 0) pe_int) (la_cons (lm_un un_neg s_neg (lm_c (.int 1) pe_int)) (la_cons (lm_c (.int 0) pe_int) la_nil)))) (la_cons (lm_tup (la_cons (lm_c (.int 0) pe_int) (la_cons (lm_c (.int 1) pe_int) (la_cons (lm_c (.int 65) pe_int) la_nil)))) (la_cons (lm_tup (la_cons (lm_c (.int 0) pe_int) (la_cons (lm_c (.int 1) pe_int) (la_cons (lm_un un_neg s_neg (lm_c (.int 1) pe_int)) la_nil)))) (la_cons (lm_tup (la_cons (lm_c (.bl true) pe_bl) (la_cons (lm_c (.int 1) pe_int) (la_cons (lm_c (.int 0) pe_int) la_nil)))) (la_cons (lm_tup (la_cons (lm_c (.int 0) pe_int) (la_cons (lm_c (.bl true) pe_bl) (la_cons (lm_c (.int 0) pe_int) la_nil)))) (la_cons (lm_tup (la_cons (lm_c (.int 0) pe_int) (la_cons (lm_c (.int 1) pe_int) (la_cons (lm_c (.bl false) pe_bl) la_nil)))) (la_cons (lm_lst (la_cons (lm_c (.int 0) pe_int) (la_cons (lm_c (.int 1) pe_int) (la_cons (lm_c (.int 0) pe_int) la_nil)))) (la_cons (lm_c .non pe_non) (la_cons (lm_c (.int 7) pe_int) la_nil))))))))))))
 (lss_cons (ls_set (i := 1) S__law_odd_line.nd rfl (Or.inl rfl) (lm_op op_addA s_add (lm_var 1) (lm_lst (la_cons (lm_tup (la_cons (lm_c (.int 0) pe_int) (la_cons (lm_c (.int 1) pe_int) (la_cons (lm_c (.int 0) pe_int) (la_cons (lm_c (.int 0) pe_int) la_nil))))) (la_cons (lm_tup (la_cons (lm_c (.str "0") pe_str) (la_cons (lm_c (.int 1) pe_int) (la_cons (lm_c (.int 0) pe_int) la_nil)))) (la_cons (lm_tup (la_cons (lm_c (.int 0) pe_int) (la_cons (lm_lst (la_cons (lm_c (.int 1) pe_int) la_nil)) (la_cons (lm_c (.int 0) pe_int) la_nil)))) (la_cons (lm_tup (la_cons (lm_lst (la_cons (lm_c (.int 0) pe_int) la_nil)) (la_cons (lm_c (.int 1) pe_int) (la_cons (lm_c (.int 0) pe_int) la_nil)))) (la_cons (lm_tup (la_cons (lm_c .non pe_non) (la_cons (lm_c (.int 1) pe_int) (la_cons (lm_c (.int 0) pe_int) la_nil)))) (la_cons lm_dct (la_cons (lm_c (.str "010") pe_str) (la_cons (lm_tup la_nil) (la_cons (lm_tup (la_cons (lm_c (.int 0) pe_int) (la_cons (lm_c (.int 1) pe_int) (la_cons (lm_c .non pe_non) la_nil)))) la_nil))))))))))))
 (lss_one (ls_ret (lm_ix ix_seq s_ix (lm_var 1) (lm_call (x := "_law_next") (dvs := []) D__law_next 0 (by decide) (hr.mono (by decide)) rfl tk (la_cons (lm_var 0) (la_cons (lm_callB call_lenA s_len rfl T.b_len (by decide +kernel) (la_cons (lm_var 1) la_nil)) la_nil))))))))
abbrev s__law_word : Stmt := topS 42
abbrev N__law_word : List Str := ["call", "e", "kinds"]
theorem S__law_word : FnScope N__law_word ["call"] (defScope s__law_word) := ⟨rfl, rfl, rfl, by decide +kernel, rfl, by decide +kernel, by decide +kernel⟩
theorem ok__law_word (T : Txt K mg c) (F : FunD K "_law_word" "_law_word" (defArgs s__law_word) (defBody s__law_word) (defScope s__law_word) [] [] f fd) (hm : mg "_law_word" = some (.ref f))  : ∀ {k : Nat}, DfW P w K mg base (k + 1) "_law_word" 1 3 0 (b_law_word c) := by
 intro k
 obtain rfl := T.kk
 exact dfW (N := N__law_word) (i := 0) F S__law_word hm rfl (by first | exact Or.inl rfl | exact Or.inr (Or.inl rfl)) (fun _ _ _ _ _ _ us hl => match us, hl with | [_], _ => rfl) fun I base2 cdv A outer s H E lams hr tk hp hu act =>
 (lss_one (ls_try (i := 1) rfl rfl S__law_word.nd rfl rfl ⟨rfl, by decide, .inl T.x_KernelError.g⟩ tk (fun W pn xe tk' hp' => (lss_one (ls_ret (lm_tup (la_cons (lm_c (.str "told") pe_str) (la_cons (act tk' (by first | exact Or.inl rfl | exact Or.inr (Or.inl rfl) | exact Or.inr (Or.inr rfl))) la_nil))))))
 (fun ea ec oe pn hz hd => (lss_cons (ls_set (i := 2) S__law_word.nd rfl (Or.inl rfl) (lm_lst (la_cons (lm_callB (call_isEA hz hd) s_isE rfl T.b_isinstance (by decide +kernel) (la_cons (lm_var 1) (la_cons (lm_c (.gl c.NoWidth) (lg_glob (v := V.ref c.NoWidth) ⟨_, T.x_NoWidth.g, rfl⟩ rfl)) la_nil))) (la_cons (lm_callB (call_isEA hz hd) s_isE rfl T.b_isinstance (by decide +kernel) (la_cons (lm_var 1) (la_cons (lm_c (.gl c.NoLooks) (lg_glob (v := V.ref c.NoLooks) ⟨_, T.x_NoLooks.g, rfl⟩ rfl)) la_nil))) (la_cons (lm_callB (call_isEA hz hd) s_isE rfl T.b_isinstance (by decide +kernel) (la_cons (lm_var 1) (la_cons (lm_c (.gl c.NoCycle) (lg_glob (v := V.ref c.NoCycle) ⟨_, T.x_NoCycle.g, rfl⟩ rfl)) la_nil))) (la_cons (lm_callB (call_isEA hz hd) s_isE rfl T.b_isinstance (by decide +kernel) (la_cons (lm_var 1) (la_cons (lm_c (.gl c.NoRate) (lg_glob (v := V.ref c.NoRate) ⟨_, T.x_NoRate.g, rfl⟩ rfl)) la_nil))) la_nil))))))
 (lss_cons (ls_set (i := 2) S__law_word.nd rfl (Or.inl rfl) (lm_op op_addA s_add (lm_var 2) (lm_lst (la_cons (lm_callB (call_isEA hz hd) s_isE rfl T.b_isinstance (by decide +kernel) (la_cons (lm_var 1) (la_cons (lm_c (.gl c.NoReading) (lg_glob (v := V.ref c.NoReading) ⟨_, T.x_NoReading.g, rfl⟩ rfl)) la_nil))) (la_cons (lm_callB (call_isEA hz hd) s_isE rfl T.b_isinstance (by decide +kernel) (la_cons (lm_var 1) (la_cons (lm_c (.gl c.NoLine) (lg_glob (v := V.ref c.NoLine) ⟨_, T.x_NoLine.g, rfl⟩ rfl)) la_nil))) la_nil)))))
 (lss_cons (ls_if (PW.pt (lw_or (lt_cmp (op_neX hu) s_ne (lm_mL PySem.F.slot_list_count PySem.F.type_list_count mt_count s_count (lm_var 2) (la_cons (lm_c (.bl true) pe_bl) la_nil)) (lm_c (.int 1) pe_int)) (lw_or1 (lt_not (lt_val (lm_callB (call_isEA hz hd) s_isE rfl T.b_isinstance (by decide +kernel) (la_cons (lm_var 1) (la_cons (lm_c (.ty "ValueError") (pe_bltn (v := .ty "ValueError") rfl T.b_ValueError (by decide +kernel) rfl)) la_nil))))))))
 (lss_one (ls_ret (lm_c (.str "several") pe_str)))
 lss_nil)
 (lss_one (ls_ret (lm_ix ix_seq s_ix (lm_lst (la_cons (lm_c (.str "width") pe_str) (la_cons (lm_c (.str "looks") pe_str) (la_cons (lm_c (.str "cycle") pe_str) (la_cons (lm_c (.str "rate") pe_str) (la_cons (lm_c (.str "reading") pe_str) (la_cons (lm_c (.str "line") pe_str) la_nil))))))) (lm_mL PySem.F.slot_list_index PySem.F.type_list_index mt_index s_index (lm_var 2) (la_cons (lm_c (.bl true) pe_bl) la_nil)))))))))))
abbrev s_is_whole : Stmt := topS 9
abbrev N_is_whole : List Str := ["thing", "least"]
theorem S_is_whole : FnScope N_is_whole ["thing", "least"] (defScope s_is_whole) := ⟨rfl, rfl, rfl, by decide +kernel, rfl, by decide +kernel, by decide +kernel⟩
theorem ok_is_whole (T : Txt K mg c) (F : FunD K "is_whole" "is_whole" (defArgs s_is_whole) (defBody s_is_whole) (defScope s_is_whole) [V.non] [] f fd) (hm : mg "is_whole" = some (.ref f))  : ∀ [LamT], Df P w K mg base 1 "is_whole" 2 [.non] (m_is_whole c) := by
 intro I
 obtain rfl := T.kk
 exact dfD (N := N_is_whole) (mb := b_is_whole c) F S_is_whole hm rfl rfl rfl (fun j hj => match j, hj with | 0, _ => F.binds1 1 0 (by decide) rfl (fun _ _ _ _ _ _ _ us its h1 h2 => match us, its, h1, h2 with | [_], [_], _, _ => ⟨_, rfl, rfl⟩) | 1, _ => F.binds1 2 1 (by decide) rfl (fun _ _ _ _ _ _ _ us its h1 h2 => match us, its, h1, h2 with | [_, _], [_], _, _ => ⟨_, rfl, rfl⟩)) fun cdv A outer s H E hr tk hp hu =>
 (lss_one (ls_ret (lm_and (lm_callB call_isi s_isi rfl T.b_isinstance (by decide +kernel) (la_cons (lm_var 0) (la_cons (lm_c (.ty "int") (pe_bltn (v := .ty "int") rfl T.b_int (by decide +kernel) rfl)) la_nil))) (lm_and (lm_not (lm_callB call_isi s_isi rfl T.b_isinstance (by decide +kernel) (la_cons (lm_var 0) (la_cons (lm_c (.ty "bool") (pe_bltn (v := .ty "bool") rfl T.b_bool (by decide +kernel) rfl)) la_nil)))) (lm_one (lm_or (lm_cmp op_isN s_isN (lm_var 1) (lm_c .non pe_non)) (lm_one (lm_cmp op_ge s_ge (lm_var 0) (lm_var 1)))))))))
abbrev s_check_cycle : Stmt := topS 15
abbrev N_check_cycle : List Str := ["cycle", "least"]
theorem S_check_cycle : FnScope N_check_cycle ["cycle", "least"] (defScope s_check_cycle) := ⟨rfl, rfl, rfl, by decide +kernel, rfl, by decide +kernel, by decide +kernel⟩
theorem ok_check_cycle (T : Txt K mg c) (F : FunD K "check_cycle" "check_cycle" (defArgs s_check_cycle) (defBody s_check_cycle) (defScope s_check_cycle) [(V.int 0)] [] f fd) (hm : mg "check_cycle" = some (.ref f)) (D_is_whole : ∀ [LamT], Df P w K mg base 1 "is_whole" 2 [.non] (m_is_whole c)) : ∀ [LamT], Df P w K mg base 2 "check_cycle" 2 [(.int 0)] (m_check_cycle c) := by
 intro I
 obtain rfl := T.kk
 exact dfD (N := N_check_cycle) (mb := b_check_cycle c) F S_check_cycle hm rfl rfl rfl (fun j hj => match j, hj with | 0, _ => F.binds1 1 0 (by decide) rfl (fun _ _ _ _ _ _ _ us its h1 h2 => match us, its, h1, h2 with | [_], [_], _, _ => ⟨_, rfl, rfl⟩) | 1, _ => F.binds1 2 1 (by decide) rfl (fun _ _ _ _ _ _ _ us its h1 h2 => match us, its, h1, h2 with | [_, _], [_], _, _ => ⟨_, rfl, rfl⟩)) fun cdv A outer s H E hr tk hp hu =>
 (lss_one (ls_if (lt_not (lt_val (lm_call (x := "is_whole") (dvs := [.non]) D_is_whole 1 (by decide) (hr.mono (by decide)) rfl tk (la_cons (lm_var 0) (la_cons (lm_var 1) la_nil)))))
 (lss_one (ls_raise rfl tk PySem.F.excBase_ValueError T.x_NoCycle.q T.x_NoCycle.g T.x_NoCycle.k (raises_own T.x_NoCycle.b T.x_NoCycle.t) rfl))
 lss_nil))
abbrev s_is_shift : Stmt := topS 18
abbrev N_is_shift : List Str := ["thing"]
theorem S_is_shift : FnScope N_is_shift ["thing"] (defScope s_is_shift) := ⟨rfl, rfl, rfl, by decide +kernel, rfl, by decide +kernel, by decide +kernel⟩
theorem ok_is_shift (T : Txt K mg c) (F : FunD K "is_shift" "is_shift" (defArgs s_is_shift) (defBody s_is_shift) (defScope s_is_shift) [] [] f fd) (hm : mg "is_shift" = some (.ref f)) (D_is_whole : ∀ [LamT], Df P w K mg base 1 "is_whole" 2 [.non] (m_is_whole c)) : ∀ [LamT], Df P w K mg base 2 "is_shift" 1 [] (m_is_shift c) := by
 intro I
 obtain rfl := T.kk
 exact df0 (N := N_is_shift) (mb := b_is_shift c) F S_is_shift hm (fun _ _ _ _ _ _ us hl => match us, hl with | [_], _ => rfl) fun cdv A outer s H E hr tk hp hu =>
 (lss_one (ls_ret (lm_and (lm_call (x := "is_whole") (dvs := [.non]) D_is_whole 1 (by decide) (hr.mono (by decide)) rfl tk (la_cons (lm_var 0) (la_cons (lm_c (.int 0) pe_int) la_nil))) (lm_one (lm_cmp op_le s_le (lm_var 0) (lm_c (.int 64) (lg_glob T.g_MOST_SHIFT rfl)))))))
abbrev s_check_line : Stmt := topS 20
abbrev N_check_line : List Str := ["line"]
theorem S_check_line : FnScope N_check_line ["line"] (defScope s_check_line) := ⟨rfl, rfl, rfl, by decide +kernel, rfl, by decide +kernel, by decide +kernel⟩
theorem ok_check_line (T : Txt K mg c) (F : FunD K "check_line" "check_line" (defArgs s_check_line) (defBody s_check_line) (defScope s_check_line) [] [] f fd) (hm : mg "check_line" = some (.ref f)) (D_is_shift : ∀ [LamT], Df P w K mg base 2 "is_shift" 1 [] (m_is_shift c)) (D_is_whole : ∀ [LamT], Df P w K mg base 1 "is_whole" 2 [.non] (m_is_whole c)) : ∀ [LamT], Df P w K mg base 3 "check_line" 1 [] (m_check_line c) := by
 intro I
 obtain rfl := T.kk
 exact df0 (N := N_check_line) (mb := b_check_line c) F S_check_line hm (fun _ _ _ _ _ _ us hl => match us, hl with | [_], _ => rfl) fun cdv A outer s H E hr tk hp hu =>
 (lss_cons (ls_if (PW.pt (lw_or (lt_not (lt_val (lm_callB call_isi s_isi rfl T.b_isinstance (by decide +kernel) (la_cons (lm_var 0) (la_cons (lm_c (.ty "tuple") (pe_bltn (v := .ty "tuple") rfl T.b_tuple (by decide +kernel) rfl)) la_nil))))) (lw_or (lt_cmp (op_neX hu) s_ne (lm_callB call_lenA s_len rfl T.b_len (by decide +kernel) (la_cons (lm_var 0) la_nil)) (lm_c (.int 3) pe_int)) (lw_or (lt_not (lt_val (lm_call (x := "is_whole") (dvs := [.non]) D_is_whole 0 (by decide) (hr.mono (by decide)) rfl tk (la_cons (lm_ix ix_seq s_ix (lm_var 0) (lm_c (.int 0) pe_int)) la_nil)))) (lw_or1 (lt_not (lt_val (lm_call (x := "is_whole") (dvs := [.non]) D_is_whole 1 (by decide) (hr.mono (by decide)) rfl tk (la_cons (lm_ix ix_seq s_ix (lm_var 0) (lm_c (.int 1) pe_int)) (la_cons (lm_c (.int 0) pe_int) la_nil))))))))))
 (lss_one (ls_raise rfl tk PySem.F.excBase_ValueError T.x_NoLine.q T.x_NoLine.g T.x_NoLine.k (raises_own T.x_NoLine.b T.x_NoLine.t) rfl))
 lss_nil)
 (lss_one (ls_if (lt_not (lt_val (lm_call (x := "is_shift") (dvs := []) D_is_shift 0 (by decide) (hr.mono (by decide)) rfl tk (la_cons (lm_ix ix_seq s_ix (lm_var 0) (lm_c (.int 2) pe_int)) la_nil))))
 (lss_one (ls_raise rfl tk PySem.F.excBase_ValueError T.x_NoLine.q T.x_NoLine.g T.x_NoLine.k (raises_own T.x_NoLine.b T.x_NoLine.t) rfl))
 lss_nil)))
abbrev s_power : Stmt := topS 10
abbrev N_power : List Str := ["number"]
theorem S_power : FnScope N_power ["number"] (defScope s_power) := ⟨rfl, rfl, rfl, by decide +kernel, rfl, by decide +kernel, by decide +kernel⟩
theorem ok_power (T : Txt K mg c) (F : FunD K "power" "power" (defArgs s_power) (defBody s_power) (defScope s_power) [] [] f fd) (hm : mg "power" = some (.ref f))  : ∀ [LamT], Df P w K mg base 1 "power" 1 [] (m_power c) := by
 intro I
 obtain rfl := T.kk
 exact df0 (N := N_power) (mb := b_power c) F S_power hm (fun _ _ _ _ _ _ us hl => match us, hl with | [_], _ => rfl) fun cdv A outer s H E hr tk hp hu =>
 (lss_one (ls_ret (lm_op op_shlW s_shl (lm_c (.int 1) pe_int) (lm_var 0))))
abbrev s_sum_of_floors : Stmt := topS 12
abbrev N_sum_of_floors : List Str := ["many", "by", "step", "begin", "found", "last"]
theorem S_sum_of_floors : FnScope N_sum_of_floors ["many", "by", "step", "begin"] (defScope s_sum_of_floors) := ⟨rfl, rfl, rfl, by decide +kernel, rfl, by decide +kernel, by decide +kernel⟩
theorem ok_sum_of_floors (T : Txt K mg c) (F : FunD K "sum_of_floors" "sum_of_floors" (defArgs s_sum_of_floors) (defBody s_sum_of_floors) (defScope s_sum_of_floors) [] [] f fd) (hm : mg "sum_of_floors" = some (.ref f))  : ∀ [LamT], Df P w K mg base 1 "sum_of_floors" 4 [] (m_sum_of_floors c) := by
 intro I
 obtain rfl := T.kk
 exact df0 (N := N_sum_of_floors) (mb := b_sum_of_floors c) F S_sum_of_floors hm (fun _ _ _ _ _ _ us hl => match us, hl with | [_, _, _, _], _ => rfl) fun cdv A outer s H E hr tk hp hu =>
 (lss_cons (ls_set (i := 4) S_sum_of_floors.nd rfl (Or.inl rfl) (lm_c (.int 0) pe_int))
 (lss_cons (ls_while 1000000 hp (lt_cmp op_gt s_gt (lm_var 0) (lm_c (.int 0) pe_int))
 (lss_cons (ls_aug (i := 4) S_sum_of_floors.nd rfl (Or.inl rfl) iop_add s_addI (lm_op op_addA s_add (lm_op op_mulA s_mulA (lm_op op_fdivW s_fdiv (lm_op op_mulA s_mulA (lm_var 0) (lm_op op_sub s_sub (lm_var 0) (lm_c (.int 1) pe_int))) (lm_c (.int 2) pe_int)) (lm_op op_fdivW s_fdiv (lm_var 2) (lm_var 1))) (lm_op op_mulA s_mulA (lm_var 0) (lm_op op_fdivW s_fdiv (lm_var 3) (lm_var 1)))))
 (lss_cons (ls_par (i := 2) (j := 3) (fun h => ps_par (i := 2) (j := 3) rfl S_sum_of_floors.nd rfl rfl (by decide) rfl rfl h rfl) (la_cons (lm_op op_mod s_mod (lm_var 2) (lm_var 1)) (la_cons (lm_op op_mod s_mod (lm_var 3) (lm_var 1)) la_nil)))
 (lss_cons (ls_set (i := 5) S_sum_of_floors.nd rfl (Or.inl rfl) (lm_op op_addA s_add (lm_op op_mulA s_mulA (lm_var 2) (lm_var 0)) (lm_var 3)))
 (lss_one (ls_asg (lm_tup (la_cons (lm_op op_fdivW s_fdiv (lm_var 5) (lm_var 1)) (la_cons (lm_op op_mod s_mod (lm_var 5) (lm_var 1)) (la_cons (lm_var 2) (la_cons (lm_var 1) la_nil))))) (pg_tup rfl (pgs_cons (pg_name (i := 0) S_sum_of_floors.nd rfl (Or.inl rfl)) (pgs_cons (pg_name (i := 3) S_sum_of_floors.nd rfl (Or.inl rfl)) (pgs_cons (pg_name (i := 1) S_sum_of_floors.nd rfl (Or.inl rfl)) (pgs_cons (pg_name (i := 2) S_sum_of_floors.nd rfl (Or.inl rfl)) pgs_nil))))) (sg_tup (sg_cons (sg_nm 0) (sg_cons (sg_nm 3) (sg_cons (sg_nm 1) (sg_cons (sg_nm 2) sg_nil)))))))))))
 (lss_one (ls_ret (lm_var 4)))))
abbrev s_total : Stmt := topS 27
abbrev N_total : List Str := ["line", "begin", "many"]
theorem S_total : FnScope N_total ["line", "begin", "many"] (defScope s_total) := ⟨rfl, rfl, rfl, by decide +kernel, rfl, by decide +kernel, by decide +kernel⟩
theorem ok_total (T : Txt K mg c) (F : FunD K "total" "total" (defArgs s_total) (defBody s_total) (defScope s_total) [] [] f fd) (hm : mg "total" = some (.ref f)) (D_power : ∀ [LamT], Df P w K mg base 1 "power" 1 [] (m_power c)) (D_sum_of_floors : ∀ [LamT], Df P w K mg base 1 "sum_of_floors" 4 [] (m_sum_of_floors c)) : ∀ [LamT], Df P w K mg base 2 "total" 3 [] (m_total c) := by
 intro I
 obtain rfl := T.kk
 exact df0 (N := N_total) (mb := b_total c) F S_total hm (fun _ _ _ _ _ _ us hl => match us, hl with | [_, _, _], _ => rfl) fun cdv A outer s H E hr tk hp hu =>
 (lss_one (ls_ret (lm_call (x := "sum_of_floors") (dvs := []) D_sum_of_floors 0 (by decide) (hr.mono (by decide)) rfl tk (la_cons (lm_var 2) (la_cons (lm_call (x := "power") (dvs := []) D_power 0 (by decide) (hr.mono (by decide)) rfl tk (la_cons (lm_ix ix_seq s_ix (lm_var 0) (lm_c (.int 2) pe_int)) la_nil)) (la_cons (lm_ix ix_seq s_ix (lm_var 0) (lm_c (.int 1) pe_int)) (la_cons (lm_op op_addA s_add (lm_ix ix_seq s_ix (lm_var 0) (lm_c (.int 0) pe_int)) (lm_op op_mulA s_mulA (lm_ix ix_seq s_ix (lm_var 0) (lm_c (.int 1) pe_int)) (lm_var 1))) la_nil)))))))
abbrev s_excess : Stmt := topS 28
abbrev N_excess : List Str := ["one", "other", "begin", "many"]
theorem S_excess : FnScope N_excess ["one", "other", "begin", "many"] (defScope s_excess) := ⟨rfl, rfl, rfl, by decide +kernel, rfl, by decide +kernel, by decide +kernel⟩
theorem ok_excess (T : Txt K mg c) (F : FunD K "excess" "excess" (defArgs s_excess) (defBody s_excess) (defScope s_excess) [] [] f fd) (hm : mg "excess" = some (.ref f)) (D_total : ∀ [LamT], Df P w K mg base 2 "total" 3 [] (m_total c)) : ∀ [LamT], Df P w K mg base 3 "excess" 4 [] (m_excess c) := by
 intro I
 obtain rfl := T.kk
 exact df0 (N := N_excess) (mb := b_excess c) F S_excess hm (fun _ _ _ _ _ _ us hl => match us, hl with | [_, _, _, _], _ => rfl) fun cdv A outer s H E hr tk hp hu =>
 (lss_one (ls_ret (lm_op op_sub s_sub (lm_call (x := "total") (dvs := []) D_total 0 (by decide) (hr.mono (by decide)) rfl tk (la_cons (lm_var 0) (la_cons (lm_var 2) (la_cons (lm_var 3) la_nil)))) (lm_call (x := "total") (dvs := []) D_total 0 (by decide) (hr.mono (by decide)) rfl tk (la_cons (lm_var 1) (la_cons (lm_var 2) (la_cons (lm_var 3) la_nil)))))))
abbrev s_apart_many : Stmt := topS 36
abbrev N_apart_many : List Str := ["one", "other", "last"]
theorem S_apart_many : FnScope N_apart_many ["one", "other", "last"] (defScope s_apart_many) := ⟨rfl, rfl, rfl, by decide +kernel, rfl, by decide +kernel, by decide +kernel⟩
theorem ok_apart_many (T : Txt K mg c) (F : FunD K "apart_many" "apart_many" (defArgs s_apart_many) (defBody s_apart_many) (defScope s_apart_many) [] [] f fd) (hm : mg "apart_many" = some (.ref f)) (D_check_cycle : ∀ [LamT], Df P w K mg base 2 "check_cycle" 2 [(.int 0)] (m_check_cycle c)) (D_check_line : ∀ [LamT], Df P w K mg base 3 "check_line" 1 [] (m_check_line c)) (D_excess : ∀ [LamT], Df P w K mg base 3 "excess" 4 [] (m_excess c)) (D_power : ∀ [LamT], Df P w K mg base 1 "power" 1 [] (m_power c)) : ∀ [LamT], Df P w K mg base 4 "apart_many" 3 [] (m_apart_many c) := by
 intro I
 obtain rfl := T.kk
 exact df0 (N := N_apart_many) (mb := b_apart_many c) F S_apart_many hm (fun _ _ _ _ _ _ us hl => match us, hl with | [_, _, _], _ => rfl) fun cdv A outer s H E hr tk hp hu =>
 (lss_cons (ls_expr (lm_call (x := "check_line") (dvs := []) D_check_line 0 (by decide) (hr.mono (by decide)) rfl tk (la_cons (lm_var 0) la_nil)))
 (lss_cons (ls_expr (lm_call (x := "check_line") (dvs := []) D_check_line 0 (by decide) (hr.mono (by decide)) rfl tk (la_cons (lm_var 1) la_nil)))
 (lss_cons (ls_if (lt_cmp (op_neX hu) s_ne (lm_sl (lm_var 0) (lo_some (lm_c (.int 1) pe_int)) lo_none) (lm_sl (lm_var 1) (lo_some (lm_c (.int 1) pe_int)) lo_none))
 (lss_one (ls_raise rfl tk PySem.F.excBase_ValueError T.x_NoLine.q T.x_NoLine.g T.x_NoLine.k (raises_own T.x_NoLine.b T.x_NoLine.t) rfl))
 lss_nil)
 (lss_cons (ls_expr (lm_call (x := "check_cycle") (dvs := [(.int 0)]) D_check_cycle 0 (by decide) (hr.mono (by decide)) rfl tk (la_cons (lm_var 2) la_nil)))
 (lss_cons (ls_if (lt_cmp op_ge s_ge (lm_callB call_abs s_abs rfl T.b_abs (by decide +kernel) (la_cons (lm_op op_sub s_sub (lm_ix ix_seq s_ix (lm_var 0) (lm_c (.int 0) pe_int)) (lm_ix ix_seq s_ix (lm_var 1) (lm_c (.int 0) pe_int))) la_nil)) (lm_call (x := "power") (dvs := []) D_power 0 (by decide) (hr.mono (by decide)) rfl tk (la_cons (lm_ix ix_seq s_ix (lm_var 0) (lm_c (.int 2) pe_int)) la_nil)))
 (lss_one (ls_ret (lm_var 2)))
 lss_nil)
 (lss_one (ls_ret (lm_callB call_abs s_abs rfl T.b_abs (by decide +kernel) (la_cons (lm_call (x := "excess") (dvs := []) D_excess 0 (by decide) (hr.mono (by decide)) rfl tk (la_cons (lm_var 0) (la_cons (lm_var 1) (la_cons (lm_c (.int 0) pe_int) (la_cons (lm_var 2) la_nil))))) la_nil)))))))))
theorem okK_apart_many (T : Txt K mg c) (F : FunD K "apart_many" "apart_many" (defArgs s_apart_many) (defBody s_apart_many) (defScope s_apart_many) [] [] f fd) (hm : mg "apart_many" = some (.ref f)) (D_check_cycle : ∀ [LamT], Df P w K mg base 2 "check_cycle" 2 [(.int 0)] (m_check_cycle c)) (D_check_line : ∀ [LamT], Df P w K mg base 3 "check_line" 1 [] (m_check_line c)) (D_excess : ∀ [LamT], Df P w K mg base 3 "excess" 4 [] (m_excess c)) (D_power : ∀ [LamT], Df P w K mg base 1 "power" 1 [] (m_power c)) : ∀ [LamT], DfK P w K mg base 4 "apart_many" 3 ["last", "other", "one"] (pick [2, 1, 0]) (m_apart_many c) := by
 intro I
 obtain rfl := T.kk
 exact dfKn (N := N_apart_many) (mb := b_apart_many c) F S_apart_many hm (fun _ _ _ _ _ _ us hl => match us, hl with | [_, _, _], _ => rfl) fun cdv A outer s H E hr tk hp hu =>
 (lss_cons (ls_expr (lm_call (x := "check_line") (dvs := []) D_check_line 0 (by decide) (hr.mono (by decide)) rfl tk (la_cons (lm_var 0) la_nil)))
 (lss_cons (ls_expr (lm_call (x := "check_line") (dvs := []) D_check_line 0 (by decide) (hr.mono (by decide)) rfl tk (la_cons (lm_var 1) la_nil)))
 (lss_cons (ls_if (lt_cmp (op_neX hu) s_ne (lm_sl (lm_var 0) (lo_some (lm_c (.int 1) pe_int)) lo_none) (lm_sl (lm_var 1) (lo_some (lm_c (.int 1) pe_int)) lo_none))
 (lss_one (ls_raise rfl tk PySem.F.excBase_ValueError T.x_NoLine.q T.x_NoLine.g T.x_NoLine.k (raises_own T.x_NoLine.b T.x_NoLine.t) rfl))
 lss_nil)
 (lss_cons (ls_expr (lm_call (x := "check_cycle") (dvs := [(.int 0)]) D_check_cycle 0 (by decide) (hr.mono (by decide)) rfl tk (la_cons (lm_var 2) la_nil)))
 (lss_cons (ls_if (lt_cmp op_ge s_ge (lm_callB call_abs s_abs rfl T.b_abs (by decide +kernel) (la_cons (lm_op op_sub s_sub (lm_ix ix_seq s_ix (lm_var 0) (lm_c (.int 0) pe_int)) (lm_ix ix_seq s_ix (lm_var 1) (lm_c (.int 0) pe_int))) la_nil)) (lm_call (x := "power") (dvs := []) D_power 0 (by decide) (hr.mono (by decide)) rfl tk (la_cons (lm_ix ix_seq s_ix (lm_var 0) (lm_c (.int 2) pe_int)) la_nil)))
 (lss_one (ls_ret (lm_var 2)))
 lss_nil)
 (lss_one (ls_ret (lm_callB call_abs s_abs rfl T.b_abs (by decide +kernel) (la_cons (lm_call (x := "excess") (dvs := []) D_excess 0 (by decide) (hr.mono (by decide)) rfl tk (la_cons (lm_var 0) (la_cons (lm_var 1) (la_cons (lm_c (.int 0) pe_int) (la_cons (lm_var 2) la_nil))))) la_nil)))))))))
abbrev s_round_up : Stmt := topS 11
abbrev N_round_up : List Str := ["number", "by"]
theorem S_round_up : FnScope N_round_up ["number", "by"] (defScope s_round_up) := ⟨rfl, rfl, rfl, by decide +kernel, rfl, by decide +kernel, by decide +kernel⟩
theorem ok_round_up (T : Txt K mg c) (F : FunD K "round_up" "round_up" (defArgs s_round_up) (defBody s_round_up) (defScope s_round_up) [] [] f fd) (hm : mg "round_up" = some (.ref f))  : ∀ [LamT], Df P w K mg base 1 "round_up" 2 [] (m_round_up c) := by
 intro I
 obtain rfl := T.kk
 exact df0 (N := N_round_up) (mb := b_round_up c) F S_round_up hm (fun _ _ _ _ _ _ us hl => match us, hl with | [_, _], _ => rfl) fun cdv A outer s H E hr tk hp hu =>
 (lss_one (ls_ret (lm_op op_sub s_sub (lm_c (.int 0) pe_int) (lm_op op_fdivW s_fdiv (lm_op op_sub s_sub (lm_c (.int 0) pe_int) (lm_var 0)) (lm_var 1)))))
abbrev s_turning : Stmt := topS 29
abbrev N_turning : List Str := ["one", "other", "left", "right"]
theorem S_turning : FnScope N_turning ["one", "other"] (defScope s_turning) := ⟨rfl, rfl, rfl, by decide +kernel, rfl, by decide +kernel, by decide +kernel⟩
theorem ok_turning (T : Txt K mg c) (F : FunD K "turning" "turning" (defArgs s_turning) (defBody s_turning) (defScope s_turning) [] [] f fd) (hm : mg "turning" = some (.ref f)) (D_power : ∀ [LamT], Df P w K mg base 1 "power" 1 [] (m_power c)) : ∀ [LamT], Df P w K mg base 2 "turning" 2 [] (m_turning c) := by
 intro I
 obtain rfl := T.kk
 exact df0 (N := N_turning) (mb := b_turning c) F S_turning hm (fun _ _ _ _ _ _ us hl => match us, hl with | [_, _], _ => rfl) fun cdv A outer s H E hr tk hp hu =>
 (lss_cons (ls_par (i := 2) (j := 3) (fun h => ps_par (i := 2) (j := 3) rfl S_turning.nd rfl rfl (by decide) rfl rfl h rfl) (la_cons (lm_call (x := "power") (dvs := []) D_power 0 (by decide) (hr.mono (by decide)) rfl tk (la_cons (lm_ix ix_seq s_ix (lm_var 1) (lm_c (.int 2) pe_int)) la_nil)) (la_cons (lm_call (x := "power") (dvs := []) D_power 0 (by decide) (hr.mono (by decide)) rfl tk (la_cons (lm_ix ix_seq s_ix (lm_var 0) (lm_c (.int 2) pe_int)) la_nil)) la_nil)))
 (lss_one (ls_ret (lm_tup (la_cons (lm_op op_sub s_sub (lm_op op_mulA s_mulA (lm_ix ix_seq s_ix (lm_var 0) (lm_c (.int 0) pe_int)) (lm_var 2)) (lm_op op_mulA s_mulA (lm_ix ix_seq s_ix (lm_var 1) (lm_c (.int 0) pe_int)) (lm_var 3))) (la_cons (lm_op op_sub s_sub (lm_op op_mulA s_mulA (lm_ix ix_seq s_ix (lm_var 0) (lm_c (.int 1) pe_int)) (lm_var 2)) (lm_op op_mulA s_mulA (lm_ix ix_seq s_ix (lm_var 1) (lm_c (.int 1) pe_int)) (lm_var 3))) la_nil))))))
abbrev s_ahead_from : Stmt := topS 31
abbrev N_ahead_from : List Str := ["one", "other", "gap", "growth"]
theorem S_ahead_from : FnScope N_ahead_from ["one", "other"] (defScope s_ahead_from) := ⟨rfl, rfl, rfl, by decide +kernel, rfl, by decide +kernel, by decide +kernel⟩
theorem ok_ahead_from (T : Txt K mg c) (F : FunD K "ahead_from" "ahead_from" (defArgs s_ahead_from) (defBody s_ahead_from) (defScope s_ahead_from) [] [] f fd) (hm : mg "ahead_from" = some (.ref f)) (D_round_up : ∀ [LamT], Df P w K mg base 1 "round_up" 2 [] (m_round_up c)) (D_turning : ∀ [LamT], Df P w K mg base 2 "turning" 2 [] (m_turning c)) : ∀ [LamT], Df P w K mg base 3 "ahead_from" 2 [] (m_ahead_from c) := by
 intro I
 obtain rfl := T.kk
 exact df0 (N := N_ahead_from) (mb := b_ahead_from c) F S_ahead_from hm (fun _ _ _ _ _ _ us hl => match us, hl with | [_, _], _ => rfl) fun cdv A outer s H E hr tk hp hu =>
 (lss_cons (ls_asg (lm_call (x := "turning") (dvs := []) D_turning 0 (by decide) (hr.mono (by decide)) rfl tk (la_cons (lm_var 0) (la_cons (lm_var 1) la_nil))) (pg_tup rfl (pgs_cons (pg_name (i := 2) S_ahead_from.nd rfl (Or.inl rfl)) (pgs_cons (pg_name (i := 3) S_ahead_from.nd rfl (Or.inl rfl)) pgs_nil))) (sg_tup (sg_cons (sg_nm 2) (sg_cons (sg_nm 3) sg_nil))))
 (lss_cons (ls_if (lt_cmp (op_eqX hu) s_eq (lm_var 3) (lm_c (.int 0) pe_int))
 (lss_one (ls_ret (lm_if (lt_cmp op_ge s_ge (lm_var 2) (lm_c (.int 0) pe_int)) (lm_tup (la_cons (lm_c (.int 0) pe_int) (la_cons (lm_c .non pe_non) la_nil))) (lm_c .non pe_non))))
 lss_nil)
 (lss_cons (ls_if (lt_cmp op_gt s_gt (lm_var 3) (lm_c (.int 0) pe_int))
 (lss_one (ls_ret (lm_tup (la_cons (lm_callB (call_max2 rfl) s_max2 rfl T.b_max (by decide +kernel) (la_cons (lm_c (.int 0) pe_int) (la_cons (lm_call (x := "round_up") (dvs := []) D_round_up 0 (by decide) (hr.mono (by decide)) rfl tk (la_cons (lm_op op_sub s_sub (lm_c (.int 0) pe_int) (lm_var 2)) (la_cons (lm_var 3) la_nil))) la_nil))) (la_cons (lm_c .non pe_non) la_nil)))))
 lss_nil)
 (lss_one (ls_ret (lm_if (lt_cmp op_ge s_ge (lm_var 2) (lm_c (.int 0) pe_int)) (lm_tup (la_cons (lm_c (.int 0) pe_int) (la_cons (lm_op op_addA s_add (lm_op op_fdivW s_fdiv (lm_var 2) (lm_op op_sub s_sub (lm_c (.int 0) pe_int) (lm_var 3))) (lm_c (.int 1) pe_int)) la_nil))) (lm_c .non pe_non)))))))
abbrev s_first_count : Stmt := topS 13
abbrev N_first_count : List Str := ["begin", "fits", "step", "low", "high", "middle"]
theorem S_first_count : FnScope N_first_count ["begin", "fits"] (defScope s_first_count) := ⟨rfl, rfl, rfl, by decide +kernel, rfl, by decide +kernel, by decide +kernel⟩
theorem ok_first_count (T : Txt K mg c) (F : FunD K "first_count" "first_count" (defArgs s_first_count) (defBody s_first_count) (defScope s_first_count) [] [] f fd) (hm : mg "first_count" = some (.ref f))  : ∀ {k : Nat}, DfL P w K mg base k "first_count" 1 6 (b_first_count c) := by
 intro k
 obtain rfl := T.kk
 exact dfL (N := N_first_count) (n := 1) F S_first_count hm rfl rfl (by first | exact Or.inl rfl | exact Or.inr (Or.inl rfl)) (fun _ _ _ _ _ _ us hl => match us, hl with | [_, _], _ => rfl) fun I base2 cdv A outer s H m lam hr tk hp hu act =>
 (lss_cons (ls_if (lt_val (act (lm_var 0) (by first | exact Or.inl rfl | exact Or.inr (Or.inl rfl) | exact Or.inr (Or.inr rfl)) rfl))
 (lss_one (ls_ret (lm_var 0)))
 lss_nil)
 (lss_cons (ls_set (i := 2) S_first_count.nd rfl (Or.inl rfl) (lm_c (.int 1) pe_int))
 (lss_cons (ls_while 1000000 hp (lt_not (lt_val (act (lm_op op_addA s_add (lm_var 0) (lm_var 2)) (by first | exact Or.inl rfl | exact Or.inr (Or.inl rfl) | exact Or.inr (Or.inr rfl)) rfl)))
 (lss_one (ls_aug (i := 2) S_first_count.nd rfl (Or.inl rfl) iop_mulX s_mul (lm_c (.int 2) pe_int))))
 (lss_cons (ls_par (i := 3) (j := 4) (fun h => ps_par (i := 3) (j := 4) rfl S_first_count.nd rfl rfl (by decide) rfl rfl h rfl) (la_cons (lm_op op_addA s_add (lm_var 0) (lm_op op_fdivW s_fdiv (lm_var 2) (lm_c (.int 2) pe_int))) (la_cons (lm_op op_addA s_add (lm_var 0) (lm_var 2)) la_nil)))
 (lss_cons (ls_while 1000000 hp (lt_cmp op_gt s_gt (lm_op op_sub s_sub (lm_var 4) (lm_var 3)) (lm_c (.int 1) pe_int))
 (lss_cons (ls_set (i := 5) S_first_count.nd rfl (Or.inl rfl) (lm_op op_fdivW s_fdiv (lm_op op_addA s_add (lm_var 3) (lm_var 4)) (lm_c (.int 2) pe_int)))
 (lss_one (ls_if (lt_val (act (lm_var 5) (by first | exact Or.inl rfl | exact Or.inr (Or.inl rfl) | exact Or.inr (Or.inr rfl)) rfl))
 (lss_one (ls_set (i := 4) S_first_count.nd rfl (Or.inl rfl) (lm_var 5)))
 (lss_one (ls_set (i := 3) S_first_count.nd rfl (Or.inl rfl) (lm_var 5)))))))
 (lss_one (ls_ret (lm_var 4))))))))
abbrev s_first_more : Stmt := topS 30
abbrev N_first_more : List Str := ["one", "other", "begin", "behind", "gap", "growth", "many"]
theorem S_first_more : FnScope N_first_more ["one", "other", "begin", "behind"] (defScope s_first_more) := ⟨rfl, rfl, rfl, by decide +kernel, rfl, by decide +kernel, by decide +kernel⟩
theorem ok_first_more {cM PM : Addr} (T : Txt K mg c) (F : FunD K "first_more" "first_more" (defArgs s_first_more) (defBody s_first_more) (defScope s_first_more) [] [] f fd) (hm : mg "first_more" = some (.ref f)) (D_excess : ∀ [LamT], Df P w K mg base 3 "excess" 4 [] (m_excess c)) (DL_first_count : ∀ {k : Nat}, DfL P w K mg base k "first_count" 1 6 (b_first_count c)) (D_power : ∀ [LamT], Df P w K mg base 1 "power" 1 [] (m_power c)) (D_turning : ∀ [LamT], Df P w K mg base 2 "turning" 2 [] (m_turning c)) (hc : fd.code = .ref cM) (ML : MkL base mg cM PM (("first_more" ++ ".<locals>.") ++ "<lambda>")) : ∀ [LamT], Df P w K mg base 6 "first_more" 4 [] (m_first_more c) := by
 intro I
 obtain rfl := T.kk
 exact df0M (N := N_first_more) (mb := b_first_more c) F hc S_first_more hm (fun _ _ _ _ _ _ us hl => match us, hl with | [_, _, _, _], _ => rfl) fun A outer s H E hr tk hp hu =>
 (lss_cons (ls_if (lt_cmp op_isN s_isN (lm_var 3) (lm_c .non pe_non))
 (lss_cons (ls_asg (lm_call (x := "turning") (dvs := []) D_turning 0 (by decide) (hr.mono (by decide)) rfl tk (la_cons (lm_var 0) (la_cons (lm_var 1) la_nil))) (pg_tup rfl (pgs_cons (pg_name (i := 4) S_first_more.nd rfl (Or.inl rfl)) (pgs_cons (pg_name (i := 5) S_first_more.nd rfl (Or.inl rfl)) pgs_nil))) (sg_tup (sg_cons (sg_nm 4) (sg_cons (sg_nm 5) sg_nil))))
 (lss_cons (ls_if (lt_cmp op_gt s_gt (lm_var 5) (lm_c (.int 0) pe_int))
 (lss_one (ls_ret (lm_op op_addA s_add (lm_var 2) (lm_callL (x := "first_count") (k := 3) (p := 6) DL_first_count (hr.mono (by decide)) rfl (AL.cons (lm_c (.int 0) pe_int) (fun _ => rfl) AL.nil) tk ML rfl (show LamP (defScope s_first_more) _ _ from lamP_by (by decide +kernel)) S_first_more.nd rfl rfl (fun _ _ _ _ _ _ => rfl) rfl (fun I A outer s H f c' hr => (lm_cmp op_gt s_gt (lm_call (x := "excess") (dvs := []) D_excess 0 (by decide) (hr.mono (by decide)) rfl takes_none (la_cons (lm_var 0) (la_cons (lm_var 1) (la_cons (lm_var 2) (la_cons (lm_op op_addA s_add (lm_var 6) (lm_c (.int 1) pe_int)) la_nil))))) (lm_c (.int 0) pe_int))) (hpl := by intro _ _ h; cases h; exact ⟨rfl, rfl⟩)))))
 lss_nil)
 (lss_one (ls_set (i := 3) S_first_more.nd rfl (Or.inr rfl) (lm_op op_addA s_add (lm_var 2) (lm_callB (call_max2 rfl) s_max2 rfl T.b_max (by decide +kernel) (la_cons (lm_call (x := "power") (dvs := []) D_power 0 (by decide) (hr.mono (by decide)) rfl tk (la_cons (lm_ix ix_seq s_ix (lm_var 0) (lm_c (.int 2) pe_int)) la_nil)) (la_cons (lm_call (x := "power") (dvs := []) D_power 0 (by decide) (hr.mono (by decide)) rfl tk (la_cons (lm_ix ix_seq s_ix (lm_var 1) (lm_c (.int 2) pe_int)) la_nil)) la_nil))))))))
 lss_nil)
 (lss_cons (ls_if (PW.pt (lw_or (lt_cmp op_ge s_ge (lm_var 2) (lm_var 3)) (lw_or1 (lt_cmp (op_eqX hu) s_eq (lm_call (x := "excess") (dvs := []) D_excess 0 (by decide) (hr.mono (by decide)) rfl tk (la_cons (lm_var 0) (la_cons (lm_var 1) (la_cons (lm_var 2) (la_cons (lm_op op_sub s_sub (lm_var 3) (lm_var 2)) la_nil))))) (lm_c (.int 0) pe_int)))))
 (lss_one (ls_ret (lm_c .non pe_non)))
 lss_nil)
 (lss_one (ls_ret (lm_op op_addA s_add (lm_var 2) (lm_callL (x := "first_count") (k := 3) (p := 6) DL_first_count (hr.mono (by decide)) rfl (AL.cons (lm_c (.int 0) pe_int) (fun _ => rfl) AL.nil) tk ML rfl (show LamP (defScope s_first_more) _ _ from lamP_by (by decide +kernel)) S_first_more.nd rfl rfl (fun _ _ _ _ _ _ => rfl) rfl (fun I A outer s H f c' hr => (lm_cmp op_gt s_gt (lm_call (x := "excess") (dvs := []) D_excess 0 (by decide) (hr.mono (by decide)) rfl takes_none (la_cons (lm_var 0) (la_cons (lm_var 1) (la_cons (lm_var 2) (la_cons (lm_callB (call_min2 rfl) s_min2 rfl T.b_min (by decide +kernel) (la_cons (lm_op op_addA s_add (lm_var 6) (lm_c (.int 1) pe_int)) (la_cons (lm_op op_sub s_sub (lm_var 3) (lm_var 2)) la_nil))) la_nil))))) (lm_c (.int 0) pe_int))) (hpl := by intro _ _ h; cases h; exact ⟨rfl, rfl⟩)))))))
abbrev s_first_above : Stmt := topS 32
abbrev N_first_above : List Str := ["one", "other", "stretch"]
theorem S_first_above : FnScope N_first_above ["one", "other"] (defScope s_first_above) := ⟨rfl, rfl, rfl, by decide +kernel, rfl, by decide +kernel, by decide +kernel⟩
theorem ok_first_above (T : Txt K mg c) (F : FunD K "first_above" "first_above" (defArgs s_first_above) (defBody s_first_above) (defScope s_first_above) [] [] f fd) (hm : mg "first_above" = some (.ref f)) (D_ahead_from : ∀ [LamT], Df P w K mg base 3 "ahead_from" 2 [] (m_ahead_from c)) (D_first_more : ∀ [LamT], Df P w K mg base 6 "first_more" 4 [] (m_first_more c)) : ∀ [LamT], Df P w K mg base 7 "first_above" 2 [] (m_first_above c) := by
 intro I
 obtain rfl := T.kk
 exact df0 (N := N_first_above) (mb := b_first_above c) F S_first_above hm (fun _ _ _ _ _ _ us hl => match us, hl with | [_, _], _ => rfl) fun cdv A outer s H E hr tk hp hu =>
 (lss_cons (ls_set (i := 2) S_first_above.nd rfl (Or.inl rfl) (lm_call (x := "ahead_from") (dvs := []) D_ahead_from 0 (by decide) (hr.mono (by decide)) rfl tk (la_cons (lm_var 0) (la_cons (lm_var 1) la_nil))))
 (lss_one (ls_ret (lm_if (lt_cmp op_isN s_isN (lm_var 2) (lm_c .non pe_non)) (lm_c .non pe_non) (lm_call (x := "first_more") (dvs := []) D_first_more 0 (by decide) (hr.mono (by decide)) rfl tk (la_cons (lm_var 0) (la_cons (lm_var 1) (la_cons (lm_ix ix_seq s_ix (lm_var 2) (lm_c (.int 0) pe_int)) (la_cons (lm_ix ix_seq s_ix (lm_var 2) (lm_c (.int 1) pe_int)) la_nil)))))))))
abbrev s_first_ahead : Stmt := topS 33
abbrev N_first_ahead : List Str := ["one", "other"]
theorem S_first_ahead : FnScope N_first_ahead ["one", "other"] (defScope s_first_ahead) := ⟨rfl, rfl, rfl, by decide +kernel, rfl, by decide +kernel, by decide +kernel⟩
theorem ok_first_ahead (T : Txt K mg c) (F : FunD K "first_ahead" "first_ahead" (defArgs s_first_ahead) (defBody s_first_ahead) (defScope s_first_ahead) [] [] f fd) (hm : mg "first_ahead" = some (.ref f)) (D_check_line : ∀ [LamT], Df P w K mg base 3 "check_line" 1 [] (m_check_line c)) (D_first_above : ∀ [LamT], Df P w K mg base 7 "first_above" 2 [] (m_first_above c)) : ∀ [LamT], Df P w K mg base 8 "first_ahead" 2 [] (m_first_ahead c) := by
 intro I
 obtain rfl := T.kk
 exact df0 (N := N_first_ahead) (mb := b_first_ahead c) F S_first_ahead hm (fun _ _ _ _ _ _ us hl => match us, hl with | [_, _], _ => rfl) fun cdv A outer s H E hr tk hp hu =>
 (lss_cons (ls_expr (lm_call (x := "check_line") (dvs := []) D_check_line 0 (by decide) (hr.mono (by decide)) rfl tk (la_cons (lm_var 0) la_nil)))
 (lss_cons (ls_expr (lm_call (x := "check_line") (dvs := []) D_check_line 0 (by decide) (hr.mono (by decide)) rfl tk (la_cons (lm_var 1) la_nil)))
 (lss_one (ls_ret (lm_call (x := "first_above") (dvs := []) D_first_above 0 (by decide) (hr.mono (by decide)) rfl tk (la_cons (lm_var 0) (la_cons (lm_var 1) la_nil)))))))
theorem okK_first_ahead (T : Txt K mg c) (F : FunD K "first_ahead" "first_ahead" (defArgs s_first_ahead) (defBody s_first_ahead) (defScope s_first_ahead) [] [] f fd) (hm : mg "first_ahead" = some (.ref f)) (D_check_line : ∀ [LamT], Df P w K mg base 3 "check_line" 1 [] (m_check_line c)) (D_first_above : ∀ [LamT], Df P w K mg base 7 "first_above" 2 [] (m_first_above c)) : ∀ [LamT], DfK P w K mg base 8 "first_ahead" 2 ["other", "one"] (pick [1, 0]) (m_first_ahead c) := by
 intro I
 obtain rfl := T.kk
 exact dfKn (N := N_first_ahead) (mb := b_first_ahead c) F S_first_ahead hm (fun _ _ _ _ _ _ us hl => match us, hl with | [_, _], _ => rfl) fun cdv A outer s H E hr tk hp hu =>
 (lss_cons (ls_expr (lm_call (x := "check_line") (dvs := []) D_check_line 0 (by decide) (hr.mono (by decide)) rfl tk (la_cons (lm_var 0) la_nil)))
 (lss_cons (ls_expr (lm_call (x := "check_line") (dvs := []) D_check_line 0 (by decide) (hr.mono (by decide)) rfl tk (la_cons (lm_var 1) la_nil)))
 (lss_one (ls_ret (lm_call (x := "first_above") (dvs := []) D_first_above 0 (by decide) (hr.mono (by decide)) rfl tk (la_cons (lm_var 0) (la_cons (lm_var 1) la_nil)))))))
abbrev s_parting : Stmt := topS 34
abbrev N_parting : List Str := ["one", "other", "found", "cycle"]
theorem S_parting : FnScope N_parting ["one", "other"] (defScope s_parting) := ⟨rfl, rfl, rfl, by decide +kernel, rfl, by decide +kernel, by decide +kernel⟩
theorem ok_parting (T : Txt K mg c) (F : FunD K "parting" "parting" (defArgs s_parting) (defBody s_parting) (defScope s_parting) [] [] f fd) (hm : mg "parting" = some (.ref f)) (D_first_above : ∀ [LamT], Df P w K mg base 7 "first_above" 2 [] (m_first_above c)) : ∀ [LamT], Df P w K mg base 8 "parting" 2 [] (m_parting c) := by
 intro I
 obtain rfl := T.kk
 exact df0 (N := N_parting) (mb := b_parting c) F S_parting hm (fun _ _ _ _ _ _ us hl => match us, hl with | [_, _], _ => rfl) fun cdv A outer s H E hr tk hp hu =>
 (lss_cons (ls_lc (own := [("cycle", 3)]) (i := 2) rfl S_parting.nd rfl rfl (sw_true rfl rfl rfl (by decide +kernel)) (li_tup (lm_tup (la_cons (lm_call (x := "first_above") (dvs := []) D_first_above 0 (by decide) (hr.mono (by decide)) rfl tk (la_cons (lm_var 0) (la_cons (lm_var 1) la_nil))) (la_cons (lm_call (x := "first_above") (dvs := []) D_first_above 0 (by decide) (hr.mono (by decide)) rfl tk (la_cons (lm_var 1) (la_cons (lm_var 0) la_nil))) la_nil)))) (blkOk_by (own := [("cycle", 3)]) (N := N_parting) (sc := defScope s_parting) (by decide +kernel)) (sg_nm 3) (by decide) (fun _ _ _ _ _ => (pg_name (i := 3) S_parting.nd rfl (Or.inl rfl))) (fun _ _ _ _ _ => lts_one (lt_cmp op_notN s_notN (lm_var 3) (lm_c .non pe_non))) (fun _ _ _ _ _ => (lm_var 3)))
 (lss_one (ls_ret (lm_minD rfl hu rfl T.b_min (lm_var 2)))))
abbrev s_first_apart : Stmt := topS 35
abbrev N_first_apart : List Str := ["one", "other"]
theorem S_first_apart : FnScope N_first_apart ["one", "other"] (defScope s_first_apart) := ⟨rfl, rfl, rfl, by decide +kernel, rfl, by decide +kernel, by decide +kernel⟩
theorem ok_first_apart (T : Txt K mg c) (F : FunD K "first_apart" "first_apart" (defArgs s_first_apart) (defBody s_first_apart) (defScope s_first_apart) [] [] f fd) (hm : mg "first_apart" = some (.ref f)) (D_check_line : ∀ [LamT], Df P w K mg base 3 "check_line" 1 [] (m_check_line c)) (D_parting : ∀ [LamT], Df P w K mg base 8 "parting" 2 [] (m_parting c)) : ∀ [LamT], Df P w K mg base 9 "first_apart" 2 [] (m_first_apart c) := by
 intro I
 obtain rfl := T.kk
 exact df0 (N := N_first_apart) (mb := b_first_apart c) F S_first_apart hm (fun _ _ _ _ _ _ us hl => match us, hl with | [_, _], _ => rfl) fun cdv A outer s H E hr tk hp hu =>
 (lss_cons (ls_expr (lm_call (x := "check_line") (dvs := []) D_check_line 0 (by decide) (hr.mono (by decide)) rfl tk (la_cons (lm_var 0) la_nil)))
 (lss_cons (ls_expr (lm_call (x := "check_line") (dvs := []) D_check_line 0 (by decide) (hr.mono (by decide)) rfl tk (la_cons (lm_var 1) la_nil)))
 (lss_one (ls_ret (lm_call (x := "parting") (dvs := []) D_parting 0 (by decide) (hr.mono (by decide)) rfl tk (la_cons (lm_var 0) (la_cons (lm_var 1) la_nil)))))))
theorem okK_first_apart (T : Txt K mg c) (F : FunD K "first_apart" "first_apart" (defArgs s_first_apart) (defBody s_first_apart) (defScope s_first_apart) [] [] f fd) (hm : mg "first_apart" = some (.ref f)) (D_check_line : ∀ [LamT], Df P w K mg base 3 "check_line" 1 [] (m_check_line c)) (D_parting : ∀ [LamT], Df P w K mg base 8 "parting" 2 [] (m_parting c)) : ∀ [LamT], DfK P w K mg base 9 "first_apart" 2 ["other", "one"] (pick [1, 0]) (m_first_apart c) := by
 intro I
 obtain rfl := T.kk
 exact dfKn (N := N_first_apart) (mb := b_first_apart c) F S_first_apart hm (fun _ _ _ _ _ _ us hl => match us, hl with | [_, _], _ => rfl) fun cdv A outer s H E hr tk hp hu =>
 (lss_cons (ls_expr (lm_call (x := "check_line") (dvs := []) D_check_line 0 (by decide) (hr.mono (by decide)) rfl tk (la_cons (lm_var 0) la_nil)))
 (lss_cons (ls_expr (lm_call (x := "check_line") (dvs := []) D_check_line 0 (by decide) (hr.mono (by decide)) rfl tk (la_cons (lm_var 1) la_nil)))
 (lss_one (ls_ret (lm_call (x := "parting") (dvs := []) D_parting 0 (by decide) (hr.mono (by decide)) rfl tk (la_cons (lm_var 0) (la_cons (lm_var 1) la_nil)))))))
abbrev s_check_reading : Stmt := topS 21
abbrev N_check_reading : List Str := ["reading"]
theorem S_check_reading : FnScope N_check_reading ["reading"] (defScope s_check_reading) := ⟨rfl, rfl, rfl, by decide +kernel, rfl, by decide +kernel, by decide +kernel⟩
theorem ok_check_reading (T : Txt K mg c) (F : FunD K "check_reading" "check_reading" (defArgs s_check_reading) (defBody s_check_reading) (defScope s_check_reading) [] [] f fd) (hm : mg "check_reading" = some (.ref f)) (D_is_whole : ∀ [LamT], Df P w K mg base 1 "is_whole" 2 [.non] (m_is_whole c)) : ∀ [LamT], Df P w K mg base 2 "check_reading" 1 [] (m_check_reading c) := by
 intro I
 obtain rfl := T.kk
 exact df0 (N := N_check_reading) (mb := b_check_reading c) F S_check_reading hm (fun _ _ _ _ _ _ us hl => match us, hl with | [_], _ => rfl) fun cdv A outer s H E hr tk hp hu =>
 (lss_one (ls_if (lt_not (lt_val (lm_call (x := "is_whole") (dvs := [.non]) D_is_whole 0 (by decide) (hr.mono (by decide)) rfl tk (la_cons (lm_var 0) la_nil))))
 (lss_one (ls_raise rfl tk PySem.F.excBase_ValueError T.x_NoReading.q T.x_NoReading.g T.x_NoReading.k (raises_own T.x_NoReading.b T.x_NoReading.t) rfl))
 lss_nil))
abbrev s_reached : Stmt := topS 24
abbrev N_reached : List Str := ["line", "reading", "lack"]
theorem S_reached : FnScope N_reached ["line", "reading"] (defScope s_reached) := ⟨rfl, rfl, rfl, by decide +kernel, rfl, by decide +kernel, by decide +kernel⟩
theorem ok_reached (T : Txt K mg c) (F : FunD K "reached" "reached" (defArgs s_reached) (defBody s_reached) (defScope s_reached) [] [] f fd) (hm : mg "reached" = some (.ref f)) (D_round_up : ∀ [LamT], Df P w K mg base 1 "round_up" 2 [] (m_round_up c)) : ∀ [LamT], Df P w K mg base 2 "reached" 2 [] (m_reached c) := by
 intro I
 obtain rfl := T.kk
 exact df0 (N := N_reached) (mb := b_reached c) F S_reached hm (fun _ _ _ _ _ _ us hl => match us, hl with | [_, _], _ => rfl) fun cdv A outer s H E hr tk hp hu =>
 (lss_cons (ls_set (i := 2) S_reached.nd rfl (Or.inl rfl) (lm_op op_sub s_sub (lm_op op_shlW s_shl (lm_var 1) (lm_ix ix_seq s_ix (lm_var 0) (lm_c (.int 2) pe_int))) (lm_ix ix_seq s_ix (lm_var 0) (lm_c (.int 0) pe_int))))
 (lss_cons (ls_if (lt_cmp op_le s_le (lm_var 2) (lm_c (.int 0) pe_int))
 (lss_one (ls_ret (lm_c (.int 0) pe_int)))
 lss_nil)
 (lss_one (ls_ret (lm_if (lt_cmp op_gt s_gt (lm_ix ix_seq s_ix (lm_var 0) (lm_c (.int 1) pe_int)) (lm_c (.int 0) pe_int)) (lm_call (x := "round_up") (dvs := []) D_round_up 0 (by decide) (hr.mono (by decide)) rfl tk (la_cons (lm_var 2) (la_cons (lm_ix ix_seq s_ix (lm_var 0) (lm_c (.int 1) pe_int)) la_nil))) (lm_c .non pe_non))))))
abbrev s_first_reach : Stmt := topS 25
abbrev N_first_reach : List Str := ["line", "reading"]
theorem S_first_reach : FnScope N_first_reach ["line", "reading"] (defScope s_first_reach) := ⟨rfl, rfl, rfl, by decide +kernel, rfl, by decide +kernel, by decide +kernel⟩
theorem ok_first_reach (T : Txt K mg c) (F : FunD K "first_reach" "first_reach" (defArgs s_first_reach) (defBody s_first_reach) (defScope s_first_reach) [] [] f fd) (hm : mg "first_reach" = some (.ref f)) (D_check_line : ∀ [LamT], Df P w K mg base 3 "check_line" 1 [] (m_check_line c)) (D_check_reading : ∀ [LamT], Df P w K mg base 2 "check_reading" 1 [] (m_check_reading c)) (D_reached : ∀ [LamT], Df P w K mg base 2 "reached" 2 [] (m_reached c)) : ∀ [LamT], Df P w K mg base 4 "first_reach" 2 [] (m_first_reach c) := by
 intro I
 obtain rfl := T.kk
 exact df0 (N := N_first_reach) (mb := b_first_reach c) F S_first_reach hm (fun _ _ _ _ _ _ us hl => match us, hl with | [_, _], _ => rfl) fun cdv A outer s H E hr tk hp hu =>
 (lss_cons (ls_expr (lm_call (x := "check_line") (dvs := []) D_check_line 0 (by decide) (hr.mono (by decide)) rfl tk (la_cons (lm_var 0) la_nil)))
 (lss_cons (ls_expr (lm_call (x := "check_reading") (dvs := []) D_check_reading 0 (by decide) (hr.mono (by decide)) rfl tk (la_cons (lm_var 1) la_nil)))
 (lss_one (ls_ret (lm_call (x := "reached") (dvs := []) D_reached 0 (by decide) (hr.mono (by decide)) rfl tk (la_cons (lm_var 0) (la_cons (lm_var 1) la_nil)))))))
theorem okK_first_reach (T : Txt K mg c) (F : FunD K "first_reach" "first_reach" (defArgs s_first_reach) (defBody s_first_reach) (defScope s_first_reach) [] [] f fd) (hm : mg "first_reach" = some (.ref f)) (D_check_line : ∀ [LamT], Df P w K mg base 3 "check_line" 1 [] (m_check_line c)) (D_check_reading : ∀ [LamT], Df P w K mg base 2 "check_reading" 1 [] (m_check_reading c)) (D_reached : ∀ [LamT], Df P w K mg base 2 "reached" 2 [] (m_reached c)) : ∀ [LamT], DfK P w K mg base 4 "first_reach" 2 ["reading", "line"] (pick [1, 0]) (m_first_reach c) := by
 intro I
 obtain rfl := T.kk
 exact dfKn (N := N_first_reach) (mb := b_first_reach c) F S_first_reach hm (fun _ _ _ _ _ _ us hl => match us, hl with | [_, _], _ => rfl) fun cdv A outer s H E hr tk hp hu =>
 (lss_cons (ls_expr (lm_call (x := "check_line") (dvs := []) D_check_line 0 (by decide) (hr.mono (by decide)) rfl tk (la_cons (lm_var 0) la_nil)))
 (lss_cons (ls_expr (lm_call (x := "check_reading") (dvs := []) D_check_reading 0 (by decide) (hr.mono (by decide)) rfl tk (la_cons (lm_var 1) la_nil)))
 (lss_one (ls_ret (lm_call (x := "reached") (dvs := []) D_reached 0 (by decide) (hr.mono (by decide)) rfl tk (la_cons (lm_var 0) (la_cons (lm_var 1) la_nil)))))))
abbrev s_reads : Stmt := topS 22
abbrev N_reads : List Str := ["line", "cycle"]
theorem S_reads : FnScope N_reads ["line", "cycle"] (defScope s_reads) := ⟨rfl, rfl, rfl, by decide +kernel, rfl, by decide +kernel, by decide +kernel⟩
theorem ok_reads (T : Txt K mg c) (F : FunD K "reads" "reads" (defArgs s_reads) (defBody s_reads) (defScope s_reads) [] [] f fd) (hm : mg "reads" = some (.ref f))  : ∀ [LamT], Df P w K mg base 1 "reads" 2 [] (m_reads c) := by
 intro I
 obtain rfl := T.kk
 exact df0 (N := N_reads) (mb := b_reads c) F S_reads hm (fun _ _ _ _ _ _ us hl => match us, hl with | [_, _], _ => rfl) fun cdv A outer s H E hr tk hp hu =>
 (lss_one (ls_ret (lm_op op_shr s_shr (lm_op op_addA s_add (lm_ix ix_seq s_ix (lm_var 0) (lm_c (.int 0) pe_int)) (lm_op op_mulA s_mulA (lm_ix ix_seq s_ix (lm_var 0) (lm_c (.int 1) pe_int)) (lm_var 1))) (lm_ix ix_seq s_ix (lm_var 0) (lm_c (.int 2) pe_int)))))
abbrev s_line_reading : Stmt := topS 23
abbrev N_line_reading : List Str := ["line", "cycle"]
theorem S_line_reading : FnScope N_line_reading ["line", "cycle"] (defScope s_line_reading) := ⟨rfl, rfl, rfl, by decide +kernel, rfl, by decide +kernel, by decide +kernel⟩
theorem ok_line_reading (T : Txt K mg c) (F : FunD K "line_reading" "line_reading" (defArgs s_line_reading) (defBody s_line_reading) (defScope s_line_reading) [] [] f fd) (hm : mg "line_reading" = some (.ref f)) (D_check_cycle : ∀ [LamT], Df P w K mg base 2 "check_cycle" 2 [(.int 0)] (m_check_cycle c)) (D_check_line : ∀ [LamT], Df P w K mg base 3 "check_line" 1 [] (m_check_line c)) (D_reads : ∀ [LamT], Df P w K mg base 1 "reads" 2 [] (m_reads c)) : ∀ [LamT], Df P w K mg base 4 "line_reading" 2 [] (m_line_reading c) := by
 intro I
 obtain rfl := T.kk
 exact df0 (N := N_line_reading) (mb := b_line_reading c) F S_line_reading hm (fun _ _ _ _ _ _ us hl => match us, hl with | [_, _], _ => rfl) fun cdv A outer s H E hr tk hp hu =>
 (lss_cons (ls_expr (lm_call (x := "check_line") (dvs := []) D_check_line 0 (by decide) (hr.mono (by decide)) rfl tk (la_cons (lm_var 0) la_nil)))
 (lss_cons (ls_expr (lm_call (x := "check_cycle") (dvs := [(.int 0)]) D_check_cycle 0 (by decide) (hr.mono (by decide)) rfl tk (la_cons (lm_var 1) la_nil)))
 (lss_one (ls_ret (lm_call (x := "reads") (dvs := []) D_reads 0 (by decide) (hr.mono (by decide)) rfl tk (la_cons (lm_var 0) (la_cons (lm_var 1) la_nil)))))))
theorem okK_line_reading (T : Txt K mg c) (F : FunD K "line_reading" "line_reading" (defArgs s_line_reading) (defBody s_line_reading) (defScope s_line_reading) [] [] f fd) (hm : mg "line_reading" = some (.ref f)) (D_check_cycle : ∀ [LamT], Df P w K mg base 2 "check_cycle" 2 [(.int 0)] (m_check_cycle c)) (D_check_line : ∀ [LamT], Df P w K mg base 3 "check_line" 1 [] (m_check_line c)) (D_reads : ∀ [LamT], Df P w K mg base 1 "reads" 2 [] (m_reads c)) : ∀ [LamT], DfK P w K mg base 4 "line_reading" 2 ["cycle", "line"] (pick [1, 0]) (m_line_reading c) := by
 intro I
 obtain rfl := T.kk
 exact dfKn (N := N_line_reading) (mb := b_line_reading c) F S_line_reading hm (fun _ _ _ _ _ _ us hl => match us, hl with | [_, _], _ => rfl) fun cdv A outer s H E hr tk hp hu =>
 (lss_cons (ls_expr (lm_call (x := "check_line") (dvs := []) D_check_line 0 (by decide) (hr.mono (by decide)) rfl tk (la_cons (lm_var 0) la_nil)))
 (lss_cons (ls_expr (lm_call (x := "check_cycle") (dvs := [(.int 0)]) D_check_cycle 0 (by decide) (hr.mono (by decide)) rfl tk (la_cons (lm_var 1) la_nil)))
 (lss_one (ls_ret (lm_call (x := "reads") (dvs := []) D_reads 0 (by decide) (hr.mono (by decide)) rfl tk (la_cons (lm_var 0) (la_cons (lm_var 1) la_nil)))))))
abbrev s_shows_run : Stmt := topS 26
abbrev N_shows_run : List Str := ["line", "reading", "first", "behind"]
theorem S_shows_run : FnScope N_shows_run ["line", "reading"] (defScope s_shows_run) := ⟨rfl, rfl, rfl, by decide +kernel, rfl, by decide +kernel, by decide +kernel⟩
theorem ok_shows_run (T : Txt K mg c) (F : FunD K "shows_run" "shows_run" (defArgs s_shows_run) (defBody s_shows_run) (defScope s_shows_run) [] [] f fd) (hm : mg "shows_run" = some (.ref f)) (D_check_line : ∀ [LamT], Df P w K mg base 3 "check_line" 1 [] (m_check_line c)) (D_check_reading : ∀ [LamT], Df P w K mg base 2 "check_reading" 1 [] (m_check_reading c)) (D_reached : ∀ [LamT], Df P w K mg base 2 "reached" 2 [] (m_reached c)) (D_reads : ∀ [LamT], Df P w K mg base 1 "reads" 2 [] (m_reads c)) : ∀ [LamT], Df P w K mg base 4 "shows_run" 2 [] (m_shows_run c) := by
 intro I
 obtain rfl := T.kk
 exact df0 (N := N_shows_run) (mb := b_shows_run c) F S_shows_run hm (fun _ _ _ _ _ _ us hl => match us, hl with | [_, _], _ => rfl) fun cdv A outer s H E hr tk hp hu =>
 (lss_cons (ls_expr (lm_call (x := "check_line") (dvs := []) D_check_line 0 (by decide) (hr.mono (by decide)) rfl tk (la_cons (lm_var 0) la_nil)))
 (lss_cons (ls_expr (lm_call (x := "check_reading") (dvs := []) D_check_reading 0 (by decide) (hr.mono (by decide)) rfl tk (la_cons (lm_var 1) la_nil)))
 (lss_cons (ls_set (i := 2) S_shows_run.nd rfl (Or.inl rfl) (lm_call (x := "reached") (dvs := []) D_reached 0 (by decide) (hr.mono (by decide)) rfl tk (la_cons (lm_var 0) (la_cons (lm_var 1) la_nil))))
 (lss_cons (ls_if (PW.pt (lw_or (lt_cmp op_isN s_isN (lm_var 2) (lm_c .non pe_non)) (lw_or1 (lt_cmp (op_neX hu) s_ne (lm_call (x := "reads") (dvs := []) D_reads 0 (by decide) (hr.mono (by decide)) rfl tk (la_cons (lm_var 0) (la_cons (lm_var 2) la_nil))) (lm_var 1)))))
 (lss_one (ls_ret (lm_c .non pe_non)))
 lss_nil)
 (lss_cons (ls_set (i := 3) S_shows_run.nd rfl (Or.inl rfl) (lm_call (x := "reached") (dvs := []) D_reached 0 (by decide) (hr.mono (by decide)) rfl tk (la_cons (lm_var 0) (la_cons (lm_op op_addA s_add (lm_var 1) (lm_c (.int 1) pe_int)) la_nil))))
 (lss_one (ls_ret (lm_tup (la_cons (lm_var 2) (la_cons (lm_if (lt_cmp op_isN s_isN (lm_var 3) (lm_c .non pe_non)) (lm_c .non pe_non) (lm_op op_sub s_sub (lm_var 3) (lm_c (.int 1) pe_int))) la_nil))))))))))
theorem okK_shows_run (T : Txt K mg c) (F : FunD K "shows_run" "shows_run" (defArgs s_shows_run) (defBody s_shows_run) (defScope s_shows_run) [] [] f fd) (hm : mg "shows_run" = some (.ref f)) (D_check_line : ∀ [LamT], Df P w K mg base 3 "check_line" 1 [] (m_check_line c)) (D_check_reading : ∀ [LamT], Df P w K mg base 2 "check_reading" 1 [] (m_check_reading c)) (D_reached : ∀ [LamT], Df P w K mg base 2 "reached" 2 [] (m_reached c)) (D_reads : ∀ [LamT], Df P w K mg base 1 "reads" 2 [] (m_reads c)) : ∀ [LamT], DfK P w K mg base 4 "shows_run" 2 ["reading", "line"] (pick [1, 0]) (m_shows_run c) := by
 intro I
 obtain rfl := T.kk
 exact dfKn (N := N_shows_run) (mb := b_shows_run c) F S_shows_run hm (fun _ _ _ _ _ _ us hl => match us, hl with | [_, _], _ => rfl) fun cdv A outer s H E hr tk hp hu =>
 (lss_cons (ls_expr (lm_call (x := "check_line") (dvs := []) D_check_line 0 (by decide) (hr.mono (by decide)) rfl tk (la_cons (lm_var 0) la_nil)))
 (lss_cons (ls_expr (lm_call (x := "check_reading") (dvs := []) D_check_reading 0 (by decide) (hr.mono (by decide)) rfl tk (la_cons (lm_var 1) la_nil)))
 (lss_cons (ls_set (i := 2) S_shows_run.nd rfl (Or.inl rfl) (lm_call (x := "reached") (dvs := []) D_reached 0 (by decide) (hr.mono (by decide)) rfl tk (la_cons (lm_var 0) (la_cons (lm_var 1) la_nil))))
 (lss_cons (ls_if (PW.pt (lw_or (lt_cmp op_isN s_isN (lm_var 2) (lm_c .non pe_non)) (lw_or1 (lt_cmp (op_neX hu) s_ne (lm_call (x := "reads") (dvs := []) D_reads 0 (by decide) (hr.mono (by decide)) rfl tk (la_cons (lm_var 0) (la_cons (lm_var 2) la_nil))) (lm_var 1)))))
 (lss_one (ls_ret (lm_c .non pe_non)))
 lss_nil)
 (lss_cons (ls_set (i := 3) S_shows_run.nd rfl (Or.inl rfl) (lm_call (x := "reached") (dvs := []) D_reached 0 (by decide) (hr.mono (by decide)) rfl tk (la_cons (lm_var 0) (la_cons (lm_op op_addA s_add (lm_var 1) (lm_c (.int 1) pe_int)) la_nil))))
 (lss_one (ls_ret (lm_tup (la_cons (lm_var 2) (la_cons (lm_if (lt_cmp op_isN s_isN (lm_var 3) (lm_c .non pe_non)) (lm_c .non pe_non) (lm_op op_sub s_sub (lm_var 3) (lm_c (.int 1) pe_int))) la_nil))))))))))
abbrev s__law_all_refused : Stmt := topS 46
abbrev N__law_all_refused : List Str := ["source", "good", "odd_line", "worse", "thing", "gone", "steeper", "finer", "calls", "call"]
theorem S__law_all_refused : FnScope N__law_all_refused ["source"] (defScope s__law_all_refused) := ⟨rfl, rfl, rfl, by decide +kernel, rfl, by decide +kernel, by decide +kernel⟩
theorem ok__law_all_refused {cM PM : Addr} (T : Txt K mg c) (F : FunD K "_law_all_refused" "_law_all_refused" (defArgs s__law_all_refused) (defBody s__law_all_refused) (defScope s__law_all_refused) [] [] f fd) (hm : mg "_law_all_refused" = some (.ref f)) (D__law_line : ∀ [LamT], Df P w K mg base 3 "_law_line" 1 [] (m_law_line c)) (D__law_next : ∀ [LamT], Df P w K mg base 2 "_law_next" 2 [] (m_law_next c)) (D__law_odd : ∀ [LamT], Df P w K mg base 3 "_law_odd" 1 [] (m_law_odd c)) (D__law_odd_line : ∀ [LamT], Df P w K mg base 3 "_law_odd_line" 1 [] (m_law_odd_line c)) (DW__law_word : ∀ {k : Nat}, DfW P w K mg base (k + 1) "_law_word" 1 3 0 (b_law_word c)) (D_apart_many : ∀ [LamT], Df P w K mg base 4 "apart_many" 3 [] (m_apart_many c)) (D_first_ahead : ∀ [LamT], Df P w K mg base 8 "first_ahead" 2 [] (m_first_ahead c)) (D_first_apart : ∀ [LamT], Df P w K mg base 9 "first_apart" 2 [] (m_first_apart c)) (D_first_reach : ∀ [LamT], Df P w K mg base 4 "first_reach" 2 [] (m_first_reach c)) (D_line_reading : ∀ [LamT], Df P w K mg base 4 "line_reading" 2 [] (m_line_reading c)) (D_shows_run : ∀ [LamT], Df P w K mg base 4 "shows_run" 2 [] (m_shows_run c)) (hc : fd.code = .ref cM) (ML : MkL base mg cM PM (("_law_all_refused" ++ ".<locals>.") ++ "<lambda>")) : ∀ [LamT], Df P w K mg base 12 "_law_all_refused" 1 [] (m_law_all_refused c) := by
 intro I
 obtain rfl := T.kk
 exact df0F (N := N__law_all_refused) (mb := b_law_all_refused c) (ws := [(lamW (pathS [5] (defBody s__law_all_refused) [0, 0])), (lamW (pathS [6] (defBody s__law_all_refused) [0, 1])), (lamW (pathS [7] (defBody s__law_all_refused) [0, 1])), (lamW (pathS [8] (defBody s__law_all_refused) [0, 1])), (lamW (pathS [9] (defBody s__law_all_refused) [0, 1])), (lamW (pathS [10] (defBody s__law_all_refused) [0, 1])), (lamW (pathS [11] (defBody s__law_all_refused) [0, 1])), (lamW (pathS [12] (defBody s__law_all_refused) [0, 1])), (lamW (pathS [13] (defBody s__law_all_refused) [0, 1])), (lamW (pathS [14] (defBody s__law_all_refused) [0, 1])), (lamW (pathS [15] (defBody s__law_all_refused) [0, 1])), (lamW (pathS [17] (defBody s__law_all_refused) [0, 0])), (lamW (pathS [18] (defBody s__law_all_refused) [0, 1])), (lamW (pathS [19] (defBody s__law_all_refused) [0, 1])), (lamW (pathS [20] (defBody s__law_all_refused) [0, 1])), (lamW (pathS [21] (defBody s__law_all_refused) [0, 1]))]) F hc S__law_all_refused hm (fun _ _ _ _ _ _ us hl => match us, hl with | [_], _ => rfl) fun I e0 A outer s H E hT hr tk hp hu => by
  have hL : ∀ (r0 : List Addr) (j : Nat), (∃ D, I.fn e0 j = some D ∧ @LamOk _ ⟨r0, I.cs, I.fn⟩ (cxOf (L2.CX P w) P w c.K mg base N__law_all_refused "_law_all_refused" (defScope s__law_all_refused) f (.ref cM) A outer s H E) 9 D (lams_law_all_refused c e0 j)) ∨ ∀ env ih, lams_law_all_refused c e0 j env ih = .stuck := by
   intro r0 j
   match j with
   | 0 => exact lamOk_of (lamW (pathS [5] (defBody s__law_all_refused) [0, 0])) r0 ((hT 0).trans rfl) (show LamX.LamS (defScope s__law_all_refused) _ from LamX.lamS_by (by decide +kernel)) (fun _ _ _ => rfl) fun J A outer s H f c' E hr => (lm_call (x := "line_reading") (dvs := []) D_line_reading 0 (by decide) (hr.mono (by decide)) rfl (takes_of rfl rfl rfl rfl) (la_cons (lm_var 2) (la_cons (lm_var 5) la_nil)))
   | 1 => exact lamOk_of (lamW (pathS [6] (defBody s__law_all_refused) [0, 1])) r0 ((hT 1).trans rfl) (show LamX.LamS (defScope s__law_all_refused) _ from LamX.lamS_by (by decide +kernel)) (fun _ _ _ => rfl) fun J A outer s H f c' E hr => (lm_call (x := "first_reach") (dvs := []) D_first_reach 0 (by decide) (hr.mono (by decide)) rfl (takes_of rfl rfl rfl rfl) (la_cons (lm_var 2) (la_cons (lm_var 4) la_nil)))
   | 2 => exact lamOk_of (lamW (pathS [7] (defBody s__law_all_refused) [0, 1])) r0 ((hT 2).trans rfl) (show LamX.LamS (defScope s__law_all_refused) _ from LamX.lamS_by (by decide +kernel)) (fun _ _ _ => rfl) fun J A outer s H f c' E hr => (lm_call (x := "shows_run") (dvs := []) D_shows_run 0 (by decide) (hr.mono (by decide)) rfl (takes_of rfl rfl rfl rfl) (la_cons (lm_var 2) (la_cons (lm_var 4) la_nil)))
   | 3 => exact lamOk_of (lamW (pathS [8] (defBody s__law_all_refused) [0, 1])) r0 ((hT 3).trans rfl) (show LamX.LamS (defScope s__law_all_refused) _ from LamX.lamS_by (by decide +kernel)) (fun _ _ _ => rfl) fun J A outer s H f c' E hr => (lm_call (x := "first_apart") (dvs := []) D_first_apart 0 (by decide) (hr.mono (by decide)) rfl (takes_of rfl rfl rfl rfl) (la_cons (lm_var 2) (la_cons (lm_var 1) la_nil)))
   | 4 => exact lamOk_of (lamW (pathS [9] (defBody s__law_all_refused) [0, 1])) r0 ((hT 4).trans rfl) (show LamX.LamS (defScope s__law_all_refused) _ from LamX.lamS_by (by decide +kernel)) (fun _ _ _ => rfl) fun J A outer s H f c' E hr => (lm_call (x := "first_apart") (dvs := []) D_first_apart 0 (by decide) (hr.mono (by decide)) rfl (takes_of rfl rfl rfl rfl) (la_cons (lm_var 1) (la_cons (lm_var 2) la_nil)))
   | 5 => exact lamOk_of (lamW (pathS [10] (defBody s__law_all_refused) [0, 1])) r0 ((hT 5).trans rfl) (show LamX.LamS (defScope s__law_all_refused) _ from LamX.lamS_by (by decide +kernel)) (fun _ _ _ => rfl) fun J A outer s H f c' E hr => (lm_call (x := "first_ahead") (dvs := []) D_first_ahead 0 (by decide) (hr.mono (by decide)) rfl (takes_of rfl rfl rfl rfl) (la_cons (lm_var 2) (la_cons (lm_var 3) la_nil)))
   | 6 => exact lamOk_of (lamW (pathS [11] (defBody s__law_all_refused) [0, 1])) r0 ((hT 6).trans rfl) (show LamX.LamS (defScope s__law_all_refused) _ from LamX.lamS_by (by decide +kernel)) (fun _ _ _ => rfl) fun J A outer s H f c' E hr => (lm_call (x := "first_ahead") (dvs := []) D_first_ahead 0 (by decide) (hr.mono (by decide)) rfl (takes_of rfl rfl rfl rfl) (la_cons (lm_var 1) (la_cons (lm_var 2) la_nil)))
   | 7 => exact lamOk_of (lamW (pathS [12] (defBody s__law_all_refused) [0, 1])) r0 ((hT 7).trans rfl) (show LamX.LamS (defScope s__law_all_refused) _ from LamX.lamS_by (by decide +kernel)) (fun _ _ _ => rfl) fun J A outer s H f c' E hr => (lm_call (x := "apart_many") (dvs := []) D_apart_many 0 (by decide) (hr.mono (by decide)) rfl (takes_of rfl rfl rfl rfl) (la_cons (lm_var 2) (la_cons (lm_var 1) (la_cons (lm_c (.int 5) pe_int) la_nil))))
   | 8 => exact lamOk_of (lamW (pathS [13] (defBody s__law_all_refused) [0, 1])) r0 ((hT 8).trans rfl) (show LamX.LamS (defScope s__law_all_refused) _ from LamX.lamS_by (by decide +kernel)) (fun _ _ _ => rfl) fun J A outer s H f c' E hr => (lm_call (x := "apart_many") (dvs := []) D_apart_many 0 (by decide) (hr.mono (by decide)) rfl (takes_of rfl rfl rfl rfl) (la_cons (lm_var 1) (la_cons (lm_var 2) (la_cons (lm_var 5) la_nil))))
   | 9 => exact lamOk_of (lamW (pathS [14] (defBody s__law_all_refused) [0, 1])) r0 ((hT 9).trans rfl) (show LamX.LamS (defScope s__law_all_refused) _ from LamX.lamS_by (by decide +kernel)) (fun _ _ _ => rfl) fun J A outer s H f c' E hr => (lm_call (x := "apart_many") (dvs := []) D_apart_many 0 (by decide) (hr.mono (by decide)) rfl (takes_of rfl rfl rfl rfl) (la_cons (lm_var 1) (la_cons (lm_var 6) (la_cons (lm_var 5) la_nil))))
   | 10 => exact lamOk_of (lamW (pathS [15] (defBody s__law_all_refused) [0, 1])) r0 ((hT 10).trans rfl) (show LamX.LamS (defScope s__law_all_refused) _ from LamX.lamS_by (by decide +kernel)) (fun _ _ _ => rfl) fun J A outer s H f c' E hr => (lm_call (x := "apart_many") (dvs := []) D_apart_many 0 (by decide) (hr.mono (by decide)) rfl (takes_of rfl rfl rfl rfl) (la_cons (lm_var 1) (la_cons (lm_var 7) (la_cons (lm_c (.int 9) pe_int) la_nil))))
   | 11 => exact lamOk_of (lamW (pathS [17] (defBody s__law_all_refused) [0, 0])) r0 ((hT 11).trans rfl) (show LamX.LamS (defScope s__law_all_refused) _ from LamX.lamS_by (by decide +kernel)) (fun _ _ _ => rfl) fun J A outer s H f c' E hr => (lm_call (x := "line_reading") (dvs := []) D_line_reading 0 (by decide) (hr.mono (by decide)) rfl (takes_of rfl rfl rfl rfl) (la_cons (lm_var 1) (la_cons (lm_var 5) la_nil)))
   | 12 => exact lamOk_of (lamW (pathS [18] (defBody s__law_all_refused) [0, 1])) r0 ((hT 12).trans rfl) (show LamX.LamS (defScope s__law_all_refused) _ from LamX.lamS_by (by decide +kernel)) (fun _ _ _ => rfl) fun J A outer s H f c' E hr => (lm_call (x := "apart_many") (dvs := []) D_apart_many 0 (by decide) (hr.mono (by decide)) rfl (takes_of rfl rfl rfl rfl) (la_cons (lm_var 1) (la_cons (lm_var 1) (la_cons (lm_var 5) la_nil))))
   | 13 => exact lamOk_of (lamW (pathS [19] (defBody s__law_all_refused) [0, 1])) r0 ((hT 13).trans rfl) (show LamX.LamS (defScope s__law_all_refused) _ from LamX.lamS_by (by decide +kernel)) (fun _ _ _ => rfl) fun J A outer s H f c' E hr => (lm_call (x := "apart_many") (dvs := []) D_apart_many 0 (by decide) (hr.mono (by decide)) rfl (takes_of rfl rfl rfl rfl) (la_cons (lm_var 1) (la_cons (lm_tup (la_cons (lm_op op_addA s_add (lm_ix ix_seq s_ix (lm_var 1) (lm_c (.int 0) pe_int)) (lm_c (.int 3) pe_int)) (la_cons (lm_ix ix_seq s_ix (lm_var 1) (lm_c (.int 1) pe_int)) (la_cons (lm_ix ix_seq s_ix (lm_var 1) (lm_c (.int 2) pe_int)) la_nil)))) (la_cons (lm_var 5) la_nil))))
   | 14 => exact lamOk_of (lamW (pathS [20] (defBody s__law_all_refused) [0, 1])) r0 ((hT 14).trans rfl) (show LamX.LamS (defScope s__law_all_refused) _ from LamX.lamS_by (by decide +kernel)) (fun _ _ _ => rfl) fun J A outer s H f c' E hr => (lm_call (x := "first_reach") (dvs := []) D_first_reach 0 (by decide) (hr.mono (by decide)) rfl (takes_of rfl rfl rfl rfl) (la_cons (lm_var 1) (la_cons (lm_var 4) la_nil)))
   | 15 => exact lamOk_of (lamW (pathS [21] (defBody s__law_all_refused) [0, 1])) r0 ((hT 15).trans rfl) (show LamX.LamS (defScope s__law_all_refused) _ from LamX.lamS_by (by decide +kernel)) (fun _ _ _ => rfl) fun J A outer s H f c' E hr => (lm_call (x := "shows_run") (dvs := []) D_shows_run 0 (by decide) (hr.mono (by decide)) rfl (takes_of rfl rfl rfl rfl) (la_cons (lm_var 1) (la_cons (lm_var 4) la_nil)))
   | _ + 16 => exact .inr (fun _ _ => rfl)
  exact (lss_cons (ls_asg (lm_tup (la_cons (lm_call (x := "_law_line") (dvs := []) D__law_line 0 (by decide) (hr.mono (by decide)) rfl tk (la_cons (lm_var 0) la_nil)) (la_cons (lm_call (x := "_law_odd_line") (dvs := []) D__law_odd_line 0 (by decide) (hr.mono (by decide)) rfl tk (la_cons (lm_var 0) la_nil)) la_nil))) (pg_tup rfl (pgs_cons (pg_name (i := 1) S__law_all_refused.nd rfl (Or.inr rfl)) (pgs_cons (pg_name (i := 2) S__law_all_refused.nd rfl (Or.inr rfl)) pgs_nil))) (sg_tup (sg_cons (sg_nm 1) (sg_cons (sg_nm 2) sg_nil))))
 (lss_cons (ls_set (i := 3) S__law_all_refused.nd rfl (Or.inr rfl) (lm_call (x := "_law_odd_line") (dvs := []) D__law_odd_line 0 (by decide) (hr.mono (by decide)) rfl tk (la_cons (lm_var 0) la_nil)))
 (lss_cons (ls_asg (lm_tup (la_cons (lm_call (x := "_law_odd") (dvs := []) D__law_odd 0 (by decide) (hr.mono (by decide)) rfl tk (la_cons (lm_var 0) la_nil)) (la_cons (lm_ix ix_seq s_ix (lm_lst (la_cons (lm_un un_neg s_neg (lm_c (.int 1) pe_int)) (la_cons (lm_un un_neg s_neg (lm_op op_pow s_pow (lm_c (.int 10) pe_int) (lm_c (.int 30) pe_int))) (la_cons (lm_call (x := "_law_odd") (dvs := []) D__law_odd 0 (by decide) (hr.mono (by decide)) rfl tk (la_cons (lm_var 0) la_nil)) la_nil)))) (lm_call (x := "_law_next") (dvs := []) D__law_next 0 (by decide) (hr.mono (by decide)) rfl tk (la_cons (lm_var 0) (la_cons (lm_c (.int 3) pe_int) la_nil)))) la_nil))) (pg_tup rfl (pgs_cons (pg_name (i := 4) S__law_all_refused.nd rfl (Or.inr rfl)) (pgs_cons (pg_name (i := 5) S__law_all_refused.nd rfl (Or.inr rfl)) pgs_nil))) (sg_tup (sg_cons (sg_nm 4) (sg_cons (sg_nm 5) sg_nil))))
 (lss_cons (ls_set (i := 6) S__law_all_refused.nd rfl (Or.inr rfl) (lm_tup (la_cons (lm_ix ix_seq s_ix (lm_var 1) (lm_c (.int 0) pe_int)) (la_cons (lm_op op_addA s_add (lm_ix ix_seq s_ix (lm_var 1) (lm_c (.int 1) pe_int)) (lm_c (.int 1) pe_int)) (la_cons (lm_ix ix_seq s_ix (lm_var 1) (lm_c (.int 2) pe_int)) la_nil)))))
 (lss_cons (ls_set (i := 7) S__law_all_refused.nd rfl (Or.inr rfl) (lm_tup (la_cons (lm_ix ix_seq s_ix (lm_var 1) (lm_c (.int 0) pe_int)) (la_cons (lm_ix ix_seq s_ix (lm_var 1) (lm_c (.int 1) pe_int)) (la_cons (lm_op op_mod s_mod (lm_callTy call_int1 s_int rfl T.b_int (by decide +kernel) (la_cons (lm_op op_addA s_add (lm_ix ix_seq s_ix (lm_var 1) (lm_c (.int 2) pe_int)) (lm_c (.int 1) pe_int)) la_nil)) (lm_c (.int 65) pe_int)) la_nil)))))
 (lss_cons (ls_set (i := 8) S__law_all_refused.nd rfl (Or.inl rfl) (lm_lst (la_cons (lm_lam (e0 := e0) (j := 0) ML rfl (show LamX.LamS (defScope s__law_all_refused) _ from LamX.lamS_by (by decide +kernel)) rfl ((hT 0).trans rfl)) la_nil)))
 (lss_cons (ls_expr (lm_mL PySem.F.slot_list_append PySem.F.type_list_append mt_append s_append (lm_var 8) (la_cons (lm_lam (e0 := e0) (j := 1) ML rfl (show LamX.LamS (defScope s__law_all_refused) _ from LamX.lamS_by (by decide +kernel)) rfl ((hT 1).trans rfl)) la_nil)))
 (lss_cons (ls_expr (lm_mL PySem.F.slot_list_append PySem.F.type_list_append mt_append s_append (lm_var 8) (la_cons (lm_lam (e0 := e0) (j := 2) ML rfl (show LamX.LamS (defScope s__law_all_refused) _ from LamX.lamS_by (by decide +kernel)) rfl ((hT 2).trans rfl)) la_nil)))
 (lss_cons (ls_expr (lm_mL PySem.F.slot_list_append PySem.F.type_list_append mt_append s_append (lm_var 8) (la_cons (lm_lam (e0 := e0) (j := 3) ML rfl (show LamX.LamS (defScope s__law_all_refused) _ from LamX.lamS_by (by decide +kernel)) rfl ((hT 3).trans rfl)) la_nil)))
 (lss_cons (ls_expr (lm_mL PySem.F.slot_list_append PySem.F.type_list_append mt_append s_append (lm_var 8) (la_cons (lm_lam (e0 := e0) (j := 4) ML rfl (show LamX.LamS (defScope s__law_all_refused) _ from LamX.lamS_by (by decide +kernel)) rfl ((hT 4).trans rfl)) la_nil)))
 (lss_cons (ls_expr (lm_mL PySem.F.slot_list_append PySem.F.type_list_append mt_append s_append (lm_var 8) (la_cons (lm_lam (e0 := e0) (j := 5) ML rfl (show LamX.LamS (defScope s__law_all_refused) _ from LamX.lamS_by (by decide +kernel)) rfl ((hT 5).trans rfl)) la_nil)))
 (lss_cons (ls_expr (lm_mL PySem.F.slot_list_append PySem.F.type_list_append mt_append s_append (lm_var 8) (la_cons (lm_lam (e0 := e0) (j := 6) ML rfl (show LamX.LamS (defScope s__law_all_refused) _ from LamX.lamS_by (by decide +kernel)) rfl ((hT 6).trans rfl)) la_nil)))
 (lss_cons (ls_expr (lm_mL PySem.F.slot_list_append PySem.F.type_list_append mt_append s_append (lm_var 8) (la_cons (lm_lam (e0 := e0) (j := 7) ML rfl (show LamX.LamS (defScope s__law_all_refused) _ from LamX.lamS_by (by decide +kernel)) rfl ((hT 7).trans rfl)) la_nil)))
 (lss_cons (ls_expr (lm_mL PySem.F.slot_list_append PySem.F.type_list_append mt_append s_append (lm_var 8) (la_cons (lm_lam (e0 := e0) (j := 8) ML rfl (show LamX.LamS (defScope s__law_all_refused) _ from LamX.lamS_by (by decide +kernel)) rfl ((hT 8).trans rfl)) la_nil)))
 (lss_cons (ls_expr (lm_mL PySem.F.slot_list_append PySem.F.type_list_append mt_append s_append (lm_var 8) (la_cons (lm_lam (e0 := e0) (j := 9) ML rfl (show LamX.LamS (defScope s__law_all_refused) _ from LamX.lamS_by (by decide +kernel)) rfl ((hT 9).trans rfl)) la_nil)))
 (lss_cons (ls_expr (lm_mL PySem.F.slot_list_append PySem.F.type_list_append mt_append s_append (lm_var 8) (la_cons (lm_lam (e0 := e0) (j := 10) ML rfl (show LamX.LamS (defScope s__law_all_refused) _ from LamX.lamS_by (by decide +kernel)) rfl ((hT 10).trans rfl)) la_nil)))
 (lss_cons (ls_if (lt_cmp (op_neX hu) s_ne (lm_lcI (own := [("call", 9)]) rfl S__law_all_refused.nd (li_lst (lm_var 8)) (blkOk_by (own := [("call", 9)]) (N := N__law_all_refused) (sc := defScope s__law_all_refused) (by decide +kernel)) (sg_nm 9) (by decide) (fun _ _ _ _ _ _ _ IB hfp => ⟨(pg_name (i := 9) S__law_all_refused.nd rfl (Or.inl rfl)), lts_nil, (callV_blk (k := 9) (x := "_law_word") (es := []) IB (fun _ => rfl) hfp (DW__law_word (k := 9)) (hr.mono (by decide)) rfl AL.nil (lm_var 9) takes0 hL rfl (by decide) (by intro _ _ h; cases h; exact ⟨rfl, rfl⟩))⟩)) (lm_op op_mulA s_mulA (lm_lst (la_cons (lm_c (.str "line") pe_str) la_nil)) (lm_c (.int 11) pe_int)))
 (lss_one (ls_ret (lm_c (.bl false) pe_bl)))
 lss_nil)
 (lss_cons (ls_set (i := 8) S__law_all_refused.nd rfl (Or.inl rfl) (lm_lst (la_cons (lm_lam (e0 := e0) (j := 11) ML rfl (show LamX.LamS (defScope s__law_all_refused) _ from LamX.lamS_by (by decide +kernel)) rfl ((hT 11).trans rfl)) la_nil)))
 (lss_cons (ls_expr (lm_mL PySem.F.slot_list_append PySem.F.type_list_append mt_append s_append (lm_var 8) (la_cons (lm_lam (e0 := e0) (j := 12) ML rfl (show LamX.LamS (defScope s__law_all_refused) _ from LamX.lamS_by (by decide +kernel)) rfl ((hT 12).trans rfl)) la_nil)))
 (lss_cons (ls_expr (lm_mL PySem.F.slot_list_append PySem.F.type_list_append mt_append s_append (lm_var 8) (la_cons (lm_lam (e0 := e0) (j := 13) ML rfl (show LamX.LamS (defScope s__law_all_refused) _ from LamX.lamS_by (by decide +kernel)) rfl ((hT 13).trans rfl)) la_nil)))
 (lss_cons (ls_expr (lm_mL PySem.F.slot_list_append PySem.F.type_list_append mt_append s_append (lm_var 8) (la_cons (lm_lam (e0 := e0) (j := 14) ML rfl (show LamX.LamS (defScope s__law_all_refused) _ from LamX.lamS_by (by decide +kernel)) rfl ((hT 14).trans rfl)) la_nil)))
 (lss_cons (ls_expr (lm_mL PySem.F.slot_list_append PySem.F.type_list_append mt_append s_append (lm_var 8) (la_cons (lm_lam (e0 := e0) (j := 15) ML rfl (show LamX.LamS (defScope s__law_all_refused) _ from LamX.lamS_by (by decide +kernel)) rfl ((hT 15).trans rfl)) la_nil)))
 (lss_one (ls_ret (lm_cmp (op_eqX hu) s_eq (lm_lcI (own := [("call", 9)]) rfl S__law_all_refused.nd (li_lst (lm_var 8)) (blkOk_by (own := [("call", 9)]) (N := N__law_all_refused) (sc := defScope s__law_all_refused) (by decide +kernel)) (sg_nm 9) (by decide) (fun _ _ _ _ _ _ _ IB hfp => ⟨(pg_name (i := 9) S__law_all_refused.nd rfl (Or.inl rfl)), lts_nil, (callV_blk (k := 9) (x := "_law_word") (es := []) IB (fun _ => rfl) hfp (DW__law_word (k := 9)) (hr.mono (by decide)) rfl AL.nil (lm_var 9) takes0 hL rfl (by decide) (by intro _ _ h; cases h; exact ⟨rfl, rfl⟩))⟩)) (lm_op op_addA s_add (lm_op op_mulA s_mulA (lm_lst (la_cons (lm_c (.str "cycle") pe_str) la_nil)) (lm_c (.int 3) pe_int)) (lm_op op_mulA s_mulA (lm_lst (la_cons (lm_c (.str "reading") pe_str) la_nil)) (lm_c (.int 2) pe_int))))))))))))))))))))))))))))
abbrev s__law_named : Stmt := topS 47
abbrev N__law_named : List Str := ["source", "good", "more", "near", "goal", "pairs", "here", "there"]
theorem S__law_named : FnScope N__law_named ["source"] (defScope s__law_named) := ⟨rfl, rfl, rfl, by decide +kernel, rfl, by decide +kernel, by decide +kernel⟩
theorem ok__law_named (T : Txt K mg c) (F : FunD K "_law_named" "_law_named" (defArgs s__law_named) (defBody s__law_named) (defScope s__law_named) [] [] f fd) (hm : mg "_law_named" = some (.ref f)) (D__law_line : ∀ [LamT], Df P w K mg base 3 "_law_line" 1 [] (m_law_line c)) (D__law_next : ∀ [LamT], Df P w K mg base 2 "_law_next" 2 [] (m_law_next c)) (D_apart_many : ∀ [LamT], Df P w K mg base 4 "apart_many" 3 [] (m_apart_many c)) (D_first_ahead : ∀ [LamT], Df P w K mg base 8 "first_ahead" 2 [] (m_first_ahead c)) (D_first_apart : ∀ [LamT], Df P w K mg base 9 "first_apart" 2 [] (m_first_apart c)) (D_first_reach : ∀ [LamT], Df P w K mg base 4 "first_reach" 2 [] (m_first_reach c)) (D_line_reading : ∀ [LamT], Df P w K mg base 4 "line_reading" 2 [] (m_line_reading c)) (D_shows_run : ∀ [LamT], Df P w K mg base 4 "shows_run" 2 [] (m_shows_run c)) (DK_apart_many : ∀ [LamT], DfK P w K mg base 4 "apart_many" 3 ["last", "other", "one"] (pick [2, 1, 0]) (m_apart_many c)) (DK_first_ahead : ∀ [LamT], DfK P w K mg base 8 "first_ahead" 2 ["other", "one"] (pick [1, 0]) (m_first_ahead c)) (DK_first_apart : ∀ [LamT], DfK P w K mg base 9 "first_apart" 2 ["other", "one"] (pick [1, 0]) (m_first_apart c)) (DK_first_reach : ∀ [LamT], DfK P w K mg base 4 "first_reach" 2 ["reading", "line"] (pick [1, 0]) (m_first_reach c)) (DK_line_reading : ∀ [LamT], DfK P w K mg base 4 "line_reading" 2 ["cycle", "line"] (pick [1, 0]) (m_line_reading c)) (DK_shows_run : ∀ [LamT], DfK P w K mg base 4 "shows_run" 2 ["reading", "line"] (pick [1, 0]) (m_shows_run c)) : ∀ [LamT], Df P w K mg base 10 "_law_named" 1 [] (m_law_named c) := by
 intro I
 obtain rfl := T.kk
 exact df0 (N := N__law_named) (mb := b_law_named c) F S__law_named hm (fun _ _ _ _ _ _ us hl => match us, hl with | [_], _ => rfl) fun cdv A outer s H E hr tk hp hu =>
 (lss_cons (ls_par (i := 1) (j := 2) (fun h => ps_par (i := 1) (j := 2) rfl S__law_named.nd rfl rfl (by decide) rfl rfl h rfl) (la_cons (lm_call (x := "_law_line") (dvs := []) D__law_line 0 (by decide) (hr.mono (by decide)) rfl tk (la_cons (lm_var 0) la_nil)) (la_cons (lm_call (x := "_law_line") (dvs := []) D__law_line 0 (by decide) (hr.mono (by decide)) rfl tk (la_cons (lm_var 0) la_nil)) la_nil)))
 (lss_cons (ls_par (i := 3) (j := 4) (fun h => ps_par (i := 3) (j := 4) rfl S__law_named.nd rfl rfl (by decide) rfl rfl h rfl) (la_cons (lm_tup (la_cons (lm_ix ix_seq s_ix (lm_var 2) (lm_c (.int 0) pe_int)) (la_cons (lm_ix ix_seq s_ix (lm_var 1) (lm_c (.int 1) pe_int)) (la_cons (lm_ix ix_seq s_ix (lm_var 1) (lm_c (.int 2) pe_int)) la_nil)))) (la_cons (lm_op op_sub s_sub (lm_call (x := "_law_next") (dvs := []) D__law_next 0 (by decide) (hr.mono (by decide)) rfl tk (la_cons (lm_var 0) (la_cons (lm_c (.int 30) pe_int) la_nil))) (lm_c (.int 15) pe_int)) la_nil)))
 (lss_cons (ls_set (i := 5) S__law_named.nd rfl (Or.inl rfl) (lm_lst (la_cons (lm_tup (la_cons (lm_callK (x := "line_reading") DK_line_reading (hr.mono (by decide)) rfl tk (lk_cons (lm_c (.int 3) pe_int) (lk_cons (lm_var 1) lk_nil))) (la_cons (lm_call (x := "line_reading") (dvs := []) D_line_reading 0 (by decide) (hr.mono (by decide)) rfl tk (la_cons (lm_var 1) (la_cons (lm_c (.int 3) pe_int) la_nil))) la_nil))) la_nil)))
 (lss_cons (ls_expr (lm_mL PySem.F.slot_list_append PySem.F.type_list_append mt_append s_append (lm_var 5) (la_cons (lm_tup (la_cons (lm_callK (x := "first_reach") DK_first_reach (hr.mono (by decide)) rfl tk (lk_cons (lm_var 4) (lk_cons (lm_var 1) lk_nil))) (la_cons (lm_call (x := "first_reach") (dvs := []) D_first_reach 0 (by decide) (hr.mono (by decide)) rfl tk (la_cons (lm_var 1) (la_cons (lm_var 4) la_nil))) la_nil))) la_nil)))
 (lss_cons (ls_expr (lm_mL PySem.F.slot_list_append PySem.F.type_list_append mt_append s_append (lm_var 5) (la_cons (lm_tup (la_cons (lm_callK (x := "shows_run") DK_shows_run (hr.mono (by decide)) rfl tk (lk_cons (lm_var 4) (lk_cons (lm_var 1) lk_nil))) (la_cons (lm_call (x := "shows_run") (dvs := []) D_shows_run 0 (by decide) (hr.mono (by decide)) rfl tk (la_cons (lm_var 1) (la_cons (lm_var 4) la_nil))) la_nil))) la_nil)))
 (lss_cons (ls_expr (lm_mL PySem.F.slot_list_append PySem.F.type_list_append mt_append s_append (lm_var 5) (la_cons (lm_tup (la_cons (lm_callK (x := "first_apart") DK_first_apart (hr.mono (by decide)) rfl tk (lk_cons (lm_var 2) (lk_cons (lm_var 1) lk_nil))) (la_cons (lm_call (x := "first_apart") (dvs := []) D_first_apart 0 (by decide) (hr.mono (by decide)) rfl tk (la_cons (lm_var 1) (la_cons (lm_var 2) la_nil))) la_nil))) la_nil)))
 (lss_cons (ls_expr (lm_mL PySem.F.slot_list_append PySem.F.type_list_append mt_append s_append (lm_var 5) (la_cons (lm_tup (la_cons (lm_callK (x := "first_ahead") DK_first_ahead (hr.mono (by decide)) rfl tk (lk_cons (lm_var 2) (lk_cons (lm_var 1) lk_nil))) (la_cons (lm_call (x := "first_ahead") (dvs := []) D_first_ahead 0 (by decide) (hr.mono (by decide)) rfl tk (la_cons (lm_var 1) (la_cons (lm_var 2) la_nil))) la_nil))) la_nil)))
 (lss_cons (ls_expr (lm_mL PySem.F.slot_list_append PySem.F.type_list_append mt_append s_append (lm_var 5) (la_cons (lm_tup (la_cons (lm_callK (x := "apart_many") DK_apart_many (hr.mono (by decide)) rfl tk (lk_cons (lm_c (.int 77) pe_int) (lk_cons (lm_var 3) (lk_cons (lm_var 1) lk_nil)))) (la_cons (lm_call (x := "apart_many") (dvs := []) D_apart_many 0 (by decide) (hr.mono (by decide)) rfl tk (la_cons (lm_var 1) (la_cons (lm_var 3) (la_cons (lm_c (.int 77) pe_int) la_nil)))) la_nil))) la_nil)))
 (lss_one (ls_ret (lm_callB (cr_all rfl) s_all rfl T.b_all (by decide +kernel) (la_cons (lm_lc (own := [("here", 6), ("there", 7)]) rfl S__law_named.nd (li_lst (lm_var 5)) (blkOk_by (own := [("here", 6), ("there", 7)]) (N := N__law_named) (sc := defScope s__law_named) (by decide +kernel)) (sg_tup (sg_cons (sg_nm 6) (sg_cons (sg_nm 7) sg_nil))) (by decide) (fun _ _ _ _ _ => (pg_tup rfl (pgs_cons (pg_name (i := 6) S__law_named.nd rfl (Or.inl rfl)) (pgs_cons (pg_name (i := 7) S__law_named.nd rfl (Or.inl rfl)) pgs_nil)))) (fun _ _ _ _ _ => lts_nil) (fun _ _ _ _ _ => (lm_cmp (op_eqX hu) s_eq (lm_var 6) (lm_var 7)))) la_nil))))))))))))
abbrev s__law_cell_at : Stmt := topS 38
abbrev N__law_cell_at : List Str := ["script", "k"]
theorem S__law_cell_at : FnScope N__law_cell_at ["script", "k"] (defScope s__law_cell_at) := ⟨rfl, rfl, rfl, by decide +kernel, rfl, by decide +kernel, by decide +kernel⟩
theorem ok__law_cell_at (T : Txt K mg c) (F : FunD K "_law_cell_at" "_law_cell_at" (defArgs s__law_cell_at) (defBody s__law_cell_at) (defScope s__law_cell_at) [] [] f fd) (hm : mg "_law_cell_at" = some (.ref f))  : ∀ [LamT], Df P w K mg base 1 "_law_cell_at" 2 [] (m_law_cell_at c) := by
 intro I
 obtain rfl := T.kk
 exact df0 (N := N__law_cell_at) (mb := b_law_cell_at c) F S__law_cell_at hm (fun _ _ _ _ _ _ us hl => match us, hl with | [_, _], _ => rfl) fun cdv A outer s H E hr tk hp hu =>
 (lss_cons (ls_if (lt_cmp op_lt s_lt (lm_var 1) (lm_callB call_lenA s_len rfl T.b_len (by decide +kernel) (la_cons (lm_var 0) la_nil)))
 (lss_one (ls_ret (lm_ix ix_seq s_ix (lm_var 0) (lm_var 1))))
 lss_nil)
 (lss_one (ls_ret (lm_c (.int 0) pe_int))))
abbrev s__law_source : Stmt := topS 40
abbrev N__law_source : List Str := ["script", "k", "cell"]
theorem S__law_source : FnScope N__law_source ["script", "k"] (defScope s__law_source) := ⟨rfl, rfl, rfl, by decide +kernel, rfl, by decide +kernel, by decide +kernel⟩
theorem ok__law_source (T : Txt K mg c) (F : FunD K "_law_source" "_law_source" (defArgs s__law_source) (defBody s__law_source) (defScope s__law_source) [] [] f fd) (hm : mg "_law_source" = some (.ref f)) (D__law_cell_at : ∀ [LamT], Df P w K mg base 1 "_law_cell_at" 2 [] (m_law_cell_at c)) (D__law_mixed : ∀ [LamT], Df P w K mg base 1 "_law_mixed" 2 [] (m_law_mixed c)) : ∀ [LamT], Df P w K mg base 2 "_law_source" 2 [] (m_law_source c) := by
 intro I
 obtain rfl := T.kk
 exact df0 (N := N__law_source) (mb := b_law_source c) F S__law_source hm (fun _ _ _ _ _ _ us hl => match us, hl with | [_, _], _ => rfl) fun cdv A outer s H E hr tk hp hu =>
 (lss_cons (ls_if (lt_cmp op_lt s_lt (lm_var 1) (lm_callB call_lenA s_len rfl T.b_len (by decide +kernel) (la_cons (lm_var 0) la_nil)))
 (lss_one (ls_ret (lm_lst (la_cons (lm_ix ix_seq s_ix (lm_var 0) (lm_var 1)) (la_cons (lm_ix ix_seq s_ix (lm_var 0) (lm_var 1)) (la_cons (lm_c (.int 0) pe_int) la_nil))))))
 lss_nil)
 (lss_cons (ls_set (i := 2) S__law_source.nd rfl (Or.inl rfl) (lm_call (x := "_law_mixed") (dvs := []) D__law_mixed 0 (by decide) (hr.mono (by decide)) rfl tk (la_cons (lm_call (x := "_law_cell_at") (dvs := []) D__law_cell_at 0 (by decide) (hr.mono (by decide)) rfl tk (la_cons (lm_var 0) (la_cons (lm_c (.int 0) pe_int) la_nil))) (la_cons (lm_op op_addA s_add (lm_c (.int 1000) pe_int) (lm_var 1)) la_nil))))
 (lss_one (ls_ret (lm_lst (la_cons (lm_var 2) (la_cons (lm_var 2) (la_cons (lm_c (.int 0) pe_int) la_nil))))))))
abbrev s_law : Stmt := topS 48
abbrev N_law : List Str := ["script", "k", "source", "turn"]
theorem S_law : FnScope N_law ["script"] (defScope s_law) := ⟨rfl, rfl, rfl, by decide +kernel, rfl, by decide +kernel, by decide +kernel⟩
theorem ok_law (T : Txt K mg c) (F : FunD K "law" "law" (defArgs s_law) (defBody s_law) (defScope s_law) [] [] f fd) (D__law_all_refused : ∀ [LamT], Df P w K mg base 12 "_law_all_refused" 1 [] (m_law_all_refused c)) (D__law_named : ∀ [LamT], Df P w K mg base 10 "_law_named" 1 [] (m_law_named c)) (D__law_source : ∀ [LamT], Df P w K mg base 2 "_law_source" 2 [] (m_law_source c)) : ∀ [LamT], FnOk P w K mg base (L2.CX P w) 13 f fd ["script"] (spM K 1 (m_law c)) := by
 intro I
 obtain rfl := T.kk
 exact df_fn2 (N := N_law) (ps := ["script"]) (k := 12) (mb := b_law c) F S_law fun cdv A outer s H E hr tk hp hu =>
 (lss_cons (ls_for hp rfl (li_rng1 rfl T.b_range (la_cons (lm_callB (call_min2 rfl) s_min2 rfl T.b_min (by decide +kernel) (la_cons (lm_c (.int 4) pe_int) (la_cons (lm_callB (call_max2 rfl) s_max2 rfl T.b_max (by decide +kernel) (la_cons (lm_c (.int 1) pe_int) (la_cons (lm_callB call_lenA s_len rfl T.b_len (by decide +kernel) (la_cons (lm_var 0) la_nil)) la_nil))) la_nil))) la_nil)) (pg_name (i := 1) S_law.nd rfl (Or.inl rfl)) (sg_nm 1)
 (lss_cons (ls_set (i := 2) S_law.nd rfl (Or.inl rfl) (lm_call (x := "_law_source") (dvs := []) D__law_source 0 (by decide) (hr.mono (by decide)) rfl tk (la_cons (lm_var 0) (la_cons (lm_var 1) la_nil))))
 (lss_one (ls_for hp rfl (li_rng1 rfl T.b_range (la_cons (lm_c (.int 4) pe_int) la_nil)) (pg_name (i := 3) S_law.nd rfl (Or.inl rfl)) (sg_nm 3)
 (lss_one (ls_if (PW.pt (lw_or (lt_not (lt_val (lm_call (x := "_law_all_refused") (dvs := []) D__law_all_refused 0 (by decide) (hr.mono (by decide)) rfl tk (la_cons (lm_var 2) la_nil)))) (lw_or1 (lt_not (lt_val (lm_call (x := "_law_named") (dvs := []) D__law_named 0 (by decide) (hr.mono (by decide)) rfl tk (la_cons (lm_var 2) la_nil)))))))
 (lss_one (ls_ret (lm_c (.bl false) pe_bl)))
 lss_nil))))))
 (lss_one (ls_ret (lm_c (.bl true) pe_bl))))
end
end L3
namespace L3
open PySem PySem.Spec PyProof.Rows L2

theorem all_mk {l : PySem.W.OpenLaw} {w : World} {K : PySem.W.Frag} {h : Heap} {mg : Str → Option Value} {fa : Addr} (X : K.In h) (G : h.Ns mainGlobals mg) (hfa : mg "law" = some (.ref fa)) {f_law_mixed f_law_next f_law_line f_law_odd f_law_odd_line f_law_word f_is_whole f_check_cycle f_is_shift f_check_line f_power f_sum_of_floors f_total f_excess f_apart_many f_round_up f_turning f_ahead_from f_first_count f_first_more f_first_above f_first_ahead f_parting f_first_apart f_check_reading f_reached f_first_reach f_reads f_line_reading f_shows_run f_law_all_refused f_law_named f_law_cell_at f_law_source f_law C_KernelError C_NoCycle C_NoLine C_NoLooks C_NoRate C_NoReading C_NoWidth : Addr}
 {od_law_mixed an_law_mixed : Option Addr} {sl_law_mixed : Array (Option Value)} {oc_law_mixed kV_law_mixed dc_law_mixed pm_law_mixed cd_law_mixed ct_law_mixed : Value} {od_law_next an_law_next : Option Addr} {sl_law_next : Array (Option Value)} {oc_law_next kV_law_next dc_law_next pm_law_next cd_law_next ct_law_next : Value} {od_law_line an_law_line : Option Addr} {sl_law_line : Array (Option Value)} {oc_law_line kV_law_line dc_law_line pm_law_line cd_law_line ct_law_line : Value} {od_law_odd an_law_odd : Option Addr} {sl_law_odd : Array (Option Value)} {oc_law_odd kV_law_odd dc_law_odd pm_law_odd cd_law_odd ct_law_odd : Value} {od_law_odd_line an_law_odd_line : Option Addr} {sl_law_odd_line : Array (Option Value)} {oc_law_odd_line kV_law_odd_line dc_law_odd_line pm_law_odd_line cd_law_odd_line ct_law_odd_line : Value} {od_law_word an_law_word : Option Addr} {sl_law_word : Array (Option Value)} {oc_law_word kV_law_word dc_law_word pm_law_word cd_law_word ct_law_word : Value} {od_is_whole an_is_whole : Option Addr} {sl_is_whole : Array (Option Value)} {oc_is_whole kV_is_whole dc_is_whole pm_is_whole cd_is_whole ct_is_whole : Value} {T_is_whole : Addr} {o_is_whole : Obj} {n_is_whole : Nat} {d0_is_whole : Value} {od_check_cycle an_check_cycle : Option Addr} {sl_check_cycle : Array (Option Value)} {oc_check_cycle kV_check_cycle dc_check_cycle pm_check_cycle cd_check_cycle ct_check_cycle : Value} {T_check_cycle : Addr} {o_check_cycle : Obj} {n_check_cycle : Nat} {d0_check_cycle : Value} {od_is_shift an_is_shift : Option Addr} {sl_is_shift : Array (Option Value)} {oc_is_shift kV_is_shift dc_is_shift pm_is_shift cd_is_shift ct_is_shift : Value} {od_check_line an_check_line : Option Addr} {sl_check_line : Array (Option Value)} {oc_check_line kV_check_line dc_check_line pm_check_line cd_check_line ct_check_line : Value} {od_power an_power : Option Addr} {sl_power : Array (Option Value)} {oc_power kV_power dc_power pm_power cd_power ct_power : Value} {od_sum_of_floors an_sum_of_floors : Option Addr} {sl_sum_of_floors : Array (Option Value)} {oc_sum_of_floors kV_sum_of_floors dc_sum_of_floors pm_sum_of_floors cd_sum_of_floors ct_sum_of_floors : Value} {od_total an_total : Option Addr} {sl_total : Array (Option Value)} {oc_total kV_total dc_total pm_total cd_total ct_total : Value} {od_excess an_excess : Option Addr} {sl_excess : Array (Option Value)} {oc_excess kV_excess dc_excess pm_excess cd_excess ct_excess : Value} {od_apart_many an_apart_many : Option Addr} {sl_apart_many : Array (Option Value)} {oc_apart_many kV_apart_many dc_apart_many pm_apart_many cd_apart_many ct_apart_many : Value} {od_round_up an_round_up : Option Addr} {sl_round_up : Array (Option Value)} {oc_round_up kV_round_up dc_round_up pm_round_up cd_round_up ct_round_up : Value} {od_turning an_turning : Option Addr} {sl_turning : Array (Option Value)} {oc_turning kV_turning dc_turning pm_turning cd_turning ct_turning : Value} {od_ahead_from an_ahead_from : Option Addr} {sl_ahead_from : Array (Option Value)} {oc_ahead_from kV_ahead_from dc_ahead_from pm_ahead_from cd_ahead_from ct_ahead_from : Value} {od_first_count an_first_count : Option Addr} {sl_first_count : Array (Option Value)} {oc_first_count kV_first_count dc_first_count pm_first_count cd_first_count ct_first_count : Value} {od_first_more an_first_more : Option Addr} {sl_first_more : Array (Option Value)} {oc_first_more kV_first_more dc_first_more pm_first_more ct_first_more : Value} {cM_first_more PM_first_more : Addr} {od_first_above an_first_above : Option Addr} {sl_first_above : Array (Option Value)} {oc_first_above kV_first_above dc_first_above pm_first_above cd_first_above ct_first_above : Value} {od_first_ahead an_first_ahead : Option Addr} {sl_first_ahead : Array (Option Value)} {oc_first_ahead kV_first_ahead dc_first_ahead pm_first_ahead cd_first_ahead ct_first_ahead : Value} {od_parting an_parting : Option Addr} {sl_parting : Array (Option Value)} {oc_parting kV_parting dc_parting pm_parting cd_parting ct_parting : Value} {od_first_apart an_first_apart : Option Addr} {sl_first_apart : Array (Option Value)} {oc_first_apart kV_first_apart dc_first_apart pm_first_apart cd_first_apart ct_first_apart : Value} {od_check_reading an_check_reading : Option Addr} {sl_check_reading : Array (Option Value)} {oc_check_reading kV_check_reading dc_check_reading pm_check_reading cd_check_reading ct_check_reading : Value} {od_reached an_reached : Option Addr} {sl_reached : Array (Option Value)} {oc_reached kV_reached dc_reached pm_reached cd_reached ct_reached : Value} {od_first_reach an_first_reach : Option Addr} {sl_first_reach : Array (Option Value)} {oc_first_reach kV_first_reach dc_first_reach pm_first_reach cd_first_reach ct_first_reach : Value} {od_reads an_reads : Option Addr} {sl_reads : Array (Option Value)} {oc_reads kV_reads dc_reads pm_reads cd_reads ct_reads : Value} {od_line_reading an_line_reading : Option Addr} {sl_line_reading : Array (Option Value)} {oc_line_reading kV_line_reading dc_line_reading pm_line_reading cd_line_reading ct_line_reading : Value} {od_shows_run an_shows_run : Option Addr} {sl_shows_run : Array (Option Value)} {oc_shows_run kV_shows_run dc_shows_run pm_shows_run cd_shows_run ct_shows_run : Value} {od_law_all_refused an_law_all_refused : Option Addr} {sl_law_all_refused : Array (Option Value)} {oc_law_all_refused kV_law_all_refused dc_law_all_refused pm_law_all_refused ct_law_all_refused : Value} {cM_law_all_refused PM_law_all_refused : Addr} {od_law_named an_law_named : Option Addr} {sl_law_named : Array (Option Value)} {oc_law_named kV_law_named dc_law_named pm_law_named cd_law_named ct_law_named : Value} {od_law_cell_at an_law_cell_at : Option Addr} {sl_law_cell_at : Array (Option Value)} {oc_law_cell_at kV_law_cell_at dc_law_cell_at pm_law_cell_at cd_law_cell_at ct_law_cell_at : Value} {od_law_source an_law_source : Option Addr} {sl_law_source : Array (Option Value)} {oc_law_source kV_law_source dc_law_source pm_law_source cd_law_source ct_law_source : Value} {od_law an_law : Option Addr} {sl_law : Array (Option Value)} {oc_law kV_law dc_law pm_law cd_law ct_law : Value} {t_MOST_SHIFT : Tok}
(a_law_mixed : PySem.W.nsIn K mainGlobals "_law_mixed" = some (some (.ref f_law_mixed)))
 (l_law_mixed : K.lookup f_law_mixed = some ⟨oc_law_mixed, od_law_mixed, .func (PySem.W.fnOf "_law_mixed" "_law_mixed" (defArgs s__law_mixed) (defBody s__law_mixed) (defScope s__law_mixed) .none kV_law_mixed dc_law_mixed pm_law_mixed an_law_mixed cd_law_mixed ct_law_mixed), sl_law_mixed⟩)
 (c_law_mixed : PySem.W.codeIn K cd_law_mixed "_law_mixed" = true)
 (k_law_mixed : PySem.W.keepIn K (.ref f_law_mixed) = true)
 (a_law_next : PySem.W.nsIn K mainGlobals "_law_next" = some (some (.ref f_law_next)))
 (l_law_next : K.lookup f_law_next = some ⟨oc_law_next, od_law_next, .func (PySem.W.fnOf "_law_next" "_law_next" (defArgs s__law_next) (defBody s__law_next) (defScope s__law_next) .none kV_law_next dc_law_next pm_law_next an_law_next cd_law_next ct_law_next), sl_law_next⟩)
 (c_law_next : PySem.W.codeIn K cd_law_next "_law_next" = true)
 (k_law_next : PySem.W.keepIn K (.ref f_law_next) = true)
 (a_law_line : PySem.W.nsIn K mainGlobals "_law_line" = some (some (.ref f_law_line)))
 (l_law_line : K.lookup f_law_line = some ⟨oc_law_line, od_law_line, .func (PySem.W.fnOf "_law_line" "_law_line" (defArgs s__law_line) (defBody s__law_line) (defScope s__law_line) .none kV_law_line dc_law_line pm_law_line an_law_line cd_law_line ct_law_line), sl_law_line⟩)
 (c_law_line : PySem.W.codeIn K cd_law_line "_law_line" = true)
 (k_law_line : PySem.W.keepIn K (.ref f_law_line) = true)
 (a_law_odd : PySem.W.nsIn K mainGlobals "_law_odd" = some (some (.ref f_law_odd)))
 (l_law_odd : K.lookup f_law_odd = some ⟨oc_law_odd, od_law_odd, .func (PySem.W.fnOf "_law_odd" "_law_odd" (defArgs s__law_odd) (defBody s__law_odd) (defScope s__law_odd) .none kV_law_odd dc_law_odd pm_law_odd an_law_odd cd_law_odd ct_law_odd), sl_law_odd⟩)
 (c_law_odd : PySem.W.codeIn K cd_law_odd "_law_odd" = true)
 (k_law_odd : PySem.W.keepIn K (.ref f_law_odd) = true)
 (a_law_odd_line : PySem.W.nsIn K mainGlobals "_law_odd_line" = some (some (.ref f_law_odd_line)))
 (l_law_odd_line : K.lookup f_law_odd_line = some ⟨oc_law_odd_line, od_law_odd_line, .func (PySem.W.fnOf "_law_odd_line" "_law_odd_line" (defArgs s__law_odd_line) (defBody s__law_odd_line) (defScope s__law_odd_line) .none kV_law_odd_line dc_law_odd_line pm_law_odd_line an_law_odd_line cd_law_odd_line ct_law_odd_line), sl_law_odd_line⟩)
 (c_law_odd_line : PySem.W.codeIn K cd_law_odd_line "_law_odd_line" = true)
 (k_law_odd_line : PySem.W.keepIn K (.ref f_law_odd_line) = true)
 (a_law_word : PySem.W.nsIn K mainGlobals "_law_word" = some (some (.ref f_law_word)))
 (l_law_word : K.lookup f_law_word = some ⟨oc_law_word, od_law_word, .func (PySem.W.fnOf "_law_word" "_law_word" (defArgs s__law_word) (defBody s__law_word) (defScope s__law_word) .none kV_law_word dc_law_word pm_law_word an_law_word cd_law_word ct_law_word), sl_law_word⟩)
 (c_law_word : PySem.W.codeIn K cd_law_word "_law_word" = true)
 (k_law_word : PySem.W.keepIn K (.ref f_law_word) = true)
 (a_is_whole : PySem.W.nsIn K mainGlobals "is_whole" = some (some (.ref f_is_whole)))
 (l_is_whole : K.lookup f_is_whole = some ⟨oc_is_whole, od_is_whole, .func (PySem.W.fnOf "is_whole" "is_whole" (defArgs s_is_whole) (defBody s_is_whole) (defScope s_is_whole) (.ref T_is_whole) kV_is_whole dc_is_whole pm_is_whole an_is_whole cd_is_whole ct_is_whole), sl_is_whole⟩)
 (c_is_whole : PySem.W.codeIn K cd_is_whole "is_whole" = true)
 (k_is_whole : PySem.W.keepIn K (.ref f_is_whole) = true)
 (t_is_whole : K.lookup T_is_whole = some o_is_whole)
 (u_is_whole : o_is_whole.data = .seq [d0_is_whole].toArray n_is_whole)
 (v_is_whole : Vals [V.non] [d0_is_whole])
 (a_check_cycle : PySem.W.nsIn K mainGlobals "check_cycle" = some (some (.ref f_check_cycle)))
 (l_check_cycle : K.lookup f_check_cycle = some ⟨oc_check_cycle, od_check_cycle, .func (PySem.W.fnOf "check_cycle" "check_cycle" (defArgs s_check_cycle) (defBody s_check_cycle) (defScope s_check_cycle) (.ref T_check_cycle) kV_check_cycle dc_check_cycle pm_check_cycle an_check_cycle cd_check_cycle ct_check_cycle), sl_check_cycle⟩)
 (c_check_cycle : PySem.W.codeIn K cd_check_cycle "check_cycle" = true)
 (k_check_cycle : PySem.W.keepIn K (.ref f_check_cycle) = true)
 (t_check_cycle : K.lookup T_check_cycle = some o_check_cycle)
 (u_check_cycle : o_check_cycle.data = .seq [d0_check_cycle].toArray n_check_cycle)
 (v_check_cycle : Vals [(V.int 0)] [d0_check_cycle])
 (a_is_shift : PySem.W.nsIn K mainGlobals "is_shift" = some (some (.ref f_is_shift)))
 (l_is_shift : K.lookup f_is_shift = some ⟨oc_is_shift, od_is_shift, .func (PySem.W.fnOf "is_shift" "is_shift" (defArgs s_is_shift) (defBody s_is_shift) (defScope s_is_shift) .none kV_is_shift dc_is_shift pm_is_shift an_is_shift cd_is_shift ct_is_shift), sl_is_shift⟩)
 (c_is_shift : PySem.W.codeIn K cd_is_shift "is_shift" = true)
 (k_is_shift : PySem.W.keepIn K (.ref f_is_shift) = true)
 (a_check_line : PySem.W.nsIn K mainGlobals "check_line" = some (some (.ref f_check_line)))
 (l_check_line : K.lookup f_check_line = some ⟨oc_check_line, od_check_line, .func (PySem.W.fnOf "check_line" "check_line" (defArgs s_check_line) (defBody s_check_line) (defScope s_check_line) .none kV_check_line dc_check_line pm_check_line an_check_line cd_check_line ct_check_line), sl_check_line⟩)
 (c_check_line : PySem.W.codeIn K cd_check_line "check_line" = true)
 (k_check_line : PySem.W.keepIn K (.ref f_check_line) = true)
 (a_power : PySem.W.nsIn K mainGlobals "power" = some (some (.ref f_power)))
 (l_power : K.lookup f_power = some ⟨oc_power, od_power, .func (PySem.W.fnOf "power" "power" (defArgs s_power) (defBody s_power) (defScope s_power) .none kV_power dc_power pm_power an_power cd_power ct_power), sl_power⟩)
 (c_power : PySem.W.codeIn K cd_power "power" = true)
 (k_power : PySem.W.keepIn K (.ref f_power) = true)
 (a_sum_of_floors : PySem.W.nsIn K mainGlobals "sum_of_floors" = some (some (.ref f_sum_of_floors)))
 (l_sum_of_floors : K.lookup f_sum_of_floors = some ⟨oc_sum_of_floors, od_sum_of_floors, .func (PySem.W.fnOf "sum_of_floors" "sum_of_floors" (defArgs s_sum_of_floors) (defBody s_sum_of_floors) (defScope s_sum_of_floors) .none kV_sum_of_floors dc_sum_of_floors pm_sum_of_floors an_sum_of_floors cd_sum_of_floors ct_sum_of_floors), sl_sum_of_floors⟩)
 (c_sum_of_floors : PySem.W.codeIn K cd_sum_of_floors "sum_of_floors" = true)
 (k_sum_of_floors : PySem.W.keepIn K (.ref f_sum_of_floors) = true)
 (a_total : PySem.W.nsIn K mainGlobals "total" = some (some (.ref f_total)))
 (l_total : K.lookup f_total = some ⟨oc_total, od_total, .func (PySem.W.fnOf "total" "total" (defArgs s_total) (defBody s_total) (defScope s_total) .none kV_total dc_total pm_total an_total cd_total ct_total), sl_total⟩)
 (c_total : PySem.W.codeIn K cd_total "total" = true)
 (k_total : PySem.W.keepIn K (.ref f_total) = true)
 (a_excess : PySem.W.nsIn K mainGlobals "excess" = some (some (.ref f_excess)))
 (l_excess : K.lookup f_excess = some ⟨oc_excess, od_excess, .func (PySem.W.fnOf "excess" "excess" (defArgs s_excess) (defBody s_excess) (defScope s_excess) .none kV_excess dc_excess pm_excess an_excess cd_excess ct_excess), sl_excess⟩)
 (c_excess : PySem.W.codeIn K cd_excess "excess" = true)
 (k_excess : PySem.W.keepIn K (.ref f_excess) = true)
 (a_apart_many : PySem.W.nsIn K mainGlobals "apart_many" = some (some (.ref f_apart_many)))
 (l_apart_many : K.lookup f_apart_many = some ⟨oc_apart_many, od_apart_many, .func (PySem.W.fnOf "apart_many" "apart_many" (defArgs s_apart_many) (defBody s_apart_many) (defScope s_apart_many) .none kV_apart_many dc_apart_many pm_apart_many an_apart_many cd_apart_many ct_apart_many), sl_apart_many⟩)
 (c_apart_many : PySem.W.codeIn K cd_apart_many "apart_many" = true)
 (k_apart_many : PySem.W.keepIn K (.ref f_apart_many) = true)
 (a_round_up : PySem.W.nsIn K mainGlobals "round_up" = some (some (.ref f_round_up)))
 (l_round_up : K.lookup f_round_up = some ⟨oc_round_up, od_round_up, .func (PySem.W.fnOf "round_up" "round_up" (defArgs s_round_up) (defBody s_round_up) (defScope s_round_up) .none kV_round_up dc_round_up pm_round_up an_round_up cd_round_up ct_round_up), sl_round_up⟩)
 (c_round_up : PySem.W.codeIn K cd_round_up "round_up" = true)
 (k_round_up : PySem.W.keepIn K (.ref f_round_up) = true)
 (a_turning : PySem.W.nsIn K mainGlobals "turning" = some (some (.ref f_turning)))
 (l_turning : K.lookup f_turning = some ⟨oc_turning, od_turning, .func (PySem.W.fnOf "turning" "turning" (defArgs s_turning) (defBody s_turning) (defScope s_turning) .none kV_turning dc_turning pm_turning an_turning cd_turning ct_turning), sl_turning⟩)
 (c_turning : PySem.W.codeIn K cd_turning "turning" = true)
 (k_turning : PySem.W.keepIn K (.ref f_turning) = true)
 (a_ahead_from : PySem.W.nsIn K mainGlobals "ahead_from" = some (some (.ref f_ahead_from)))
 (l_ahead_from : K.lookup f_ahead_from = some ⟨oc_ahead_from, od_ahead_from, .func (PySem.W.fnOf "ahead_from" "ahead_from" (defArgs s_ahead_from) (defBody s_ahead_from) (defScope s_ahead_from) .none kV_ahead_from dc_ahead_from pm_ahead_from an_ahead_from cd_ahead_from ct_ahead_from), sl_ahead_from⟩)
 (c_ahead_from : PySem.W.codeIn K cd_ahead_from "ahead_from" = true)
 (k_ahead_from : PySem.W.keepIn K (.ref f_ahead_from) = true)
 (a_first_count : PySem.W.nsIn K mainGlobals "first_count" = some (some (.ref f_first_count)))
 (l_first_count : K.lookup f_first_count = some ⟨oc_first_count, od_first_count, .func (PySem.W.fnOf "first_count" "first_count" (defArgs s_first_count) (defBody s_first_count) (defScope s_first_count) .none kV_first_count dc_first_count pm_first_count an_first_count cd_first_count ct_first_count), sl_first_count⟩)
 (c_first_count : PySem.W.codeIn K cd_first_count "first_count" = true)
 (k_first_count : PySem.W.keepIn K (.ref f_first_count) = true)
 (a_first_more : PySem.W.nsIn K mainGlobals "first_more" = some (some (.ref f_first_more)))
 (l_first_more : K.lookup f_first_more = some ⟨oc_first_more, od_first_more, .func (PySem.W.fnOf "first_more" "first_more" (defArgs s_first_more) (defBody s_first_more) (defScope s_first_more) .none kV_first_more dc_first_more pm_first_more an_first_more (.ref cM_first_more) ct_first_more), sl_first_more⟩)
 (c_first_more : PySem.W.codeIn K (.ref cM_first_more) "first_more" = true)
 (k_first_more : PySem.W.keepIn K (.ref f_first_more) = true)
 (a_first_above : PySem.W.nsIn K mainGlobals "first_above" = some (some (.ref f_first_above)))
 (l_first_above : K.lookup f_first_above = some ⟨oc_first_above, od_first_above, .func (PySem.W.fnOf "first_above" "first_above" (defArgs s_first_above) (defBody s_first_above) (defScope s_first_above) .none kV_first_above dc_first_above pm_first_above an_first_above cd_first_above ct_first_above), sl_first_above⟩)
 (c_first_above : PySem.W.codeIn K cd_first_above "first_above" = true)
 (k_first_above : PySem.W.keepIn K (.ref f_first_above) = true)
 (a_first_ahead : PySem.W.nsIn K mainGlobals "first_ahead" = some (some (.ref f_first_ahead)))
 (l_first_ahead : K.lookup f_first_ahead = some ⟨oc_first_ahead, od_first_ahead, .func (PySem.W.fnOf "first_ahead" "first_ahead" (defArgs s_first_ahead) (defBody s_first_ahead) (defScope s_first_ahead) .none kV_first_ahead dc_first_ahead pm_first_ahead an_first_ahead cd_first_ahead ct_first_ahead), sl_first_ahead⟩)
 (c_first_ahead : PySem.W.codeIn K cd_first_ahead "first_ahead" = true)
 (k_first_ahead : PySem.W.keepIn K (.ref f_first_ahead) = true)
 (a_parting : PySem.W.nsIn K mainGlobals "parting" = some (some (.ref f_parting)))
 (l_parting : K.lookup f_parting = some ⟨oc_parting, od_parting, .func (PySem.W.fnOf "parting" "parting" (defArgs s_parting) (defBody s_parting) (defScope s_parting) .none kV_parting dc_parting pm_parting an_parting cd_parting ct_parting), sl_parting⟩)
 (c_parting : PySem.W.codeIn K cd_parting "parting" = true)
 (k_parting : PySem.W.keepIn K (.ref f_parting) = true)
 (a_first_apart : PySem.W.nsIn K mainGlobals "first_apart" = some (some (.ref f_first_apart)))
 (l_first_apart : K.lookup f_first_apart = some ⟨oc_first_apart, od_first_apart, .func (PySem.W.fnOf "first_apart" "first_apart" (defArgs s_first_apart) (defBody s_first_apart) (defScope s_first_apart) .none kV_first_apart dc_first_apart pm_first_apart an_first_apart cd_first_apart ct_first_apart), sl_first_apart⟩)
 (c_first_apart : PySem.W.codeIn K cd_first_apart "first_apart" = true)
 (k_first_apart : PySem.W.keepIn K (.ref f_first_apart) = true)
 (a_check_reading : PySem.W.nsIn K mainGlobals "check_reading" = some (some (.ref f_check_reading)))
 (l_check_reading : K.lookup f_check_reading = some ⟨oc_check_reading, od_check_reading, .func (PySem.W.fnOf "check_reading" "check_reading" (defArgs s_check_reading) (defBody s_check_reading) (defScope s_check_reading) .none kV_check_reading dc_check_reading pm_check_reading an_check_reading cd_check_reading ct_check_reading), sl_check_reading⟩)
 (c_check_reading : PySem.W.codeIn K cd_check_reading "check_reading" = true)
 (k_check_reading : PySem.W.keepIn K (.ref f_check_reading) = true)
 (a_reached : PySem.W.nsIn K mainGlobals "reached" = some (some (.ref f_reached)))
 (l_reached : K.lookup f_reached = some ⟨oc_reached, od_reached, .func (PySem.W.fnOf "reached" "reached" (defArgs s_reached) (defBody s_reached) (defScope s_reached) .none kV_reached dc_reached pm_reached an_reached cd_reached ct_reached), sl_reached⟩)
 (c_reached : PySem.W.codeIn K cd_reached "reached" = true)
 (k_reached : PySem.W.keepIn K (.ref f_reached) = true)
 (a_first_reach : PySem.W.nsIn K mainGlobals "first_reach" = some (some (.ref f_first_reach)))
 (l_first_reach : K.lookup f_first_reach = some ⟨oc_first_reach, od_first_reach, .func (PySem.W.fnOf "first_reach" "first_reach" (defArgs s_first_reach) (defBody s_first_reach) (defScope s_first_reach) .none kV_first_reach dc_first_reach pm_first_reach an_first_reach cd_first_reach ct_first_reach), sl_first_reach⟩)
 (c_first_reach : PySem.W.codeIn K cd_first_reach "first_reach" = true)
 (k_first_reach : PySem.W.keepIn K (.ref f_first_reach) = true)
 (a_reads : PySem.W.nsIn K mainGlobals "reads" = some (some (.ref f_reads)))
 (l_reads : K.lookup f_reads = some ⟨oc_reads, od_reads, .func (PySem.W.fnOf "reads" "reads" (defArgs s_reads) (defBody s_reads) (defScope s_reads) .none kV_reads dc_reads pm_reads an_reads cd_reads ct_reads), sl_reads⟩)
 (c_reads : PySem.W.codeIn K cd_reads "reads" = true)
 (k_reads : PySem.W.keepIn K (.ref f_reads) = true)
 (a_line_reading : PySem.W.nsIn K mainGlobals "line_reading" = some (some (.ref f_line_reading)))
 (l_line_reading : K.lookup f_line_reading = some ⟨oc_line_reading, od_line_reading, .func (PySem.W.fnOf "line_reading" "line_reading" (defArgs s_line_reading) (defBody s_line_reading) (defScope s_line_reading) .none kV_line_reading dc_line_reading pm_line_reading an_line_reading cd_line_reading ct_line_reading), sl_line_reading⟩)
 (c_line_reading : PySem.W.codeIn K cd_line_reading "line_reading" = true)
 (k_line_reading : PySem.W.keepIn K (.ref f_line_reading) = true)
 (a_shows_run : PySem.W.nsIn K mainGlobals "shows_run" = some (some (.ref f_shows_run)))
 (l_shows_run : K.lookup f_shows_run = some ⟨oc_shows_run, od_shows_run, .func (PySem.W.fnOf "shows_run" "shows_run" (defArgs s_shows_run) (defBody s_shows_run) (defScope s_shows_run) .none kV_shows_run dc_shows_run pm_shows_run an_shows_run cd_shows_run ct_shows_run), sl_shows_run⟩)
 (c_shows_run : PySem.W.codeIn K cd_shows_run "shows_run" = true)
 (k_shows_run : PySem.W.keepIn K (.ref f_shows_run) = true)
 (a_law_all_refused : PySem.W.nsIn K mainGlobals "_law_all_refused" = some (some (.ref f_law_all_refused)))
 (l_law_all_refused : K.lookup f_law_all_refused = some ⟨oc_law_all_refused, od_law_all_refused, .func (PySem.W.fnOf "_law_all_refused" "_law_all_refused" (defArgs s__law_all_refused) (defBody s__law_all_refused) (defScope s__law_all_refused) .none kV_law_all_refused dc_law_all_refused pm_law_all_refused an_law_all_refused (.ref cM_law_all_refused) ct_law_all_refused), sl_law_all_refused⟩)
 (c_law_all_refused : PySem.W.codeIn K (.ref cM_law_all_refused) "_law_all_refused" = true)
 (k_law_all_refused : PySem.W.keepIn K (.ref f_law_all_refused) = true)
 (a_law_named : PySem.W.nsIn K mainGlobals "_law_named" = some (some (.ref f_law_named)))
 (l_law_named : K.lookup f_law_named = some ⟨oc_law_named, od_law_named, .func (PySem.W.fnOf "_law_named" "_law_named" (defArgs s__law_named) (defBody s__law_named) (defScope s__law_named) .none kV_law_named dc_law_named pm_law_named an_law_named cd_law_named ct_law_named), sl_law_named⟩)
 (c_law_named : PySem.W.codeIn K cd_law_named "_law_named" = true)
 (k_law_named : PySem.W.keepIn K (.ref f_law_named) = true)
 (a_law_cell_at : PySem.W.nsIn K mainGlobals "_law_cell_at" = some (some (.ref f_law_cell_at)))
 (l_law_cell_at : K.lookup f_law_cell_at = some ⟨oc_law_cell_at, od_law_cell_at, .func (PySem.W.fnOf "_law_cell_at" "_law_cell_at" (defArgs s__law_cell_at) (defBody s__law_cell_at) (defScope s__law_cell_at) .none kV_law_cell_at dc_law_cell_at pm_law_cell_at an_law_cell_at cd_law_cell_at ct_law_cell_at), sl_law_cell_at⟩)
 (c_law_cell_at : PySem.W.codeIn K cd_law_cell_at "_law_cell_at" = true)
 (k_law_cell_at : PySem.W.keepIn K (.ref f_law_cell_at) = true)
 (a_law_source : PySem.W.nsIn K mainGlobals "_law_source" = some (some (.ref f_law_source)))
 (l_law_source : K.lookup f_law_source = some ⟨oc_law_source, od_law_source, .func (PySem.W.fnOf "_law_source" "_law_source" (defArgs s__law_source) (defBody s__law_source) (defScope s__law_source) .none kV_law_source dc_law_source pm_law_source an_law_source cd_law_source ct_law_source), sl_law_source⟩)
 (c_law_source : PySem.W.codeIn K cd_law_source "_law_source" = true)
 (k_law_source : PySem.W.keepIn K (.ref f_law_source) = true)
 (a_law : PySem.W.nsIn K mainGlobals "law" = some (some (.ref f_law)))
 (l_law : K.lookup f_law = some ⟨oc_law, od_law, .func (PySem.W.fnOf "law" "law" (defArgs s_law) (defBody s_law) (defScope s_law) .none kV_law dc_law pm_law an_law cd_law ct_law), sl_law⟩)
 (c_law : PySem.W.codeIn K cd_law "law" = true)
 (k_law : PySem.W.keepIn K (.ref f_law) = true)
 (b_ValueError : PySem.W.nsIn K mainGlobals "ValueError" = some none)
 (b_abs : PySem.W.nsIn K mainGlobals "abs" = some none)
 (b_all : PySem.W.nsIn K mainGlobals "all" = some none)
 (b_bool : PySem.W.nsIn K mainGlobals "bool" = some none)
 (b_int : PySem.W.nsIn K mainGlobals "int" = some none)
 (b_isinstance : PySem.W.nsIn K mainGlobals "isinstance" = some none)
 (b_len : PySem.W.nsIn K mainGlobals "len" = some none)
 (b_max : PySem.W.nsIn K mainGlobals "max" = some none)
 (b_min : PySem.W.nsIn K mainGlobals "min" = some none)
 (b_range : PySem.W.nsIn K mainGlobals "range" = some none)
 (b_tuple : PySem.W.nsIn K mainGlobals "tuple" = some none)
 (g_MOST_SHIFT : PySem.W.nsIn K mainGlobals "MOST_SHIFT" = some (some (.int 64 t_MOST_SHIFT)))
 (xa_KernelError : PySem.W.nsIn K mainGlobals "KernelError" = some (some (.ref C_KernelError)))
 (xq_KernelError : PySem.W.excIn K C_KernelError [.type "ValueError", .type "Exception", .type "BaseException", .type "object"] "ValueError.__new__" = true)
 (xk_KernelError : PySem.W.keepIn K (.ref C_KernelError) = true)
 (xb_KernelError : PySem.W.subIn K (.ref C_KernelError) (.type "BaseException") = some true)
 (xt_KernelError : PySem.W.typeIn K (.ref C_KernelError) = some (.type "type"))
 (xa_NoCycle : PySem.W.nsIn K mainGlobals "NoCycle" = some (some (.ref C_NoCycle)))
 (xq_NoCycle : PySem.W.excIn K C_NoCycle [.type "ValueError", .type "Exception", .type "BaseException", .type "object"] "ValueError.__new__" = true)
 (xk_NoCycle : PySem.W.keepIn K (.ref C_NoCycle) = true)
 (xb_NoCycle : PySem.W.subIn K (.ref C_NoCycle) (.type "BaseException") = some true)
 (xt_NoCycle : PySem.W.typeIn K (.ref C_NoCycle) = some (.type "type"))
 (xa_NoLine : PySem.W.nsIn K mainGlobals "NoLine" = some (some (.ref C_NoLine)))
 (xq_NoLine : PySem.W.excIn K C_NoLine [.type "ValueError", .type "Exception", .type "BaseException", .type "object"] "ValueError.__new__" = true)
 (xk_NoLine : PySem.W.keepIn K (.ref C_NoLine) = true)
 (xb_NoLine : PySem.W.subIn K (.ref C_NoLine) (.type "BaseException") = some true)
 (xt_NoLine : PySem.W.typeIn K (.ref C_NoLine) = some (.type "type"))
 (xa_NoLooks : PySem.W.nsIn K mainGlobals "NoLooks" = some (some (.ref C_NoLooks)))
 (xq_NoLooks : PySem.W.excIn K C_NoLooks [.type "ValueError", .type "Exception", .type "BaseException", .type "object"] "ValueError.__new__" = true)
 (xk_NoLooks : PySem.W.keepIn K (.ref C_NoLooks) = true)
 (xb_NoLooks : PySem.W.subIn K (.ref C_NoLooks) (.type "BaseException") = some true)
 (xt_NoLooks : PySem.W.typeIn K (.ref C_NoLooks) = some (.type "type"))
 (xa_NoRate : PySem.W.nsIn K mainGlobals "NoRate" = some (some (.ref C_NoRate)))
 (xq_NoRate : PySem.W.excIn K C_NoRate [.type "ValueError", .type "Exception", .type "BaseException", .type "object"] "ValueError.__new__" = true)
 (xk_NoRate : PySem.W.keepIn K (.ref C_NoRate) = true)
 (xb_NoRate : PySem.W.subIn K (.ref C_NoRate) (.type "BaseException") = some true)
 (xt_NoRate : PySem.W.typeIn K (.ref C_NoRate) = some (.type "type"))
 (xa_NoReading : PySem.W.nsIn K mainGlobals "NoReading" = some (some (.ref C_NoReading)))
 (xq_NoReading : PySem.W.excIn K C_NoReading [.type "ValueError", .type "Exception", .type "BaseException", .type "object"] "ValueError.__new__" = true)
 (xk_NoReading : PySem.W.keepIn K (.ref C_NoReading) = true)
 (xb_NoReading : PySem.W.subIn K (.ref C_NoReading) (.type "BaseException") = some true)
 (xt_NoReading : PySem.W.typeIn K (.ref C_NoReading) = some (.type "type"))
 (xa_NoWidth : PySem.W.nsIn K mainGlobals "NoWidth" = some (some (.ref C_NoWidth)))
 (xq_NoWidth : PySem.W.excIn K C_NoWidth [.type "ValueError", .type "Exception", .type "BaseException", .type "object"] "ValueError.__new__" = true)
 (xk_NoWidth : PySem.W.keepIn K (.ref C_NoWidth) = true)
 (xb_NoWidth : PySem.W.subIn K (.ref C_NoWidth) (.type "BaseException") = some true)
 (xt_NoWidth : PySem.W.typeIn K (.ref C_NoWidth) = some (.type "type"))
 (tt_first_more : h.get? PM_first_more = some { cls := .none, data := .fields #[] })
 (tl_first_more : K.lookup PM_first_more = none)
 (th_first_more : PySem.W.codeHdIn K cM_first_more PM_first_more = true)
 (tt_law_all_refused : h.get? PM_law_all_refused = some { cls := .none, data := .fields #[] })
 (tl_law_all_refused : K.lookup PM_law_all_refused = none)
 (th_law_all_refused : PySem.W.codeHdIn K cM_law_all_refused PM_law_all_refused = true)
 (xm_NoCycle_KernelError : PySem.W.exmOne K (.ref C_NoCycle) (.ref C_KernelError) = some true)
 (xi_NoCycle_NoCycle : PySem.W.kitOne K (.ref C_NoCycle) (.ref C_NoCycle) = some true)
 (xi_NoCycle_NoLine : PySem.W.kitOne K (.ref C_NoCycle) (.ref C_NoLine) = some false)
 (xi_NoCycle_NoLooks : PySem.W.kitOne K (.ref C_NoCycle) (.ref C_NoLooks) = some false)
 (xi_NoCycle_NoRate : PySem.W.kitOne K (.ref C_NoCycle) (.ref C_NoRate) = some false)
 (xi_NoCycle_NoReading : PySem.W.kitOne K (.ref C_NoCycle) (.ref C_NoReading) = some false)
 (xi_NoCycle_NoWidth : PySem.W.kitOne K (.ref C_NoCycle) (.ref C_NoWidth) = some false)
 (xi_NoCycle_ValueError : PySem.W.kitOne K (.ref C_NoCycle) (.type "ValueError") = some true)
 (xc_NoCycle : ExcC K C_NoCycle)
 (xm_NoLine_KernelError : PySem.W.exmOne K (.ref C_NoLine) (.ref C_KernelError) = some true)
 (xi_NoLine_NoCycle : PySem.W.kitOne K (.ref C_NoLine) (.ref C_NoCycle) = some false)
 (xi_NoLine_NoLine : PySem.W.kitOne K (.ref C_NoLine) (.ref C_NoLine) = some true)
 (xi_NoLine_NoLooks : PySem.W.kitOne K (.ref C_NoLine) (.ref C_NoLooks) = some false)
 (xi_NoLine_NoRate : PySem.W.kitOne K (.ref C_NoLine) (.ref C_NoRate) = some false)
 (xi_NoLine_NoReading : PySem.W.kitOne K (.ref C_NoLine) (.ref C_NoReading) = some false)
 (xi_NoLine_NoWidth : PySem.W.kitOne K (.ref C_NoLine) (.ref C_NoWidth) = some false)
 (xi_NoLine_ValueError : PySem.W.kitOne K (.ref C_NoLine) (.type "ValueError") = some true)
 (xc_NoLine : ExcC K C_NoLine)
 (xm_NoReading_KernelError : PySem.W.exmOne K (.ref C_NoReading) (.ref C_KernelError) = some true)
 (xi_NoReading_NoCycle : PySem.W.kitOne K (.ref C_NoReading) (.ref C_NoCycle) = some false)
 (xi_NoReading_NoLine : PySem.W.kitOne K (.ref C_NoReading) (.ref C_NoLine) = some false)
 (xi_NoReading_NoLooks : PySem.W.kitOne K (.ref C_NoReading) (.ref C_NoLooks) = some false)
 (xi_NoReading_NoRate : PySem.W.kitOne K (.ref C_NoReading) (.ref C_NoRate) = some false)
 (xi_NoReading_NoReading : PySem.W.kitOne K (.ref C_NoReading) (.ref C_NoReading) = some true)
 (xi_NoReading_NoWidth : PySem.W.kitOne K (.ref C_NoReading) (.ref C_NoWidth) = some false)
 (xi_NoReading_ValueError : PySem.W.kitOne K (.ref C_NoReading) (.type "ValueError") = some true)
 (xc_NoReading : ExcC K C_NoReading)
 (tn_first_more_law_all_refused : PM_first_more ≠ PM_law_all_refused)
 : LamX.LawAtS l w K (L2.CX l.prog w) 13 63 "script" mg fa h := by
  letI : TabT := ⟨[(PM_first_more, (("first_more" : Str) ++ ".<locals>.") ++ "<lambda>"), (PM_law_all_refused, (("_law_all_refused" : Str) ++ ".<locals>.") ++ "<lambda>")]⟩
  have e := hfa.symm.trans (PySem.W.mg_of X G a_law)
  cases e
  have T : Txt K mg (Cs.mk K C_KernelError C_NoWidth C_NoLooks C_NoCycle C_NoRate C_NoReading C_NoLine 0 0 0 0 0 0 0 0 0 0 0 0 0 0 0 0 0 0 0 0) := ⟨rfl, PySem.W.mg_none_of X G b_ValueError, PySem.W.mg_none_of X G b_abs, PySem.W.mg_none_of X G b_all, PySem.W.mg_none_of X G b_bool, PySem.W.mg_none_of X G b_int, PySem.W.mg_none_of X G b_isinstance, PySem.W.mg_none_of X G b_len, PySem.W.mg_none_of X G b_max, PySem.W.mg_none_of X G b_min, PySem.W.mg_none_of X G b_range, PySem.W.mg_none_of X G b_tuple, ⟨_, PySem.W.mg_of X G g_MOST_SHIFT, ⟨_, rfl⟩⟩, ⟨PySem.W.mg_of X G xa_KernelError, xq_KernelError, xk_KernelError, xb_KernelError, xt_KernelError⟩, ⟨PySem.W.mg_of X G xa_NoCycle, xq_NoCycle, xk_NoCycle, xb_NoCycle, xt_NoCycle⟩, ⟨PySem.W.mg_of X G xa_NoLine, xq_NoLine, xk_NoLine, xb_NoLine, xt_NoLine⟩, ⟨PySem.W.mg_of X G xa_NoLooks, xq_NoLooks, xk_NoLooks, xb_NoLooks, xt_NoLooks⟩, ⟨PySem.W.mg_of X G xa_NoRate, xq_NoRate, xk_NoRate, xb_NoRate, xt_NoRate⟩, ⟨PySem.W.mg_of X G xa_NoReading, xq_NoReading, xk_NoReading, xb_NoReading, xt_NoReading⟩, ⟨PySem.W.mg_of X G xa_NoWidth, xq_NoWidth, xk_NoWidth, xb_NoWidth, xt_NoWidth⟩⟩
  have F_law_mixed := fun0 (st := s__law_mixed) l_law_mixed c_law_mixed k_law_mixed
  have F_law_next := fun0 (st := s__law_next) l_law_next c_law_next k_law_next
  have F_law_line := fun0 (st := s__law_line) l_law_line c_law_line k_law_line
  have F_law_odd := fun0 (st := s__law_odd) l_law_odd c_law_odd k_law_odd
  have F_law_odd_line := fun0 (st := s__law_odd_line) l_law_odd_line c_law_odd_line k_law_odd_line
  have F_law_word := fun0 (st := s__law_word) l_law_word c_law_word k_law_word
  have F_is_whole := funD (st := s_is_whole) l_is_whole c_is_whole k_is_whole t_is_whole u_is_whole v_is_whole (by decide)
  have F_check_cycle := funD (st := s_check_cycle) l_check_cycle c_check_cycle k_check_cycle t_check_cycle u_check_cycle v_check_cycle (by decide)
  have F_is_shift := fun0 (st := s_is_shift) l_is_shift c_is_shift k_is_shift
  have F_check_line := fun0 (st := s_check_line) l_check_line c_check_line k_check_line
  have F_power := fun0 (st := s_power) l_power c_power k_power
  have F_sum_of_floors := fun0 (st := s_sum_of_floors) l_sum_of_floors c_sum_of_floors k_sum_of_floors
  have F_total := fun0 (st := s_total) l_total c_total k_total
  have F_excess := fun0 (st := s_excess) l_excess c_excess k_excess
  have F_apart_many := fun0 (st := s_apart_many) l_apart_many c_apart_many k_apart_many
  have F_round_up := fun0 (st := s_round_up) l_round_up c_round_up k_round_up
  have F_turning := fun0 (st := s_turning) l_turning c_turning k_turning
  have F_ahead_from := fun0 (st := s_ahead_from) l_ahead_from c_ahead_from k_ahead_from
  have F_first_count := fun0 (st := s_first_count) l_first_count c_first_count k_first_count
  have F_first_more := fun0 (st := s_first_more) l_first_more c_first_more k_first_more
  have F_first_above := fun0 (st := s_first_above) l_first_above c_first_above k_first_above
  have F_first_ahead := fun0 (st := s_first_ahead) l_first_ahead c_first_ahead k_first_ahead
  have F_parting := fun0 (st := s_parting) l_parting c_parting k_parting
  have F_first_apart := fun0 (st := s_first_apart) l_first_apart c_first_apart k_first_apart
  have F_check_reading := fun0 (st := s_check_reading) l_check_reading c_check_reading k_check_reading
  have F_reached := fun0 (st := s_reached) l_reached c_reached k_reached
  have F_first_reach := fun0 (st := s_first_reach) l_first_reach c_first_reach k_first_reach
  have F_reads := fun0 (st := s_reads) l_reads c_reads k_reads
  have F_line_reading := fun0 (st := s_line_reading) l_line_reading c_line_reading k_line_reading
  have F_shows_run := fun0 (st := s_shows_run) l_shows_run c_shows_run k_shows_run
  have F_law_all_refused := fun0 (st := s__law_all_refused) l_law_all_refused c_law_all_refused k_law_all_refused
  have F_law_named := fun0 (st := s__law_named) l_law_named c_law_named k_law_named
  have F_law_cell_at := fun0 (st := s__law_cell_at) l_law_cell_at c_law_cell_at k_law_cell_at
  have F_law_source := fun0 (st := s__law_source) l_law_source c_law_source k_law_source
  have F_law := fun0 (st := s_law) l_law c_law k_law
  have tt : ∀ p ∈ [(cM_first_more, PM_first_more), (cM_law_all_refused, PM_law_all_refused)], h.get? p.2 = some { cls := .none, data := .fields #[] } := fun p hp => by
    simp only [List.mem_cons, List.not_mem_nil, or_false] at hp
    rcases hp with rfl | rfl
    · exact tt_first_more
    · exact tt_law_all_refused
  have tl : ∀ p ∈ [(cM_first_more, PM_first_more), (cM_law_all_refused, PM_law_all_refused)], K.lookup p.2 = none := fun p hp => by
    simp only [List.mem_cons, List.not_mem_nil, or_false] at hp
    rcases hp with rfl | rfl
    · exact tl_first_more
    · exact tl_law_all_refused
  have th : ∀ p ∈ [(cM_first_more, PM_first_more), (cM_law_all_refused, PM_law_all_refused)], PySem.W.CodeHd h p.1 p.2 := fun p hp => by
    simp only [List.mem_cons, List.not_mem_nil, or_false] at hp
    rcases hp with rfl | rfl
    · exact PySem.W.codeHd_of_K X th_first_more
    · exact PySem.W.codeHd_of_K X th_law_all_refused
  refine ⟨_, [(cM_first_more, PM_first_more), (cM_law_all_refused, PM_law_all_refused)], spLawT K [PM_first_more, PM_law_all_refused], tt, tl, th, fun s v => F_law.bindsA (ps := ["script"]) (fun _ _ _ _ _ _ us hl => match us, hl with | [_], _ => rfl) s [v] rfl, fun H a ns h1 h2 h3 h4 => ⟨a, ns, rfl, h1, h2, fun Q hQ => ?_, h4, fun _ => rfl⟩, fun base hb hns hTB => ?_⟩
  · simp only [List.mem_cons, List.not_mem_nil, or_false] at hQ
    rcases hQ with hqx | hqx
    · rw [hqx]; exact h3 (cM_first_more, PM_first_more) (by simp)
    · rw [hqx]; exact h3 (cM_law_all_refused, PM_law_all_refused) (by simp)
  have ML_first_more : MkL base mg cM_first_more PM_first_more ((("first_more" : Str) ++ ".<locals>.") ++ "<lambda>") := ⟨hTB (cM_first_more, PM_first_more) (by simp), List.mem_cons_self, fun z hz => by
    have hz : z ∈ [(PM_first_more, (("first_more" : Str) ++ ".<locals>.") ++ "<lambda>"), (PM_law_all_refused, (("_law_all_refused" : Str) ++ ".<locals>.") ++ "<lambda>")] := hz
    simp only [List.mem_cons, List.not_mem_nil, or_false] at hz
    rcases hz with rfl | rfl
    · intro _; rfl
    · exact fun e => absurd e (Ne.symm tn_first_more_law_all_refused)⟩
  have ML_law_all_refused : MkL base mg cM_law_all_refused PM_law_all_refused ((("_law_all_refused" : Str) ++ ".<locals>.") ++ "<lambda>") := ⟨hTB (cM_law_all_refused, PM_law_all_refused) (by simp), List.mem_cons_of_mem _ (List.mem_cons_self), fun z hz => by
    have hz : z ∈ [(PM_first_more, (("first_more" : Str) ++ ".<locals>.") ++ "<lambda>"), (PM_law_all_refused, (("_law_all_refused" : Str) ++ ".<locals>.") ++ "<lambda>")] := hz
    simp only [List.mem_cons, List.not_mem_nil, or_false] at hz
    rcases hz with rfl | rfl
    · exact fun e => absurd e tn_first_more_law_all_refused
    · intro _; rfl⟩
  have D__law_mixed : ∀ [LamT], Df l.prog w K mg base 1 "_law_mixed" 2 [] (m_law_mixed (Cs.mk K C_KernelError C_NoWidth C_NoLooks C_NoCycle C_NoRate C_NoReading C_NoLine 0 0 0 0 0 0 0 0 0 0 0 0 0 0 0 0 0 0 0 0)) := ok__law_mixed (P := l.prog) (w := w) (base := base) T F_law_mixed (PySem.W.mg_of X G a_law_mixed)
  have D__law_next : ∀ [LamT], Df l.prog w K mg base 2 "_law_next" 2 [] (m_law_next (Cs.mk K C_KernelError C_NoWidth C_NoLooks C_NoCycle C_NoRate C_NoReading C_NoLine 0 0 0 0 0 0 0 0 0 0 0 0 0 0 0 0 0 0 0 0)) := ok__law_next (P := l.prog) (w := w) (base := base) T F_law_next (PySem.W.mg_of X G a_law_next) D__law_mixed
  have D__law_line : ∀ [LamT], Df l.prog w K mg base 3 "_law_line" 1 [] (m_law_line (Cs.mk K C_KernelError C_NoWidth C_NoLooks C_NoCycle C_NoRate C_NoReading C_NoLine 0 0 0 0 0 0 0 0 0 0 0 0 0 0 0 0 0 0 0 0)) := ok__law_line (P := l.prog) (w := w) (base := base) T F_law_line (PySem.W.mg_of X G a_law_line) D__law_next
  have D__law_odd : ∀ [LamT], Df l.prog w K mg base 3 "_law_odd" 1 [] (m_law_odd (Cs.mk K C_KernelError C_NoWidth C_NoLooks C_NoCycle C_NoRate C_NoReading C_NoLine 0 0 0 0 0 0 0 0 0 0 0 0 0 0 0 0 0 0 0 0)) := ok__law_odd (P := l.prog) (w := w) (base := base) T F_law_odd (PySem.W.mg_of X G a_law_odd) D__law_next
  have D__law_odd_line : ∀ [LamT], Df l.prog w K mg base 3 "_law_odd_line" 1 [] (m_law_odd_line (Cs.mk K C_KernelError C_NoWidth C_NoLooks C_NoCycle C_NoRate C_NoReading C_NoLine 0 0 0 0 0 0 0 0 0 0 0 0 0 0 0 0 0 0 0 0)) := ok__law_odd_line (P := l.prog) (w := w) (base := base) T F_law_odd_line (PySem.W.mg_of X G a_law_odd_line) D__law_next
  have DW__law_word : ∀ {k : Nat}, DfW l.prog w K mg base (k + 1) "_law_word" 1 3 0 (b_law_word (Cs.mk K C_KernelError C_NoWidth C_NoLooks C_NoCycle C_NoRate C_NoReading C_NoLine 0 0 0 0 0 0 0 0 0 0 0 0 0 0 0 0 0 0 0 0)) := ok__law_word (P := l.prog) (w := w) (base := base) T F_law_word (PySem.W.mg_of X G a_law_word)
  have D_is_whole : ∀ [LamT], Df l.prog w K mg base 1 "is_whole" 2 [.non] (m_is_whole (Cs.mk K C_KernelError C_NoWidth C_NoLooks C_NoCycle C_NoRate C_NoReading C_NoLine 0 0 0 0 0 0 0 0 0 0 0 0 0 0 0 0 0 0 0 0)) := ok_is_whole (P := l.prog) (w := w) (base := base) T F_is_whole (PySem.W.mg_of X G a_is_whole)
  have D_check_cycle : ∀ [LamT], Df l.prog w K mg base 2 "check_cycle" 2 [(.int 0)] (m_check_cycle (Cs.mk K C_KernelError C_NoWidth C_NoLooks C_NoCycle C_NoRate C_NoReading C_NoLine 0 0 0 0 0 0 0 0 0 0 0 0 0 0 0 0 0 0 0 0)) := ok_check_cycle (P := l.prog) (w := w) (base := base) T F_check_cycle (PySem.W.mg_of X G a_check_cycle) D_is_whole
  have D_is_shift : ∀ [LamT], Df l.prog w K mg base 2 "is_shift" 1 [] (m_is_shift (Cs.mk K C_KernelError C_NoWidth C_NoLooks C_NoCycle C_NoRate C_NoReading C_NoLine 0 0 0 0 0 0 0 0 0 0 0 0 0 0 0 0 0 0 0 0)) := ok_is_shift (P := l.prog) (w := w) (base := base) T F_is_shift (PySem.W.mg_of X G a_is_shift) D_is_whole
  have D_check_line : ∀ [LamT], Df l.prog w K mg base 3 "check_line" 1 [] (m_check_line (Cs.mk K C_KernelError C_NoWidth C_NoLooks C_NoCycle C_NoRate C_NoReading C_NoLine 0 0 0 0 0 0 0 0 0 0 0 0 0 0 0 0 0 0 0 0)) := ok_check_line (P := l.prog) (w := w) (base := base) T F_check_line (PySem.W.mg_of X G a_check_line) D_is_shift D_is_whole
  have D_power : ∀ [LamT], Df l.prog w K mg base 1 "power" 1 [] (m_power (Cs.mk K C_KernelError C_NoWidth C_NoLooks C_NoCycle C_NoRate C_NoReading C_NoLine 0 0 0 0 0 0 0 0 0 0 0 0 0 0 0 0 0 0 0 0)) := ok_power (P := l.prog) (w := w) (base := base) T F_power (PySem.W.mg_of X G a_power)
  have D_sum_of_floors : ∀ [LamT], Df l.prog w K mg base 1 "sum_of_floors" 4 [] (m_sum_of_floors (Cs.mk K C_KernelError C_NoWidth C_NoLooks C_NoCycle C_NoRate C_NoReading C_NoLine 0 0 0 0 0 0 0 0 0 0 0 0 0 0 0 0 0 0 0 0)) := ok_sum_of_floors (P := l.prog) (w := w) (base := base) T F_sum_of_floors (PySem.W.mg_of X G a_sum_of_floors)
  have D_total : ∀ [LamT], Df l.prog w K mg base 2 "total" 3 [] (m_total (Cs.mk K C_KernelError C_NoWidth C_NoLooks C_NoCycle C_NoRate C_NoReading C_NoLine 0 0 0 0 0 0 0 0 0 0 0 0 0 0 0 0 0 0 0 0)) := ok_total (P := l.prog) (w := w) (base := base) T F_total (PySem.W.mg_of X G a_total) D_power D_sum_of_floors
  have D_excess : ∀ [LamT], Df l.prog w K mg base 3 "excess" 4 [] (m_excess (Cs.mk K C_KernelError C_NoWidth C_NoLooks C_NoCycle C_NoRate C_NoReading C_NoLine 0 0 0 0 0 0 0 0 0 0 0 0 0 0 0 0 0 0 0 0)) := ok_excess (P := l.prog) (w := w) (base := base) T F_excess (PySem.W.mg_of X G a_excess) D_total
  have D_apart_many : ∀ [LamT], Df l.prog w K mg base 4 "apart_many" 3 [] (m_apart_many (Cs.mk K C_KernelError C_NoWidth C_NoLooks C_NoCycle C_NoRate C_NoReading C_NoLine 0 0 0 0 0 0 0 0 0 0 0 0 0 0 0 0 0 0 0 0)) := ok_apart_many (P := l.prog) (w := w) (base := base) T F_apart_many (PySem.W.mg_of X G a_apart_many) D_check_cycle D_check_line D_excess D_power
  have DK_apart_many : ∀ [LamT], DfK l.prog w K mg base 4 "apart_many" 3 ["last", "other", "one"] (pick [2, 1, 0]) (m_apart_many (Cs.mk K C_KernelError C_NoWidth C_NoLooks C_NoCycle C_NoRate C_NoReading C_NoLine 0 0 0 0 0 0 0 0 0 0 0 0 0 0 0 0 0 0 0 0)) := okK_apart_many (P := l.prog) (w := w) (base := base) T F_apart_many (PySem.W.mg_of X G a_apart_many) D_check_cycle D_check_line D_excess D_power
  have D_round_up : ∀ [LamT], Df l.prog w K mg base 1 "round_up" 2 [] (m_round_up (Cs.mk K C_KernelError C_NoWidth C_NoLooks C_NoCycle C_NoRate C_NoReading C_NoLine 0 0 0 0 0 0 0 0 0 0 0 0 0 0 0 0 0 0 0 0)) := ok_round_up (P := l.prog) (w := w) (base := base) T F_round_up (PySem.W.mg_of X G a_round_up)
  have D_turning : ∀ [LamT], Df l.prog w K mg base 2 "turning" 2 [] (m_turning (Cs.mk K C_KernelError C_NoWidth C_NoLooks C_NoCycle C_NoRate C_NoReading C_NoLine 0 0 0 0 0 0 0 0 0 0 0 0 0 0 0 0 0 0 0 0)) := ok_turning (P := l.prog) (w := w) (base := base) T F_turning (PySem.W.mg_of X G a_turning) D_power
  have D_ahead_from : ∀ [LamT], Df l.prog w K mg base 3 "ahead_from" 2 [] (m_ahead_from (Cs.mk K C_KernelError C_NoWidth C_NoLooks C_NoCycle C_NoRate C_NoReading C_NoLine 0 0 0 0 0 0 0 0 0 0 0 0 0 0 0 0 0 0 0 0)) := ok_ahead_from (P := l.prog) (w := w) (base := base) T F_ahead_from (PySem.W.mg_of X G a_ahead_from) D_round_up D_turning
  have DL_first_count : ∀ {k : Nat}, DfL l.prog w K mg base k "first_count" 1 6 (b_first_count (Cs.mk K C_KernelError C_NoWidth C_NoLooks C_NoCycle C_NoRate C_NoReading C_NoLine 0 0 0 0 0 0 0 0 0 0 0 0 0 0 0 0 0 0 0 0)) := ok_first_count (P := l.prog) (w := w) (base := base) T F_first_count (PySem.W.mg_of X G a_first_count)
  have D_first_more : ∀ [LamT], Df l.prog w K mg base 6 "first_more" 4 [] (m_first_more (Cs.mk K C_KernelError C_NoWidth C_NoLooks C_NoCycle C_NoRate C_NoReading C_NoLine 0 0 0 0 0 0 0 0 0 0 0 0 0 0 0 0 0 0 0 0)) := ok_first_more (P := l.prog) (w := w) (base := base) T F_first_more (PySem.W.mg_of X G a_first_more) D_excess DL_first_count D_power D_turning rfl ML_first_more
  have D_first_above : ∀ [LamT], Df l.prog w K mg base 7 "first_above" 2 [] (m_first_above (Cs.mk K C_KernelError C_NoWidth C_NoLooks C_NoCycle C_NoRate C_NoReading C_NoLine 0 0 0 0 0 0 0 0 0 0 0 0 0 0 0 0 0 0 0 0)) := ok_first_above (P := l.prog) (w := w) (base := base) T F_first_above (PySem.W.mg_of X G a_first_above) D_ahead_from D_first_more
  have D_first_ahead : ∀ [LamT], Df l.prog w K mg base 8 "first_ahead" 2 [] (m_first_ahead (Cs.mk K C_KernelError C_NoWidth C_NoLooks C_NoCycle C_NoRate C_NoReading C_NoLine 0 0 0 0 0 0 0 0 0 0 0 0 0 0 0 0 0 0 0 0)) := ok_first_ahead (P := l.prog) (w := w) (base := base) T F_first_ahead (PySem.W.mg_of X G a_first_ahead) D_check_line D_first_above
  have DK_first_ahead : ∀ [LamT], DfK l.prog w K mg base 8 "first_ahead" 2 ["other", "one"] (pick [1, 0]) (m_first_ahead (Cs.mk K C_KernelError C_NoWidth C_NoLooks C_NoCycle C_NoRate C_NoReading C_NoLine 0 0 0 0 0 0 0 0 0 0 0 0 0 0 0 0 0 0 0 0)) := okK_first_ahead (P := l.prog) (w := w) (base := base) T F_first_ahead (PySem.W.mg_of X G a_first_ahead) D_check_line D_first_above
  have D_parting : ∀ [LamT], Df l.prog w K mg base 8 "parting" 2 [] (m_parting (Cs.mk K C_KernelError C_NoWidth C_NoLooks C_NoCycle C_NoRate C_NoReading C_NoLine 0 0 0 0 0 0 0 0 0 0 0 0 0 0 0 0 0 0 0 0)) := ok_parting (P := l.prog) (w := w) (base := base) T F_parting (PySem.W.mg_of X G a_parting) D_first_above
  have D_first_apart : ∀ [LamT], Df l.prog w K mg base 9 "first_apart" 2 [] (m_first_apart (Cs.mk K C_KernelError C_NoWidth C_NoLooks C_NoCycle C_NoRate C_NoReading C_NoLine 0 0 0 0 0 0 0 0 0 0 0 0 0 0 0 0 0 0 0 0)) := ok_first_apart (P := l.prog) (w := w) (base := base) T F_first_apart (PySem.W.mg_of X G a_first_apart) D_check_line D_parting
  have DK_first_apart : ∀ [LamT], DfK l.prog w K mg base 9 "first_apart" 2 ["other", "one"] (pick [1, 0]) (m_first_apart (Cs.mk K C_KernelError C_NoWidth C_NoLooks C_NoCycle C_NoRate C_NoReading C_NoLine 0 0 0 0 0 0 0 0 0 0 0 0 0 0 0 0 0 0 0 0)) := okK_first_apart (P := l.prog) (w := w) (base := base) T F_first_apart (PySem.W.mg_of X G a_first_apart) D_check_line D_parting
  have D_check_reading : ∀ [LamT], Df l.prog w K mg base 2 "check_reading" 1 [] (m_check_reading (Cs.mk K C_KernelError C_NoWidth C_NoLooks C_NoCycle C_NoRate C_NoReading C_NoLine 0 0 0 0 0 0 0 0 0 0 0 0 0 0 0 0 0 0 0 0)) := ok_check_reading (P := l.prog) (w := w) (base := base) T F_check_reading (PySem.W.mg_of X G a_check_reading) D_is_whole
  have D_reached : ∀ [LamT], Df l.prog w K mg base 2 "reached" 2 [] (m_reached (Cs.mk K C_KernelError C_NoWidth C_NoLooks C_NoCycle C_NoRate C_NoReading C_NoLine 0 0 0 0 0 0 0 0 0 0 0 0 0 0 0 0 0 0 0 0)) := ok_reached (P := l.prog) (w := w) (base := base) T F_reached (PySem.W.mg_of X G a_reached) D_round_up
  have D_first_reach : ∀ [LamT], Df l.prog w K mg base 4 "first_reach" 2 [] (m_first_reach (Cs.mk K C_KernelError C_NoWidth C_NoLooks C_NoCycle C_NoRate C_NoReading C_NoLine 0 0 0 0 0 0 0 0 0 0 0 0 0 0 0 0 0 0 0 0)) := ok_first_reach (P := l.prog) (w := w) (base := base) T F_first_reach (PySem.W.mg_of X G a_first_reach) D_check_line D_check_reading D_reached
  have DK_first_reach : ∀ [LamT], DfK l.prog w K mg base 4 "first_reach" 2 ["reading", "line"] (pick [1, 0]) (m_first_reach (Cs.mk K C_KernelError C_NoWidth C_NoLooks C_NoCycle C_NoRate C_NoReading C_NoLine 0 0 0 0 0 0 0 0 0 0 0 0 0 0 0 0 0 0 0 0)) := okK_first_reach (P := l.prog) (w := w) (base := base) T F_first_reach (PySem.W.mg_of X G a_first_reach) D_check_line D_check_reading D_reached
  have D_reads : ∀ [LamT], Df l.prog w K mg base 1 "reads" 2 [] (m_reads (Cs.mk K C_KernelError C_NoWidth C_NoLooks C_NoCycle C_NoRate C_NoReading C_NoLine 0 0 0 0 0 0 0 0 0 0 0 0 0 0 0 0 0 0 0 0)) := ok_reads (P := l.prog) (w := w) (base := base) T F_reads (PySem.W.mg_of X G a_reads)
  have D_line_reading : ∀ [LamT], Df l.prog w K mg base 4 "line_reading" 2 [] (m_line_reading (Cs.mk K C_KernelError C_NoWidth C_NoLooks C_NoCycle C_NoRate C_NoReading C_NoLine 0 0 0 0 0 0 0 0 0 0 0 0 0 0 0 0 0 0 0 0)) := ok_line_reading (P := l.prog) (w := w) (base := base) T F_line_reading (PySem.W.mg_of X G a_line_reading) D_check_cycle D_check_line D_reads
  have DK_line_reading : ∀ [LamT], DfK l.prog w K mg base 4 "line_reading" 2 ["cycle", "line"] (pick [1, 0]) (m_line_reading (Cs.mk K C_KernelError C_NoWidth C_NoLooks C_NoCycle C_NoRate C_NoReading C_NoLine 0 0 0 0 0 0 0 0 0 0 0 0 0 0 0 0 0 0 0 0)) := okK_line_reading (P := l.prog) (w := w) (base := base) T F_line_reading (PySem.W.mg_of X G a_line_reading) D_check_cycle D_check_line D_reads
  have D_shows_run : ∀ [LamT], Df l.prog w K mg base 4 "shows_run" 2 [] (m_shows_run (Cs.mk K C_KernelError C_NoWidth C_NoLooks C_NoCycle C_NoRate C_NoReading C_NoLine 0 0 0 0 0 0 0 0 0 0 0 0 0 0 0 0 0 0 0 0)) := ok_shows_run (P := l.prog) (w := w) (base := base) T F_shows_run (PySem.W.mg_of X G a_shows_run) D_check_line D_check_reading D_reached D_reads
  have DK_shows_run : ∀ [LamT], DfK l.prog w K mg base 4 "shows_run" 2 ["reading", "line"] (pick [1, 0]) (m_shows_run (Cs.mk K C_KernelError C_NoWidth C_NoLooks C_NoCycle C_NoRate C_NoReading C_NoLine 0 0 0 0 0 0 0 0 0 0 0 0 0 0 0 0 0 0 0 0)) := okK_shows_run (P := l.prog) (w := w) (base := base) T F_shows_run (PySem.W.mg_of X G a_shows_run) D_check_line D_check_reading D_reached D_reads
  have D__law_all_refused : ∀ [LamT], Df l.prog w K mg base 12 "_law_all_refused" 1 [] (m_law_all_refused (Cs.mk K C_KernelError C_NoWidth C_NoLooks C_NoCycle C_NoRate C_NoReading C_NoLine 0 0 0 0 0 0 0 0 0 0 0 0 0 0 0 0 0 0 0 0)) := ok__law_all_refused (P := l.prog) (w := w) (base := base) T F_law_all_refused (PySem.W.mg_of X G a_law_all_refused) D__law_line D__law_next D__law_odd D__law_odd_line DW__law_word D_apart_many D_first_ahead D_first_apart D_first_reach D_line_reading D_shows_run rfl ML_law_all_refused
  have D__law_named : ∀ [LamT], Df l.prog w K mg base 10 "_law_named" 1 [] (m_law_named (Cs.mk K C_KernelError C_NoWidth C_NoLooks C_NoCycle C_NoRate C_NoReading C_NoLine 0 0 0 0 0 0 0 0 0 0 0 0 0 0 0 0 0 0 0 0)) := ok__law_named (P := l.prog) (w := w) (base := base) T F_law_named (PySem.W.mg_of X G a_law_named) D__law_line D__law_next D_apart_many D_first_ahead D_first_apart D_first_reach D_line_reading D_shows_run DK_apart_many DK_first_ahead DK_first_apart DK_first_reach DK_line_reading DK_shows_run
  have D__law_cell_at : ∀ [LamT], Df l.prog w K mg base 1 "_law_cell_at" 2 [] (m_law_cell_at (Cs.mk K C_KernelError C_NoWidth C_NoLooks C_NoCycle C_NoRate C_NoReading C_NoLine 0 0 0 0 0 0 0 0 0 0 0 0 0 0 0 0 0 0 0 0)) := ok__law_cell_at (P := l.prog) (w := w) (base := base) T F_law_cell_at (PySem.W.mg_of X G a_law_cell_at)
  have D__law_source : ∀ [LamT], Df l.prog w K mg base 2 "_law_source" 2 [] (m_law_source (Cs.mk K C_KernelError C_NoWidth C_NoLooks C_NoCycle C_NoRate C_NoReading C_NoLine 0 0 0 0 0 0 0 0 0 0 0 0 0 0 0 0 0 0 0 0)) := ok__law_source (P := l.prog) (w := w) (base := base) T F_law_source (PySem.W.mg_of X G a_law_source) D__law_cell_at D__law_mixed
  exact fn_lawT ⟨rfl, rfl, fun _ _ => rfl⟩ (fun p hp => List.mem_map.mpr ⟨p, hp, rfl⟩) (ok_law T F_law D__law_all_refused D__law_named D__law_source) (run_law _ ⟨xm_NoCycle_KernelError, xi_NoCycle_NoCycle, xi_NoCycle_NoLine, xi_NoCycle_NoLooks, xi_NoCycle_NoRate, xi_NoCycle_NoReading, xi_NoCycle_NoWidth, xi_NoCycle_ValueError, xc_NoCycle, xm_NoLine_KernelError, xi_NoLine_NoCycle, xi_NoLine_NoLine, xi_NoLine_NoLooks, xi_NoLine_NoRate, xi_NoLine_NoReading, xi_NoLine_NoWidth, xi_NoLine_ValueError, xc_NoLine, xm_NoReading_KernelError, xi_NoReading_NoCycle, xi_NoReading_NoLine, xi_NoReading_NoLooks, xi_NoReading_NoRate, xi_NoReading_NoReading, xi_NoReading_NoWidth, xi_NoReading_ValueError, xc_NoReading⟩)
end L3
open PySem PySem.W PyProof.Rows
set_option maxHeartbeats 0 in
theorem PySem.Challenge.cw_timekernel_k17_lines_refused_holds : PySem.Challenge.rw_timekernel_k17_lines_refused.Holds := by
  w_on; o_law; k_head; (case hw => w_witness2)
  k_fill
  refine LamX.walk_ofTs (l := PySem.Challenge.rw_timekernel_k17_lines_refused) (n := 63) (k := 13) (x := "script") (CX := fun w => L2.CX PySem.Challenge.pw_timekernel_k17_lines_refused w) rfl (by decide) rfl ⟨rfl, by decide, by decide⟩ (fun w h Y => PySem.W.km_in_of Y) ?F (fun w H s e s' h => L3.cx_none h)
  case F =>
    intro w mg fa h Y KX G hmg
    refine' L3.all_mk KX G hmg ?a_law_mixed ?l_law_mixed ?c_law_mixed ?k_law_mixed ?a_law_next ?l_law_next ?c_law_next ?k_law_next ?a_law_line ?l_law_line ?c_law_line ?k_law_line ?a_law_odd ?l_law_odd ?c_law_odd ?k_law_odd ?a_law_odd_line ?l_law_odd_line ?c_law_odd_line ?k_law_odd_line ?a_law_word ?l_law_word ?c_law_word ?k_law_word ?a_is_whole ?l_is_whole ?c_is_whole ?k_is_whole ?t_is_whole ?u_is_whole ?v_is_whole ?a_check_cycle ?l_check_cycle ?c_check_cycle ?k_check_cycle ?t_check_cycle ?u_check_cycle ?v_check_cycle ?a_is_shift ?l_is_shift ?c_is_shift ?k_is_shift ?a_check_line ?l_check_line ?c_check_line ?k_check_line ?a_power ?l_power ?c_power ?k_power ?a_sum_of_floors ?l_sum_of_floors ?c_sum_of_floors ?k_sum_of_floors ?a_total ?l_total ?c_total ?k_total ?a_excess ?l_excess ?c_excess ?k_excess ?a_apart_many ?l_apart_many ?c_apart_many ?k_apart_many ?a_round_up ?l_round_up ?c_round_up ?k_round_up ?a_turning ?l_turning ?c_turning ?k_turning ?a_ahead_from ?l_ahead_from ?c_ahead_from ?k_ahead_from ?a_first_count ?l_first_count ?c_first_count ?k_first_count ?a_first_more ?l_first_more ?c_first_more ?k_first_more ?a_first_above ?l_first_above ?c_first_above ?k_first_above ?a_first_ahead ?l_first_ahead ?c_first_ahead ?k_first_ahead ?a_parting ?l_parting ?c_parting ?k_parting ?a_first_apart ?l_first_apart ?c_first_apart ?k_first_apart ?a_check_reading ?l_check_reading ?c_check_reading ?k_check_reading ?a_reached ?l_reached ?c_reached ?k_reached ?a_first_reach ?l_first_reach ?c_first_reach ?k_first_reach ?a_reads ?l_reads ?c_reads ?k_reads ?a_line_reading ?l_line_reading ?c_line_reading ?k_line_reading ?a_shows_run ?l_shows_run ?c_shows_run ?k_shows_run ?a_law_all_refused ?l_law_all_refused ?c_law_all_refused ?k_law_all_refused ?a_law_named ?l_law_named ?c_law_named ?k_law_named ?a_law_cell_at ?l_law_cell_at ?c_law_cell_at ?k_law_cell_at ?a_law_source ?l_law_source ?c_law_source ?k_law_source ?a_law ?l_law ?c_law ?k_law ?b_ValueError ?b_abs ?b_all ?b_bool ?b_int ?b_isinstance ?b_len ?b_max ?b_min ?b_range ?b_tuple ?g_MOST_SHIFT ?xa_KernelError ?xq_KernelError ?xk_KernelError ?xb_KernelError ?xt_KernelError ?xa_NoCycle ?xq_NoCycle ?xk_NoCycle ?xb_NoCycle ?xt_NoCycle ?xa_NoLine ?xq_NoLine ?xk_NoLine ?xb_NoLine ?xt_NoLine ?xa_NoLooks ?xq_NoLooks ?xk_NoLooks ?xb_NoLooks ?xt_NoLooks ?xa_NoRate ?xq_NoRate ?xk_NoRate ?xb_NoRate ?xt_NoRate ?xa_NoReading ?xq_NoReading ?xk_NoReading ?xb_NoReading ?xt_NoReading ?xa_NoWidth ?xq_NoWidth ?xk_NoWidth ?xb_NoWidth ?xt_NoWidth ?tt_first_more ?tl_first_more ?th_first_more ?tt_law_all_refused ?tl_law_all_refused ?th_law_all_refused ?xm_NoCycle_KernelError ?xi_NoCycle_NoCycle ?xi_NoCycle_NoLine ?xi_NoCycle_NoLooks ?xi_NoCycle_NoRate ?xi_NoCycle_NoReading ?xi_NoCycle_NoWidth ?xi_NoCycle_ValueError ?xc_NoCycle ?xm_NoLine_KernelError ?xi_NoLine_NoCycle ?xi_NoLine_NoLine ?xi_NoLine_NoLooks ?xi_NoLine_NoRate ?xi_NoLine_NoReading ?xi_NoLine_NoWidth ?xi_NoLine_ValueError ?xc_NoLine ?xm_NoReading_KernelError ?xi_NoReading_NoCycle ?xi_NoReading_NoLine ?xi_NoReading_NoLooks ?xi_NoReading_NoRate ?xi_NoReading_NoReading ?xi_NoReading_NoWidth ?xi_NoReading_ValueError ?xc_NoReading ?tn_first_more_law_all_refused
    (case a_law_mixed => k_is)
    (case l_law_mixed => k_is)
    (case c_law_mixed => k_is)
    (case k_law_mixed => k_is)
    (case a_law_next => k_is)
    (case l_law_next => k_is)
    (case c_law_next => k_is)
    (case k_law_next => k_is)
    (case a_law_line => k_is)
    (case l_law_line => k_is)
    (case c_law_line => k_is)
    (case k_law_line => k_is)
    (case a_law_odd => k_is)
    (case l_law_odd => k_is)
    (case c_law_odd => k_is)
    (case k_law_odd => k_is)
    (case a_law_odd_line => k_is)
    (case l_law_odd_line => k_is)
    (case c_law_odd_line => k_is)
    (case k_law_odd_line => k_is)
    (case a_law_word => k_is)
    (case l_law_word => k_is)
    (case c_law_word => k_is)
    (case k_law_word => k_is)
    (case a_is_whole => k_is)
    (case l_is_whole => k_is)
    (case c_is_whole => k_is)
    (case k_is_whole => k_is)
    (case t_is_whole => k_is)
    (case u_is_whole => first | rfl | k_is)
    (case v_is_whole => exact .cons rfl .nil)
    (case a_check_cycle => k_is)
    (case l_check_cycle => k_is)
    (case c_check_cycle => k_is)
    (case k_check_cycle => k_is)
    (case t_check_cycle => k_is)
    (case u_check_cycle => first | rfl | k_is)
    (case v_check_cycle => exact .cons ⟨_, rfl⟩ .nil)
    (case a_is_shift => k_is)
    (case l_is_shift => k_is)
    (case c_is_shift => k_is)
    (case k_is_shift => k_is)
    (case a_check_line => k_is)
    (case l_check_line => k_is)
    (case c_check_line => k_is)
    (case k_check_line => k_is)
    (case a_power => k_is)
    (case l_power => k_is)
    (case c_power => k_is)
    (case k_power => k_is)
    (case a_sum_of_floors => k_is)
    (case l_sum_of_floors => k_is)
    (case c_sum_of_floors => k_is)
    (case k_sum_of_floors => k_is)
    (case a_total => k_is)
    (case l_total => k_is)
    (case c_total => k_is)
    (case k_total => k_is)
    (case a_excess => k_is)
    (case l_excess => k_is)
    (case c_excess => k_is)
    (case k_excess => k_is)
    (case a_apart_many => k_is)
    (case l_apart_many => k_is)
    (case c_apart_many => k_is)
    (case k_apart_many => k_is)
    (case a_round_up => k_is)
    (case l_round_up => k_is)
    (case c_round_up => k_is)
    (case k_round_up => k_is)
    (case a_turning => k_is)
    (case l_turning => k_is)
    (case c_turning => k_is)
    (case k_turning => k_is)
    (case a_ahead_from => k_is)
    (case l_ahead_from => k_is)
    (case c_ahead_from => k_is)
    (case k_ahead_from => k_is)
    (case a_first_count => k_is)
    (case l_first_count => k_is)
    (case c_first_count => k_is)
    (case k_first_count => k_is)
    (case a_first_more => k_is)
    (case l_first_more => k_is)
    (case c_first_more => k_is)
    (case k_first_more => k_is)
    (case a_first_above => k_is)
    (case l_first_above => k_is)
    (case c_first_above => k_is)
    (case k_first_above => k_is)
    (case a_first_ahead => k_is)
    (case l_first_ahead => k_is)
    (case c_first_ahead => k_is)
    (case k_first_ahead => k_is)
    (case a_parting => k_is)
    (case l_parting => k_is)
    (case c_parting => k_is)
    (case k_parting => k_is)
    (case a_first_apart => k_is)
    (case l_first_apart => k_is)
    (case c_first_apart => k_is)
    (case k_first_apart => k_is)
    (case a_check_reading => k_is)
    (case l_check_reading => k_is)
    (case c_check_reading => k_is)
    (case k_check_reading => k_is)
    (case a_reached => k_is)
    (case l_reached => k_is)
    (case c_reached => k_is)
    (case k_reached => k_is)
    (case a_first_reach => k_is)
    (case l_first_reach => k_is)
    (case c_first_reach => k_is)
    (case k_first_reach => k_is)
    (case a_reads => k_is)
    (case l_reads => k_is)
    (case c_reads => k_is)
    (case k_reads => k_is)
    (case a_line_reading => k_is)
    (case l_line_reading => k_is)
    (case c_line_reading => k_is)
    (case k_line_reading => k_is)
    (case a_shows_run => k_is)
    (case l_shows_run => k_is)
    (case c_shows_run => k_is)
    (case k_shows_run => k_is)
    (case a_law_all_refused => k_is)
    (case l_law_all_refused => k_is)
    (case c_law_all_refused => k_is)
    (case k_law_all_refused => k_is)
    (case a_law_named => k_is)
    (case l_law_named => k_is)
    (case c_law_named => k_is)
    (case k_law_named => k_is)
    (case a_law_cell_at => k_is)
    (case l_law_cell_at => k_is)
    (case c_law_cell_at => k_is)
    (case k_law_cell_at => k_is)
    (case a_law_source => k_is)
    (case l_law_source => k_is)
    (case c_law_source => k_is)
    (case k_law_source => k_is)
    (case a_law => k_is)
    (case l_law => k_is)
    (case c_law => k_is)
    (case k_law => k_is)
    (case b_ValueError => k_is)
    (case b_abs => k_is)
    (case b_all => k_is)
    (case b_bool => k_is)
    (case b_int => k_is)
    (case b_isinstance => k_is)
    (case b_len => k_is)
    (case b_max => k_is)
    (case b_min => k_is)
    (case b_range => k_is)
    (case b_tuple => k_is)
    (case g_MOST_SHIFT => k_is)
    (case xa_KernelError => k_is)
    (case xq_KernelError => k_exc)
    (case xk_KernelError => k_is)
    (case xb_KernelError => k_is)
    (case xt_KernelError => k_is)
    (case xa_NoCycle => k_is)
    (case xq_NoCycle => k_exc)
    (case xk_NoCycle => k_is)
    (case xb_NoCycle => k_is)
    (case xt_NoCycle => k_is)
    (case xa_NoLine => k_is)
    (case xq_NoLine => k_exc)
    (case xk_NoLine => k_is)
    (case xb_NoLine => k_is)
    (case xt_NoLine => k_is)
    (case xa_NoLooks => k_is)
    (case xq_NoLooks => k_exc)
    (case xk_NoLooks => k_is)
    (case xb_NoLooks => k_is)
    (case xt_NoLooks => k_is)
    (case xa_NoRate => k_is)
    (case xq_NoRate => k_exc)
    (case xk_NoRate => k_is)
    (case xb_NoRate => k_is)
    (case xt_NoRate => k_is)
    (case xa_NoReading => k_is)
    (case xq_NoReading => k_exc)
    (case xk_NoReading => k_is)
    (case xb_NoReading => k_is)
    (case xt_NoReading => k_is)
    (case xa_NoWidth => k_is)
    (case xq_NoWidth => k_exc)
    (case xk_NoWidth => k_is)
    (case xb_NoWidth => k_is)
    (case xt_NoWidth => k_is)
    (case tt_first_more => exact PySem.W.km_tabs_of Y _ (List.mem_cons_self))
    (case tl_first_more => first | k_is | kernel_rfl | rfl)
    (case th_first_more => first | k_is | kernel_rfl | rfl)
    (case tt_law_all_refused => exact PySem.W.km_tabs_of Y _ (List.mem_cons_of_mem _ (List.mem_cons_self)))
    (case tl_law_all_refused => first | k_is | kernel_rfl | rfl)
    (case th_law_all_refused => first | k_is | kernel_rfl | rfl)
    (case xm_NoCycle_KernelError => first | k_is | kts_exm)
    (case xi_NoCycle_NoCycle => first | k_is | kit_is)
    (case xi_NoCycle_NoLine => first | k_is | kit_is)
    (case xi_NoCycle_NoLooks => first | k_is | kit_is)
    (case xi_NoCycle_NoRate => first | k_is | kit_is)
    (case xi_NoCycle_NoReading => first | k_is | kit_is)
    (case xi_NoCycle_NoWidth => first | k_is | kit_is)
    (case xi_NoCycle_ValueError => first | k_is | kit_is)
    (case xc_NoCycle => constructor <;> k_is)
    (case xm_NoLine_KernelError => first | k_is | kts_exm)
    (case xi_NoLine_NoCycle => first | k_is | kit_is)
    (case xi_NoLine_NoLine => first | k_is | kit_is)
    (case xi_NoLine_NoLooks => first | k_is | kit_is)
    (case xi_NoLine_NoRate => first | k_is | kit_is)
    (case xi_NoLine_NoReading => first | k_is | kit_is)
    (case xi_NoLine_NoWidth => first | k_is | kit_is)
    (case xi_NoLine_ValueError => first | k_is | kit_is)
    (case xc_NoLine => constructor <;> k_is)
    (case xm_NoReading_KernelError => first | k_is | kts_exm)
    (case xi_NoReading_NoCycle => first | k_is | kit_is)
    (case xi_NoReading_NoLine => first | k_is | kit_is)
    (case xi_NoReading_NoLooks => first | k_is | kit_is)
    (case xi_NoReading_NoRate => first | k_is | kit_is)
    (case xi_NoReading_NoReading => first | k_is | kit_is)
    (case xi_NoReading_NoWidth => first | k_is | kit_is)
    (case xi_NoReading_ValueError => first | k_is | kit_is)
    (case xc_NoReading => constructor <;> k_is)
    (case tn_first_more_law_all_refused => decide)
