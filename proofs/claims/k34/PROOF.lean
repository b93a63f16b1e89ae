import PyProof.Rows.All
import Wide.All
import OpenK.AllK
import Wide.FinOn
import HandS.ForMost
import HandS.ForExc
import HandS.WideBits
import HandS.TryMany
import HandS.ExcIs
import HandS.IsInst
import HandS.EndBits
import HandS.Flow
import HandS.Zip
import HandS.Defaults
import HandS.Lambda
import HandS.EndTab
import HandS.SortRule
import HandS.SortInts
import HandS.Conv
import HandS.Style
import KE.DataCmp
import HandS.Deep
import HandS.Dict
import KE.DataMinMax
import HandS.More
import HandS.DictSubView
import HandS.Iter
import PyProof.SumWalk
import HandS.SetFor
import PyProof.ReprRoads
import PySem.Challenge.RW_timekernel_k34_looks_that_are_enough
set_option Elab.async false
set_option linter.all false
set_option maxRecDepth 100000
set_option maxHeartbeats 4000000
/-! L3: functional mirrors of defs over an own heap (a list of objects), and their walk over the hand layer. -/
namespace L3
open PySem L2

/-- the tables of code objects of the defs that make lambdas; the references that stay while a closure is about -/
class TabT where
  T : List (Addr × Str)
class LamT where
  r0 : List Addr
  cs : List (Addr × Str)
variable [TabT] [LamT]
/-- a value of the mirror: ref n, the n-th object of the mirror's heap; gl a, an object of the heap itself, by its address -/
inductive IV where
  | non | bl (b : Bool) | int (i : Int) | str (x : Str) | ref (n : Nat) | gl (a : Addr) | ty (n : String)
  deriving DecidableEq
def IV.toV : IV → V
  | .non => .non
  | .bl b => .bl b
  | .int i => .int i
  | .str x => .str x
  | .ref _ => .non
  | .gl a => .ref a
  | .ty n => .ty n
/-- an object of the mirror's heap; ro: a list that is only read; rot: a tuple of the written part -/
inductive MO where
  | lst (xs : List IV) | tup (xs : List IV) | ro (xs : List IV) | rot (xs : List IV) | dct | clo | dk (kvs : List (Key × IV))
  deriving DecidableEq
abbrev IH := List MO
abbrev Env := List (Option IV)
inductive Res (α : Type) where
  | ok (a : α) (ih : IH) | exc (c : Addr) (ih : IH) | stuck
inductive Fl where
  | next (env : Env) | brk (env : Env) | cont (env : Env) | ret (v : IV)
inductive RS where
  | ok (f : Fl) (ih : IH) | exc (c : Addr) (env : Env) (ih : IH) | stuck
def Res.bind {α β : Type} (r : Res α) (k : α → IH → Res β) : Res β := match r with
  | .ok a ih => k a ih
  | .exc c ih => .exc c ih
  | .stuck => .stuck
@[simp] theorem Res.bind_ok {α β : Type} (a : α) (ih : IH) (k : α → IH → Res β) : (Res.ok a ih).bind k = k a ih := rfl
@[simp] theorem Res.bind_exc {α β : Type} (c : Addr) (ih : IH) (k : α → IH → Res β) : (Res.exc c ih).bind k = .exc c ih := rfl
@[simp] theorem Res.bind_stuck {α β : Type} (k : α → IH → Res β) : (Res.stuck : Res α).bind k = .stuck := rfl
/-- an expression's result within a statement -/
def Res.stm {α : Type} (r : Res α) (env : Env) (k : α → IH → RS) : RS := match r with
  | .ok a ih => k a ih
  | .exc c ih => .exc c env ih
  | .stuck => .stuck
@[simp] theorem Res.stm_ok {α : Type} (a : α) (ih : IH) (env : Env) (k : α → IH → RS) : (Res.ok a ih).stm env k = k a ih := rfl
@[simp] theorem Res.stm_exc {α : Type} (c : Addr) (ih : IH) (env : Env) (k : α → IH → RS) : (Res.exc c ih : Res α).stm env k = .exc c env ih := rfl
@[simp] theorem Res.stm_stuck {α : Type} (env : Env) (k : α → IH → RS) : (Res.stuck : Res α).stm env k = .stuck := rfl

/-! ### what the mirror's heap says of the heap -/
def R (r : List Addr) (x : IV) (y : V) : Prop := match x with
  | .ref n => ∃ a, r[n]? = some a ∧ y = .ref a
  | z => y = z.toV
def Rs (r : List Addr) : List IV → List V → Prop := Paired (R r)
def RK (r : List Addr) : List (Key × IV) → List (Key × V) → Prop := Paired fun p q => p.1 = q.1 ∧ R r p.2 q.2
def RO (K : PySem.W.Frag) (r : List Addr) (H : Hp) (a : Addr) : MO → Prop
  | .lst xs => ∃ ys, H a = some (.lst ys) ∧ Rs r xs ys
  | .tup xs => ∃ ys, H a = some (.tup ys) ∧ Rs r xs ys
  | .ro xs => ∃ ys, ((∃ o, H a = some (.frz o (.lst ys))) ∨ SqL K (fun _ => none) a ys) ∧ Rs r xs ys
  | .rot xs => ∃ ys, SqT K (fun _ => none) a ys ∧ Rs r xs ys
  | .dct => ∃ kvs, H a = some (.dK kvs)
  | .dk kvs => ∃ ys, H a = some (.dK ys) ∧ RK r kvs ys
  | .clo => True
def still : MO → Bool
  | .lst _ => false
  | .tup _ => false
  | .ro _ => true
  | .rot _ => true
  | .dct => false
  | .dk _ => false
  | .clo => true
structure Rel (K : PySem.W.Frag) (r : List Addr) (ih : IH) (H : Hp) : Prop where
  len : r.length = ih.length
  get : ∀ (n : Nat) (a : Addr) (o : MO), r[n]? = some a → ih[n]? = some o → RO K r H a o
  inj : ∀ (n m : Nat) (a : Addr) (o u : MO), r[n]? = some a → r[m]? = some a → ih[n]? = some o → ih[m]? = some u → still o = false → still u = false → n = m
  tab : LamX.Tabs TabT.T H
  pre : LamT.r0 <+: r
  cod : ∀ p ∈ LamT.cs, H p.1 = some (LamX.CodeO p.1 p.2)
def REnv (r : List Addr) (env : Env) (σ : St) : Prop := env.length = σ.length ∧ ∀ (i : Nat) (v : IV), env[i]? = some (some v) → ∃ u, σ[i]? = some (some u) ∧ R r v u

theorem pre_get {r r' : List Addr} (p : r <+: r') {n : Nat} {a : Addr} (h : r[n]? = some a) : r'[n]? = some a := by
  obtain ⟨t, rfl⟩ := p
  rw [List.getElem?_append_left (List.getElem?_eq_some_iff.mp h).1]
  exact h
theorem R.mono {r r' : List Addr} (p : r <+: r') {x : IV} {y : V} (h : R r x y) : R r' x y := by
  cases x with
  | ref n =>
    obtain ⟨a, h1, h2⟩ := h
    exact ⟨a, pre_get p h1, h2⟩
  | _ => exact h
theorem Rs.mono {r r' : List Addr} (p : r <+: r') {xs : List IV} {ys : List V} (h : Rs r xs ys) : Rs r' xs ys := Paired.mapP h fun _ _ q => q.mono p
theorem RK.mono {r r' : List Addr} (p : r <+: r') {xs : List (Key × IV)} {ys : List (Key × V)} (h : RK r xs ys) : RK r' xs ys := Paired.mapP h fun _ _ q => ⟨q.1, q.2.mono p⟩
theorem REnv.mono {r r' : List Addr} (p : r <+: r') {env : Env} {σ : St} (h : REnv r env σ) : REnv r' env σ :=
  ⟨h.1, fun i v e => let ⟨u, h1, h2⟩ := h.2 i v e; ⟨u, h1, h2.mono p⟩⟩
theorem REnv.set {r : List Addr} {env : Env} {σ : St} (h : REnv r env σ) {x : IV} {y : V} (q : R r x y) (i : Nat) : REnv r (env.set i (some x)) (σ.set i (some y)) := by
  refine ⟨by rw [List.length_set, List.length_set, h.1], fun j v e => ?_⟩
  by_cases hj : i = j
  · subst hj
    by_cases hl : i < env.length
    · rw [List.getElem?_set_self hl] at e
      cases e
      exact ⟨y, List.getElem?_set_self (by rw [← h.1]; exact hl), q⟩
    · rw [List.getElem?_eq_none (by simpa using hl)] at e
      cases e
  · rw [List.getElem?_set_ne hj] at e
    obtain ⟨u, h1, h2⟩ := h.2 j v e
    exact ⟨u, by rw [List.getElem?_set_ne hj]; exact h1, h2⟩
theorem REnv.setN {r : List Addr} {env : Env} {σ : St} (h : REnv r env σ) (i : Nat) : REnv r (env.set i none) (σ.set i none) := by
  refine ⟨by rw [List.length_set, List.length_set, h.1], fun j v e => ?_⟩
  by_cases hj : i = j
  · subst hj
    by_cases hl : i < env.length
    · rw [List.getElem?_set_self hl] at e
      cases e
    · rw [List.getElem?_eq_none (by simpa using hl)] at e
      cases e
  · rw [List.getElem?_set_ne hj] at e
    obtain ⟨u, h1, h2⟩ := h.2 j v e
    exact ⟨u, by rw [List.getElem?_set_ne hj]; exact h1, h2⟩
def wipeI (env : Env) : List Nat → Env
  | [] => env
  | v :: vs => (wipeI env vs).set v none
theorem REnv.wipe {r : List Addr} {env : Env} {σ : St} (h : REnv r env σ) : ∀ vs : List Nat, REnv r (wipeI env vs) (wipe σ vs)
  | [] => h
  | v :: vs => (REnv.wipe h vs).setN v
theorem REnv.setO {r : List Addr} {env : Env} {σ : St} (h : REnv r env σ) (i : Nat) (y : Option V) : REnv r (env.set i none) (σ.set i y) := by
  refine ⟨by rw [List.length_set, List.length_set, h.1], fun j v e => ?_⟩
  by_cases hj : i = j
  · subst hj
    by_cases hl : i < env.length
    · rw [List.getElem?_set_self hl] at e
      cases e
    · rw [List.getElem?_eq_none (by simpa using hl)] at e
      cases e
  · rw [List.getElem?_set_ne hj] at e
    obtain ⟨u, h1, h2⟩ := h.2 j v e
    exact ⟨u, by rw [List.getElem?_set_ne hj]; exact h1, h2⟩

theorem Rs.get {r : List Addr} : ∀ {xs : List IV} {ys : List V} {i : Nat} {x : IV}, Rs r xs ys → xs[i]? = some x → ∃ y, ys[i]? = some y ∧ R r x y
  | _, _, _, _, .nil, e => by simp at e
  | _, _, 0, _, .cons q _, e => by simp at e; subst e; exact ⟨_, rfl, q⟩
  | _, _, i + 1, x, .cons _ t, e => by
    obtain ⟨u, h1, h2⟩ := Rs.get (i := i) (x := x) t (by simpa using e)
    exact ⟨u, by simpa using h1, h2⟩
theorem Rs.length {r : List Addr} {xs : List IV} {ys : List V} (h : Rs r xs ys) : xs.length = ys.length := Paired.length h
theorem Rs.append {r : List Addr} : ∀ {xs ys : List IV} {us ws : List V}, Rs r xs us → Rs r ys ws → Rs r (xs ++ ys) (us ++ ws)
  | _, _, _, _, .nil, s => s
  | _, _, _, _, .cons q t, s => .cons q (Rs.append t s)
theorem Rs.set {r : List Addr} {x : IV} {u : V} (q : R r x u) : ∀ {xs : List IV} {us : List V} (i : Nat), Rs r xs us → Rs r (xs.set i x) (us.set i u)
  | _, _, _, .nil => .nil
  | _, _, 0, .cons _ t => .cons q t
  | _, _, i + 1, .cons q' t => .cons q' (Rs.set q i t)
theorem Rs.take {r : List Addr} : ∀ {xs : List IV} {us : List V} (n : Nat), Rs r xs us → Rs r (xs.take n) (us.take n)
  | _, _, 0, _ => .nil
  | _, _, _ + 1, .nil => .nil
  | _, _, n + 1, .cons q t => .cons q (Rs.take n t)
theorem Rs.drop {r : List Addr} : ∀ {xs : List IV} {us : List V} (n : Nat), Rs r xs us → Rs r (xs.drop n) (us.drop n)
  | _, _, 0, q => q
  | _, _, _ + 1, .nil => .nil
  | _, _, n + 1, .cons _ t => Rs.drop n t

theorem SqL.ofK {K : PySem.W.Frag} {H : Hp} {a : Addr} {ys : List V} (h : SqL K (fun _ => none) a ys) : SqL K H a ys := by
  rcases h with (h | ⟨o, h⟩) | h
  · cases h
  · cases h
  · exact .inr h
theorem SqT.ofK {K : PySem.W.Frag} {H : Hp} {a : Addr} {ys : List V} (h : SqT K (fun _ => none) a ys) : SqT K H a ys := by
  rcases h with (h | ⟨o, h⟩) | h
  · cases h
  · cases h
  · exact .inr h

section
variable {K : PySem.W.Frag} {r r' : List Addr} {ih ih' : IH} {H H' : Hp}
theorem Rel.at (h : Rel K r ih H) {n : Nat} {o : MO} (e : ih[n]? = some o) : ∃ a, r[n]? = some a ∧ RO K r H a o := by
  have hl := (List.getElem?_eq_some_iff.mp e).1
  have hr : n < r.length := by rw [h.len]; exact hl
  exact ⟨r[n], List.getElem?_eq_getElem hr, h.get n _ o (List.getElem?_eq_getElem hr) e⟩
theorem RO.mono (p : r <+: r') {a : Addr} {o : MO} (h : RO K r H a o) : RO K r' H a o := by
  cases o with
  | lst xs => obtain ⟨ys, h1, h2⟩ := h; exact ⟨ys, h1, h2.mono p⟩
  | tup xs => obtain ⟨ys, h1, h2⟩ := h; exact ⟨ys, h1, h2.mono p⟩
  | ro xs => obtain ⟨ys, h1, h2⟩ := h; exact ⟨ys, h1, h2.mono p⟩
  | rot xs => obtain ⟨ys, h1, h2⟩ := h; exact ⟨ys, h1, h2.mono p⟩
  | dct => exact h
  | dk kvs => obtain ⟨ys, h1, h2⟩ := h; exact ⟨ys, h1, h2.mono p⟩
  | clo => trivial
/-- the object's own entry is all that counts -/
theorem RO.heap {a : Addr} {o : MO} (h : RO K r H a o) (e : still o = true ∨ H' a = H a) (e2 : ∀ o' u, H a = some (.frz o' u) → H' a = some (.frz o' u)) : RO K r H' a o := by
  cases o with
  | lst xs =>
    obtain ⟨ys, h1, h2⟩ := h
    rcases e with e | e
    · cases e
    · exact ⟨ys, by rw [e]; exact h1, h2⟩
  | tup xs =>
    obtain ⟨ys, h1, h2⟩ := h
    rcases e with e | e
    · cases e
    · exact ⟨ys, by rw [e]; exact h1, h2⟩
  | ro xs =>
    obtain ⟨ys, h1, h2⟩ := h
    rcases h1 with ⟨o', h1⟩ | h1
    · exact ⟨ys, .inl ⟨o', e2 _ _ h1⟩, h2⟩
    · exact ⟨ys, .inr h1, h2⟩
  | rot xs => obtain ⟨ys, h1, h2⟩ := h; exact ⟨ys, h1, h2⟩
  | dct =>
    obtain ⟨kvs, h1⟩ := h
    rcases e with e | e
    · cases e
    · exact ⟨kvs, by rw [e]; exact h1⟩
  | dk kvs =>
    obtain ⟨ys, h1, h2⟩ := h
    rcases e with e | e
    · cases e
    · exact ⟨ys, by rw [e]; exact h1, h2⟩
  | clo => trivial
/-- a new object -/
theorem Rel.new (h : Rel K r ih H) {p : Addr} (hp : H p = none) {o : MO} {u : HO} (hs : still o = false) (ho : ∀ H', H' p = some u → RO K r H' p o) : Rel K (r ++ [p]) (ih ++ [o]) (upd H p u) := by
  have pre : r <+: r ++ [p] := ⟨[p], rfl⟩
  have off : ∀ {n : Nat} {b : Addr}, (r ++ [p])[n]? = some b → r[n]? = some b ∨ (n = r.length ∧ b = p) := fun {n b} e => by
    by_cases hn : n < r.length
    · rw [List.getElem?_append_left hn] at e
      exact .inl e
    · rw [List.getElem?_append_right (by omega)] at e
      have hz : n - r.length = 0 := by
        by_cases hz : n - r.length = 0
        · exact hz
        · rw [List.getElem?_eq_none (by simp; omega)] at e
          cases e
      rw [hz] at e
      cases e
      exact .inr ⟨by omega, rfl⟩
  have ofi : ∀ {n : Nat} {x : MO}, n < r.length → (ih ++ [o])[n]? = some x → ih[n]? = some x := fun {n x} hn e => by
    rw [List.getElem?_append_left (by rw [← h.len]; exact hn)] at e
    exact e
  refine ⟨by rw [List.length_append, List.length_append, h.len]; rfl, fun n a x e1 e2 => ?_, fun n m a x y e1 e2 e3 e4 s1 s2 => ?_, h.tab.ext fun b o e => (upd_ne (ne_of_none e hp)).trans e, h.pre.trans pre, fun q hq => (upd_ne (ne_of_none (h.cod q hq) hp)).trans (h.cod q hq)⟩
  · rcases off e1 with e | ⟨e, rfl⟩
    · have hn := (List.getElem?_eq_some_iff.mp e).1
      have q := h.get n a x e (ofi hn e2)
      by_cases ha : a = p
      · subst ha
        refine (q.heap (H' := upd H a u) ?_ fun o' u' z => by rw [hp] at z; cases z).mono pre
        cases x with
        | lst xs => obtain ⟨ys, z, _⟩ := q; rw [hp] at z; cases z
        | tup xs => obtain ⟨ys, z, _⟩ := q; rw [hp] at z; cases z
        | ro xs => exact .inl rfl
        | rot xs => exact .inl rfl
        | clo => exact .inl rfl
        | dct => obtain ⟨kvs, z⟩ := q; rw [hp] at z; cases z
        | dk kvs => obtain ⟨ys, z, _⟩ := q; rw [hp] at z; cases z
      · exact (q.heap (H' := upd H p u) (.inr (upd_ne ha)) fun o' u' z => by rw [upd_ne ha]; exact z).mono pre
    · subst e
      rw [h.len, List.getElem?_append_right (Nat.le_refl _), Nat.sub_self] at e2
      cases e2
      exact (ho _ upd_same).mono pre
  · have low : ∀ {n : Nat} {x : MO}, r[n]? = some p → (ih ++ [o])[n]? = some x → still x = false → False := fun {n x} z1 z2 z3 => by
      have hn := (List.getElem?_eq_some_iff.mp z1).1
      have q := h.get n p x z1 (ofi hn z2)
      cases x with
      | lst xs => obtain ⟨ys, z, _⟩ := q; rw [hp] at z; cases z
      | tup xs => obtain ⟨ys, z, _⟩ := q; rw [hp] at z; cases z
      | ro xs => cases z3
      | rot xs => cases z3
      | clo => cases z3
      | dct => obtain ⟨kvs, z⟩ := q; rw [hp] at z; cases z
      | dk kvs => obtain ⟨ys, z, _⟩ := q; rw [hp] at z; cases z
    rcases off e1 with z1 | ⟨z1, rfl⟩
    · rcases off e2 with z2 | ⟨z2, rfl⟩
      · exact h.inj n m a x y z1 z2 (ofi (List.getElem?_eq_some_iff.mp z1).1 e3) (ofi (List.getElem?_eq_some_iff.mp z2).1 e4) s1 s2
      · exact (low z1 e3 s1).elim
    · rcases off e2 with z2 | ⟨z2, _⟩
      · exact (low z2 e4 s2).elim
      · rw [z1, z2]
/-- a list is written -/
theorem Rel.write (h : Rel K r ih H) {n : Nat} {a : Addr} {xs xs' : List IV} {ys : List V} (e1 : r[n]? = some a) (e2 : ih[n]? = some (.lst xs)) (q : Rs r xs' ys) :
    Rel K r (ih.set n (.lst xs')) (upd H a (.lst ys)) := by
  have hn := (List.getElem?_eq_some_iff.mp e2).1
  obtain ⟨zs, hz, _⟩ := h.get n a _ e1 e2
  refine ⟨by rw [List.length_set]; exact h.len, fun m b x g1 g2 => ?_, fun m l b x y g1 g2 g3 g4 s1 s2 => ?_, fun p hp => ?_, h.pre, fun p hp => (upd_ne (ne_of (h.cod p hp) hz fun z => by unfold LamX.CodeO at z; cases z)).trans (h.cod p hp)⟩
  rotate_right
  · obtain ⟨ps, t1, t2, t3⟩ := h.tab p hp
    have ne : ∀ {b : Addr} {u : HO}, H b = some u → u ≠ .lst zs → upd H a (.lst ys) b = some u := fun {b u} e hu => (upd_ne (ne_of e hz hu)).trans e
    refine ⟨ps, ne t1 (fun z => nomatch z), t2, fun pos cv hc => ?_⟩
    obtain ⟨c, e, ec⟩ := t3 pos cv hc
    exact ⟨c, e, ne ec fun z => by unfold LamX.CodeO at z; cases z⟩
  · by_cases hm : n = m
    · subst hm
      rw [List.getElem?_set_self hn] at g2
      cases g2
      rw [e1] at g1
      cases g1
      exact ⟨ys, upd_same, q⟩
    · rw [List.getElem?_set_ne hm] at g2
      have w := h.get m b x g1 g2
      by_cases hb : b = a
      · subst hb
        refine w.heap ?_ fun o' u' z => by rw [hz] at z; cases z
        cases hs : still x with
        | true => exact .inl rfl
        | false => exact absurd (h.inj n m b _ _ e1 g1 e2 g2 rfl hs) hm
      · exact w.heap (.inr (upd_ne hb)) fun o' u' z => by rw [upd_ne hb]; exact z
  · have back : ∀ {m : Nat} {x : MO}, (ih.set n (.lst xs'))[m]? = some x → still x = false → ∃ x', ih[m]? = some x' ∧ still x' = false := fun {m x} g s => by
      by_cases hm : n = m
      · subst hm
        exact ⟨_, e2, rfl⟩
      · rw [List.getElem?_set_ne hm] at g
        exact ⟨x, g, s⟩
    obtain ⟨x', z1, z2⟩ := back g3 s1
    obtain ⟨y', z3, z4⟩ := back g4 s2
    exact h.inj m l b _ _ g1 g2 z1 z3 z2 z4
/-- a dict is written -/
theorem Rel.writeD (h : Rel K r ih H) {n : Nat} {a : Addr} {xs xs' : List (Key × IV)} {ys : List (Key × V)} (e1 : r[n]? = some a) (e2 : ih[n]? = some (.dk xs)) (q : RK r xs' ys) :
    Rel K r (ih.set n (.dk xs')) (upd H a (.dK ys)) := by
  have hn := (List.getElem?_eq_some_iff.mp e2).1
  obtain ⟨zs, hz, _⟩ := h.get n a _ e1 e2
  refine ⟨by rw [List.length_set]; exact h.len, fun m b x g1 g2 => ?_, fun m l b x y g1 g2 g3 g4 s1 s2 => ?_, fun p hp => ?_, h.pre, fun p hp => (upd_ne (ne_of (h.cod p hp) hz fun z => by unfold LamX.CodeO at z; cases z)).trans (h.cod p hp)⟩
  rotate_right
  · obtain ⟨ps, t1, t2, t3⟩ := h.tab p hp
    have ne : ∀ {b : Addr} {u : HO}, H b = some u → u ≠ .dK zs → upd H a (.dK ys) b = some u := fun {b u} e hu => (upd_ne (ne_of e hz hu)).trans e
    refine ⟨ps, ne t1 (fun z => nomatch z), t2, fun pos cv hc => ?_⟩
    obtain ⟨c, e, ec⟩ := t3 pos cv hc
    exact ⟨c, e, ne ec fun z => by unfold LamX.CodeO at z; cases z⟩
  · by_cases hm : n = m
    · subst hm
      rw [List.getElem?_set_self hn] at g2
      cases g2
      rw [e1] at g1
      cases g1
      exact ⟨ys, upd_same, q⟩
    · rw [List.getElem?_set_ne hm] at g2
      have w := h.get m b x g1 g2
      by_cases hb : b = a
      · subst hb
        refine w.heap ?_ fun o' u' z => by rw [hz] at z; cases z
        cases hs : still x with
        | true => exact .inl rfl
        | false => exact absurd (h.inj n m b _ _ e1 g1 e2 g2 rfl hs) hm
      · exact w.heap (.inr (upd_ne hb)) fun o' u' z => by rw [upd_ne hb]; exact z
  · have back : ∀ {m : Nat} {x : MO}, (ih.set n (.dk xs'))[m]? = some x → still x = false → ∃ x', ih[m]? = some x' ∧ still x' = false := fun {m x} g s => by
      by_cases hm : n = m
      · subst hm
        exact ⟨_, e2, rfl⟩
      · rw [List.getElem?_set_ne hm] at g
        exact ⟨x, g, s⟩
    obtain ⟨x', z1, z2⟩ := back g3 s1
    obtain ⟨y', z3, z4⟩ := back g4 s2
    exact h.inj m l b _ _ g1 g2 z1 z3 z2 z4
end
end L3
/-! L3b: mirrors as readings; expressions. -/
namespace L3
variable [TabT] [LamT]
open PySem L2

/-! ### readings made of mirrors -/
/-- what is wanted of an expression's result -/
def PGen {α β : Type} (rel : List Addr → α → β → Prop) (K : PySem.W.Frag) (W : WX) (σ : St) (r : List Addr) (res : Res α) (Q : β → Hp → Prop) : Prop := match res with
  | .ok v ih => ∀ r' H u, r <+: r' → Rel K r' ih H → rel r' v u → Q u H
  | .exc c ih => ∀ r' H, r <+: r' → Rel K r' ih H → W (.ref c) none σ H
  | .stuck => False
def tG {α β : Type} (rel : List Addr → α → β → Prop) (K : PySem.W.Frag) (W : WX) (m : Env → IH → Res α) : St → Hp → (β → Hp → Prop) → Prop := fun σ H Q =>
  ∃ r ih env, Rel K r ih H ∧ REnv r env σ ∧ PGen rel K W σ r (m env ih) Q
abbrev Bq (_ : List Addr) (a b : Bool) : Prop := b = a
/-- an optional int of a slice -/
abbrev Oq (_ : List Addr) (a b : Option Int) : Prop := b = a
abbrev tM (K : PySem.W.Frag) (W : WX) (m : Env → IH → Res IV) : TE := tG R K W m
abbrev tMT (K : PySem.W.Frag) (W : WX) (m : Env → IH → Res Bool) : TT := tG Bq K W m
abbrev tMA (K : PySem.W.Frag) (W : WX) (m : Env → IH → Res (List IV)) : TA := tG Rs K W m
def PStm (K : PySem.W.Frag) (W : WX) (r : List Addr) (res : RS) (D : Ends) : Prop := match res with
  | .ok (.next env) ih => ∀ r' H σ, r <+: r' → Rel K r' ih H → REnv r' env σ → D.nx σ H
  | .ok (.brk env) ih => ∀ r' H σ, r <+: r' → Rel K r' ih H → REnv r' env σ → D.bk σ H
  | .ok (.cont env) ih => ∀ r' H σ, r <+: r' → Rel K r' ih H → REnv r' env σ → D.ct σ H
  | .ok (.ret v) ih => ∀ r' H u, r <+: r' → Rel K r' ih H → R r' v u → D.rt u H
  | .exc c env ih => ∀ r' H σ, r <+: r' → Rel K r' ih H → REnv r' env σ → W (.ref c) none σ H
  | .stuck => False
def tMS (K : PySem.W.Frag) (W : WX) (m : Env → IH → RS) : TS := fun D σ H => ∃ r ih env, Rel K r ih H ∧ REnv r env σ ∧ PStm K W r (m env ih) D

theorem pre_refl (r : List Addr) : r <+: r := ⟨[], List.append_nil r⟩
theorem pre_trans {a b c : List Addr} (h : a <+: b) (k : b <+: c) : a <+: c := by
  obtain ⟨x, rfl⟩ := h
  obtain ⟨y, rfl⟩ := k
  exact ⟨x ++ y, (List.append_assoc _ _ _).symm⟩
section
variable {K : PySem.W.Frag} {W : WX} {σ : St} {H : Hp} {r r' : List Addr} {ih ih' : IH} {env : Env}
theorem PGen.mono {α β : Type} {rel : List Addr → α → β → Prop} {res : Res α} {Q : β → Hp → Prop} (p : r <+: r') (h : PGen rel K W σ r res Q) : PGen rel K W σ r' res Q := by
  cases res with
  | ok v ih => exact fun r2 H u p2 a b => h r2 H u (pre_trans p p2) a b
  | exc c ih => exact fun r2 H p2 a => h r2 H (pre_trans p p2) a
  | stuck => exact h
theorem PStm.mono {res : RS} {D : Ends} (p : r <+: r') (h : PStm K W r res D) : PStm K W r' res D := by
  cases res with
  | ok f ih =>
    cases f with
    | next e => exact fun r2 H u p2 a b => h r2 H u (pre_trans p p2) a b
    | brk e => exact fun r2 H u p2 a b => h r2 H u (pre_trans p p2) a b
    | cont e => exact fun r2 H u p2 a b => h r2 H u (pre_trans p p2) a b
    | ret e => exact fun r2 H u p2 a b => h r2 H u (pre_trans p p2) a b
  | exc c e ih => exact fun r2 H u p2 a b => h r2 H u (pre_trans p p2) a b
  | stuck => exact h
/-- what is known behind a part -/
def Got {α β : Type} (rel : List Addr → α → β → Prop) (K : PySem.W.Frag) (r : List Addr) (P : List Addr → IH → α → Prop) (u : β) (H : Hp) : Prop := ∃ r1 ih1 v, r <+: r1 ∧ Rel K r1 ih1 H ∧ rel r1 v u ∧ P r1 ih1 v
/-- the first part of a bind -/
theorem tG_bind {α β γ δ : Type} {rel1 : List Addr → α → β → Prop} {rel2 : List Addr → γ → δ → Prop} {m : Env → IH → Res α} {k : α → IH → Res γ} {Q : δ → Hp → Prop} (hr : Rel K r ih H) (he : REnv r env σ)
    (h : PGen rel2 K W σ r ((m env ih).bind k) Q) : tG rel1 K W m σ H (Got rel1 K r fun r1 ih1 v => PGen rel2 K W σ r1 (k v ih1) Q) := by
  refine ⟨r, ih, env, hr, he, ?_⟩
  cases e : m env ih with
  | ok v ih1 =>
    rw [e] at h
    exact fun r1 H1 u p a b => ⟨r1, ih1, v, p, a, b, PGen.mono p h⟩
  | exc c ih1 =>
    rw [e] at h
    exact fun r1 H1 p a => h r1 H1 p a
  | stuck =>
    rw [e] at h
    exact h
theorem tG_stm {α β : Type} {rel1 : List Addr → α → β → Prop} {m : Env → IH → Res α} {k : α → IH → RS} {D : Ends} (hr : Rel K r ih H) (he : REnv r env σ)
    (h : PStm K W r ((m env ih).stm env k) D) : tG rel1 K W m σ H (Got rel1 K r fun r1 ih1 v => PStm K W r1 (k v ih1) D) := by
  refine ⟨r, ih, env, hr, he, ?_⟩
  cases e : m env ih with
  | ok v ih1 =>
    rw [e] at h
    exact fun r1 H1 u p a b => ⟨r1, ih1, v, p, a, b, PStm.mono p h⟩
  | exc c ih1 =>
    rw [e] at h
    exact fun r1 H1 p a => h r1 H1 σ p a (he.mono p)
  | stuck =>
    rw [e] at h
    exact h
theorem tG_end {α β : Type} {rel : List Addr → α → β → Prop} {v : α} {u : β} {Q : β → Hp → Prop} (h : PGen rel K W σ r (.ok v ih) Q) (hr : Rel K r ih H) (q : rel r v u) : Q u H := h r H u (pre_refl r) hr q
end
theorem tG.imp {α β : Type} {rel : List Addr → α → β → Prop} {K : PySem.W.Frag} {W : WX} {m : Env → IH → Res α} {σ : St} {H : Hp} {Q Q' : β → Hp → Prop} (h : tG rel K W m σ H Q) (w : ∀ u H', Q u H' → Q' u H') : tG rel K W m σ H Q' := by
  obtain ⟨r, ih, env, h1, h2, h3⟩ := h
  refine ⟨r, ih, env, h1, h2, ?_⟩
  cases e : m env ih with
  | ok v ih1 => rw [e] at h3; exact fun r' H' u p a b => w _ _ (h3 r' H' u p a b)
  | exc c ih1 => rw [e] at h3; exact h3
  | stuck => rw [e] at h3; exact h3
/-- a reading, weaker -/
theorem PE.of {X : Cx} {e : Expr} {t t' : TE} (h : PE X e t) (w : ∀ σ H Q, t' σ H Q → t σ H Q) : PE X e t' := ⟨fun pins s σ H Q I q => h.run pins s σ H Q I (w σ H Q q)⟩
theorem PT.of {X : Cx} {e : Expr} {t t' : TT} (h : PT X e t) (w : ∀ σ H Q, t' σ H Q → t σ H Q) : PT X e t' := ⟨fun pins s σ H Q I q => h.run pins s σ H Q I (w σ H Q q)⟩
theorem PW.of {X : Cx} {e : Expr} {t t' : TT} (h : PW X e t) (w : ∀ σ H Q, t' σ H Q → t σ H Q) : PW X e t' := ⟨fun wh pins s σ H Q I q => h.run wh pins s σ H Q I (w σ H Q q)⟩
theorem PA.of {X : Cx} {e : List Expr} {t t' : TA} (h : PA X e t) (w : ∀ σ H Q, t' σ H Q → t σ H Q) : PA X e t' := ⟨fun pos pins s σ H Q I q => h.run pos pins s σ H Q I (w σ H Q q)⟩
theorem PS.of {X : Cx} {e : Stmt} {t t' : TS} (h : PS X e t) (w : ∀ D σ H, t' D σ H → t D σ H) : PS X e t' := ⟨fun pins s σ H D I q => h.run pins s σ H D I (w D σ H q)⟩
theorem PSs.of {X : Cx} {e : List Stmt} {t t' : TS} (h : PSs X e t) (w : ∀ D σ H, t' D σ H → t D σ H) : PSs X e t' := ⟨fun pins s σ H D I q => h.run pins s σ H D I (w D σ H q)⟩

/-! ### mirrors of expressions -/
def m_var (i : Nat) (env : Env) (ih : IH) : Res IV := match env[i]? with
  | some (some v) => .ok v ih
  | _ => .stuck
def m_c (v : IV) (_ : Env) (ih : IH) : Res IV := .ok v ih
def m_op (f : IV → IV → IH → Res IV) (ma mb : Env → IH → Res IV) (env : Env) (ih : IH) : Res IV := (ma env ih).bind fun x ih1 => (mb env ih1).bind fun y ih2 => f x y ih2
def m_un (f : IV → IH → Res IV) (ma : Env → IH → Res IV) (env : Env) (ih : IH) : Res IV := (ma env ih).bind f
def m_nil (_ : Env) (ih : IH) : Res (List IV) := .ok [] ih
def m_cons (ma : Env → IH → Res IV) (mr : Env → IH → Res (List IV)) (env : Env) (ih : IH) : Res (List IV) := (ma env ih).bind fun x ih1 => (mr env ih1).bind fun xs ih2 => .ok (x :: xs) ih2
def m_if (mt : Env → IH → Res Bool) (ma mb : Env → IH → Res IV) (env : Env) (ih : IH) : Res IV := (mt env ih).bind fun b ih1 => if b = true then ma env ih1 else mb env ih1
def m_and (ma mb : Env → IH → Res Bool) (env : Env) (ih : IH) : Res Bool := (ma env ih).bind fun b ih1 => if b = true then mb env ih1 else .ok false ih1
def m_or (ma mb : Env → IH → Res Bool) (env : Env) (ih : IH) : Res Bool := (ma env ih).bind fun b ih1 => if b = true then .ok true ih1 else mb env ih1
def m_not (ma : Env → IH → Res Bool) (env : Env) (ih : IH) : Res Bool := (ma env ih).bind fun b ih1 => .ok (!b) ih1
def m_tb (ma : Env → IH → Res IV) (env : Env) (ih : IH) : Res Bool := (ma env ih).bind fun v ih1 => match v with
  | .bl b => .ok b ih1
  | _ => .stuck
def m_andV (ma mb : Env → IH → Res IV) (env : Env) (ih : IH) : Res IV := (ma env ih).bind fun v ih1 => match v with
  | .bl b => if b = true then mb env ih1 else .ok (.bl false) ih1
  | _ => .stuck
def m_orV (ma mb : Env → IH → Res IV) (env : Env) (ih : IH) : Res IV := (ma env ih).bind fun v ih1 => match v with
  | .bl b => if b = true then .ok (.bl true) ih1 else mb env ih1
  | _ => .stuck
def m_notV (ma : Env → IH → Res IV) (env : Env) (ih : IH) : Res IV := (ma env ih).bind fun v ih1 => match v with
  | .bl b => .ok (.bl (!b)) ih1
  | _ => .stuck
/-- a call of values -/
def m_app (f : List IV → IH → Res IV) (ma : Env → IH → Res (List IV)) (env : Env) (ih : IH) : Res IV := (ma env ih).bind f

/-- a two-place rule follows its mirror -/
def Snd2 (K : PySem.W.Frag) (W : WX) (rr : R2) (f : IV → IV → IH → Res IV) : Prop := ∀ (r : List Addr) (ih : IH) (H : Hp) (x y : IV) (u w : V) (σ : St) (Q : VK), Rel K r ih H → R r x u → R r y w → PGen R K W σ r (f x y ih) Q → rr u w H Q
def Snd1 (K : PySem.W.Frag) (W : WX) (rr : V → Hp → VK → Prop) (f : IV → IH → Res IV) : Prop := ∀ (r : List Addr) (ih : IH) (H : Hp) (x : IV) (u : V) (σ : St) (Q : VK), Rel K r ih H → R r x u → PGen R K W σ r (f x ih) Q → rr u H Q
def SndC (K : PySem.W.Frag) (W : WX) (rr : List V → Hp → VK → Prop) (f : List IV → IH → Res IV) : Prop := ∀ (r : List Addr) (ih : IH) (H : Hp) (xs : List IV) (us : List V) (σ : St) (Q : VK), Rel K r ih H → Rs r xs us → PGen R K W σ r (f xs ih) Q → rr us H Q

section
variable {X : Cx} {W : WX} {a b c : Expr} {ma mb mc : Env → IH → Res IV} {na nb : Env → IH → Res Bool} {pos : Pos}
theorem lm_var (i : Nat) {x : Str} (hN : X.N[i]? = some x := by rfl) (hv : Vis X.env.scope x := by first | exact Or.inl rfl | exact Or.inr (Or.inl rfl) | exact Or.inr (Or.inr rfl)) (hd : (x == ("__debug__" : Str)) = false := by decide)
    (hcd : (x == ("__classdict__" : Str)) = false := by decide) : PE X (.Name x pos) (tM X.K W (m_var i)) :=
  PE.of (pe_var hN hv hd hcd) fun σ H Q ⟨r, ih, env, hr, he, q⟩ => by
    unfold m_var at q
    split at q
    · rename_i v e
      obtain ⟨u, h1, h2⟩ := he.2 i v e
      exact ⟨u, h1, tG_end q hr h2⟩
    · exact q.elim
theorem lm_c {e : Expr} {w : V} (v : IV) (h : PE X e (tC w)) (hv : ∀ r, R r v w := by intro _; rfl) : PE X e (tM X.K W (m_c v)) :=
  PE.of h fun σ H Q ⟨r, ih, env, hr, he, q⟩ => tG_end q hr (hv r)
theorem lm_op {op : Operator} {rr : R2} {f : IV → IV → IH → Res IV} (ho : OpR X (binaryOp op) rr) (hf : Snd2 X.K W rr f) (ha : PE X a (tM X.K W ma)) (hb : PE X b (tM X.K W mb)) : PE X (.BinOp a op b pos) (tM X.K W (m_op f ma mb)) :=
  PE.of (pe_op ho ha hb) fun σ H Q ⟨r, ih, env, hr, he, q⟩ => tG.imp (tG_bind hr he q) fun u H1 ⟨r1, ih1, v, p, hr1, hv, q1⟩ =>
    tG.imp (tG_bind hr1 (he.mono p) q1) fun w H2 ⟨r2, ih2, y, p2, hr2, hy, q2⟩ => hf _ _ _ _ _ _ _ _ _ hr2 (hv.mono p2) hy q2
theorem lm_un {op : UnaryOp} {rr : V → Hp → VK → Prop} {f : IV → IH → Res IV} (ho : UnR X (unaryOp op) rr) (hf : Snd1 X.K W rr f) (ha : PE X a (tM X.K W ma)) : PE X (.UnaryOp op a pos) (tM X.K W (m_un f ma)) :=
  PE.of (pe_un ho ha) fun σ H Q ⟨r, ih, env, hr, he, q⟩ => tG.imp (tG_bind hr he q) fun u H1 ⟨r1, ih1, v, p, hr1, hv, q1⟩ => hf _ _ _ _ _ _ _ hr1 hv q1
theorem lm_ix {rr : R2} {f : IV → IV → IH → Res IV} (ho : IxR X rr) (hf : Snd2 X.K W rr f) (ha : PE X a (tM X.K W ma)) (hb : PE X b (tM X.K W mb)) (hs : PlainIx b := by exact fun _ _ => rfl) : PE X (.Subscript a b pos) (tM X.K W (m_op f ma mb)) :=
  PE.of (pe_ix ho ha hb hs) fun σ H Q ⟨r, ih, env, hr, he, q⟩ => tG.imp (tG_bind hr he q) fun u H1 ⟨r1, ih1, v, p, hr1, hv, q1⟩ =>
    tG.imp (tG_bind hr1 (he.mono p) q1) fun w H2 ⟨r2, ih2, y, p2, hr2, hy, q2⟩ => hf _ _ _ _ _ _ _ _ _ hr2 (hv.mono p2) hy q2
theorem lm_cmp {op : CmpOp} {rr : R2} {f : IV → IV → IH → Res IV} (ho : OpR X (compareOp op) rr) (hf : Snd2 X.K W rr f) (ha : PE X a (tM X.K W ma)) (hb : PE X b (tM X.K W mb)) (hm : behindInMarks op b = false := by first | exact nomark _ | rfl) : PE X (.Compare a [op] [b] pos) (tM X.K W (m_op f ma mb)) :=
  PE.of (pe_cmpR ho ha hb hm) fun σ H Q ⟨r, ih, env, hr, he, q⟩ => tG.imp (tG_bind hr he q) fun u H1 ⟨r1, ih1, v, p, hr1, hv, q1⟩ =>
    tG.imp (tG_bind hr1 (he.mono p) q1) fun w H2 ⟨r2, ih2, y, p2, hr2, hy, q2⟩ => hf _ _ _ _ _ _ _ _ _ hr2 (hv.mono p2) hy q2
/-- a value's truth that is a bool -/
theorem tb_core {m : Env → IH → Res IV} {σ : St} {H : Hp} {Q : Bool → Hp → Prop} (h : tMT X.K W (m_tb m) σ H Q) : tM X.K W m σ H fun x H1 => ∃ k, x = .bl k ∧ Q k H1 := by
  obtain ⟨r, ih, env, hr, he, q⟩ := h
  refine tG.imp (tG_bind hr he q) fun u H1 ⟨r1, ih1, v, p, hr1, hv, q1⟩ => ?_
  cases v with
  | bl b =>
    obtain rfl : u = .bl b := hv
    exact ⟨b, rfl, tG_end q1 hr1 rfl⟩
  | _ => exact q1.elim
/-- a test that is a comparison -/
theorem lt_cmp {op : CmpOp} {rr : R2} {f : IV → IV → IH → Res IV} (ho : OpR X (compareOp op) rr) (hf : Snd2 X.K W rr f) (ha : PE X a (tM X.K W ma)) (hb : PE X b (tM X.K W mb)) (hm : behindInMarks op b = false := by first | exact nomark _ | rfl) : PT X (.Compare a [op] [b] pos) (tMT X.K W (m_tb (m_op f ma mb))) :=
  PT.of (pt_cmpR ho ha hb hm) fun σ H Q h => by
    obtain ⟨r, ih, env, hr, he, q⟩ := tb_core h
    exact tG.imp (tG_bind hr he q) fun u H1 ⟨r1, ih1, v, p, hr1, hv, q1⟩ =>
      tG.imp (tG_bind hr1 (he.mono p) q1) fun w H2 ⟨r2, ih2, y, p2, hr2, hy, q2⟩ => hf _ _ _ _ _ _ _ _ _ hr2 (hv.mono p2) hy q2
/-- any expression that gives a bool, as a test -/
theorem lt_val {e : Expr} {m : Env → IH → Res IV} (h : PE X e (tM X.K W m)) (he : ∀ whole, isTrue e X.env whole = (do let v ← whole; standAt e.pos; holding [v] (truthy v)) := by intro _; rfl) : PT X e (tMT X.K W (m_tb m)) :=
  PT.of (pt_val h he) fun σ H Q h => tb_core h
theorem lt_not (h : PT X a (tMT X.K W na)) : PT X (.UnaryOp .Not a pos) (tMT X.K W (m_not na)) :=
  PT.of (pt_not h) fun σ H Q ⟨r, ih, env, hr, he, q⟩ => tG.imp (tG_bind hr he q) fun u H1 ⟨r1, ih1, v, p, hr1, hv, q1⟩ => tG_end q1 hr1 (by rw [show u = v from hv])
theorem lw_and1 (h : PT X a (tMT X.K W na)) : PW X (.BoolOp .And [a] pos) (tMT X.K W na) := pw_and1 h
theorem lw_or1 (h : PT X a (tMT X.K W na)) : PW X (.BoolOp .Or [a] pos) (tMT X.K W na) := pw_or1 h
theorem lw_and {rest : List Expr} (ha : PT X a (tMT X.K W na)) (hb : PW X (.BoolOp .And (b :: rest) pos) (tMT X.K W nb)) : PW X (.BoolOp .And (a :: b :: rest) pos) (tMT X.K W (m_and na nb)) :=
  PW.of (pw_and ha hb) fun σ H Q ⟨r, ih, env, hr, he, q⟩ => tG.imp (tG_bind hr he q) fun u H1 ⟨r1, ih1, v, p, hr1, hv, q1⟩ => by
    obtain rfl : u = v := hv
    cases u with
    | true => exact ⟨r1, ih1, env, hr1, he.mono p, q1⟩
    | false => exact tG_end q1 hr1 rfl
theorem lw_or {rest : List Expr} (ha : PT X a (tMT X.K W na)) (hb : PW X (.BoolOp .Or (b :: rest) pos) (tMT X.K W nb)) : PW X (.BoolOp .Or (a :: b :: rest) pos) (tMT X.K W (m_or na nb)) :=
  PW.of (pw_or ha hb) fun σ H Q ⟨r, ih, env, hr, he, q⟩ => tG.imp (tG_bind hr he q) fun u H1 ⟨r1, ih1, v, p, hr1, hv, q1⟩ => by
    obtain rfl : u = v := hv
    cases u with
    | true => exact tG_end q1 hr1 rfl
    | false => exact ⟨r1, ih1, env, hr1, he.mono p, q1⟩
theorem lm_one {op : BoolOp} (h : PE X a (tM X.K W ma)) : PE X (.BoolOp op [a] pos) (tM X.K W ma) := pe_one h
theorem lm_and {rest : List Expr} (ha : PE X a (tM X.K W ma)) (hb : PE X (.BoolOp .And (b :: rest) pos) (tM X.K W mb)) : PE X (.BoolOp .And (a :: b :: rest) pos) (tM X.K W (m_andV ma mb)) :=
  PE.of (pe_and ha hb) fun σ H Q ⟨r, ih, env, hr, he, q⟩ => tG.imp (tG_bind hr he q) fun u H1 ⟨r1, ih1, v, p, hr1, hv, q1⟩ => by
    cases v with
    | bl k =>
      obtain rfl : u = .bl k := hv
      refine ⟨k, rfl, ?_⟩
      cases k with
      | true => exact ⟨r1, ih1, env, hr1, he.mono p, q1⟩
      | false => exact tG_end q1 hr1 rfl
    | _ => exact q1.elim
theorem lm_or {rest : List Expr} (ha : PE X a (tM X.K W ma)) (hb : PE X (.BoolOp .Or (b :: rest) pos) (tM X.K W mb)) : PE X (.BoolOp .Or (a :: b :: rest) pos) (tM X.K W (m_orV ma mb)) :=
  PE.of (pe_or ha hb) fun σ H Q ⟨r, ih, env, hr, he, q⟩ => tG.imp (tG_bind hr he q) fun u H1 ⟨r1, ih1, v, p, hr1, hv, q1⟩ => by
    cases v with
    | bl k =>
      obtain rfl : u = .bl k := hv
      refine ⟨k, rfl, ?_⟩
      cases k with
      | true => exact tG_end q1 hr1 rfl
      | false => exact ⟨r1, ih1, env, hr1, he.mono p, q1⟩
    | _ => exact q1.elim
theorem lm_not (ha : PE X a (tM X.K W ma)) : PE X (.UnaryOp .Not a pos) (tM X.K W (m_notV ma)) :=
  PE.of (pe_not ha) fun σ H Q ⟨r, ih, env, hr, he, q⟩ => tG.imp (tG_bind hr he q) fun u H1 ⟨r1, ih1, v, p, hr1, hv, q1⟩ => by
    cases v with
    | bl k =>
      obtain rfl : u = .bl k := hv
      exact ⟨k, rfl, tG_end q1 hr1 rfl⟩
    | _ => exact q1.elim
theorem lm_if {t : Expr} {nt : Env → IH → Res Bool} (ht : PT X t (tMT X.K W nt)) (ha : PE X a (tM X.K W ma)) (hb : PE X b (tM X.K W mb)) : PE X (.IfExp t a b pos) (tM X.K W (m_if nt ma mb)) :=
  PE.of (pe_ifExp ht ha hb) fun σ H Q ⟨r, ih, env, hr, he, q⟩ => tG.imp (tG_bind hr he q) fun u H1 ⟨r1, ih1, v, p, hr1, hv, q1⟩ => by
    obtain rfl : u = v := hv
    cases u with
    | true => exact ⟨r1, ih1, env, hr1, he.mono p, q1⟩
    | false => exact ⟨r1, ih1, env, hr1, he.mono p, q1⟩
theorem la_nil : PA X [] (tMA X.K W m_nil) := PA.of pa_nil fun σ H Q ⟨r, ih, env, hr, he, q⟩ => tG_end q hr .nil
theorem la_cons {es : List Expr} {mr : Env → IH → Res (List IV)} (ha : PE X a (tM X.K W ma)) (hr : PA X es (tMA X.K W mr)) (hp : starEach (a :: es) X.env = (false, eval a X.env) :: starEach es X.env := by rfl) : PA X (a :: es) (tMA X.K W (m_cons ma mr)) :=
  PA.of (pa_cons ha hr hp) fun σ H Q ⟨r, ih, env, hr, he, q⟩ => tG.imp (tG_bind hr he q) fun u H1 ⟨r1, ih1, v, p, hr1, hv, q1⟩ =>
    tG.imp (tG_bind hr1 (he.mono p) q1) fun w H2 ⟨r2, ih2, y, p2, hr2, hy, q2⟩ => tG_end q2 hr2 (.cons (hv.mono p2) hy)
/-- a built-in function, a built-in type -/
theorem lm_callB {x : Str} {p : Pos} {es : List Expr} {id : String} {rr : List V → Hp → VK → Prop} {f : List IV → IH → Res IV} {m : Env → IH → Res (List IV)} (hc : CallR X (.builtin id) rr) (hf : SndC X.K W rr f) (hg : Gl X x) (hm : X.mg x = none) (hv : bootBuiltins x = some (.builtin id)) (ha : PA X (a :: es) (tMA X.K W m))
    (hn : x ≠ "__name__" := by decide) (hdb : (x == ("__debug__" : Str)) = false := by decide)
    (he : starEach (a :: es) X.env = (false, eval a X.env) :: starEach es X.env := by rfl) (hpl : (backTo pos (starEach es X.env)).any (·.1) = false := by rfl) : PE X (.Call (.Name x p) (a :: es) [] pos) (tM X.K W (m_app f m)) :=
  PE.of (pe_callB hc hg hm hv ha hn hdb he hpl) fun σ H Q ⟨r, ih, env, hr, he, q⟩ => tG.imp (tG_bind hr he q) fun u H1 ⟨r1, ih1, v, p, hr1, hv, q1⟩ => hf _ _ _ _ _ _ _ hr1 hv q1
theorem lm_callTy {x : Str} {p : Pos} {es : List Expr} {T : String} {rr : List V → Hp → VK → Prop} {f : List IV → IH → Res IV} {m : Env → IH → Res (List IV)} (hc : CallR X (.type T) rr) (hf : SndC X.K W rr f) (hg : Gl X x) (hm : X.mg x = none) (hv : bootBuiltins x = some (.type T)) (ha : PA X (a :: es) (tMA X.K W m))
    (hn : x ≠ "__name__" := by decide) (hdb : (x == ("__debug__" : Str)) = false := by decide)
    (he : starEach (a :: es) X.env = (false, eval a X.env) :: starEach es X.env := by rfl) (hpl : (backTo pos (starEach es X.env)).any (·.1) = false := by rfl) : PE X (.Call (.Name x p) (a :: es) [] pos) (tM X.K W (m_app f m)) :=
  PE.of (pe_callTy hc hg hm hv ha hn hdb he hpl) fun σ H Q ⟨r, ih, env, hr, he, q⟩ => tG.imp (tG_bind hr he q) fun u H1 ⟨r1, ih1, v, p, hr1, hv, q1⟩ => hf _ _ _ _ _ _ _ hr1 hv q1
end
end L3
/-! L3c: the mirrors of operations on values, and that the hand layer's rules follow them. -/
namespace L3
variable [TabT] [LamT]
open PySem L2

/-! ### reading objects -/
def MO.xs : MO → List IV
  | .lst xs => xs
  | .tup xs => xs
  | .ro xs => xs
  | .rot xs => xs
  | .dct => []
  | .dk _ => []
  | .clo => []
def MO.isL : MO → Bool
  | .lst _ => true
  | .tup _ => false
  | .ro _ => true
  | .rot _ => false
  | .dct => false
  | .dk _ => false
  | .clo => false
def MO.isT : MO → Bool
  | .tup _ => true
  | .rot _ => true
  | _ => false
def MO.isS : MO → Bool
  | .dct => false
  | .dk _ => false
  | .clo => false
  | _ => true
theorem MO.lt {o : MO} (h : o.isL = true) (k : o.isT = true) : False := by
  cases o with
  | lst _ => cases k
  | ro _ => cases k
  | _ => cases h
theorem MO.tf {o : MO} (h : o.isL = false) (k : o = .dct → False) (k2 : o = .clo → False) (k3 : ∀ kvs, o = .dk kvs → False) : o.isT = true := by
  cases o with
  | dct => exact (k rfl).elim
  | dk kvs => exact (k3 kvs rfl).elim
  | clo => exact (k2 rfl).elim
  | tup _ => rfl
  | rot _ => rfl
  | _ => cases h
theorem MO.xs0 {o : MO} (h : o.isL = false) (k : o.isT = false) : o.xs = [] := by
  cases o with
  | dct => rfl
  | dk _ => rfl
  | clo => rfl
  | tup _ => cases k
  | rot _ => cases k
  | _ => cases h
section
variable {K : PySem.W.Frag} {W : WX} {r : List Addr} {ih : IH} {H : Hp} {a : Addr} {o : MO}
theorem RO.l (h : RO K r H a o) (e : o.isL = true) : ∃ ys, SqL K H a ys ∧ Rs r o.xs ys := by
  cases o with
  | lst xs => obtain ⟨ys, h1, h2⟩ := h; exact ⟨ys, .inl (.inl h1), h2⟩
  | ro xs =>
    obtain ⟨ys, h1, h2⟩ := h
    rcases h1 with ⟨o, h1⟩ | h1
    · exact ⟨ys, .inl (.inr ⟨o, h1⟩), h2⟩
    · exact ⟨ys, SqL.ofK h1, h2⟩
  | tup xs => cases e
  | rot xs => cases e
  | dct => cases e
  | dk _ => cases e
  | clo => cases e
theorem RO.t (h : RO K r H a o) (e : o.isT = true) : ∃ ys, SqT K H a ys ∧ Rs r o.xs ys := by
  cases o with
  | tup xs => obtain ⟨ys, h1, h2⟩ := h; exact ⟨ys, .inl (.inl h1), h2⟩
  | rot xs => obtain ⟨ys, h1, h2⟩ := h; exact ⟨ys, SqT.ofK h1, h2⟩
  | lst xs => cases e
  | ro xs => cases e
  | dct => cases e
  | dk _ => cases e
  | clo => cases e
theorem Rs.atI {xs : List IV} {ys : List V} {i : Int} {v : IV} (h : Rs r xs ys) (e : atI xs i = some v) : ∃ u, atI ys i = some u ∧ R r v u := by
  unfold L2.atI at e ⊢
  rw [← h.length]
  cases q : ixN xs.length i with
  | none => rw [q] at e; cases e
  | some j =>
    rw [q] at e
    obtain ⟨u, h1, h2⟩ := h.get (i := j) e
    exact ⟨u, h1, h2⟩
theorem R.flat {x : IV} {y : V} (h : R r x y) (f : ∀ n, x ≠ .ref n) : y = x.toV := by
  cases x with
  | ref n => exact absurd rfl (f n)
  | _ => exact h
theorem R.ref {n : Nat} {y : V} (h : R r (.ref n) y) : ∃ a, r[n]? = some a ∧ y = .ref a := h
end

/-! ### ints -/
def f_I (C : Int → Int → Bool) (g : Int → Int → IV) (x y : IV) (ih : IH) : Res IV := match x, y with
  | .int i, .int j => if C i j = true then .ok (g i j) ih else .stuck
  | _, _ => .stuck
def f_I0 (g : Int → Int → IV) (x y : IV) (ih : IH) : Res IV := match x, y with
  | .int i, .int j => .ok (g i j) ih
  | _, _ => .stuck
def f_U (g : Int → IV) (x : IV) (ih : IH) : Res IV := match x with
  | .int i => .ok (g i) ih
  | _ => .stuck
abbrev ibits (i : Int) : Nat := Builtin.Int.intBits i
def cMul (i j : Int) : Bool := decide (ibits i + ibits j ≤ 134217728)
def cShl (i j : Int) : Bool := decide (0 ≤ j) && decide ((ibits i : Int) + j ≤ 134217728)
def cShr (_ j : Int) : Bool := decide (0 ≤ j)
def cDiv (_ j : Int) : Bool := decide (0 < j) && decide (j.natAbs.log2 < 9000)
def cMod (_ j : Int) : Bool := decide (0 < j)
def cPow (i j : Int) : Bool := decide (0 ≤ j) && decide (j ≤ 1000000) && decide (i.natAbs < 18446744073709551616)
section
variable {X : Cx} {K : PySem.W.Frag} {W : WX}
theorem snd_I {C : Int → Int → Bool} {D : Int → Int → Prop} {g : Int → Int → IV} {g' : Int → Int → V} (hC : ∀ i j, C i j = true → D i j) (hg : ∀ r i j, R r (g i j) (g' i j)) : Snd2 K W (rI D g') (f_I C g) := by
  intro r ih H x y u w σ Q hr hx hy q
  cases x with
  | int i =>
    cases y with
    | int j =>
      obtain rfl : u = .int i := hx
      obtain rfl : w = .int j := hy
      show ∃ i' j', _
      refine ⟨i, j, rfl, rfl, ?_⟩
      unfold f_I at q
      dsimp only at q
      split at q
      · rename_i hc
        exact ⟨hC i j hc, tG_end q hr (hg r i j)⟩
      · exact q.elim
    | _ => exact q.elim
  | _ => exact q.elim
theorem snd_I0 {g : Int → Int → IV} {g' : Int → Int → V} (hg : ∀ r i j, R r (g i j) (g' i j)) : Snd2 K W (rI0 g') (f_I0 g) := by
  intro r ih H x y u w σ Q hr hx hy q
  cases x with
  | int i =>
    cases y with
    | int j =>
      obtain rfl : u = .int i := hx
      obtain rfl : w = .int j := hy
      exact ⟨i, j, rfl, rfl, tG_end q hr (hg r i j)⟩
    | _ => exact q.elim
  | _ => exact q.elim
theorem snd_U {g : Int → IV} {g' : Int → V} (hg : ∀ r i, R r (g i) (g' i)) : Snd1 K W (rU g') (f_U g) := by
  intro r ih H x u σ Q hr hx q
  cases x with
  | int i =>
    obtain rfl : u = .int i := hx
    exact ⟨i, rfl, tG_end q hr (hg r i)⟩
  | _ => exact q.elim
def f_mul := f_I cMul fun i j => .int (i * j)
def f_sub := f_I0 fun i j => .int (i - j)
def f_fdiv := f_I cDiv fun i j => .int (i / j)
def f_mod := f_I cMod fun i j => .int (i % j)
def f_shl := f_I cShl fun i j => .int (i * 2 ^ j.toNat)
def f_shr := f_I cShr fun i j => .int (i / 2 ^ j.toNat)
def f_pow := f_I cPow fun i j => .int (i ^ j.toNat)
def f_lt := f_I0 fun i j => .bl (decide (i < j))
def f_le := f_I0 fun i j => .bl (decide (i ≤ j))
def f_gt := f_I0 fun i j => .bl (decide (j < i))
def f_ge := f_I0 fun i j => .bl (decide (j ≤ i))
def f_neg := f_U fun i => .int (-i)
theorem s_mul : Snd2 K W (rI CMulX fun i j => .int (i * j)) f_mul := snd_I (fun i j h => by
  have h1 := of_decide_eq_true h
  unfold ibits at h1
  unfold CMulX
  omega) fun _ _ _ => rfl
theorem s_sub : Snd2 K W (rI0 fun i j => .int (i - j)) f_sub := snd_I0 fun _ _ _ => rfl
theorem s_fdiv : Snd2 K W (rI CDivW fun i j => .int (i / j)) f_fdiv := snd_I (fun i j h => by
  unfold cDiv at h
  rw [Bool.and_eq_true] at h
  exact ⟨of_decide_eq_true h.1, of_decide_eq_true h.2⟩) fun _ _ _ => rfl
theorem s_mod : Snd2 K W (rI (fun _ j => 0 < j) fun i j => .int (i % j)) f_mod := snd_I (fun i j h => of_decide_eq_true h) fun _ _ _ => rfl
theorem s_shl : Snd2 K W (rI CShl fun i j => .int (i * 2 ^ j.toNat)) f_shl := snd_I (fun i j h => by
  unfold cShl at h
  rw [Bool.and_eq_true] at h
  exact ⟨of_decide_eq_true h.1, of_decide_eq_true h.2⟩) fun _ _ _ => rfl
theorem s_shr : Snd2 K W (rI (fun _ j => 0 ≤ j) fun i j => .int (i / 2 ^ j.toNat)) f_shr := snd_I (fun i j h => of_decide_eq_true h) fun _ _ _ => rfl
theorem s_pow : Snd2 K W (rI CPow fun i j => .int (i ^ j.toNat)) f_pow := snd_I (fun i j h => by
  unfold cPow at h
  rw [Bool.and_eq_true, Bool.and_eq_true] at h
  exact ⟨of_decide_eq_true h.1.1, of_decide_eq_true h.1.2, of_decide_eq_true h.2⟩) fun _ _ _ => rfl
theorem s_lt : Snd2 K W (rI0 fun i j => .bl (decide (i < j))) f_lt := snd_I0 fun _ _ _ => rfl
theorem s_le : Snd2 K W (rI0 fun i j => .bl (decide (i ≤ j))) f_le := snd_I0 fun _ _ _ => rfl
theorem s_gt : Snd2 K W (rI0 fun i j => .bl (decide (j < i))) f_gt := snd_I0 fun _ _ _ => rfl
theorem s_ge : Snd2 K W (rI0 fun i j => .bl (decide (j ≤ i))) f_ge := snd_I0 fun _ _ _ => rfl
theorem s_neg : Snd1 K W (rU fun i => .int (-i)) f_neg := snd_U fun _ _ => rfl

/-! ### + : ints, lists, tuples, texts -/
def f_add (x y : IV) (ih : IH) : Res IV := match x, y with
  | .int i, .int j => .ok (.int (i + j)) ih
  | .str a, .str b => if a.length + b.length ≤ 1000000 then .ok (.str (a ++ b)) ih else .stuck
  | .ref n, .ref m => match ih[n]?, ih[m]? with
    | some (.lst xs), some (.lst ys) => if xs.length + ys.length ≤ 100000 then .ok (.ref ih.length) (ih ++ [.lst (xs ++ ys)]) else .stuck
    | some (.tup xs), some (.tup ys) => if xs ≠ [] ∧ ys ≠ [] ∧ xs.length + ys.length ≤ 100000 then .ok (.ref ih.length) (ih ++ [.tup (xs ++ ys)]) else .stuck
    | _, _ => .stuck
  | _, _ => .stuck
theorem pre_one {r : List Addr} {p : Addr} : r <+: r ++ [p] := ⟨[p], rfl⟩
theorem R.newest {r : List Addr} {p : Addr} {n : Nat} (h : r.length = n) : R (r ++ [p]) (.ref n) (.ref p) := ⟨p, by rw [← h, List.getElem?_append_right (Nat.le_refl _), Nat.sub_self]; rfl, rfl⟩
/-- a new list, a new tuple is the result -/
theorem end_lst {r : List Addr} {ih : IH} {H : Hp} {σ : St} {Q : VK} {xs : List IV} {ys : List V} (q : PGen R K W σ r (.ok (.ref ih.length) (ih ++ [.lst xs])) Q) (hr : Rel K r ih H) (h : Rs r xs ys) {p : Addr} (hp : H p = none) : Q (.ref p) (upd H p (.lst ys)) :=
  q _ _ _ pre_one (hr.new hp rfl fun H' e => ⟨ys, e, h⟩) (R.newest hr.len)
theorem end_tup {r : List Addr} {ih : IH} {H : Hp} {σ : St} {Q : VK} {xs : List IV} {ys : List V} (q : PGen R K W σ r (.ok (.ref ih.length) (ih ++ [.tup xs])) Q) (hr : Rel K r ih H) (h : Rs r xs ys) {p : Addr} (hp : H p = none) : Q (.ref p) (upd H p (.tup ys)) :=
  q _ _ _ pre_one (hr.new hp rfl fun H' e => ⟨ys, e, h⟩) (R.newest hr.len)
theorem line5 {n : Nat} (h : n ≤ 100000) : n ≤ sizeLine := Nat.le_trans h (by decide)
theorem line6 {n : Nat} (h : n ≤ 1000000) : n ≤ sizeLine := Nat.le_trans h (by decide)
theorem line5l {n : Nat} (h : n < 100000) : n < sizeLine := Nat.lt_of_lt_of_le h (by decide)
abbrev rAddA (K : PySem.W.Frag) : R2 := fun x y H Q => (∃ i j, x = .int i ∧ y = .int j ∧ Q (.int (i + j)) H) ∨ ((∃ i j, x = .str i ∧ y = .str j ∧ i.length + j.length ≤ sizeLine ∧ Q (.str (i ++ j)) H) ∨ (rCat x y H Q ∨ rCatT K x y H Q))
theorem op_addA : OpR X (binaryOp .Add) (rAddA X.K) := op_add.or (op_add_str.or (op_cat.or op_catT))
theorem Rs.ne_nil {r : List Addr} {xs : List IV} {ys : List V} (h : Rs r xs ys) (n : xs ≠ []) : ys ≠ [] := fun e => by
  subst e
  have := h.length
  exact n (List.length_eq_zero_iff.mp this)
theorem s_add : Snd2 K W (rAddA K) f_add := by
  intro r ih H x y u w σ Q hr hx hy q
  unfold f_add at q
  split at q
  · rename_i i j
    obtain rfl : u = .int i := hx
    obtain rfl : w = .int j := hy
    exact .inl ⟨i, j, rfl, rfl, tG_end q hr rfl⟩
  · rename_i i j
    obtain rfl : u = .str i := hx
    obtain rfl : w = .str j := hy
    split at q
    · rename_i hl
      exact .inr (.inl ⟨i, j, rfl, rfl, line6 hl, tG_end q hr rfl⟩)
    · exact q.elim
  · rename_i n m
    obtain ⟨a, ea, rfl⟩ := hx.ref
    obtain ⟨b, eb, rfl⟩ := hy.ref
    split at q
    · rename_i xs ys e1 e2
      obtain ⟨xs', h1, h2⟩ := hr.get n a _ ea e1
      obtain ⟨ys', h3, h4⟩ := hr.get m b _ eb e2
      split at q
      · rename_i hl
        refine .inr (.inr (.inl ⟨a, b, xs', ys', rfl, rfl, h1, h3, ?_, fun p hp => end_lst q hr (h2.append h4) hp⟩))
        rw [← h2.length, ← h4.length]
        exact line5 hl
      · exact q.elim
    · rename_i xs ys e1 e2
      obtain ⟨xs', h1, h2⟩ := hr.get n a _ ea e1
      obtain ⟨ys', h3, h4⟩ := hr.get m b _ eb e2
      split at q
      · rename_i hl
        refine .inr (.inr (.inr ⟨a, b, xs', ys', rfl, rfl, SqT.of h1, SqT.of h3, h2.ne_nil hl.1, ?_, fun z => absurd z (h4.ne_nil hl.2.1), fun _ p hp => end_tup q hr (h2.append h4) hp⟩))
        rw [← h2.length, ← h4.length]
        exact line5 hl.2.2
      · exact q.elim
    · exact q.elim
  · exact q.elim

/-! ### list * int -/
def f_mulA (x y : IV) (ih : IH) : Res IV := match x, y with
  | .int i, .int j => if cMul i j = true then .ok (.int (i * j)) ih else .stuck
  | .ref n, .int k => match ih[n]? with
    | some (.lst xs) => if 0 ≤ k ∧ k ≤ 100000 ∧ xs.length * k.toNat ≤ 100000 then .ok (.ref ih.length) (ih ++ [.lst (List.replicate k.toNat xs).flatten]) else .stuck
    | _ => .stuck
  | _, _ => .stuck
theorem Rs.rep {r : List Addr} {xs : List IV} {ys : List V} (h : Rs r xs ys) : ∀ k : Nat, Rs r (List.replicate k xs).flatten (List.replicate k ys).flatten
  | 0 => .nil
  | k + 1 => by
    rw [List.replicate_succ, List.replicate_succ, List.flatten_cons, List.flatten_cons]
    exact h.append (Rs.rep h k)
abbrev rMulA : R2 := fun x y H Q => rI CMulX (fun i j => .int (i * j)) x y H Q ∨ rRep x y H Q
theorem op_mulA : OpR X (binaryOp .Mult) rMulA := op_mulX.or op_rep
theorem s_mulA : Snd2 K W rMulA f_mulA := by
  intro r ih H x y u w σ Q hr hx hy q
  unfold f_mulA at q
  split at q
  · rename_i i j
    refine .inl (s_mul (W := W) r ih H (.int i) (.int j) u w σ Q hr hx hy ?_)
    exact q
  · rename_i n k
    obtain ⟨a, ea, rfl⟩ := hx.ref
    obtain rfl : w = .int k := hy
    split at q
    · rename_i xs e1
      obtain ⟨xs', h1, h2⟩ := hr.get n a _ ea e1
      split at q
      · rename_i hl
        refine .inr ⟨a, k, xs', rfl, rfl, h1, by omega, by omega, ?_, fun p hp => end_lst q hr (h2.rep _) hp⟩
        rw [← h2.length]
        exact line5 hl.2.2
      · exact q.elim
    · exact q.elim
  · exact q.elim

/-! ### subscripts -/
def f_ix (x y : IV) (ih : IH) : Res IV := match x, y with
  | .ref n, .int i => match ih[n]? with
    | some o => match atI o.xs i with
      | some v => .ok v ih
      | none => .stuck
    | none => .stuck
  | .str z, .int i => if z.length ≤ 1000000 then (match atI z.cps.toList i with
      | some c => .ok (.str ⟨#[c]⟩) ih
      | none => .stuck) else .stuck
  | _, _ => .stuck
theorem s_ix : Snd2 K W (rIx K) f_ix := by
  intro r ih H x y u w σ Q hr hx hy q
  unfold f_ix at q
  split at q
  · rename_i n i
    obtain ⟨a, ea, rfl⟩ := hx.ref
    obtain rfl : w = .int i := hy
    split at q
    · rename_i o e1
      have ho := hr.get n a _ ea e1
      split at q
      · rename_i v e2
        cases hl : o.isL with
        | true =>
          obtain ⟨ys, h1, h2⟩ := ho.l hl
          obtain ⟨z, h3, h4⟩ := h2.atI e2
          exact .inl ⟨a, ys, i, z, rfl, rfl, h1, h3, tG_end q hr h4⟩
        | false =>
          cases ht : o.isT with
          | true =>
            obtain ⟨ys, h1, h2⟩ := ho.t ht
            obtain ⟨z, h3, h4⟩ := h2.atI e2
            exact .inr (.inl ⟨a, ys, i, z, rfl, rfl, h1, h3, tG_end q hr h4⟩)
          | false =>
            rw [MO.xs0 hl ht] at e2
            simp [L2.atI] at e2
      · exact q.elim
    · exact q.elim
  · rename_i z i
    obtain rfl : u = .str z := hx
    obtain rfl : w = .int i := hy
    split at q
    · rename_i hl
      split at q
      · rename_i c e
        exact .inr (.inr ⟨z, i, c, rfl, rfl, line6 hl, e, tG_end q hr rfl⟩)
      · exact q.elim
    · exact q.elim
  · exact q.elim
end

/-! ### == and != -/
mutual
/-- the value is this datum -/
inductive Is (ih : IH) : IV → PyData → Prop
  | non : Is ih .non .none
  | bl (b : Bool) : Is ih (.bl b) (.bool b)
  | int (i : Int) : Is ih (.int i) (.int i)
  | str (x : Str) : Is ih (.str x) (.str x)
  | lst {n : Nat} {o : MO} {ds : List PyData} : ih[n]? = some o → o.isL = true → IsAll ih o.xs ds → Is ih (.ref n) (.list ds)
  | tup {n : Nat} {o : MO} {ds : List PyData} : ih[n]? = some o → o.isT = true → IsAll ih o.xs ds → Is ih (.ref n) (.tuple ds)
inductive IsAll (ih : IH) : List IV → List PyData → Prop
  | nil : IsAll ih [] []
  | cons {v : IV} {vs : List IV} {d : PyData} {ds : List PyData} : Is ih v d → IsAll ih vs ds → IsAll ih (v :: vs) (d :: ds)
end
mutual
theorem Is.uniq {ih : IH} : ∀ (d e : PyData) (v : IV), Is ih v d → Is ih v e → d = e
  | .none, _, _, h, k => by cases h; cases k; rfl
  | .bool _, _, _, h, k => by cases h; cases k; rfl
  | .int _, _, _, h, k => by cases h; cases k; rfl
  | .str _, _, _, h, k => by cases h; cases k; rfl
  | .list ds, _, _, h, k => by
    cases h with
    | lst h1 h2 h3 =>
      cases k with
      | lst k1 k2 k3 =>
        rw [h1] at k1
        cases k1
        rw [Is.uniqAll ds _ _ h3 k3]
      | tup k1 k2 k3 =>
        rw [h1] at k1
        cases k1
        exact (MO.lt h2 k2).elim
  | .tuple ds, _, _, h, k => by
    cases h with
    | tup h1 h2 h3 =>
      cases k with
      | tup k1 k2 k3 =>
        rw [h1] at k1
        cases k1
        rw [Is.uniqAll ds _ _ h3 k3]
      | lst k1 k2 k3 =>
        rw [h1] at k1
        cases k1
        exact (MO.lt k2 h2).elim
  | .dict _, _, _, h, _ => by cases h
theorem Is.uniqAll {ih : IH} : ∀ (ds es : List PyData) (vs : List IV), IsAll ih vs ds → IsAll ih vs es → ds = es
  | [], _, _, h, k => by cases h; cases k; rfl
  | d :: ds, _, _, h, k => by
    cases h with
    | cons h1 h2 =>
      cases k with
      | cons k1 k2 => rw [Is.uniq d _ _ h1 k1, Is.uniqAll ds _ _ h2 k2]
end
mutual
theorem Is.dp {K : PySem.W.Frag} {r : List Addr} {ih : IH} {H : Hp} (hr : Rel K r ih H) : ∀ (d : PyData) (v : IV) (u : V), Is ih v d → R r v u → Dp K H u d
  | .none, _, u, h, q => by cases h; obtain rfl : u = .non := q; exact .non
  | .bool b, _, u, h, q => by cases h; obtain rfl : u = .bl b := q; exact .bl b
  | .int i, _, u, h, q => by cases h; obtain rfl : u = .int i := q; exact .int i
  | .str x, _, u, h, q => by cases h; obtain rfl : u = .str x := q; exact .str x
  | .list ds, _, u, h, q => by
    cases h with
    | lst h1 h2 h3 =>
      obtain ⟨a, ea, rfl⟩ := q.ref
      obtain ⟨ys, h4, h5⟩ := (hr.get _ a _ ea h1).l h2
      exact .lst h4 (Is.dpAll hr ds _ _ h3 h5)
  | .tuple ds, _, u, h, q => by
    cases h with
    | tup h1 h2 h3 =>
      obtain ⟨a, ea, rfl⟩ := q.ref
      obtain ⟨ys, h4, h5⟩ := (hr.get _ a _ ea h1).t h2
      exact .tup h4 (Is.dpAll hr ds _ _ h3 h5)
  | .dict _, _, _, h, _ => by cases h
theorem Is.dpAll {K : PySem.W.Frag} {r : List Addr} {ih : IH} {H : Hp} (hr : Rel K r ih H) : ∀ (ds : List PyData) (vs : List IV) (us : List V), IsAll ih vs ds → Rs r vs us → DpAll K H us ds
  | [], _, _, h, q => by cases h; cases q; exact .nil
  | d :: ds, _, _, h, q => by
    cases h with
    | cons h1 h2 =>
      cases q with
      | cons q1 q2 => exact .cons (Is.dp hr d _ _ h1 q1) (Is.dpAll hr ds _ _ h2 q2)
end
/-- two lists of unlike lengths -/
def lenNe (x y : IV) (ih : IH) : Bool := match x, y with
  | .ref n, .ref m => match ih[n]?, ih[m]? with
    | some o, some u => o.isL && u.isL && (o.xs.length != u.xs.length)
    | _, _ => false
  | _, _ => false
open Classical in
noncomputable def f_eqn (neg : Bool) (x y : IV) (ih : IH) : Res IV :=
  if h : ∃ p : PyData × PyData, Is ih x p.1 ∧ Is ih y p.2 ∧ SeqAt.shaped p.1 = true ∧ SeqAt.shaped p.2 = true then .ok (.bl (if neg = true then !PyData.eqv h.choose.1 h.choose.2 else PyData.eqv h.choose.1 h.choose.2)) ih else if lenNe x y ih = true then .ok (.bl neg) ih else match x, y with
    | .str a, .str b => .ok (.bl (if neg = true then !decide (a = b) else decide (a = b))) ih
    | _, _ => .stuck
noncomputable def f_eq := f_eqn false
noncomputable def f_ne := f_eqn true
theorem f_eqn_of {neg : Bool} {x y : IV} {ih : IH} {d e : PyData} (h1 : Is ih x d) (h2 : Is ih y e) (s1 : SeqAt.shaped d = true) (s2 : SeqAt.shaped e = true) : f_eqn neg x y ih = .ok (.bl (if neg = true then !PyData.eqv d e else PyData.eqv d e)) ih := by
  unfold f_eqn
  have h : ∃ p : PyData × PyData, Is ih x p.1 ∧ Is ih y p.2 ∧ SeqAt.shaped p.1 = true ∧ SeqAt.shaped p.2 = true := ⟨(d, e), h1, h2, s1, s2⟩
  rw [dif_pos h]
  have k := h.choose_spec
  rw [Is.uniq _ _ _ k.1 h1, Is.uniq _ _ _ k.2.1 h2]
theorem f_eq_of {x y : IV} {ih : IH} {d e : PyData} (h1 : Is ih x d) (h2 : Is ih y e) (s1 : SeqAt.shaped d = true) (s2 : SeqAt.shaped e = true) : f_eq x y ih = .ok (.bl (PyData.eqv d e)) ih := f_eqn_of h1 h2 s1 s2
theorem f_ne_of {x y : IV} {ih : IH} {d e : PyData} (h1 : Is ih x d) (h2 : Is ih y e) (s1 : SeqAt.shaped d = true) (s2 : SeqAt.shaped e = true) : f_ne x y ih = .ok (.bl (!PyData.eqv d e)) ih := f_eqn_of h1 h2 s1 s2
theorem IsAll.len {ih : IH} : ∀ {vs : List IV} {ds : List PyData}, IsAll ih vs ds → vs.length = ds.length
  | _, _, .nil => rfl
  | _, _, .cons _ t => congrArg Nat.succ t.len
theorem eqv_lenNe {xs ys : List PyData} (h : xs.length ≠ ys.length) : PyData.eqv (.list xs) (.list ys) = false := by
  refine Bool.eq_false_iff.mpr fun e => h ?_
  unfold PyData.eqv at e
  have key : ∀ (xs ys : List PyData), PyData.eqvAll xs ys = true → xs.length = ys.length := by
    intro xs
    induction xs with
    | nil => intro ys e; cases ys with
      | nil => rfl
      | cons y ys => simp [PyData.eqvAll] at e
    | cons x xs ih => intro ys e; cases ys with
      | nil => simp [PyData.eqvAll] at e
      | cons y ys =>
        simp [PyData.eqvAll] at e
        rw [List.length_cons, List.length_cons, ih ys e.2]
  exact key xs ys e
theorem f_eqn_len {neg : Bool} {n m : Nat} {o u : MO} {ih : IH} (h1 : ih[n]? = some o) (h2 : ih[m]? = some u) (l1 : o.isL = true) (l2 : u.isL = true) (hl : o.xs.length ≠ u.xs.length) : f_eqn neg (.ref n) (.ref m) ih = .ok (.bl neg) ih := by
  have e1 : lenNe (.ref n) (.ref m) ih = true := by
    unfold lenNe
    dsimp only
    rw [h1, h2]
    dsimp only
    rw [l1, l2]
    simpa using hl
  unfold f_eqn
  by_cases h : ∃ p : PyData × PyData, Is ih (.ref n) p.1 ∧ Is ih (.ref m) p.2 ∧ SeqAt.shaped p.1 = true ∧ SeqAt.shaped p.2 = true
  · rw [dif_pos h]
    have k := h.choose_spec
    have e2 : PyData.eqv h.choose.1 h.choose.2 = false := by
      generalize h.choose = z at k ⊢
      obtain ⟨d, e⟩ := z
      obtain ⟨k1, k2, _, _⟩ := k
      dsimp only at k1 k2 ⊢
      cases k1 with
      | lst g1 g2 g3 =>
        rw [h1] at g1
        cases g1
        cases k2 with
        | lst f1 f2 f3 =>
          rw [h2] at f1
          cases f1
          exact eqv_lenNe (by rw [← g3.len, ← f3.len]; exact hl)
        | tup f1 f2 f3 =>
          rw [h2] at f1
          cases f1
          exact (MO.lt l2 f2).elim
      | tup g1 g2 g3 =>
        rw [h1] at g1
        cases g1
        exact (MO.lt l1 g2).elim
    rw [e2]
    cases neg <;> rfl
  · rw [dif_neg h, if_pos e1]
theorem eqv_strD {a b : Str} : PyData.eqv (.str a) (.str b) = decide (a = b) := by
  unfold PyData.eqv
  by_cases h : a = b
  · subst h; simp
  · simp [h]
theorem f_eqn_str {neg : Bool} {a b : Str} {ih : IH} : f_eqn neg (.str a) (.str b) ih = .ok (.bl (if neg = true then !decide (a = b) else decide (a = b))) ih := by
  unfold f_eqn
  by_cases h : ∃ p : PyData × PyData, Is ih (.str a) p.1 ∧ Is ih (.str b) p.2 ∧ SeqAt.shaped p.1 = true ∧ SeqAt.shaped p.2 = true
  · rw [dif_pos h]
    have k := h.choose_spec
    generalize h.choose = z at k ⊢
    obtain ⟨d, e⟩ := z
    obtain ⟨k1, k2, _, _⟩ := k
    dsimp only at k1 k2 ⊢
    cases k1
    cases k2
    rw [eqv_strD]
  · rw [dif_neg h]
    rfl
def rEqL (K : PySem.W.Frag) (b : Bool) : R2 := fun x y H Q => ∃ p q xs ys, x = .ref p ∧ y = .ref q ∧ SqL K H p xs ∧ SqL K H q ys ∧ xs.length ≠ ys.length ∧ Q (.bl b) H
abbrev rEqX (K : PySem.W.Frag) : R2 := fun x y H Q => rEqD K x y H Q ∨ (rEqL K false x y H Q ∨ rEq x y H Q)
abbrev rNeX (K : PySem.W.Frag) : R2 := fun x y H Q => rNeD K x y H Q ∨ (rEqL K true x y H Q ∨ rNe x y H Q)
theorem op_eqL {X : Cx} (hu : X.A.units < cLine) : OpR X (compareOp .Eq) (rEqL X.K false) := by
  intro pins s σ H x y v u Q I rx ry h
  obtain ⟨p, q, xs, ys, rfl, rfl, h1, h2, hl, k⟩ := h
  cases (show v = Value.ref p from rx)
  cases (show u = Value.ref q from ry)
  obtain ⟨us, r1, p1, _⟩ := I.list h1
  obtain ⟨ws, r2, p2, _⟩ := I.list h2
  exact SeqAt.RcAt.lists_lengths p1.isList p2.isList (by simpa [← r1.length, ← r2.length] using hl) hu _ _ _ _ ⟨.bl _, H, I, rfl, k⟩
theorem op_neL {X : Cx} (hu : X.A.units < cLine) : OpR X (compareOp .NotEq) (rEqL X.K true) := by
  intro pins s σ H x y v u Q I rx ry h
  obtain ⟨p, q, xs, ys, rfl, rfl, h1, h2, hl, k⟩ := h
  cases (show v = Value.ref p from rx)
  cases (show u = Value.ref q from ry)
  obtain ⟨us, r1, p1, _⟩ := I.list h1
  obtain ⟨ws, r2, p2, _⟩ := I.list h2
  exact SeqAt.RcNeAt.lists_lengths p1.isList p2.isList (by simpa [← r1.length, ← r2.length] using hl) hu _ _ _ _ ⟨.bl _, H, I, rfl, k⟩
theorem op_eqX {X : Cx} (hu : X.A.units + 64 < cLine) : OpR X (compareOp .Eq) (rEqX X.K) := (op_eqD hu).or ((op_eqL (by omega)).or op_eq)
theorem op_neX {X : Cx} (hu : X.A.units + 64 < cLine) : OpR X (compareOp .NotEq) (rNeX X.K) := (op_neD hu).or ((op_neL (by omega)).or op_ne)
theorem lenNe_R {K : PySem.W.Frag} {r : List Addr} {ih : IH} {H : Hp} {x y : IV} {u w : V} (hr : Rel K r ih H) (hx : R r x u) (hy : R r y w) (h : lenNe x y ih = true) :
    ∃ p q xs ys, u = .ref p ∧ w = .ref q ∧ SqL K H p xs ∧ SqL K H q ys ∧ xs.length ≠ ys.length := by
  unfold lenNe at h
  split at h
  · rename_i n m
    obtain ⟨a, ea, rfl⟩ := hx.ref
    obtain ⟨b, eb, rfl⟩ := hy.ref
    split at h
    · rename_i o v e1 e2
      simp only [Bool.and_eq_true] at h
      obtain ⟨ys, h1, h2⟩ := (hr.get n a _ ea e1).l h.1.1
      obtain ⟨zs, h3, h4⟩ := (hr.get m b _ eb e2).l h.1.2
      exact ⟨a, b, ys, zs, rfl, rfl, h1, h3, by rw [← h2.length, ← h4.length]; simpa using h.2⟩
    · cases h
  · cases h
theorem s_eq {K : PySem.W.Frag} {W : WX} : Snd2 K W (rEqX K) f_eq := by
  intro r ih H x y u w σ Q hr hx hy q
  unfold f_eq f_eqn at q
  split at q
  · rename_i h
    have k := h.choose_spec
    exact .inl ⟨_, _, Is.dp hr _ _ _ k.1 hx, Is.dp hr _ _ _ k.2.1 hy, k.2.2.1, k.2.2.2, tG_end q hr rfl⟩
  · split at q
    · rename_i h
      obtain ⟨a, b, xs, ys, e1, e2, h1, h2, hl⟩ := lenNe_R hr hx hy h
      exact .inr (.inl ⟨a, b, xs, ys, e1, e2, h1, h2, hl, tG_end q hr rfl⟩)
    · split at q
      · rename_i a b _ _
        obtain rfl : u = .str a := hx
        obtain rfl : w = .str b := hy
        have e : decide (V.str a = V.str b) = decide (a = b) := by simp
        refine .inr (.inr ⟨rfl, tG_end q hr ?_⟩)
        rw [e]
        rfl
      · exact q.elim
theorem s_ne {K : PySem.W.Frag} {W : WX} : Snd2 K W (rNeX K) f_ne := by
  intro r ih H x y u w σ Q hr hx hy q
  unfold f_ne f_eqn at q
  split at q
  · rename_i h
    have k := h.choose_spec
    exact .inl ⟨_, _, Is.dp hr _ _ _ k.1 hx, Is.dp hr _ _ _ k.2.1 hy, k.2.2.1, k.2.2.2, tG_end q hr rfl⟩
  · split at q
    · rename_i h
      obtain ⟨a, b, xs, ys, e1, e2, h1, h2, hl⟩ := lenNe_R hr hx hy h
      exact .inr (.inl ⟨a, b, xs, ys, e1, e2, h1, h2, hl, tG_end q hr rfl⟩)
    · split at q
      · rename_i a b _ _
        obtain rfl : u = .str a := hx
        obtain rfl : w = .str b := hy
        have e : decide (V.str a = V.str b) = decide (a = b) := by simp
        refine .inr (.inr ⟨rfl, tG_end q hr ?_⟩)
        rw [e]
        rfl
      · exact q.elim
/-! ### is None -/
def f_isN (x y : IV) (ih : IH) : Res IV := if y = .non then .ok (.bl (decide (x = .non))) ih else .stuck
def f_notN (x y : IV) (ih : IH) : Res IV := if y = .non then .ok (.bl (!decide (x = .non))) ih else .stuck
theorem R.non {r : List Addr} {x : IV} {u : V} (h : R r x u) : decide (x = IV.non) = decide (u = V.non) := by
  cases x with
  | ref n =>
    obtain ⟨a, _, rfl⟩ := h.ref
    rfl
  | _ => rw [h.flat fun _ => IV.noConfusion]; rfl
theorem s_isN {K : PySem.W.Frag} {W : WX} : Snd2 K W (fun x y H Q => y = .non ∧ Q (.bl (decide (x = .non))) H) f_isN := by
  intro r ih H x y u w σ Q hr hx hy q
  unfold f_isN at q
  split at q
  · rename_i h
    subst h
    exact ⟨hy, tG_end q hr (by rw [hx.non]; rfl)⟩
  · exact q.elim
theorem s_notN {K : PySem.W.Frag} {W : WX} : Snd2 K W (fun x y H Q => y = .non ∧ Q (.bl (!decide (x = .non))) H) f_notN := by
  intro r ih H x y u w σ Q hr hx hy q
  unfold f_notN at q
  split at q
  · rename_i h
    subst h
    exact ⟨hy, tG_end q hr (by rw [hx.non]; rfl)⟩
  · exact q.elim
end L3
/-! L3d: displays, slices, built-in calls, methods; targets, statements, loops, comprehensions. -/
namespace L3
variable [TabT] [LamT]
open PySem L2

/-! ### displays -/
def f_tup (xs : List IV) (ih : IH) : Res IV := if xs.length ≤ 100000 then .ok (.ref ih.length) (ih ++ [.tup xs]) else .stuck
def f_lst (xs : List IV) (ih : IH) : Res IV := if xs.length ≤ 100000 then .ok (.ref ih.length) (ih ++ [.lst xs]) else .stuck
section
variable {X : Cx} {K : PySem.W.Frag} {W : WX} {es : List Expr} {m : Env → IH → Res (List IV)} {pos : Pos}
theorem s_tup : SndC K W (fun xs H Q => xs.length ≤ sizeLine ∧ ∀ p, H p = none → Q (.ref p) (upd H p (.tup xs))) f_tup := by
  intro r ih H xs us σ Q hr hx q
  unfold f_tup at q
  split at q
  · rename_i hl
    exact ⟨by rw [← hx.length]; exact line5 hl, fun p hp => end_tup q hr hx hp⟩
  · exact q.elim
theorem s_lst : SndC K W (fun xs H Q => xs.length ≤ sizeLine ∧ ∀ p, H p = none → Q (.ref p) (upd H p (.lst xs))) f_lst := by
  intro r ih H xs us σ Q hr hx q
  unfold f_lst at q
  split at q
  · rename_i hl
    exact ⟨by rw [← hx.length]; exact line5 hl, fun p hp => end_lst q hr hx hp⟩
  · exact q.elim
theorem lm_tup {x1} (h : PA X es (tMA X.K W m)) : PE X (.Tuple es x1 pos) (tM X.K W (m_app f_tup m)) :=
  PE.of (pe_tup h) fun σ H Q ⟨r, ih, env, hr, he, q⟩ => tG.imp (tG_bind hr he q) fun u H1 ⟨r1, ih1, v, p, hr1, hv, q1⟩ => s_tup _ _ _ _ _ _ _ hr1 hv q1
theorem lm_lst (h : PA X es (tMA X.K W m)) : PE X (.List es pos) (tM X.K W (m_app f_lst m)) :=
  PE.of (pe_lst h) fun σ H Q ⟨r, ih, env, hr, he, q⟩ => tG.imp (tG_bind hr he q) fun u H1 ⟨r1, ih1, v, p, hr1, hv, q1⟩ => s_lst _ _ _ _ _ _ _ hr1 hv q1
end

/-! ### slices -/
def m_none (_ : Env) (ih : IH) : Res (Option Int) := .ok none ih
def m_some (ma : Env → IH → Res IV) (env : Env) (ih : IH) : Res (Option Int) := (ma env ih).bind fun v ih1 => match v with
  | .int i => .ok (some i) ih1
  | _ => .stuck
def cutI (xs : List IV) (lo hi : Option Int) : List IV := (xs.drop (HT.sIx xs.length 0 lo)).take (HT.sIx xs.length xs.length hi - HT.sIx xs.length 0 lo)
def f_sl (x : IV) (lo hi : Option Int) (ih : IH) : Res IV := match x with
  | .ref n => match ih[n]? with
    | some (.lst xs) => .ok (.ref ih.length) (ih ++ [.lst (cutI xs lo hi)])
    | some (.ro xs) => .ok (.ref ih.length) (ih ++ [.lst (cutI xs lo hi)])
    | some (.tup xs) => if ¬ (HT.sIx xs.length 0 lo = 0 ∧ HT.sIx xs.length xs.length hi = xs.length) then .ok (.ref ih.length) (ih ++ [.tup (cutI xs lo hi)]) else .stuck
    | _ => .stuck
  | _ => .stuck
def m_sl (ma : Env → IH → Res IV) (ml mh : Env → IH → Res (Option Int)) (env : Env) (ih : IH) : Res IV := (ma env ih).bind fun x ih1 => (ml env ih1).bind fun l ih2 => (mh env ih2).bind fun h ih3 => f_sl x l h ih3
theorem Rs.cut {r : List Addr} {xs : List IV} {ys : List V} (h : Rs r xs ys) (lo hi : Option Int) : Rs r (cutI xs lo hi) (cutV ys lo hi) := by
  unfold cutV cutI
  rw [h.length]
  exact (h.drop _).take _
abbrev rSlA (K : PySem.W.Frag) : V → Option Int → Option Int → Hp → VK → Prop := fun x lo hi H Q => rSlL K x lo hi H Q ∨ rSlT K x lo hi H Q
section
variable {X : Cx} {K : PySem.W.Frag} {W : WX} {e : Expr} {lo hi : Option Expr} {ma : Env → IH → Res IV} {ml mh : Env → IH → Res (Option Int)} {pos p2 : Pos}
theorem sl_A : SlR X (rSlA X.K) := sl_list.or sl_tup
theorem s_sl {r : List Addr} {ih : IH} {H : Hp} {x : IV} {u : V} {l h : Option Int} {σ : St} {Q : VK} (hr : Rel K r ih H) (hx : R r x u) (q : PGen R K W σ r (f_sl x l h ih) Q) : rSlA K u l h H Q := by
  unfold f_sl at q
  split at q
  · rename_i n
    obtain ⟨a, ea, rfl⟩ := hx.ref
    split at q
    · rename_i xs e1
      obtain ⟨ys, h1, h2⟩ := (hr.get n a _ ea e1).l rfl
      exact .inl ⟨a, ys, rfl, h1, fun p hp => end_lst q hr (h2.cut l h) hp⟩
    · rename_i xs e1
      obtain ⟨ys, h1, h2⟩ := (hr.get n a _ ea e1).l rfl
      exact .inl ⟨a, ys, rfl, h1, fun p hp => end_lst q hr (h2.cut l h) hp⟩
    · rename_i xs e1
      obtain ⟨ys, h1, h2⟩ := (hr.get n a _ ea e1).t rfl
      split at q
      · rename_i hc
        refine .inr ⟨a, ys, rfl, h1, ?_, fun p hp => end_tup q hr (h2.cut l h) hp⟩
        have hl : xs.length = ys.length := h2.length
        rw [← hl]
        exact hc
      · exact q.elim
    · exact q.elim
  · exact q.elim
theorem lo_none : PO X none (tG Oq X.K W m_none) := ⟨fun pins s σ H Q I ⟨r, ih, env, hr, he, q⟩ => po_none.run pins s σ H Q I (tG_end q hr rfl)⟩
theorem lo_some (h : PE X e (tM X.K W ma)) : PO X (some e) (tG Oq X.K W (m_some ma)) := ⟨fun pins s σ H Q I ⟨r, ih, env, hr, he, q⟩ => (po_some h).run pins s σ H Q I (tG.imp (tG_bind hr he q) fun u H1 ⟨r1, ih1, v, p, hr1, hv, q1⟩ => by
  cases v with
  | int i =>
    obtain rfl : u = .int i := hv
    exact ⟨i, rfl, tG_end q1 hr1 rfl⟩
  | _ => exact q1.elim)⟩
theorem lm_sl (ha : PE X e (tM X.K W ma)) (hl : PO X lo (tG Oq X.K W ml)) (hh : PO X hi (tG Oq X.K W mh)) : PE X (.Subscript e (.Slice lo hi none p2) pos) (tM X.K W (m_sl ma ml mh)) :=
  PE.of (pe_slice sl_A ha hl hh) fun σ H Q ⟨r, ih, env, hr, he, q⟩ => tG.imp (tG_bind hr he q) fun u H1 ⟨r1, ih1, v, p, hr1, hv, q1⟩ =>
    tG.imp (tG_bind hr1 (he.mono p) q1) fun w H2 ⟨r2, ih2, y, p2, hr2, hy, q2⟩ => tG.imp (tG_bind hr2 ((he.mono p).mono p2) q2) fun z H3 ⟨r3, ih3, y3, p3, hr3, hy3, q3⟩ => by
      obtain rfl : w = y := hy
      obtain rfl : z = y3 := hy3
      exact s_sl hr3 ((hv.mono p2).mono p3) q3
end

theorem Rs.one {r : List Addr} {x : IV} {us : List V} (h : Rs r [x] us) : ∃ u, us = [u] ∧ R r x u := by
  cases h with
  | cons a b =>
    cases b
    exact ⟨_, rfl, a⟩
theorem Rs.two {r : List Addr} {x y : IV} {us : List V} (h : Rs r [x, y] us) : ∃ u w, us = [u, w] ∧ R r x u ∧ R r y w := by
  cases h with
  | cons a b =>
    obtain ⟨w, rfl, c⟩ := Rs.one b
    exact ⟨_, w, rfl, a, c⟩
/-! ### built-in calls -/
def f_len (xs : List IV) (ih : IH) : Res IV := match xs with
  | [.ref n] => match ih[n]? with
    | some .dct => .stuck
    | some (.dk _) => .stuck
    | some .clo => .stuck
    | some o => .ok (.int o.xs.length) ih
    | none => .stuck
  | [.str z] => if z.length ≤ 1000000 then .ok (.int z.length) ih else .stuck
  | _ => .stuck
def f_int (xs : List IV) (ih : IH) : Res IV := match xs with
  | [.int i] => .ok (.int i) ih
  | [.bl b] => .ok (.int (if b then 1 else 0)) ih
  | _ => .stuck
def f_abs (xs : List IV) (ih : IH) : Res IV := match xs with
  | [.int i] => .ok (.int (if i < 0 then -i else i)) ih
  | _ => .stuck
def f_max2 (xs : List IV) (ih : IH) : Res IV := match xs with
  | [.int i, .int j] => .ok (.int (if j > i then j else i)) ih
  | _ => .stuck
def f_min2 (xs : List IV) (ih : IH) : Res IV := match xs with
  | [.int i, .int j] => .ok (.int (if j < i then j else i)) ih
  | _ => .stuck
/-- the ints of values that are ints; the bools -/
def ints? : List IV → Option (List Int)
  | [] => some []
  | .int i :: r => (ints? r).map (i :: ·)
  | _ :: _ => none
def bls? : List IV → Option (List Bool)
  | [] => some []
  | .bl i :: r => (bls? r).map (i :: ·)
  | _ :: _ => none
theorem ints?_of {xs : List IV} {ns : List Int} : ints? xs = some ns → xs = ns.map IV.int := by
  induction xs generalizing ns with
  | nil => intro h; cases h; rfl
  | cons x r ihh =>
    intro h
    cases x with
    | int i =>
      unfold ints? at h
      obtain ⟨ms, e, rfl⟩ := Option.map_eq_some_iff.mp h
      rw [ihh e]
      rfl
    | _ => cases h
theorem ints?_map (ns : List Int) : ints? (ns.map IV.int) = some ns := by
  induction ns with
  | nil => rfl
  | cons n r ihh =>
    rw [List.map_cons]
    unfold ints?
    rw [ihh]
    rfl
theorem bls?_of {xs : List IV} {ns : List Bool} : bls? xs = some ns → xs = ns.map IV.bl := by
  induction xs generalizing ns with
  | nil => intro h; cases h; rfl
  | cons x r ihh =>
    intro h
    cases x with
    | bl i =>
      unfold bls? at h
      obtain ⟨ms, e, rfl⟩ := Option.map_eq_some_iff.mp h
      rw [ihh e]
      rfl
    | _ => cases h
theorem bls?_map (ns : List Bool) : bls? (ns.map IV.bl) = some ns := by
  induction ns with
  | nil => rfl
  | cons n r ihh =>
    rw [List.map_cons]
    unfold bls?
    rw [ihh]
    rfl
theorem Rs.flats {r : List Addr} {α : Type} {f : α → IV} (hf : ∀ a n, f a ≠ .ref n) : ∀ {ns : List α} {ys : List V}, Rs r (ns.map f) ys → ys = ns.map fun a => (f a).toV
  | [], _, h => by cases h; rfl
  | n :: r, _, h => by
    cases h with
    | cons h1 h2 => rw [List.map_cons, h1.flat (hf n), Rs.flats hf h2]
theorem Rs.flats_mk {r : List Addr} {α : Type} {f : α → IV} {g : α → V} (hf : ∀ a, R r (f a) (g a)) : ∀ ns : List α, Rs r (ns.map f) (ns.map g)
  | [] => .nil
  | n :: l => .cons (hf n) (Rs.flats_mk hf l)
/-- a call of a list of ints (or of bools) -/
def f_ints (g : List Int → IH → Res IV) (xs : List IV) (ih : IH) : Res IV := match xs with
  | [.ref n] => match ih[n]? with
    | some o => if o.isL = true then (match ints? o.xs with
      | some ns => g ns ih
      | none => .stuck) else .stuck
    | none => .stuck
  | _ => .stuck
def f_bls (g : List Bool → IH → Res IV) (xs : List IV) (ih : IH) : Res IV := match xs with
  | [.ref n] => match ih[n]? with
    | some o => if o.isL = true then (match bls? o.xs with
      | some ns => g ns ih
      | none => .stuck) else .stuck
    | none => .stuck
  | _ => .stuck
def f_sum := f_ints fun ns ih => .ok (.int ns.sum) ih
def f_all := f_bls fun ns ih => .ok (.bl (ns.all id)) ih
def f_any := f_bls fun ns ih => .ok (.bl (ns.any id)) ih
def maxI : List Int → Int
  | [] => 0
  | [a] => a
  | a :: b :: r => max a (maxI (b :: r))
def minI : List Int → Int
  | [] => 0
  | [a] => a
  | a :: b :: r => min a (minI (b :: r))
theorem maxI_spec : ∀ {ns : List Int}, 0 < ns.length → maxI ns ∈ ns ∧ ∀ y ∈ ns, y ≤ maxI ns
  | [a], _ => ⟨List.mem_singleton.mpr rfl, fun y hy => by rw [List.mem_singleton.mp hy]; exact Int.le_refl _⟩
  | a :: b :: r, _ => by
    obtain ⟨h1, h2⟩ := maxI_spec (ns := b :: r) (by simp)
    show max a (maxI (b :: r)) ∈ _ ∧ _
    refine ⟨?_, fun y hy => ?_⟩
    · by_cases h : a ≤ maxI (b :: r)
      · rw [Int.max_eq_right h]
        exact List.mem_cons_of_mem _ h1
      · rw [Int.max_eq_left (by omega)]
        exact List.mem_cons_self
    · show y ≤ max a (maxI (b :: r))
      rcases List.mem_cons.mp hy with e | e
      · omega
      · have := h2 y e
        omega
theorem minI_spec : ∀ {ns : List Int}, 0 < ns.length → minI ns ∈ ns ∧ ∀ y ∈ ns, minI ns ≤ y
  | [a], _ => ⟨List.mem_singleton.mpr rfl, fun y hy => by rw [List.mem_singleton.mp hy]; exact Int.le_refl _⟩
  | a :: b :: r, _ => by
    obtain ⟨h1, h2⟩ := minI_spec (ns := b :: r) (by simp)
    show min a (minI (b :: r)) ∈ _ ∧ _
    refine ⟨?_, fun y hy => ?_⟩
    · by_cases h : a ≤ minI (b :: r)
      · rw [Int.min_eq_left h]
        exact List.mem_cons_self
      · rw [Int.min_eq_right (by omega)]
        exact List.mem_cons_of_mem _ h1
    · show min a (minI (b :: r)) ≤ y
      rcases List.mem_cons.mp hy with e | e
      · omega
      · have := h2 y e
        omega
def f_max1 := f_ints fun ns ih => if 0 < ns.length then .ok (.int (maxI ns)) ih else .stuck
def f_min1 := f_ints fun ns ih => if 0 < ns.length then .ok (.int (minI ns)) ih else .stuck
def f_list (xs : List IV) (ih : IH) : Res IV := match xs with
  | [.ref n] => match ih[n]? with
    | some .dct => .stuck
    | some (.dk _) => .stuck
    | some .clo => .stuck
    | some o => .ok (.ref ih.length) (ih ++ [.lst o.xs])
    | none => .stuck
  | _ => .stuck
def f_tuple (xs : List IV) (ih : IH) : Res IV := match xs with
  | [.ref n] => match ih[n]? with
    | some o => if o.isL = true then .ok (.ref ih.length) (ih ++ [.tup o.xs]) else if o.isT = true then .ok (.ref n) ih else .stuck
    | none => .stuck
  | _ => .stuck
/-- the type of a value -/
def tyN (x : IV) (ih : IH) : Option String := match x with
  | .non => some "NoneType"
  | .bl _ => some "bool"
  | .int _ => some "int"
  | .str _ => some "str"
  | .ref n => match ih[n]? with
    | some (.lst _) => some "list"
    | some (.tup _) => some "tuple"
    | some .dct => some "dict"
    | some (.dk _) => some "dict"
    | _ => none
  | _ => none
def f_isi (xs : List IV) (ih : IH) : Res IV := match xs with
  | [x, .ty T] => match tyN x ih with
    | some t => match kitB t T with
      | some b => .ok (.bl b) ih
      | none => .stuck
    | none => .stuck
  | _ => .stuck
section
variable {X : Cx} {K : PySem.W.Frag} {W : WX}
theorem s_len : SndC K W (fun xs H Q => (∃ p ys, xs = [.ref p] ∧ (SqL K H p ys ∨ SqT K H p ys) ∧ Q (.int ys.length) H) ∨ (∃ z, xs = [.str z] ∧ z.length ≤ sizeLine ∧ Q (.int z.length) H)) f_len := by
  intro r ih H xs us σ Q hr hx q
  unfold f_len at q
  split at q
  · rename_i n
    cases hx with
    | cons h1 h2 =>
      cases h2
      obtain ⟨a, ea, rfl⟩ := h1.ref
      split at q
      · exact q.elim
      · exact q.elim
      · exact q.elim
      · rename_i o nd nk nc e1
        have ho := hr.get n a _ ea e1
        refine .inl ?_
        cases hl : o.isL with
        | true =>
          obtain ⟨ys, h3, h4⟩ := ho.l hl
          exact ⟨a, ys, rfl, .inl h3, by rw [← h4.length]; exact tG_end q hr rfl⟩
        | false =>
          obtain ⟨ys, h3, h4⟩ := ho.t (MO.tf hl nd nc nk)
          exact ⟨a, ys, rfl, .inr h3, by rw [← h4.length]; exact tG_end q hr rfl⟩
      · exact q.elim
  · rename_i z
    cases hx with
    | cons h1 h2 =>
      cases h2
      obtain rfl := h1.flat fun _ => IV.noConfusion
      split at q
      · rename_i hl
        exact .inr ⟨z, rfl, line6 hl, tG_end q hr rfl⟩
      · exact q.elim
  · exact q.elim
theorem call_lenA : CallR X (.builtin "len") (fun xs H Q => (∃ p ys, xs = [.ref p] ∧ (SqL X.K H p ys ∨ SqT X.K H p ys) ∧ Q (.int ys.length) H) ∨ (∃ z, xs = [.str z] ∧ z.length ≤ sizeLine ∧ Q (.int z.length) H)) := call_len_seq.or call_len_str
theorem s_int : SndC K W (fun xs H Q => (∃ i, xs = [.int i] ∧ Q (.int i) H) ∨ ∃ k, xs = [.bl k] ∧ Q (.int (if k then 1 else 0)) H) f_int := by
  intro r ih H xs us σ Q hr hx q
  unfold f_int at q
  split at q
  · rename_i i
    obtain rfl := Rs.flats (f := IV.int) (fun _ _ => IV.noConfusion) (ns := [i]) hx
    exact .inl ⟨i, rfl, tG_end q hr rfl⟩
  · rename_i b
    obtain rfl := Rs.flats (f := IV.bl) (fun _ _ => IV.noConfusion) (ns := [b]) hx
    exact .inr ⟨b, rfl, tG_end q hr rfl⟩
  · exact q.elim
theorem s_abs : SndC K W (fun xs H Q => ∃ i, xs = [.int i] ∧ Q (.int (if i < 0 then -i else i)) H) f_abs := by
  intro r ih H xs us σ Q hr hx q
  unfold f_abs at q
  split at q
  · rename_i i
    obtain rfl := Rs.flats (f := IV.int) (fun _ _ => IV.noConfusion) (ns := [i]) hx
    exact ⟨i, rfl, tG_end q hr rfl⟩
  · exact q.elim
theorem s_max2 : SndC K W (fun xs H Q => ∃ i j, xs = [.int i, .int j] ∧ Q (.int (if j > i then j else i)) H) f_max2 := by
  intro r ih H xs us σ Q hr hx q
  unfold f_max2 at q
  split at q
  · rename_i i j
    obtain rfl := Rs.flats (f := IV.int) (fun _ _ => IV.noConfusion) (ns := [i, j]) hx
    exact ⟨i, j, rfl, tG_end q hr rfl⟩
  · exact q.elim
theorem s_min2 : SndC K W (fun xs H Q => ∃ i j, xs = [.int i, .int j] ∧ Q (.int (if j < i then j else i)) H) f_min2 := by
  intro r ih H xs us σ Q hr hx q
  unfold f_min2 at q
  split at q
  · rename_i i j
    obtain rfl := Rs.flats (f := IV.int) (fun _ _ => IV.noConfusion) (ns := [i, j]) hx
    exact ⟨i, j, rfl, tG_end q hr rfl⟩
  · exact q.elim
/-- one list of ints: what is known -/
theorem ints_got {r : List Addr} {ih : IH} {H : Hp} {xs : List IV} {us : List V} {σ : St} {Q : VK} {g : List Int → IH → Res IV} (hr : Rel K r ih H) (hx : Rs r xs us) (q : PGen R K W σ r (f_ints g xs ih) Q) :
    ∃ (a : Addr) (ns : List Int), us = [.ref a] ∧ SqL K H a (ns.map V.int) ∧ PGen R K W σ r (g ns ih) Q := by
  unfold f_ints at q
  split at q
  · rename_i n
    cases hx with
    | cons h1 h2 =>
      cases h2
      obtain ⟨a, ea, rfl⟩ := h1.ref
      split at q
      · rename_i o e1
        split at q
        · rename_i hl
          split at q
          · rename_i ns e2
            obtain ⟨ys, h3, h4⟩ := (hr.get n a _ ea e1).l hl
            rw [ints?_of e2] at h4
            obtain rfl := h4.flats fun _ _ => IV.noConfusion
            exact ⟨a, ns, rfl, h3, q⟩
          · exact q.elim
        · exact q.elim
      · exact q.elim
  · exact q.elim
theorem bls_got {r : List Addr} {ih : IH} {H : Hp} {xs : List IV} {us : List V} {σ : St} {Q : VK} {g : List Bool → IH → Res IV} (hr : Rel K r ih H) (hx : Rs r xs us) (q : PGen R K W σ r (f_bls g xs ih) Q) :
    ∃ (a : Addr) (ns : List Bool), us = [.ref a] ∧ SqL K H a (ns.map V.bl) ∧ PGen R K W σ r (g ns ih) Q := by
  unfold f_bls at q
  split at q
  · rename_i n
    cases hx with
    | cons h1 h2 =>
      cases h2
      obtain ⟨a, ea, rfl⟩ := h1.ref
      split at q
      · rename_i o e1
        split at q
        · rename_i hl
          split at q
          · rename_i ns e2
            obtain ⟨ys, h3, h4⟩ := (hr.get n a _ ea e1).l hl
            rw [bls?_of e2] at h4
            obtain rfl := h4.flats fun _ _ => IV.noConfusion
            exact ⟨a, ns, rfl, h3, q⟩
          · exact q.elim
        · exact q.elim
      · exact q.elim
  · exact q.elim
theorem s_sum : SndC K W (rSum K) f_sum := fun r ih H xs us σ Q hr hx q => let ⟨a, ns, e, h, q2⟩ := ints_got hr hx q; ⟨a, ns, e, h, tG_end q2 hr rfl⟩
theorem s_all : SndC K W (rAll K) f_all := fun r ih H xs us σ Q hr hx q => let ⟨a, ns, e, h, q2⟩ := bls_got hr hx q; ⟨a, ns, e, h, tG_end q2 hr rfl⟩
theorem s_any : SndC K W (rAny K) f_any := fun r ih H xs us σ Q hr hx q => let ⟨a, ns, e, h, q2⟩ := bls_got hr hx q; ⟨a, ns, e, h, tG_end q2 hr rfl⟩
theorem s_max1 : SndC K W (rMax K) f_max1 := fun r ih H xs us σ Q hr hx q => by
  obtain ⟨a, ns, e, h, q2⟩ := ints_got hr hx q
  split at q2
  · rename_i hl
    refine ⟨a, ns, e, h, hl, fun m hm hle => ?_⟩
    obtain ⟨h1, h2⟩ := maxI_spec hl
    have e2 : m = maxI ns := Int.le_antisymm (h2 m hm) (hle _ h1)
    rw [e2]
    exact tG_end q2 hr rfl
  · exact q2.elim
theorem s_min1 : SndC K W (rMin K) f_min1 := fun r ih H xs us σ Q hr hx q => by
  obtain ⟨a, ns, e, h, q2⟩ := ints_got hr hx q
  split at q2
  · rename_i hl
    refine ⟨a, ns, e, h, hl, fun m hm hle => ?_⟩
    obtain ⟨h1, h2⟩ := minI_spec hl
    have e2 : m = minI ns := Int.le_antisymm (hle _ h1) (h2 m hm)
    rw [e2]
    exact tG_end q2 hr rfl
  · exact q2.elim
theorem s_list : SndC K W (fun xs H Q => ∃ p ys, xs = [.ref p] ∧ (SqL K H p ys ∨ SqT K H p ys) ∧ ∀ l, H l = none → Q (.ref l) (upd H l (.lst ys))) f_list := by
  intro r ih H xs us σ Q hr hx q
  unfold f_list at q
  split at q
  · rename_i n
    cases hx with
    | cons h1 h2 =>
      cases h2
      obtain ⟨a, ea, rfl⟩ := h1.ref
      split at q
      · exact q.elim
      · exact q.elim
      · exact q.elim
      · rename_i o nd nk nc e1
        have ho := hr.get n a _ ea e1
        cases hl : o.isL with
        | true =>
          obtain ⟨ys, h3, h4⟩ := ho.l hl
          exact ⟨a, ys, rfl, .inl h3, fun l hp => end_lst q hr h4 hp⟩
        | false =>
          obtain ⟨ys, h3, h4⟩ := ho.t (MO.tf hl nd nc nk)
          exact ⟨a, ys, rfl, .inr h3, fun l hp => end_lst q hr h4 hp⟩
      · exact q.elim
  · exact q.elim
theorem s_tuple : SndC K W (fun xs H Q => ∃ p ys, xs = [.ref p] ∧ ((SqL K H p ys ∧ ∀ l, H l = none → Q (.ref l) (upd H l (.tup ys))) ∨ (SqT K H p ys ∧ Q (.ref p) H))) f_tuple := by
  intro r ih H xs us σ Q hr hx q
  unfold f_tuple at q
  split at q
  · rename_i n
    cases hx with
    | cons h1 h2 =>
      cases h2
      have h1' := h1
      obtain ⟨a, ea, rfl⟩ := h1.ref
      split at q
      · rename_i o e1
        have ho := hr.get n a _ ea e1
        split at q
        · rename_i hl
          obtain ⟨ys, h3, h4⟩ := ho.l hl
          exact ⟨a, ys, rfl, .inl ⟨h3, fun l hp => end_tup q hr h4 hp⟩⟩
        · split at q
          · rename_i hl
            obtain ⟨ys, h3, h4⟩ := ho.t hl
            exact ⟨a, ys, rfl, .inr ⟨h3, tG_end q hr h1'⟩⟩
          · exact q.elim
      · exact q.elim
  · exact q.elim
theorem s_isi : SndC K W (rIsi K) f_isi := by
  intro r ih H xs us σ Q hr hx q
  unfold f_isi at q
  split at q
  · rename_i x T
    obtain ⟨u, w, rfl, h1, h3⟩ := hx.two
    obtain rfl := h3.flat fun _ => IV.noConfusion
    · · split at q
        · rename_i t e1
          split at q
          · rename_i b e2
            have ty : TyX K H u (.type t) := by
              unfold tyN at e1
              split at e1
              · cases e1; obtain rfl := h1.flat fun _ => IV.noConfusion; exact .base .non
              · cases e1; obtain rfl := h1.flat fun _ => IV.noConfusion; exact .base (.bl _)
              · cases e1; obtain rfl := h1.flat fun _ => IV.noConfusion; exact .base (.int _)
              · cases e1; obtain rfl := h1.flat fun _ => IV.noConfusion; exact .base (.str _)
              · rename_i n
                obtain ⟨a, ea, rfl⟩ := h1.ref
                split at e1
                · rename_i xs e3
                  cases e1
                  obtain ⟨ys, h5, _⟩ := hr.get n a _ ea e3
                  exact .base (.lst h5)
                · rename_i xs e3
                  cases e1
                  obtain ⟨ys, h5, _⟩ := hr.get n a _ ea e3
                  exact .base (.tup h5)
                · rename_i e3
                  cases e1
                  obtain ⟨kvs, h5⟩ := hr.get n a _ ea e3
                  exact .base (.dK h5)
                · rename_i kvs e3
                  cases e1
                  obtain ⟨ys, h5, _⟩ := hr.get n a _ ea e3
                  exact .base (.dK h5)
                · cases e1
              · cases e1
            exact ⟨u, .ty T, .type t, .type T, b, rfl, .ty T, ty, kit_ty e2, tG_end q hr rfl⟩
          · exact q.elim
        · exact q.elim
  · exact q.elim
end
end L3
/-! L3e: methods; targets, statements, loops, comprehensions, calls, defs. -/
namespace L3
variable [TabT] [LamT]
open PySem L2

/-! ### methods of lists -/
def isLst (x : IV) (ih : IH) : Bool := match x with
  | .ref n => match ih[n]? with
    | some o => o.isL
    | none => false
  | _ => false
def m_mL (f : IV → List IV → IH → Res IV) (ma : Env → IH → Res IV) (mr : Env → IH → Res (List IV)) (env : Env) (ih : IH) : Res IV := (ma env ih).bind fun x ih1 => if isLst x ih1 = true then (mr env ih1).bind fun xs ih2 => f x xs ih2 else .stuck
def m_mL0 (f : IV → List IV → IH → Res IV) (ma : Env → IH → Res IV) (env : Env) (ih : IH) : Res IV := (ma env ih).bind fun x ih1 => if isLst x ih1 = true then f x [] ih1 else .stuck
def SndM (K : PySem.W.Frag) (W : WX) (rr : V → List V → Hp → VK → Prop) (f : IV → List IV → IH → Res IV) : Prop := ∀ (r : List Addr) (ih : IH) (H : Hp) (x : IV) (u : V) (xs : List IV) (us : List V) (σ : St) (Q : VK), Rel K r ih H → R r x u → Rs r xs us → PGen R K W σ r (f x xs ih) Q → rr u us H Q
def f_append (x : IV) (vs : List IV) (ih : IH) : Res IV := match x, vs with
  | .ref n, [y] => match ih[n]? with
    | some (.lst xs) => if xs.length < 100000 then .ok .non (ih.set n (.lst (xs ++ [y]))) else .stuck
    | _ => .stuck
  | _, _ => .stuck
def f_pop (x : IV) (vs : List IV) (ih : IH) : Res IV := match x, vs with
  | .ref n, [] => match ih[n]? with
    | some (.lst xs) => match xs[xs.length - 1]? with
      | some y => .ok y (ih.set n (.lst xs.dropLast))
      | none => .stuck
    | _ => .stuck
  | _, _ => .stuck
section
variable {X : Cx} {K : PySem.W.Frag} {W : WX} {a : Expr} {ma : Env → IH → Res IV}
theorem isLst_ty {r : List Addr} {ih : IH} {H : Hp} {x : IV} {u : V} (hr : Rel K r ih H) (hx : R r x u) (h : isLst x ih = true) : tyV K "list" u H := by
  unfold isLst at h
  split at h
  · rename_i n
    obtain ⟨a, ea, rfl⟩ := hx.ref
    split at h
    · rename_i o e1
      obtain ⟨ys, h1, _⟩ := (hr.get n a _ ea e1).l h
      exact .inl ⟨rfl, ys, h1⟩
    · cases h
  · cases h
theorem lm_mL {name : Str} {apos cpos : Pos} {id : String} {e : Expr} {es : List Expr} {rr : V → List V → Hp → VK → Prop} {f : IV → List IV → IH → Res IV} {mr : Env → IH → Res (List IV)} (slot : Slot "list" name id) (hty : typeOf (.builtin id) = pure (.type "method_descriptor")) (hm : MtR X id rr) (hf : SndM X.K W rr f)
    (ho : PE X a (tM X.K W ma)) (ha : PA X (e :: es) (tMA X.K W mr))
    (hbase : attributeBase a name X.env (eval a X.env) = eval a X.env := by rfl)
    (hfew : ((backTo cpos (starEach (e :: es) X.env)).all (fun x => !x.1) && (backToKw cpos (keywordEach [] X.env)).all (fun x => x.1.isSome)
      && decide ((e :: es).length + ([] : List Keyword).length + (if ([] : List Keyword).isEmpty then 0 else 1) < 30)) = true := by rfl)
    (hline : (apos.endLine == cpos.line) = true := by rfl) (hs : starEach (e :: es) X.env = (false, eval e X.env) :: starEach es X.env := by rfl) (hplain : (backTo cpos (starEach es X.env)).any (·.1) = false := by rfl) :
    PE X (.Call (.Attribute a name apos) (e :: es) [] cpos) (tM X.K W (m_mL f ma mr)) :=
  PE.of (pe_bm PySem.F.plainAttrs_list slot hty hm ho ha hbase hfew hline hs hplain) fun σ H Q ⟨r, ih, env, hr, he, q⟩ => tG.imp (tG_bind hr he q) fun u H1 ⟨r1, ih1, v, p, hr1, hv, q1⟩ => by
    dsimp only at q1
    by_cases hl : isLst v ih1 = true
    · rw [if_pos hl] at q1
      refine ⟨isLst_ty hr1 hv hl, ?_⟩
      exact tG.imp (tG_bind hr1 (he.mono p) q1) fun w H2 ⟨r2, ih2, y, p2, hr2, hy, q3⟩ => hf _ _ _ _ _ _ _ _ _ hr2 (hv.mono p2) hy q3
    · rw [if_neg hl] at q1
      exact q1.elim
theorem lm_mL0 {name : Str} {apos cpos : Pos} {id : String} {rr : V → List V → Hp → VK → Prop} {f : IV → List IV → IH → Res IV} (slot : Slot "list" name id) (hty : typeOf (.builtin id) = pure (.type "method_descriptor")) (hm : MtR X id rr) (hf : SndM X.K W rr f)
    (ho : PE X a (tM X.K W ma)) (hbase : attributeBase a name X.env (eval a X.env) = eval a X.env := by rfl) (hline : (apos.endLine == cpos.line) = true := by rfl) :
    PE X (.Call (.Attribute a name apos) [] [] cpos) (tM X.K W (m_mL0 f ma)) :=
  PE.of (pe_bm0 PySem.F.plainAttrs_list slot hty hm ho hbase hline) fun σ H Q ⟨r, ih, env, hr, he, q⟩ => tG.imp (tG_bind hr he q) fun u H1 ⟨r1, ih1, v, p, hr1, hv, q1⟩ => by
    dsimp only at q1
    by_cases hl : isLst v ih1 = true
    · rw [if_pos hl] at q1
      exact ⟨isLst_ty hr1 hv hl, hf _ _ _ _ _ _ _ _ _ hr1 hv .nil q1⟩
    · rw [if_neg hl] at q1
      exact q1.elim
/-- a list written -/
theorem end_set {r : List Addr} {ih : IH} {H : Hp} {σ : St} {Q : VK} {n : Nat} {a : Addr} {xs xs' : List IV} {ys : List V} {v : IV} {w : V} (q : PGen R K W σ r (.ok v (ih.set n (.lst xs'))) Q) (hr : Rel K r ih H) (e1 : r[n]? = some a) (e2 : ih[n]? = some (.lst xs)) (h : Rs r xs' ys) (hv : R r v w) : Q w (upd H a (.lst ys)) :=
  q _ _ _ (pre_refl r) (hr.write e1 e2 h) hv
theorem s_append : SndM K W rAppend f_append := by
  intro r ih H x u xs us σ Q hr hx hxs q
  unfold f_append at q
  split at q
  · rename_i n y
    obtain ⟨a, ea, rfl⟩ := hx.ref
    obtain ⟨w, rfl, hy⟩ := hxs.one
    split at q
    · rename_i zs e1
      obtain ⟨ys, h1, h2⟩ := hr.get n a _ ea e1
      split at q
      · rename_i hl
        exact ⟨a, ys, w, rfl, rfl, h1, by rw [← h2.length]; exact line5l hl, end_set q hr ea e1 (h2.append (.cons hy .nil)) rfl⟩
      · exact q.elim
    · exact q.elim
  · exact q.elim
theorem Rs.dropLast {r : List Addr} {xs : List IV} {us : List V} (h : Rs r xs us) : Rs r xs.dropLast us.dropLast := by
  rw [List.dropLast_eq_take, List.dropLast_eq_take, h.length]
  exact h.take _
theorem s_pop : SndM K W rPop f_pop := by
  intro r ih H x u xs us σ Q hr hx hxs q
  unfold f_pop at q
  split at q
  · rename_i n
    obtain ⟨a, ea, rfl⟩ := hx.ref
    cases hxs
    split at q
    · rename_i zs e1
      obtain ⟨ys, h1, h2⟩ := hr.get n a _ ea e1
      split at q
      · rename_i y e2
        obtain ⟨w, h3, h4⟩ := h2.get e2
        exact ⟨a, ys, w, rfl, rfl, h1, by rw [← h2.length]; exact h3, end_set q hr ea e1 h2.dropLast h4⟩
      · exact q.elim
    · exact q.elim
  · exact q.elim
end

/-! ### targets -/
/-- a target's rule follows its mirror; ks: the slots that it sets -/
def SndG (K : PySem.W.Frag) (ks : List Nat) (g : TG) (f : IV → Env → IH → Option Env) : Prop := ∀ (r : List Addr) (ih : IH) (H : Hp) (v : IV) (u : V) (env : Env) (σ : St) (Q : St → Hp → Prop), Rel K r ih H → R r v u → REnv r env σ →
  (∃ env', f v env ih = some env' ∧ ∀ σ', REnv r env' σ' → σ'.length = σ.length → (∀ j, j ∉ ks → σ'[j]? = σ[j]?) → Q σ' H) → g u σ H Q
def SndGs (K : PySem.W.Frag) (ks : List Nat) (g : TGs) (f : List IV → Env → IH → Option Env) : Prop := ∀ (r : List Addr) (ih : IH) (H : Hp) (v : List IV) (u : List V) (env : Env) (σ : St) (Q : St → Hp → Prop), Rel K r ih H → Rs r v u → REnv r env σ →
  (∃ env', f v env ih = some env' ∧ ∀ σ', REnv r env' σ' → σ'.length = σ.length → (∀ j, j ∉ ks → σ'[j]? = σ[j]?) → Q σ' H) → g u σ H Q
def g_nm (i : Nat) (v : IV) (env : Env) (_ : IH) : Option Env := some (env.set i (some v))
def g_nil (vs : List IV) (env : Env) (_ : IH) : Option Env := match vs with
  | [] => some env
  | _ :: _ => none
def g_cons (f : IV → Env → IH → Option Env) (g : List IV → Env → IH → Option Env) (vs : List IV) (env : Env) (ih : IH) : Option Env := match vs with
  | v :: r => (f v env ih).bind fun env' => g r env' ih
  | [] => none
def g_tup (n : Nat) (f : List IV → Env → IH → Option Env) (v : IV) (env : Env) (ih : IH) : Option Env := match v with
  | .ref k => match ih[k]? with
    | some o => if o.isT = true ∧ o.xs.length = n then f o.xs env ih else none
    | none => none
  | _ => none
def g_lst (n : Nat) (f : List IV → Env → IH → Option Env) (v : IV) (env : Env) (ih : IH) : Option Env := match v with
  | .ref k => match ih[k]? with
    | some o => if o.isL = true ∧ o.xs.length = n then f o.xs env ih else none
    | none => none
  | _ => none
section
variable {K : PySem.W.Frag}
theorem sg_nm (i : Nat) : SndG K [i] (gName i) (g_nm i) := fun r ih H v u env σ Q hr hv he ⟨env', e, q⟩ => by
  cases e
  exact q _ (he.set hv i) (by rw [List.length_set]) fun j hj => List.getElem?_set_ne (fun z => hj (by rw [z]; exact List.mem_singleton.mpr rfl))
theorem sg_nil : SndGs K [] gNil g_nil := fun r ih H v u env σ Q hr hv he ⟨env', e, q⟩ => by
  cases v with
  | nil =>
    cases hv
    cases e
    exact ⟨rfl, q σ he rfl fun _ _ => rfl⟩
  | cons a b => cases e
theorem sg_cons {ks ls : List Nat} {t : TG} {u : TGs} {f : IV → Env → IH → Option Env} {g : List IV → Env → IH → Option Env} (h1 : SndG K ks t f) (h2 : SndGs K ls u g) : SndGs K (ks ++ ls) (gCons t u) (g_cons f g) := fun r ih H v u env σ Q hr hv he ⟨env', e, q⟩ => by
  cases hv with
  | nil => cases e
  | cons a b =>
    obtain ⟨env1, e1, e2⟩ := Option.bind_eq_some_iff.mp e
    refine ⟨_, _, rfl, h1 r ih H _ _ env σ _ hr a he ⟨env1, e1, fun σ1 he1 l1 k1 => ?_⟩⟩
    exact h2 r ih H _ _ env1 σ1 _ hr b he1 ⟨env', e2, fun σ2 he2 l2 k2 => q σ2 he2 (l2.trans l1) fun j hj => (k2 j fun z => hj (List.mem_append_right _ z)).trans (k1 j fun z => hj (List.mem_append_left _ z))⟩
theorem sg_tup {n : Nat} {ks : List Nat} {t : TGs} {f : List IV → Env → IH → Option Env} (h : SndGs K ks t f) : SndG K ks (gTup K n t) (g_tup n f) := fun r ih H v u env σ Q hr hv he ⟨env', e, q⟩ => by
  unfold g_tup at e
  split at e
  · rename_i k _
    obtain ⟨a, ea, rfl⟩ := hv.ref
    split at e
    · rename_i o e1
      split at e
      · rename_i hl
        obtain ⟨ys, h3, h4⟩ := (hr.get k a _ ea e1).t hl.1
        exact ⟨a, ys, rfl, h3, by rw [← h4.length]; exact hl.2, h r ih H _ _ env σ _ hr h4 he ⟨env', e, q⟩⟩
      · cases e
    · cases e
  · cases e
theorem sg_lst {n : Nat} {ks : List Nat} {t : TGs} {f : List IV → Env → IH → Option Env} (h : SndGs K ks t f) : SndG K ks (gLst K n t) (g_lst n f) := fun r ih H v u env σ Q hr hv he ⟨env', e, q⟩ => by
  unfold g_lst at e
  split at e
  · rename_i k _
    obtain ⟨a, ea, rfl⟩ := hv.ref
    split at e
    · rename_i o e1
      split at e
      · rename_i hl
        obtain ⟨ys, h3, h4⟩ := (hr.get k a _ ea e1).l hl.1
        exact ⟨a, ys, rfl, h3, by rw [← h4.length]; exact hl.2, h r ih H _ _ env σ _ hr h4 he ⟨env', e, q⟩⟩
      · cases e
    · cases e
  · cases e
end

/-! ### statements -/
def ms_set (g : IV → Env → IH → Option Env) (m : Env → IH → Res IV) (env : Env) (ih : IH) : RS := (m env ih).stm env fun v ih1 => match g v env ih1 with
  | some env' => .ok (.next env') ih1
  | none => .stuck
def ms_expr (m : Env → IH → Res IV) (env : Env) (ih : IH) : RS := (m env ih).stm env fun _ ih1 => .ok (.next env) ih1
def ms_ret (m : Env → IH → Res IV) (env : Env) (ih : IH) : RS := (m env ih).stm env fun v ih1 => .ok (.ret v) ih1
def ms_retN (_ : Env) (ih : IH) : RS := .ok (.ret .non) ih
def ms_pass (env : Env) (ih : IH) : RS := .ok (.next env) ih
def ms_brk (env : Env) (ih : IH) : RS := .ok (.brk env) ih
def ms_cont (env : Env) (ih : IH) : RS := .ok (.cont env) ih
def ms_if (n : Env → IH → Res Bool) (ma mb : Env → IH → RS) (env : Env) (ih : IH) : RS := (n env ih).stm env fun b ih1 => if b = true then ma env ih1 else mb env ih1
def RS.seq (r : RS) (k : Env → IH → RS) : RS := match r with
  | .ok (.next env) ih => k env ih
  | z => z
@[simp] theorem RS.seq_next (env : Env) (ih : IH) (k : Env → IH → RS) : (RS.ok (.next env) ih).seq k = k env ih := rfl
@[simp] theorem RS.seq_ret (v : IV) (ih : IH) (k : Env → IH → RS) : (RS.ok (.ret v) ih).seq k = .ok (.ret v) ih := rfl
@[simp] theorem RS.seq_brk (v : Env) (ih : IH) (k : Env → IH → RS) : (RS.ok (.brk v) ih).seq k = .ok (.brk v) ih := rfl
@[simp] theorem RS.seq_cont (v : Env) (ih : IH) (k : Env → IH → RS) : (RS.ok (.cont v) ih).seq k = .ok (.cont v) ih := rfl
@[simp] theorem RS.seq_exc (c : Addr) (env : Env) (ih : IH) (k : Env → IH → RS) : (RS.exc c env ih).seq k = .exc c env ih := rfl
@[simp] theorem RS.seq_stuck (k : Env → IH → RS) : RS.stuck.seq k = .stuck := rfl
def ms_seq (ma mb : Env → IH → RS) (env : Env) (ih : IH) : RS := (ma env ih).seq mb
def ms_aug (i : Nat) (f : IV → IV → IH → Res IV) (m : Env → IH → Res IV) (env : Env) (ih : IH) : RS := match env[i]? with
  | some (some x) => (m env ih).stm env fun y ih1 => (f x y ih1).stm env fun z ih2 => .ok (.next (env.set i (some z))) ih2
  | _ => .stuck
def ms_par (i j : Nat) (m : Env → IH → Res (List IV)) (env : Env) (ih : IH) : RS := (m env ih).stm env fun vs ih1 => match vs with
  | [v, w] => .ok (.next ((env.set i (some v)).set j (some w))) ih1
  | _ => .stuck
/-- o[i] = v for a list -/
def f_setL (o i v : IV) (ih : IH) : Option IH := match o, i with
  | .ref n, .int k => match ih[n]? with
    | some (.lst xs) => match ixN xs.length k with
      | some j => some (ih.set n (.lst (xs.set j v)))
      | none => none
    | _ => none
  | _, _ => none
def ms_setL (m mo mi : Env → IH → Res IV) (env : Env) (ih : IH) : RS := (m env ih).stm env fun v ih1 => (mo env ih1).stm env fun o ih2 => (mi env ih2).stm env fun i ih3 => match f_setL o i v ih3 with
  | some ih4 => .ok (.next env) ih4
  | none => .stuck
def ms_raise (c : Addr) (env : Env) (ih : IH) : RS := .exc c env ih
section
variable {X : Cx} {K : PySem.W.Frag} {W : WX} {e : Expr} {m mo mi : Env → IH → Res IV} {n : Env → IH → Res Bool} {sa sb : Env → IH → RS} {pos : Pos} {r : List Addr} {ih : IH} {env : Env} {H : Hp} {σ : St} {D : Ends}
theorem st_end (h : PStm K W r (.ok (.next env) ih) D) (hr : Rel K r ih H) (he : REnv r env σ) : D.nx σ H := h r H σ (pre_refl r) hr he
theorem st_ret {v : IV} {u : V} (h : PStm K W r (.ok (.ret v) ih) D) (hr : Rel K r ih H) (hv : R r v u) : D.rt u H := h r H u (pre_refl r) hr hv
/-- the core of an assignment -/
theorem set_core {ks : List Nat} {g : TG} {f : IV → Env → IH → Option Env} (hg : SndG X.K ks g f) (h : tMS X.K W (ms_set f m) D σ H) : tM X.K W m σ H fun x H1 => g x σ H1 D.nx := by
  obtain ⟨r, ih, env, hr, he, q⟩ := h
  refine tG.imp (tG_stm hr he q) fun u H1 ⟨r1, ih1, v, p, hr1, hv, q1⟩ => ?_
  dsimp only at q1
  refine hg r1 ih1 H1 v u env σ _ hr1 hv (he.mono p) ?_
  cases e : f v env ih1 with
  | some env' =>
    rw [e] at q1
    exact ⟨env', rfl, fun σ' he' _ _ => st_end q1 hr1 he'⟩
  | none =>
    rw [e] at q1
    exact q1.elim
theorem ls_set {i : Nat} {x : Str} {pos' : Pos} (hN : X.N.Nodup) (hi : X.N[i]? = some x) (hx : Loc X.env.scope x) (he : PE X e (tM X.K W m)) (hs : swapsWith e (some (.Name x pos')) pos.line X.env = pure false := by rfl)
    (hf : X.fn x = true ∨ X.env.scope.names.lookup x = some .local := by first | exact .inl rfl | exact .inr rfl | assumption) : PS X (.Assign [.Name x pos'] e pos) (tMS X.K W (ms_set (g_nm i) m)) :=
  PS.of (ps_set hN hi hx he hs hf) fun D σ H h => set_core (sg_nm i) h
theorem ls_asg {tg : Expr} {ks : List Nat} {g : TG} {f : IV → Env → IH → Option Env} (he : PE X e (tM X.K W m)) (hg : PG X tg g) (sg : SndG X.K ks g f) (hs : swapsWithSole [tg] e pos.line X.env = pure false := by rfl) (hw : swappedStores [tg] e X.env = pure none := by rfl) (h1 : (assignEach [tg] X.env).map (·.2) = [assign tg X.env] := by rfl) :
    PS X (.Assign [tg] e pos) (tMS X.K W (ms_set f m)) := PS.of (ps_asg he hg hs hw h1) fun D σ H h => set_core sg h
theorem ls_expr (he : PE X e (tM X.K W m)) (hs : swapsWith e none pos.line X.env = pure false := by rfl) : PS X (.Expr e pos) (tMS X.K W (ms_expr m)) :=
  PS.of (ps_expr he hs) fun D σ H ⟨r, ih, env, hr, he, q⟩ => tG.imp (tG_stm hr he q) fun u H1 ⟨r1, ih1, v, p, hr1, hv, q1⟩ => st_end q1 hr1 (he.mono p)
theorem ls_ret (he : PE X e (tM X.K W m)) : PS X (.Return (some e) pos) (tMS X.K W (ms_ret m)) :=
  PS.of (ps_ret he) fun D σ H ⟨r, ih, env, hr, he, q⟩ => tG.imp (tG_stm hr he q) fun u H1 ⟨r1, ih1, v, p, hr1, hv, q1⟩ => st_ret q1 hr1 hv
theorem ls_retN : PS X (.Return none pos) (tMS X.K W ms_retN) := PS.of ps_retN fun D σ H ⟨r, ih, env, hr, he, q⟩ => st_ret q hr rfl
theorem ls_pass : PS X (.Pass pos) (tMS X.K W ms_pass) := PS.of ps_pass fun D σ H ⟨r, ih, env, hr, he, q⟩ => st_end q hr he
theorem ls_brk : PS X (.Break pos) (tMS X.K W ms_brk) := PS.of ps_break fun D σ H ⟨r, ih, env, hr, he, q⟩ => q r H σ (pre_refl r) hr he
theorem ls_cont : PS X (.Continue pos) (tMS X.K W ms_cont) := PS.of ps_continue fun D σ H ⟨r, ih, env, hr, he, q⟩ => q r H σ (pre_refl r) hr he
theorem ls_if {c : Expr} {a b : List Stmt} (hc : PT X c (tMT X.K W n)) (ha : PSs X a (tMS X.K W sa)) (hb : PSs X b (tMS X.K W sb)) : PS X (.If c a b pos) (tMS X.K W (ms_if n sa sb)) :=
  PS.of (ps_if hc ha hb) fun D σ H ⟨r, ih, env, hr, he, q⟩ => tG.imp (tG_stm hr he q) fun u H1 ⟨r1, ih1, v, p, hr1, hv, q1⟩ => by
    obtain rfl : u = v := hv
    cases u with
    | true => exact ⟨r1, ih1, env, hr1, he.mono p, q1⟩
    | false => exact ⟨r1, ih1, env, hr1, he.mono p, q1⟩
theorem lss_nil : PSs X [] (tMS X.K W ms_pass) := PSs.of pss_nil fun D σ H ⟨r, ih, env, hr, he, q⟩ => st_end q hr he
theorem lss_one {st : Stmt} (h : PS X st (tMS X.K W sa)) : PSs X [st] (tMS X.K W sa) := pss_one h
theorem lss_cons {st : Stmt} {rest : List Stmt} (h1 : PS X st (tMS X.K W sa)) (h2 : PSs X rest (tMS X.K W sb)) : PSs X (st :: rest) (tMS X.K W (ms_seq sa sb)) :=
  PSs.of (pss_cons h1 h2) fun D σ H ⟨r, ih, env, hr, he, q⟩ => by
    refine ⟨r, ih, env, hr, he, ?_⟩
    unfold ms_seq at q
    cases e : sa env ih with
    | ok f ih1 =>
      rw [e] at q
      cases f with
      | next env1 => exact fun r' H' σ' p hr' he' => ⟨r', ih1, env1, hr', he', PStm.mono p q⟩
      | brk env1 => exact q
      | cont env1 => exact q
      | ret v => exact q
    | exc c env1 ih1 => rw [e] at q; exact q
    | stuck => rw [e] at q; exact q
theorem ls_aug {i : Nat} {x : Str} {op : Operator} {rr : R2} {f : IV → IV → IH → Res IV} {pos' : Pos} (hN : X.N.Nodup) (hi : X.N[i]? = some x) (hx : Loc X.env.scope x) (ho : OpR X (inplaceOp op) rr) (hf : Snd2 X.K W rr f) (he : PE X e (tM X.K W m))
    (hfn : X.fn x = true ∨ X.env.scope.names.lookup x = some .local := by first | exact .inl rfl | exact .inr rfl | assumption) : PS X (.AugAssign (.Name x pos') op e pos) (tMS X.K W (ms_aug i f m)) :=
  PS.of (ps_aug (ti := rr) hN hi hx he (fun pins s σ H x y v u Q I rx ry q => ho pins s σ H x y v u Q I rx ry q) hfn) fun D σ H ⟨r, ih, env, hr, he, q⟩ => by
    unfold ms_aug at q
    split at q
    · rename_i v0 e0
      obtain ⟨u0, h1, h2⟩ := he.2 i v0 e0
      refine ⟨u0, h1, tG.imp (tG_stm hr he q) fun u H1 ⟨r1, ih1, v, p, hr1, hv, q1⟩ => ?_⟩
      dsimp only at q1
      refine hf r1 ih1 H1 v0 v u0 u σ _ hr1 (h2.mono p) hv ?_
      cases e : f v0 v ih1 with
      | ok z ih2 =>
        rw [e] at q1
        exact fun r' H' w p' hr' hw => q1 r' H' _ p' hr' ((he.mono (pre_trans p p')).set hw i)
      | exc c ih2 =>
        rw [e] at q1
        exact fun r' H' p' hr' => q1 r' H' σ p' hr' (he.mono (pre_trans p p'))
      | stuck =>
        rw [e] at q1
        exact q1
    · exact q.elim
theorem ls_par {i j : Nat} {x y : Str} {a b : Expr} {mm : Env → IH → Res (List IV)} {px py pt : Pos} {kt k2 : Nat} {pt2 : Pos} (hP : ∀ {ta : TA}, PA X [a, b] ta → PS X (.Assign [.Tuple [.Name x px, .Name y py] kt pt] (.Tuple [a, b] k2 pt2) pos) (tPar i j ta))
    (ha : PA X [a, b] (tMA X.K W mm)) : PS X (.Assign [.Tuple [.Name x px, .Name y py] kt pt] (.Tuple [a, b] k2 pt2) pos) (tMS X.K W (ms_par i j mm)) :=
  PS.of (hP ha) fun D σ H ⟨r, ih, env, hr, he, q⟩ => tG.imp (tG_stm hr he q) fun us H1 ⟨r1, ih1, vs, p, hr1, hv, q1⟩ => by
    dsimp only at q1
    split at q1
    · rename_i v w
      obtain ⟨u1, u2, rfl, h1, h2⟩ := hv.two
      exact ⟨u1, u2, rfl, st_end q1 hr1 (((he.mono p).set h1 i).set h2 j)⟩
    · exact q1.elim
theorem ls_setL {o i : Expr} {tpos : Pos} (he : PE X e (tM X.K W m)) (hg : ∀ {to ti : TE}, PE X o to → PE X i ti → PG X (.Subscript o i tpos) (gSub to ti rSetL)) (ho : PE X o (tM X.K W mo)) (hi : PE X i (tM X.K W mi))
    (hs : swapsWithSole [.Subscript o i tpos] e pos.line X.env = pure false := by rfl) (hw : swappedStores [.Subscript o i tpos] e X.env = pure none := by rfl) : PS X (.Assign [.Subscript o i tpos] e pos) (tMS X.K W (ms_setL m mo mi)) :=
  PS.of (ps_asg he (hg ho hi) hs hw) fun D σ H ⟨r, ih, env, hr, he, q⟩ => tG.imp (tG_stm hr he q) fun u H1 ⟨r1, ih1, v, p, hr1, hv, q1⟩ =>
    tG.imp (tG_stm hr1 (he.mono p) q1) fun u2 H2 ⟨r2, ih2, v2, p2, hr2, hv2, q2⟩ => tG.imp (tG_stm hr2 ((he.mono p).mono p2) q2) fun u3 H3 ⟨r3, ih3, v3, p3, hr3, hv3, q3⟩ => by
      dsimp only at q3
      cases e : f_setL v2 v3 v ih3 with
      | some ih4 =>
        rw [e] at q3
        unfold f_setL at e
        split at e
        · rename_i n k _
          obtain ⟨a, ea, rfl⟩ := (hv2.mono p3).ref
          obtain rfl : u3 = .int k := hv3
          split at e
          · rename_i xs e1
            obtain ⟨ys, h1, h2⟩ := hr3.get n a _ ea e1
            split at e
            · rename_i j ej
              cases e
              refine ⟨a, ys, k, j, rfl, rfl, h1, by rw [← h2.length]; exact ej, ?_⟩
              exact q3 r3 _ σ (pre_refl r3) (hr3.write ea e1 (h2.set ((hv.mono p2).mono p3) j)) (((he.mono p).mono p2).mono p3)
            · cases e
          · cases e
        · cases e
      | none =>
        rw [e] at q3
        exact q3.elim
theorem ls_raise {C : Addr} {bmB : List Value} {B newId initId : String} {x mm : Str} {j : Nat} {p p2 pos pos2 : Pos} (hc : X.calm = true) (tk : Takes X W) (F : ExcBaseFacts B newId initId bmB) (q : PySem.W.excIn X.K C bmB newId = true) (gC : X.mg x = some (.ref C)) (kC : PySem.W.keepIn X.K (.ref C) = true) (r : Raises X (.ref C)) (hg : Gl X x)
    (hdb : (x == ("__debug__" : Str)) = false := by decide) : PS X (.Raise (some (.Call (.Name x p) [.Constant (.str mm) j p2] [] pos)) none pos2) (tMS X.K W (ms_raise C)) :=
  PS.of (ps_raise hc tk (pmk_own F q gC kC r hg hdb)) fun D σ H ⟨r, ih, env, hr, he, q⟩ => q r H σ (pre_refl r) hr he
end
end L3
/-! L3f: what is walked, loops, comprehensions. -/
namespace L3
variable [TabT] [LamT]
open PySem L2

/-! ### what is walked -/
inductive Src where
  | lst (n : Nat) | tup (n : Nat) | rng (lo c : Int) (k : Nat) | enm (n : Nat) | zip (n m : Nat)
/-- the i-th turn: stuck, the end, or an item (the heap may grow) -/
inductive Tr where
  | stuck | stop | item (v : IV) (ih : IH)
def MO.isK (o : MO) : Bool → Bool
  | true => o.isL
  | false => o.isT
def lAt (ih : IH) (n : Nat) (l : Bool) : Option (List IV) := match ih[n]? with
  | some o => if o.isK l = true then some o.xs else none
  | none => none
def Src.turn (s : Src) (i : Nat) (ih : IH) : Tr := match s with
  | .lst n => match lAt ih n true with
    | some xs => match xs[i]? with
      | some v => .item v ih
      | none => .stop
    | none => .stuck
  | .tup n => match lAt ih n false with
    | some xs => match xs[i]? with
      | some v => .item v ih
      | none => .stop
    | none => .stuck
  | .rng lo c k => if i < k then .item (.int (lo + (i : Int) * c)) ih else .stop
  | .enm n => match lAt ih n true with
    | some xs => match xs[i]? with
      | some v => .item (.ref ih.length) (ih ++ [.tup [.int (i : Int), v]])
      | none => .stop
    | none => .stuck
  | .zip n m => match lAt ih n true, lAt ih m true with
    | some xs, some ys => match xs[i]?, ys[i]? with
      | some v, some w => .item (.ref ih.length) (ih ++ [.tup [v, w]])
      | _, _ => .stop
    | _, _ => .stuck
/-- how many turns there are at most -/
def Src.size (s : Src) (ih : IH) : Nat := match s with
  | .lst n => match ih[n]? with
    | some o => o.xs.length
    | none => 0
  | .tup n => match ih[n]? with
    | some o => o.xs.length
    | none => 0
  | .rng _ _ k => k
  | .enm n => match ih[n]? with
    | some o => o.xs.length
    | none => 0
  | .zip n _ => match ih[n]? with
    | some o => o.xs.length
    | none => 0
def SRel (K : PySem.W.Frag) (r : List Addr) (s : Src) (J : It) : Prop := match s with
  | .lst n => ∃ a, r[n]? = some a ∧ J = Itl K a
  | .tup n => ∃ a, r[n]? = some a ∧ J = Itt K a
  | .rng lo c k => J.go = (fun i _ => i < k) ∧ J.yld = (fun i H x H' => H' = H ∧ x = .int (lo + (i : Int) * c)) ∧ J.stop = fun i _ => k ≤ i
  | .enm n => ∃ a, r[n]? = some a ∧ J = Ite K a
  | .zip n m => ∃ a b, r[n]? = some a ∧ r[m]? = some b ∧ J = Itz K a b
section
variable {K : PySem.W.Frag} {r r' : List Addr} {ih : IH} {H : Hp}
theorem lAt_l {n : Nat} {xs : List IV} {a : Addr} (hr : Rel K r ih H) (ea : r[n]? = some a) (h : lAt ih n true = some xs) : ∃ ys, SqL K H a ys ∧ Rs r xs ys := by
  unfold lAt at h
  split at h
  · rename_i o e
    split at h
    · rename_i hl
      cases h
      exact (hr.get n a _ ea e).l hl
    · cases h
  · cases h
theorem lAt_t {n : Nat} {xs : List IV} {a : Addr} (hr : Rel K r ih H) (ea : r[n]? = some a) (h : lAt ih n false = some xs) : ∃ ys, SqT K H a ys ∧ Rs r xs ys := by
  unfold lAt at h
  split at h
  · rename_i o e
    split at h
    · rename_i hl
      cases h
      exact (hr.get n a _ ea e).t hl
    · cases h
  · cases h
theorem Rs.none {xs : List IV} {ys : List V} {i : Nat} (h : Rs r xs ys) (e : xs[i]? = none) : ys.length ≤ i := by
  rw [← h.length]
  exact List.getElem?_eq_none_iff.mp e
/-- a turn of the mirror is a turn of the iterator -/
theorem turn_ok {s : Src} {J : It} {i : Nat} (hj : SRel K r s J) (hr : Rel K r ih H) : match s.turn i ih with
    | .stuck => True
    | .stop => J.stop i H
    | .item v ih1 => J.go i H ∧ ∀ x H', J.yld i H x H' → ∃ r1, r <+: r1 ∧ Rel K r1 ih1 H' ∧ R r1 v x := by
  cases s with
  | lst n =>
    obtain ⟨a, ea, rfl⟩ := hj
    unfold Src.turn
    dsimp only
    cases e : lAt ih n true with
    | none => trivial
    | some xs =>
      obtain ⟨ys, h1, h2⟩ := lAt_l hr ea e
      dsimp only
      cases e2 : xs[i]? with
      | none => exact ⟨ys, h1, h2.none e2⟩
      | some v =>
        obtain ⟨y, h3, h4⟩ := h2.get e2
        refine ⟨⟨ys, y, h1, h3⟩, fun x H' hy => ?_⟩
        obtain ⟨rfl, hy⟩ := hy
        have := (hy _ h1).symm.trans h3
        cases this
        exact ⟨r, pre_refl r, hr, h4⟩
  | tup n =>
    obtain ⟨a, ea, rfl⟩ := hj
    unfold Src.turn
    dsimp only
    cases e : lAt ih n false with
    | none => trivial
    | some xs =>
      obtain ⟨ys, h1, h2⟩ := lAt_t hr ea e
      dsimp only
      cases e2 : xs[i]? with
      | none => exact ⟨ys, h1, h2.none e2⟩
      | some v =>
        obtain ⟨y, h3, h4⟩ := h2.get e2
        refine ⟨⟨ys, y, h1, h3⟩, fun x H' hy => ?_⟩
        obtain ⟨rfl, hy⟩ := hy
        have := (hy _ h1).symm.trans h3
        cases this
        exact ⟨r, pre_refl r, hr, h4⟩
  | rng lo c k =>
    obtain ⟨h1, h2, h3⟩ := hj
    unfold Src.turn
    dsimp only
    by_cases hk : i < k
    · rw [if_pos hk]
      dsimp only
      rw [h1, h2]
      refine ⟨hk, fun x H' hy => ?_⟩
      obtain ⟨rfl, rfl⟩ := hy
      exact ⟨r, pre_refl r, hr, rfl⟩
    · rw [if_neg hk]
      dsimp only
      rw [h3]
      exact Nat.le_of_not_lt hk
  | enm n =>
    obtain ⟨a, ea, rfl⟩ := hj
    unfold Src.turn
    dsimp only
    cases e : lAt ih n true with
    | none => trivial
    | some xs =>
      obtain ⟨ys, h1, h2⟩ := lAt_l hr ea e
      dsimp only
      cases e2 : xs[i]? with
      | none => exact ⟨ys, h1, h2.none e2⟩
      | some v =>
        obtain ⟨y, h3, h4⟩ := h2.get e2
        refine ⟨⟨ys, y, h1, h3⟩, fun x H' hy => ?_⟩
        obtain ⟨T, z, rfl, hT, rfl, hy⟩ := hy
        have := (hy _ h1).symm.trans h3
        cases this
        exact ⟨r ++ [T], pre_one, hr.new hT rfl fun H' e => ⟨_, e, .cons rfl (.cons h4 .nil)⟩, R.newest hr.len⟩
  | zip n m =>
    obtain ⟨a, b, ea, eb, rfl⟩ := hj
    unfold Src.turn
    dsimp only
    cases e : lAt ih n true with
    | none => trivial
    | some xs =>
      cases e' : lAt ih m true with
      | none => trivial
      | some zs =>
        obtain ⟨ys, h1, h2⟩ := lAt_l hr ea e
        obtain ⟨ws, k1, k2⟩ := lAt_l hr eb e'
        dsimp only
        cases e2 : xs[i]? with
        | none => exact ⟨ys, ws, h1, k1, .inl (h2.none e2)⟩
        | some v =>
          cases e3 : zs[i]? with
          | none => exact ⟨ys, ws, h1, k1, .inr (k2.none e3)⟩
          | some w =>
            obtain ⟨y, h3, h4⟩ := h2.get e2
            obtain ⟨z, k3, k4⟩ := k2.get e3
            refine ⟨⟨ys, ws, y, z, h1, k1, h3, k3⟩, fun x H' hy => ?_⟩
            obtain ⟨T, p, q, rfl, hT, rfl, hy, hz⟩ := hy
            have g1 := (hy _ h1).symm.trans h3
            have g2 := (hz _ k1).symm.trans k3
            cases g1
            cases g2
            exact ⟨r ++ [T], pre_one, hr.new hT rfl fun H' e => ⟨_, e, .cons h4 (.cons k4 .nil)⟩, R.newest hr.len⟩
theorem SRel.mono {s : Src} {J : It} (p : r <+: r') (h : SRel K r s J) : SRel K r' s J := by
  cases s with
  | lst n => obtain ⟨a, e, h⟩ := h; exact ⟨a, pre_get p e, h⟩
  | tup n => obtain ⟨a, e, h⟩ := h; exact ⟨a, pre_get p e, h⟩
  | rng lo c k => exact h
  | enm n => obtain ⟨a, e, h⟩ := h; exact ⟨a, pre_get p e, h⟩
  | zip n m => obtain ⟨a, b, e, e2, h⟩ := h; exact ⟨a, b, pre_get p e, pre_get p e2, h⟩
end
abbrev tMI (K : PySem.W.Frag) (W : WX) (m : Env → IH → Res Src) : TI := tG (SRel K) K W m
def mi_lst (m : Env → IH → Res IV) (env : Env) (ih : IH) : Res Src := (m env ih).bind fun v ih1 => match v with
  | .ref n => match lAt ih1 n true with
    | some _ => .ok (.lst n) ih1
    | none => .stuck
  | _ => .stuck
def mi_tup (m : Env → IH → Res IV) (env : Env) (ih : IH) : Res Src := (m env ih).bind fun v ih1 => match v with
  | .ref n => match lAt ih1 n false with
    | some _ => .ok (.tup n) ih1
    | none => .stuck
  | _ => .stuck
def mi_enm (m : Env → IH → Res (List IV)) (env : Env) (ih : IH) : Res Src := (m env ih).bind fun vs ih1 => match vs with
  | [.ref n] => match lAt ih1 n true with
    | some _ => .ok (.enm n) ih1
    | none => .stuck
  | _ => .stuck
def mi_zip (m : Env → IH → Res (List IV)) (env : Env) (ih : IH) : Res Src := (m env ih).bind fun vs ih1 => match vs with
  | [.ref n, .ref k] => match lAt ih1 n true, lAt ih1 k true with
    | some _, some _ => .ok (.zip n k) ih1
    | _, _ => .stuck
  | _ => .stuck
def smallI (i : Int) : Bool := decide (-(2 ^ 62) ≤ i) && decide (i < 2 ^ 62)
def mi_rng1 (m : Env → IH → Res (List IV)) (env : Env) (ih : IH) : Res Src := (m env ih).bind fun vs ih1 => match vs with
  | [.int j] => if smallI j = true then .ok (.rng 0 1 j.toNat) ih1 else .stuck
  | _ => .stuck
def mi_rng2 (m : Env → IH → Res (List IV)) (env : Env) (ih : IH) : Res Src := (m env ih).bind fun vs ih1 => match vs with
  | [.int i, .int j] => if smallI i = true ∧ smallI j = true then .ok (.rng i 1 (j - i).toNat) ih1 else .stuck
  | _ => .stuck
theorem smallI_of {i : Int} (h : smallI i = true) : -(2 ^ 62) ≤ i ∧ i < 2 ^ 62 := by
  unfold smallI at h
  rw [Bool.and_eq_true] at h
  exact ⟨of_decide_eq_true h.1, of_decide_eq_true h.2⟩
section
variable {X : Cx} {W : WX} {tg e e2 : Expr} {m : Env → IH → Res IV} {ml : Env → IH → Res (List IV)} {p pos tpos : Pos} {elts : List Expr} {kk : Nat}
theorem PI.of {t t' : TI} (h : PI X tg e t) (w : ∀ σ H Q, t' σ H Q → t σ H Q) : PI X tg e t' := ⟨fun pins s σ H Q I q => h.run pins s σ H Q I (w σ H Q q)⟩
theorem li_lst (h : PE X e (tM X.K W m)) : PI X tg e (tMI X.K W (mi_lst m)) := PI.of (pi_list h) fun σ H Q ⟨r, ih, env, hr, he, q⟩ => tG.imp (tG_bind hr he q) fun u H1 ⟨r1, ih1, v, p, hr1, hv, q1⟩ => by
  dsimp only at q1
  split at q1
  · rename_i n _
    obtain ⟨a, ea, rfl⟩ := hv.ref
    split at q1
    · rename_i xs e1
      obtain ⟨ys, h1, _⟩ := lAt_l hr1 ea e1
      exact ⟨a, rfl, ⟨ys, h1⟩, tG_end q1 hr1 ⟨a, ea, rfl⟩⟩
    · exact q1.elim
  · exact q1.elim
theorem li_tup (h : PE X e (tM X.K W m)) : PI X tg e (tMI X.K W (mi_tup m)) := PI.of (pi_tup h) fun σ H Q ⟨r, ih, env, hr, he, q⟩ => tG.imp (tG_bind hr he q) fun u H1 ⟨r1, ih1, v, p, hr1, hv, q1⟩ => by
  dsimp only at q1
  split at q1
  · rename_i n _
    obtain ⟨a, ea, rfl⟩ := hv.ref
    split at q1
    · rename_i xs e1
      obtain ⟨ys, h1, _⟩ := lAt_t hr1 ea e1
      exact ⟨a, rfl, ⟨ys, h1⟩, tG_end q1 hr1 ⟨a, ea, rfl⟩⟩
    · exact q1.elim
  · exact q1.elim
theorem li_enm (hg : Gl X "enumerate") (hm : X.mg "enumerate" = none) (ha : PA X [e] (tMA X.K W ml)) (hs : starEach [e] X.env = [(false, eval e X.env)] := by rfl) : PI X (.Tuple elts kk tpos) (.Call (.Name "enumerate" p) [e] [] pos) (tMI X.K W (mi_enm ml)) :=
  PI.of (pi_enum hg hm ha hs) fun σ H Q ⟨r, ih, env, hr, he, q⟩ => tG.imp (tG_bind hr he q) fun u H1 ⟨r1, ih1, v, p, hr1, hv, q1⟩ => by
    dsimp only at q1
    split at q1
    · rename_i n _
      obtain ⟨w, rfl, hw⟩ := hv.one
      obtain ⟨a, ea, rfl⟩ := hw.ref
      split at q1
      · rename_i xs e1
        obtain ⟨ys, h1, _⟩ := lAt_l hr1 ea e1
        exact ⟨a, ys, rfl, h1, tG_end q1 hr1 ⟨a, ea, rfl⟩⟩
      · exact q1.elim
    · exact q1.elim
theorem li_zip (hg : Gl X "zip") (hm : X.mg "zip" = none) (ha : PA X [e, e2] (tMA X.K W ml)) (hs : starEach [e, e2] X.env = (false, eval e X.env) :: starEach [e2] X.env := by rfl) (hpl : (backTo pos (starEach [e2] X.env)).any (·.1) = false := by rfl) :
    PI X (.Tuple elts kk tpos) (.Call (.Name "zip" p) [e, e2] [] pos) (tMI X.K W (mi_zip ml)) :=
  PI.of (pi_zip hg hm ha hs hpl) fun σ H Q ⟨r, ih, env, hr, he, q⟩ => tG.imp (tG_bind hr he q) fun u H1 ⟨r1, ih1, v, p, hr1, hv, q1⟩ => by
    dsimp only at q1
    split at q1
    · rename_i n k _
      obtain ⟨w, w2, rfl, hw, hw2⟩ := hv.two
      obtain ⟨a, ea, rfl⟩ := hw.ref
      obtain ⟨b, eb, rfl⟩ := hw2.ref
      split at q1
      · rename_i xs zs e1 e2
        obtain ⟨ys, h1, _⟩ := lAt_l hr1 ea e1
        obtain ⟨ws, h2, _⟩ := lAt_l hr1 eb e2
        exact ⟨a, b, ys, ws, rfl, h1, h2, tG_end q1 hr1 ⟨a, b, ea, eb, rfl⟩⟩
      · exact q1.elim
    · exact q1.elim
theorem li_rng1 (hg : Gl X "range") (hm : X.mg "range" = none) (ha : PA X [e] (tMA X.K W ml)) (hs : starEach [e] X.env = [(false, eval e X.env)] := by rfl) : PI X tg (.Call (.Name "range" p) [e] [] pos) (tMI X.K W (mi_rng1 ml)) :=
  PI.of (pi_range1 hg hm ha hs) fun σ H Q ⟨r, ih, env, hr, he, q⟩ => tG.imp (tG_bind hr he q) fun u H1 ⟨r1, ih1, v, p, hr1, hv, q1⟩ => by
    dsimp only at q1
    split at q1
    · obtain ⟨w, rfl, hw⟩ := hv.one
      obtain rfl : w = .int _ := hw
      split at q1
      · rename_i hj
        obtain ⟨h1, h2⟩ := smallI_of hj
        refine ⟨_, rfl, h1, h2, tG_end q1 hr1 ⟨rfl, ?_, rfl⟩⟩
        funext i H x H'
        rw [Int.mul_one]
        rfl
      · exact q1.elim
    · exact q1.elim
theorem li_rng2 (hg : Gl X "range") (hm : X.mg "range" = none) (ha : PA X [e, e2] (tMA X.K W ml)) (hs : starEach [e, e2] X.env = [(false, eval e X.env), (false, eval e2 X.env)] := by rfl) (hs2 : starEach [e2] X.env = [(false, eval e2 X.env)] := by rfl) :
    PI X tg (.Call (.Name "range" p) [e, e2] [] pos) (tMI X.K W (mi_rng2 ml)) :=
  PI.of (pi_range2 hg hm ha hs hs2) fun σ H Q ⟨r, ih, env, hr, he, q⟩ => tG.imp (tG_bind hr he q) fun u H1 ⟨r1, ih1, v, p, hr1, hv, q1⟩ => by
    dsimp only at q1
    split at q1
    · obtain ⟨w, w2, rfl, hw, hw2⟩ := hv.two
      obtain rfl : w = .int _ := hw
      obtain rfl : w2 = .int _ := hw2
      split at q1
      · rename_i hj
        obtain ⟨h1, h2⟩ := smallI_of hj.1
        obtain ⟨h3, h4⟩ := smallI_of hj.2
        refine ⟨_, _, rfl, ⟨h1, h2, h3, h4⟩, tG_end q1 hr1 ⟨rfl, ?_, rfl⟩⟩
        funext i H x H'
        rw [Int.mul_one]
        rfl
      · exact q1.elim
    · exact q1.elim
end

/-! ### for, while -/
/-- behind a loop's body: the next turn, or the end -/
def RS.loop (r : RS) (k : Env → IH → RS) : RS := match r with
  | .ok (.next env) ih => k env ih
  | .ok (.cont env) ih => k env ih
  | .ok (.brk env) ih => .ok (.next env) ih
  | .ok (.ret v) ih => .ok (.ret v) ih
  | .exc c env ih => .exc c env ih
  | .stuck => .stuck
@[simp] theorem RS.loop_next (env : Env) (ih : IH) (k : Env → IH → RS) : (RS.ok (.next env) ih).loop k = k env ih := rfl
@[simp] theorem RS.loop_cont (env : Env) (ih : IH) (k : Env → IH → RS) : (RS.ok (.cont env) ih).loop k = k env ih := rfl
@[simp] theorem RS.loop_brk (env : Env) (ih : IH) (k : Env → IH → RS) : (RS.ok (.brk env) ih).loop k = .ok (.next env) ih := rfl
@[simp] theorem RS.loop_ret (v : IV) (ih : IH) (k : Env → IH → RS) : (RS.ok (.ret v) ih).loop k = .ok (.ret v) ih := rfl
@[simp] theorem RS.loop_exc (c : Addr) (env : Env) (ih : IH) (k : Env → IH → RS) : (RS.exc c env ih).loop k = .exc c env ih := rfl
@[simp] theorem RS.loop_stuck (k : Env → IH → RS) : RS.stuck.loop k = .stuck := rfl
def forGo (s : Src) (g : IV → Env → IH → Option Env) (mb : Env → IH → RS) : Nat → Nat → Env → IH → RS
  | 0, _, _, _ => .stuck
  | f + 1, i, env, ih => match s.turn i ih with
    | .stuck => .stuck
    | .stop => .ok (.next env) ih
    | .item v ih1 => match g v env ih1 with
      | some env1 => (mb env1 ih1).loop fun env2 ih2 => forGo s g mb f (i + 1) env2 ih2
      | none => .stuck
def ms_for (mi : Env → IH → Res Src) (g : IV → Env → IH → Option Env) (mb : Env → IH → RS) (env : Env) (ih : IH) : RS := (mi env ih).stm env fun s ih1 => forGo s g mb (s.size ih1 + 1) 0 env ih1
def whileGo (n : Env → IH → Res Bool) (mb : Env → IH → RS) : Nat → Env → IH → RS
  | 0, _, _ => .stuck
  | f + 1, env, ih => (n env ih).stm env fun b ih1 => if b = true then (mb env ih1).loop fun env2 ih2 => whileGo n mb f env2 ih2 else .ok (.next env) ih1
def ms_while (fuel : Nat) (n : Env → IH → Res Bool) (mb : Env → IH → RS) (env : Env) (ih : IH) : RS := whileGo n mb fuel env ih
section
variable {X : Cx} {K : PySem.W.Frag} {W : WX} {r : List Addr} {D : Ends}
/-- a body's end within a loop -/
theorem loop_body {res : RS} {k : Env → IH → RS} {N : St → Hp → Prop} (h : PStm K W r (res.loop k) D) (hN : ∀ r1 ih env σ H, r <+: r1 → Rel K r1 ih H → REnv r1 env σ → PStm K W r1 (k env ih) D → N σ H) : PStm K W r res { D with nx := N, ct := N, bk := D.nx } := by
  cases res with
  | ok f ih =>
    cases f with
    | next env => exact fun r' H' σ' p hr he => hN r' ih env σ' H' p hr he (PStm.mono p h)
    | cont env => exact fun r' H' σ' p hr he => hN r' ih env σ' H' p hr he (PStm.mono p h)
    | brk env => exact h
    | ret v => exact h
  | exc c env ih => exact h
  | stuck => exact h
theorem ls_for {iter tg : Expr} {body : List Stmt} {ks : List Nat} {g : TG} {f : IV → Env → IH → Option Env} {mi : Env → IH → Res Src} {mb : Env → IH → RS} {pos : Pos} (hp : PassesOwn (model X.prog X.w) X.A X.env X.xe) (hc : X.calm = true) (hi : PI X tg iter (tMI X.K W mi)) (hg : PG X tg g) (sg : SndG X.K ks g f)
    (hb : PSs X body (tMS X.K W mb)) (hs : ∀ x, foldedSetIterable iter X.env x = pure x := by intro _; rfl) : PS X (.For tg iter body [] pos) (tMS X.K W (ms_for mi f mb)) :=
  PS.of (ps_for hp hc hi hg hb hs) fun D σ H ⟨r, ih, env, hr, he, q⟩ => tG.imp (tG_stm hr he q) fun J H1 ⟨r1, ih1, s, p, hr1, hj, q1⟩ => by
    dsimp only at q1
    refine ⟨fun i m σ H => ∃ r2 ih2 env2, r1 <+: r2 ∧ Rel X.K r2 ih2 H ∧ REnv r2 env2 σ ∧ PStm X.K W r2 (forGo s f mb m i env2 ih2) D, ⟨_, r1, ih1, env, pre_refl r1, hr1, he.mono p, q1⟩, fun i m σ2 H2 ⟨r2, ih2, env2, p2, hr2, he2, q2⟩ => ?_⟩
    cases m with
    | zero => exact q2.elim
    | succ m =>
      unfold forGo at q2
      have t := turn_ok (i := i) (hj.mono p2) hr2
      split at q2
      · exact q2.elim
      · rename_i e
        rw [e] at t
        exact .inl ⟨t, st_end q2 hr2 he2⟩
      · rename_i v ih3 e
        rw [e] at t
        refine .inr ⟨t.1, fun σ3 H3 => ∃ r3 ih3 env3, r1 <+: r3 ∧ Rel X.K r3 ih3 H3 ∧ REnv r3 env3 σ3 ∧ PStm X.K W r3 (forGo s f mb m (i + 1) env3 ih3) D, fun σ3 H3 h => ⟨m, Nat.lt_succ_self m, h⟩, fun x H3 hy => ?_⟩
        obtain ⟨r3, p3, hr3, hv⟩ := t.2 x H3 hy
        cases eg : f v env2 ih3 with
        | none =>
          rw [eg] at q2
          exact q2.elim
        | some env3 =>
          rw [eg] at q2
          refine sg r3 ih3 H3 v x env2 σ2 _ hr3 hv (he2.mono p3) ⟨env3, eg, fun σ3 he3 _ _ => ?_⟩
          exact ⟨r3, ih3, env3, hr3, he3, loop_body (PStm.mono p3 q2) fun r4 ih4 env4 σ4 H4 p4 hr4 he4 q4 => ⟨r4, ih4, env4, pre_trans (pre_trans p2 p3) p4, hr4, he4, q4⟩⟩
theorem ls_while {c : Expr} {body : List Stmt} {n : Env → IH → Res Bool} {mb : Env → IH → RS} {pos : Pos} (fuel : Nat) (hp : PassesOwn (model X.prog X.w) X.A X.env X.xe) (hc : PT X c (tMT X.K W n)) (hb : PSs X body (tMS X.K W mb)) : PS X (.While c body [] pos) (tMS X.K W (ms_while fuel n mb)) :=
  PS.of (ps_while hp hc hb) fun D σ H ⟨r, ih, env, hr, he, q⟩ => by
    refine ⟨fun m σ H => ∃ r2 ih2 env2, Rel X.K r2 ih2 H ∧ REnv r2 env2 σ ∧ PStm X.K W r2 (whileGo n mb m env2 ih2) D, ⟨fuel, r, ih, env, hr, he, q⟩, fun m σ2 H2 ⟨r2, ih2, env2, hr2, he2, q2⟩ => ?_⟩
    cases m with
    | zero => exact q2.elim
    | succ m =>
      unfold whileGo at q2
      refine tG.imp (tG_stm hr2 he2 q2) fun u H3 ⟨r3, ih3, b, p3, hr3, hb3, q3⟩ => ?_
      obtain rfl : u = b := hb3
      cases u with
      | true =>
        rw [if_pos rfl] at q3
        show if true = true then _ else _
        rw [if_pos rfl]
        exact ⟨fun σ4 H4 => ∃ r4 ih4 env4, Rel X.K r4 ih4 H4 ∧ REnv r4 env4 σ4 ∧ PStm X.K W r4 (whileGo n mb m env4 ih4) D, fun σ4 H4 h => ⟨m, Nat.lt_succ_self m, h⟩,
          ⟨r3, ih3, env2, hr3, he2.mono p3, loop_body q3 fun r4 ih4 env4 σ4 H4 p4 hr4 he4 q4 => ⟨r4, ih4, env4, hr4, he4, q4⟩⟩⟩
      | false =>
        rw [if_neg Bool.false_ne_true] at q3
        show if false = true then _ else _
        rw [if_neg Bool.false_ne_true]
        exact st_end q3 hr3 (he2.mono p3)
end

/-! ### comprehensions -/
def lcGo (s : Src) (g : IV → Env → IH → Option Env) (n : Env → IH → Res Bool) (me : Env → IH → Res IV) (d : Nat) (env : Env) : Nat → Nat → IH → Res IV
  | 0, _, _ => .stuck
  | f + 1, i, ih => match s.turn i ih with
    | .stuck => .stuck
    | .stop => .ok (.ref d) ih
    | .item v ih1 => match g v env ih1 with
      | some env1 => match n env1 ih1 with
        | .ok true ih2 => match me env1 ih2 with
          | .ok y ih3 => match ih3[d]? with
            | some (.lst acc) => if acc.length < 100000 then lcGo s g n me d env f (i + 1) (ih3.set d (.lst (acc ++ [y]))) else .stuck
            | _ => .stuck
          | _ => .stuck
        | .ok false ih2 => lcGo s g n me d env f (i + 1) ih2
        | _ => .stuck
      | none => .stuck
def m_lc (vs : List Nat) (mi : Env → IH → Res Src) (g : IV → Env → IH → Option Env) (n : Env → IH → Res Bool) (me : Env → IH → Res IV) (env : Env) (ih : IH) : Res IV := (mi env ih).bind fun s ih1 => lcGo s g n me ih1.length (wipeI env vs) (s.size ih1 + 1) 0 (ih1 ++ [.lst []])
def n_yes (_ : Env) (ih : IH) : Res Bool := .ok true ih
abbrev W0 : WX := fun _ _ _ _ => False
theorem wipe_get {σ : St} : ∀ {vs : List Nat} {j : Nat}, j ∈ vs → j < σ.length → (wipe σ vs)[j]? = some none
  | v :: vs, j, h, hl => by
    unfold wipe
    by_cases e : v = j
    · rw [e, List.getElem?_set_self (by rw [wipe_length]; exact hl)]
    · rw [List.getElem?_set_ne e]
      exact wipe_get ((List.mem_cons.mp h).resolve_left fun z => e z.symm) hl
theorem wipe_agree {σ σ' : St} {vs ks : List Nat} (hk : ∀ k ∈ ks, k ∈ vs) (hl : σ'.length = (wipe σ vs).length) (h : ∀ j, j ∉ ks → σ'[j]? = (wipe σ vs)[j]?) : wipe σ' vs = wipe σ vs := by
  apply List.ext_getElem?
  intro j
  by_cases hj : j ∈ vs
  · by_cases hb : j < σ.length
    · rw [wipe_get hj hb, wipe_get hj (by rw [hl, wipe_length]; exact hb)]
    · rw [List.getElem?_eq_none (by rw [wipe_length, hl, wipe_length]; omega), List.getElem?_eq_none (by rw [wipe_length]; omega)]
  · rw [wipe_out hj, h j fun z => hj (hk j z)]
section
variable {X : Cx} {W : WX} {K : PySem.W.Frag}
theorem lc_weak {ks vs : List Nat} {g : TG} {f : IV → Env → IH → Option Env} {mi : Env → IH → Res Src} {n : Env → IH → Res Bool} {me : Env → IH → Res IV} {σ : St} {H : Hp} {Q : VK} (sg : SndG K ks g f) (hk : ∀ k ∈ ks, k ∈ vs) (h : tM K W (m_lc vs mi f n me) σ H Q) :
    tLc (tMI K W mi) g (tMT K W0 n) (tM K W0 me) vs σ H Q := by
  obtain ⟨r, ih, env, hr, he, q⟩ := h
  refine tG.imp (tG_bind hr he q) fun J H1 ⟨r1, ih1, s, p, hr1, hj, q1⟩ D hD => ?_
  dsimp only at q1
  have hr1' : Rel K (r1 ++ [D]) (ih1 ++ [.lst []]) (upd H1 D (.lst [])) := hr1.new hD rfl fun H' e => ⟨[], e, .nil⟩
  have hd : (r1 ++ [D])[ih1.length]? = some D := by
    obtain ⟨a, e, z⟩ := R.newest (p := D) hr1.len
    cases z
    exact e
  have hw := (he.mono (pre_trans p (pre_one (p := D)))).wipe vs
  refine ⟨fun i m H => ∃ r2 ih2, r1 ++ [D] <+: r2 ∧ Rel K r2 ih2 H ∧ PGen R K W σ r2 (lcGo s f n me ih1.length (wipeI env vs) m i ih2) Q, ⟨_, r1 ++ [D], _, pre_refl _, hr1', PGen.mono pre_one q1⟩, fun i m H2 ⟨r2, ih2, p2, hr2, q2⟩ => ?_⟩
  cases m with
  | zero => exact q2.elim
  | succ m =>
    unfold lcGo at q2
    have t := turn_ok (i := i) (hj.mono (pre_trans pre_one p2)) hr2
    split at q2
    · exact q2.elim
    · rename_i e
      rw [e] at t
      exact .inl ⟨t, tG_end q2 hr2 ⟨D, pre_get p2 hd, rfl⟩⟩
    · rename_i v ih3 e
      rw [e] at t
      refine .inr ⟨t.1, fun H3 => ∃ r3 ih3, r1 ++ [D] <+: r3 ∧ Rel K r3 ih3 H3 ∧ PGen R K W σ r3 (lcGo s f n me ih1.length (wipeI env vs) m (i + 1) ih3) Q, fun H3 h => ⟨m, Nat.lt_succ_self m, h⟩, fun x H3 hy => ?_⟩
      obtain ⟨r3, p3, hr3, hv⟩ := t.2 x H3 hy
      cases eg : f v (wipeI env vs) ih3 with
      | none =>
        rw [eg] at q2
        exact q2.elim
      | some env3 =>
        rw [eg] at q2
        refine sg r3 ih3 H3 v x (wipeI env vs) (wipe σ vs) _ hr3 hv (hw.mono (pre_trans p2 p3)) ⟨env3, eg, fun σ3 he3 l3 k3 => ⟨wipe_agree hk l3 k3, r3, ih3, env3, hr3, he3, ?_⟩⟩
        dsimp only at q2
        cases en : n env3 ih3 with
        | stuck => rw [en] at q2; exact q2.elim
        | exc c ih4 => rw [en] at q2; exact q2.elim
        | ok b ih4 =>
          rw [en] at q2
          intro r4 H4 b' p4 hr4 hb
          obtain rfl : b' = b := hb
          cases b' with
          | false => exact ⟨r4, ih4, pre_trans (pre_trans p2 p3) p4, hr4, PGen.mono (pre_trans p3 p4) q2⟩
          | true =>
            show if true = true then _ else _
            rw [if_pos rfl]
            refine ⟨r4, ih4, env3, hr4, he3.mono p4, ?_⟩
            dsimp only at q2
            cases em : me env3 ih4 with
            | stuck => rw [em] at q2; exact q2.elim
            | exc c ih5 => rw [em] at q2; exact q2.elim
            | ok y ih5 =>
              rw [em] at q2
              intro r5 H5 u p5 hr5 hu
              dsimp only at q2
              split at q2
              · rename_i acc ea
                split at q2
                · rename_i hl
                  have hD5 := pre_get (pre_trans (pre_trans (pre_trans p2 p3) p4) p5) hd
                  obtain ⟨ys, h1, h2⟩ := hr5.get _ D _ hD5 ea
                  exact ⟨ys, h1, by rw [← h2.length]; exact line5l hl, r5, _, pre_trans (pre_trans (pre_trans p2 p3) p4) p5, hr5.write hD5 ea (h2.append (.cons hu .nil)), PGen.mono (pre_trans (pre_trans p3 p4) p5) q2⟩
                · exact q2.elim
              · exact q2.elim
theorem lts_nil : PTs X [] (tMT X.K W n_yes) := ⟨fun pins s σ H Q I ⟨r, ih, env, hr, he, q⟩ => pts_nil.run pins s σ H Q I (tG_end q hr rfl)⟩
theorem lts_one {c : Expr} {n : Env → IH → Res Bool} (h : PT X c (tMT X.K W n)) : PTs X [c] (tMT X.K W n) := pts_one h
theorem lm_lc {elt tg iter : Expr} {ifs : List Expr} {scope : Scope} {own : List (Str × Nat)} {pos : Pos} {ks : List Nat} {g : TG} {f : IV → Env → IH → Option Env} {mi : Env → IH → Res Src} {n : Env → IH → Res Bool} {me : Env → IH → Res IV} (hc : X.calm = true) (hN : X.N.Nodup) (hi : PI X tg iter (tMI X.K W mi))
    (ok : BlkOk X.N X.env.scope scope own) (sg : SndG X.K ks g f) (hk : ∀ k ∈ ks, k ∈ own.map (·.2))
    (hg : ∀ (s : Shared) (H : Hp) (C : Addr) (cl : List (Str × Addr)) (fp : List Addr), PG (X.blk s H scope (compEnvC scope cl C X.env) fp) tg g) (ht : ∀ (s : Shared) (H : Hp) (C : Addr) (cl : List (Str × Addr)) (fp : List Addr), PTs (X.blk s H scope (compEnvC scope cl C X.env) fp) ifs (tMT X.K W0 n))
    (he : ∀ (s : Shared) (H : Hp) (C : Addr) (cl : List (Str × Addr)) (fp : List Addr), PE (X.blk s H scope (compEnvC scope cl C X.env) fp) elt (tM X.K W0 me)) (hs : ∀ x, foldedSetIterable iter X.env x = pure x := by intro _; rfl) :
    PE X (.ListComp elt [⟨tg, iter, ifs, 0⟩] scope pos) (tM X.K W (m_lc (own.map (·.2)) mi f n me)) := PE.of (pe_lc hc hN hi ok hg ht he hs) fun σ H Q h => lc_weak sg hk h
/-- name = [..] on one line, the name a local -/
theorem ls_lc {i : Nat} {y : Str} {py spos : Pos} {elt tg iter : Expr} {ifs : List Expr} {scope : Scope} {own : List (Str × Nat)} {pos : Pos} {ks : List Nat} {g : TG} {f : IV → Env → IH → Option Env} {mi : Env → IH → Res Src} {n : Env → IH → Res Bool} {me : Env → IH → Res IV} (hc : X.calm = true) (hN : X.N.Nodup) (hy : X.N[i]? = some y)
    (hyl : X.env.scope.names.lookup y = some .local) (hsw : swapsWith (.ListComp elt [⟨tg, iter, ifs, 0⟩] scope pos) (some (.Name y py)) spos.line X.env = pure true) (hi : PI X tg iter (tMI X.K W mi))
    (ok : BlkOk X.N X.env.scope scope own) (sg : SndG X.K ks g f) (hk : ∀ k ∈ ks, k ∈ own.map (·.2))
    (hg : ∀ (s : Shared) (H : Hp) (C : Addr) (cl : List (Str × Addr)) (fp : List Addr), PG (X.blk s H scope (compEnvC scope cl C X.env) fp) tg g) (ht : ∀ (s : Shared) (H : Hp) (C : Addr) (cl : List (Str × Addr)) (fp : List Addr), PTs (X.blk s H scope (compEnvC scope cl C X.env) fp) ifs (tMT X.K W0 n))
    (he : ∀ (s : Shared) (H : Hp) (C : Addr) (cl : List (Str × Addr)) (fp : List Addr), PE (X.blk s H scope (compEnvC scope cl C X.env) fp) elt (tM X.K W0 me)) (hs : ∀ x, foldedSetIterable iter X.env x = pure x := by intro _; rfl) :
    PS X (.Assign [.Name y py] (.ListComp elt [⟨tg, iter, ifs, 0⟩] scope pos) spos) (tMS X.K W (ms_set (g_nm i) (m_lc (own.map (·.2)) mi f n me))) := PS.of (ps_setLc hc hN hy hyl hsw hi ok hg ht he hs) fun D σ H h => lc_weak sg hk (set_core (sg_nm i) h)
end
end L3
/-! L3g: defs, their calls, try, the law's end. -/
namespace L3
variable [TabT] [LamT]
open PySem PySem.Spec PyProof.Rows L2

/-- a def's promise: it does what its mirror m does -/
def spM (K : PySem.W.Frag) (n : Nat) (m : List IV → IH → Res IV) : Sp := fun vs H Q E => ∃ r ih args, args.length = n ∧ Rel K r ih H ∧ Rs r args vs ∧ PGen R K (fun cls d _ H => E cls d H) [] r (m args ih) Q
/-- a def of the text: x its name, dvs its defaults, n the number of its parameters -/
structure Df (P : Program) (w : World) (K : PySem.W.Frag) (mg : Str → Option Value) (base : Heap) (k : Nat) (x : Str) (n : Nat) (dvs : List IV) (m : List IV → IH → Res IV) : Prop where
  flat : ∀ d ∈ dvs, ∀ i, d ≠ .ref i
  ex : ∃ (f : Addr) (fd : FuncData) (ps : List Str), ps.length = n ∧ mg x = some (.ref f) ∧ PySem.W.keepIn K (.ref f) = true ∧ FnOk P w K mg base (L2.CX P w) k f fd ps (spM K n m) ∧ ∀ j, j ≤ dvs.length → ∃ ds, Vals ((dvs.drop j).map IV.toV) ds ∧ Binds K fd ps ds
/-- the call with the defaults behind the first j filled up -/
def f_call (n : Nat) (ds : List IV) (m : List IV → IH → Res IV) (xs : List IV) (ih : IH) : Res IV := if (xs ++ ds).length = n then m (xs ++ ds) ih else .stuck
section
variable {X : Cx} {W : WX} {k n j : Nat} {x : Str} {dvs : List IV} {m : List IV → IH → Res IV} {a : Expr} {es : List Expr} {p pos : Pos} {ma : Env → IH → Res (List IV)}
theorem run_fnD {CX : CXT} {f : Addr} {fd : FuncData} {ps : List Str} {sp : Sp} {pins : List (Addr × Obj)} {σ : L2.St} {H : Hp} {s : Shared} {Q : VK} {us : List Value} {vs dv : List V} {ds : List Value} {E : L2.St → XK} (F : FnOk X.prog X.w X.K X.mg X.base CX k f fd ps sp) (hr : Room k X.A) (hb : Binds X.K fd ps ds) (hd : Vals dv ds)
    (hx : PassesAt CX X σ (E σ)) (I : L2.Inv X pins σ H s) (r : Vals vs us) (h : sp (vs ++ dv) H Q (E σ)) : wpAny (model X.prog X.w) X.A (call (.ref f) us) (EP X pins σ Q) X.xe s := by
  have r2 : Vals (vs ++ dv) (us ++ ds) := r.append hd
  have hl : (us ++ ds).length = ps.length := by rw [← r2.length]; exact F.len _ _ _ _ h
  refine wpAny_call (codeAny_mono (F.run X.A X.stack s H ⟨us, []⟩ (us ++ ds) (vs ++ dv) Q (E σ) hr I.env0 (hb s us I.kIn hl) r2 h) fun r s' hq => ?_)
  cases r with
  | error e => exact hx pins H s e s' I hq
  | ok fl =>
    cases fl with
    | ret u => exact I.after hq
    | next => exact False.elim hq
    | brk => exact False.elim hq
    | cont => exact False.elim hq
theorem pe_callD {CX : CXT} {f : Addr} {fd : FuncData} {ps : List Str} {sp : Sp} {dv : List V} {ds : List Value} {E : L2.St → XK} {t : TA} (F : FnOk X.prog X.w X.K X.mg X.base CX k f fd ps sp) (hr : Room k X.A) (hg : Gl X x) (hm : X.mg x = some (.ref f)) (hk : PySem.W.keepIn X.K (.ref f) = true) (hb : Binds X.K fd ps ds) (hd : Vals dv ds) (hx : ∀ σ, PassesAt CX X σ (E σ))
    (ha : PA X (a :: es) t) (hdb : (x == ("__debug__" : Str)) = false := by decide) (he : starEach (a :: es) X.env = (false, eval a X.env) :: starEach es X.env := by rfl) (hpl : (backTo pos (starEach es X.env)).any (·.1) = false := by rfl) :
    PE X (.Call (.Name x p) (a :: es) [] pos) (fun σ H Q => t σ H fun vs H1 => sp (vs ++ dv) H1 Q (E σ)) := by
  refine ⟨fun pins s σ H Q I h => ?_⟩
  refine wpAny_Call_Name_kw (ld_glob I hg hm ?_ hdb)
  refine PySem.W.callWith_K (h₀ := X.base) I.ok.mod.kin hk (thn (ha.run pos pins s σ H _ I h) fun us s1 ⟨vs, H1, I1, r, q⟩ => ⟨I1.kIn, ?_⟩) he hpl
  exact run_fnD F hr hb hd (hx σ) I1 r q
theorem Rs.toV {r : List Addr} : ∀ {ds : List IV}, (∀ d ∈ ds, ∀ i, d ≠ .ref i) → Rs r ds (ds.map IV.toV)
  | [], _ => .nil
  | d :: ds, h => .cons (by
      have := h d List.mem_cons_self
      cases d with
      | ref i => exact absurd rfl (this i)
      | _ => rfl) (Rs.toV fun e he => h e (List.mem_cons_of_mem _ he))
theorem lm_call (D : Df X.prog X.w X.K X.mg X.base k x n dvs m) (j : Nat) (hj : j ≤ dvs.length) (hr : Room k X.A) (hg : Gl X x) (tk : Takes X W) (ha : PA X (a :: es) (tMA X.K W ma)) (hdb : (x == ("__debug__" : Str)) = false := by decide)
    (he : starEach (a :: es) X.env = (false, eval a X.env) :: starEach es X.env := by rfl) (hpl : (backTo pos (starEach es X.env)).any (·.1) = false := by rfl) : PE X (.Call (.Name x p) (a :: es) [] pos) (tM X.K W (m_app (f_call n (dvs.drop j) m) ma)) := by
  obtain ⟨f, fd, ps, hn, hm, hk, F, hB⟩ := D.ex
  obtain ⟨ds, hd, hb⟩ := hB j hj
  refine PE.of (pe_callD F hr hg hm hk hb hd (fun σ => passAt tk σ) ha hdb he hpl) fun σ H Q ⟨r, ih, env, hr, he, q⟩ => tG.imp (tG_bind hr he q) fun u H1 ⟨r1, ih1, v, p, hr1, hv, q1⟩ => ?_
  dsimp only at q1
  unfold f_call at q1
  split at q1
  · rename_i hl
    refine ⟨r1, ih1, v ++ dvs.drop j, hl, hr1, hv.append (Rs.toV fun d hd => D.flat d (List.mem_of_mem_drop hd)), ?_⟩
    cases e : m (v ++ dvs.drop j) ih1 with
    | ok y ih2 => rw [e] at q1; exact q1
    | exc c ih2 => rw [e] at q1; exact q1
    | stuck => rw [e] at q1; exact q1
  · exact q1.elim
end

/-- a def's run by its body's mirror -/
def startI (N : Nat) (args : List IV) : Env := args.map some ++ List.replicate (N - args.length) none
def RS.out (r : RS) : Res IV := match r with
  | .ok (.ret v) ih => .ok v ih
  | .ok (.next _) ih => .ok .non ih
  | .ok (.brk _) _ => .stuck
  | .ok (.cont _) _ => .stuck
  | .exc c _ ih => .exc c ih
  | .stuck => .stuck
@[simp] theorem RS.out_ret (v : IV) (ih : IH) : (RS.ok (.ret v) ih).out = .ok v ih := rfl
@[simp] theorem RS.out_next (v : Env) (ih : IH) : (RS.ok (.next v) ih).out = .ok .non ih := rfl
@[simp] theorem RS.out_exc (c : Addr) (v : Env) (ih : IH) : (RS.exc c v ih).out = .exc c ih := rfl
def defRun (N : Nat) (mb : Env → IH → RS) (args : List IV) (ih : IH) : Res IV := (mb (startI N args) ih).out
theorem start_rel {r : List Addr} {args : List IV} {vs : List V} {N : List Str} (h : Rs r args vs) : REnv r (startI N.length args) (L2.start N vs) := by
  unfold startI L2.start
  refine ⟨by rw [List.length_append, List.length_append, List.length_map, List.length_map, List.length_replicate, List.length_replicate, h.length], fun i v e => ?_⟩
  by_cases hi : i < args.length
  · rw [List.getElem?_append_left (by simpa using hi), List.getElem?_map] at e
    obtain ⟨w, e1, e2⟩ := Option.map_eq_some_iff.mp e
    cases e2
    obtain ⟨u, h1, h2⟩ := h.get e1
    exact ⟨u, by rw [List.getElem?_append_left (by rw [List.length_map, ← h.length]; exact hi), List.getElem?_map, h1]; rfl, h2⟩
  · rw [List.getElem?_append_right (by simpa using hi), List.getElem?_replicate] at e
    split at e <;> cases e
section
variable {P : Program} {w : World} {K : PySem.W.Frag} {mg : Str → Option Value} {base : Heap} {k : Nat} {x qual : Str} {st : Stmt} {dv : List V} {f : Addr} {fd : FuncData} {N ps : List Str} {mb : Env → IH → RS}
theorem df_fn (F : FunD K x qual (defArgs st) (defBody st) (defScope st) dv [] f fd) (S : FnScope N ps (defScope st))
    (hbody : ∀ (cdv : Value) (A : Around) (outer : List PySem.Env) (s : Shared) (H : Hp) (E : XK), Room k (A.deeper (envOfC qual (defScope st) s.heap.objs.size f cdv)) →
      PSs (cxOf (L2.CX P w) P w K mg base N qual (defScope st) f cdv A outer s H E) (defBody st) (tMS K (fun cls d _ H => E cls d H) mb)) :
    FnOk P w K mg base (L2.CX P w) (k + 1) f fd ps (spM K ps.length (defRun N.length mb)) := by
  refine F.ok S (fun vs H Q E ⟨r, ih, args, e, _, rs, _⟩ => rs.length ▸ e) fun cdv A outer s H vs Q E hr ⟨r, ih, args, e, hrel, rs, q⟩ => ⟨_, hbody cdv A outer s H E hr, r, ih, _, hrel, start_rel rs, ?_⟩
  unfold defRun at q
  cases z : mb (startI N.length args) ih with
  | ok fl ih2 =>
    rw [z] at q
    cases fl with
    | ret v => exact q
    | next env => exact fun r' H' σ' p hr' he' => q r' H' .non p hr' rfl
    | brk env => exact q.elim
    | cont env => exact q.elim
  | exc c env ih2 =>
    rw [z] at q
    exact fun r' H' σ' p hr' he' => q r' H' p hr'
  | stuck => rw [z] at q; exact q
/-- a def without defaults -/
theorem df_mk0 (F : FunD K x qual (defArgs st) (defBody st) (defScope st) [] [] f fd) (S : FnScope N ps (defScope st)) (hm : mg x = some (.ref f))
    (h : ∀ (kV doc pm : Value) (an : Option Addr) (cdv ct : Value) (us : List Value), us.length = ps.length → bindArgs (PySem.W.fnOf x qual (defArgs st) (defBody st) (defScope st) .none kV doc pm an cdv ct) ⟨us, []⟩ = pure (ps.zip us))
    (hbody : ∀ (cdv : Value) (A : Around) (outer : List PySem.Env) (s : Shared) (H : Hp) (E : XK), Room k (A.deeper (envOfC qual (defScope st) s.heap.objs.size f cdv)) →
      PSs (cxOf (L2.CX P w) P w K mg base N qual (defScope st) f cdv A outer s H E) (defBody st) (tMS K (fun cls d _ H => E cls d H) mb)) :
    Df P w K mg base (k + 1) x ps.length [] (defRun N.length mb) :=
  ⟨fun _ h => (nomatch h), f, fd, ps, rfl, hm, F.kp, df_fn F S hbody, fun j _ => ⟨[], by rw [List.drop_nil]; exact .nil, F.bindsN h⟩⟩
end

/-! ### try -/
/-- behind an except suite: its name goes -/
def RS.unset (r : RS) (i : Nat) : RS := match r with
  | .ok (.next env) ih => .ok (.next (env.set i none)) ih
  | .ok (.brk env) ih => .ok (.brk (env.set i none)) ih
  | .ok (.cont env) ih => .ok (.cont (env.set i none)) ih
  | .ok (.ret v) ih => .ok (.ret v) ih
  | .exc _ _ _ => .stuck
  | .stuck => .stuck
open Classical in
noncomputable def ms_try (i : Nat) (exm : Addr → Option Bool) (mb : Env → IH → RS) (ms : Addr → Addr → Env → IH → RS) (env : Env) (ih : IH) : RS := match mb env ih with
  | .exc c env1 ih1 => match exm c with
    | some true => if ∀ a, (ms a c (env1.set i (some (.gl a))) ih1).unset i = (ms 0 c (env1.set i (some (.gl 0))) ih1).unset i then (ms 0 c (env1.set i (some (.gl 0))) ih1).unset i else .stuck
    | some false => .exc c env1 ih1
    | none => .stuck
  | z => z
section
variable {X : Cx} {W : WX} {mb : Env → IH → RS} {ms : Addr → Addr → Env → IH → RS} {x n : Str} {c : Value} {i : Nat} {body suite : List Stmt} {b₀ : Stmt} {np pos pos' : Pos}
theorem ls_try (hs : X.stack = X.env :: X.outer) (hf : X.env.frame = some X.env.locals) (hN : X.N.Nodup) (hi : X.N[i]? = some n) (hln : X.env.kindOf n = some .local) (hc : Names X x c) (tk : Takes X W)
    (hb : ∀ (W : WX) (pn : List (Addr × Obj)) (xe : Value → Shared → Prop), Takes (X.tr pn xe) W → PassesOwn (model X.prog X.w) X.A X.env xe → PSs (X.tr pn xe) body (tMS X.K W mb))
    (hsu : ∀ (a cl : Addr) (oe : Obj) (pn : List (Addr × Obj)), Zc (.ref cl) none oe → (∃ vs, oe.data = .fields vs) → PSs (X.suite a ((a, oe) :: pn)) (b₀ :: suite) (tMS X.K W0 (ms a cl))) :
    PS X (.Try body [.ExceptHandler (some (.Name x np)) (some n) (b₀ :: suite) pos'] [] [] pos) (tMS X.K W (ms_try i (fun cl => PySem.W.exmOne X.K (.ref cl) c) mb ms)) := by
  refine PS.of (ps_try_as (tb := fun W => tMS X.K W mb) (ts := fun a cls d D σ H => ∃ cl, cls = .ref cl ∧ d = none ∧ tMS X.K W0 (ms a cl) D σ H) hs hf hN hi hln hc tk hb fun a oe cls d pn hz hd => ⟨fun pins s σ H D I ⟨cl, e1, e2, h⟩ => ?_⟩) fun D σ H ⟨r, ih, env, hr, he, q⟩ => ?_
  · subst e1
    subst e2
    exact (hsu a cl oe pn hz hd).run pins s σ H D I h
  · refine ⟨r, ih, env, hr, he, ?_⟩
    unfold ms_try at q
    cases e : mb env ih with
    | ok f ih1 =>
      rw [e] at q
      cases f with
      | next _ => exact q
      | brk _ => exact q
      | cont _ => exact q
      | ret _ => exact q
    | stuck => rw [e] at q; exact q
    | exc cl env1 ih1 =>
      rw [e] at q
      intro r1 H1 σ1 p1 hr1 he1
      dsimp only at q
      cases z : PySem.W.exmOne X.K (.ref cl) c with
      | none => rw [z] at q; exact q.elim
      | some b =>
        rw [z] at q
        refine ⟨b, z, fun hb1 a ha => ?_, fun hb0 => ?_⟩
        · subst hb1
          dsimp only at q
          split at q
          · rename_i hall
            rw [← hall a] at q
            refine ⟨cl, rfl, rfl, r1, ih1, env1.set i (some (.gl a)), hr1, he1.set (x := IV.gl a) (y := V.ref a) rfl i, ?_⟩
            cases z2 : ms a cl (env1.set i (some (.gl a))) ih1 with
            | ok f ih2 =>
              rw [z2] at q
              cases f with
              | next env2 => exact fun r2 H2 σ2 p2 hr2 he2 => q r2 H2 _ (pre_trans p1 p2) hr2 (he2.setN i)
              | brk env2 => exact fun r2 H2 σ2 p2 hr2 he2 => q r2 H2 _ (pre_trans p1 p2) hr2 (he2.setN i)
              | cont env2 => exact fun r2 H2 σ2 p2 hr2 he2 => q r2 H2 _ (pre_trans p1 p2) hr2 (he2.setN i)
              | ret v => exact fun r2 H2 u p2 hr2 hv => q r2 H2 u (pre_trans p1 p2) hr2 hv
            | exc c2 env2 ih2 => rw [z2] at q; exact q.elim
            | stuck => rw [z2] at q; exact q.elim
          · exact q.elim
        · subst hb0
          exact q r1 H1 σ1 p1 hr1 he1
end
/-- isinstance of the exception that the suite holds -/
def clsOf : IV → Option Value
  | .gl C => some (.ref C)
  | .ty T => some (.type T)
  | _ => none
open Classical in
noncomputable def f_isE (K : PySem.W.Frag) (a c : Addr) (xs : List IV) (ih : IH) : Res IV := match xs with
  | [.gl b, y] => if b = a ∧ ExcC K c then (match clsOf y with
    | some cv => match PySem.W.kitOne K (.ref c) cv with
      | some k => .ok (.bl k) ih
      | none => .stuck
    | none => .stuck) else .stuck
  | _ => .stuck
section
variable {X : Cx} {K : PySem.W.Frag} {W : WX} {a c : Addr} {oe : Obj} {pn : List (Addr × Obj)}
theorem call_isEA (hz : Zc (.ref c) none oe) (hf : ∃ vs, oe.data = .fields vs) : CallR (X.suite a ((a, oe) :: pn)) (.builtin "isinstance") (fun xs H Q => ExcC X.K c ∧ rIsE X.K c a xs H Q) :=
  fun pins s σ H xs us Q I r ⟨h1, h2⟩ => call_isE h1 hz hf pins s σ H xs us Q I r h2
theorem s_isE : SndC K W (fun xs H Q => ExcC K c ∧ rIsE K c a xs H Q) (f_isE K a c) := by
  intro r ih H xs us σ Q hr hx q
  unfold f_isE at q
  split at q
  · obtain ⟨u, v, rfl, h1, h2⟩ := hx.two
    split at q
    · rename_i hb
      split at q
      · rename_i cv e1
        split at q
        · rename_i k e2
          obtain rfl : u = .ref _ := h1
          refine ⟨hb.2, v, cv, k, by rw [hb.1], fun w hw => ?_, e2, tG_end q hr rfl⟩
          unfold clsOf at e1
          split at e1
          · cases e1
            obtain rfl : v = .ref _ := h2
            exact hw
          · cases e1
            obtain rfl : v = .ty _ := h2
            exact hw
          · cases e1
        · exact q.elim
      · exact q.elim
    · exact q.elim
  · exact q.elim
end

end L3
/-! L3h: the text's facts; defs, once more. -/
namespace L3
variable [TabT] [LamT]
open PySem PySem.Spec PyProof.Rows L2

/-- the program's own classes by their addresses -/
structure Cs where
  K : PySem.W.Frag
  KernelError : Addr
  NoWidth : Addr
  NoLooks : Addr
  NoCycle : Addr
  NoRate : Addr
  NoReading : Addr
  NoLine : Addr
  NoProcessor : Addr
  NoTick : Addr
  NoLevels : Addr
  NoClock : Addr
  NoSlew : Addr
  Stopped : Addr
  NotStopped : Addr
  NoSlack : Addr
  NoPeriod : Addr
  NoFragile : Addr
  NoTimer : Addr
  NoWindow : Addr
  NoSpan : Addr
  NoProcess : Addr
  NoThread : Addr
  NoQuantum : Addr
  NoKernel : Addr
  NoCall : Addr
  TooMany : Addr
  NoRow : Addr
def IV.flat : IV → Bool
  | .ref _ => false
  | _ => true
/-- an own error class of the text -/
structure ExcX (K : PySem.W.Frag) (mg : Str → Option Value) (x : Str) (C : Addr) : Prop where
  g : mg x = some (.ref C)
  q : PySem.W.excIn K C [.type "ValueError", .type "Exception", .type "BaseException", .type "object"] "ValueError.__new__" = true
  k : PySem.W.keepIn K (.ref C) = true
  b : PySem.W.subIn K (.ref C) (.type "BaseException") = some true
  t : PySem.W.typeIn K (.ref C) = some (.type "type")
theorem lg_glob {X : Cx} {x : Str} {v : V} {pos : Pos} (h : ∃ u, X.mg x = some u ∧ RelV v u) (hg : Gl X x) (hd : (x == ("__debug__" : Str)) = false := by decide) : PE X (.Name x pos) (tC v) := by
  obtain ⟨u, h1, h2⟩ := h
  exact pe_glob hg h1 h2 hd
def f_addI := f_I0 fun i j => .int (i + j)
theorem s_addI {K : PySem.W.Frag} {W : WX} : Snd2 K W (rI0 fun i j => .int (i + j)) f_addI := snd_I0 fun _ _ _ => rfl
theorem iop_mulX {X : Cx} : OpR X (inplaceOp .Mult) (rI CMulX fun i j => .int (i * j)) := opI fun _ _ _ _ _ _ _ hc q => imul_int q hc.ok
/-- a chain of two comparisons -/
def m_chain (f g : IV → IV → IH → Res IV) (ma mb mc : Env → IH → Res IV) (env : Env) (ih : IH) : Res IV := (ma env ih).bind fun x ih1 => (mb env ih1).bind fun y ih2 => (f x y ih2).bind fun z ih3 => match z with
  | .bl k => if k = true then (mc env ih3).bind fun u ih4 => g y u ih4 else .ok (.bl false) ih3
  | _ => .stuck
section
variable {P : Program} {w : World} {K : PySem.W.Frag} {mg : Str → Option Value} {base : Heap} {k : Nat} {x qual : Str} {st : Stmt} {dv : List V} {f : Addr} {fd : FuncData} {N ps : List Str} {mb : Env → IH → RS}
/-- what a body may use: its context is a def's -/
abbrev BodyOk (P : Program) (w : World) (K : PySem.W.Frag) (mg : Str → Option Value) (base : Heap) (k : Nat) (N : List Str) (qual : Str) (st : Stmt) (f : Addr) (mb : Env → IH → RS) : Prop :=
  ∀ (cdv : Value) (A : Around) (outer : List PySem.Env) (s : Shared) (H : Hp) (E : XK), Room k (cxOf (L2.CX P w) P w K mg base N qual (defScope st) f cdv A outer s H E).A →
    Takes (cxOf (L2.CX P w) P w K mg base N qual (defScope st) f cdv A outer s H E) (fun cls d _ H => E cls d H) →
    PassesOwn (model P w) (cxOf (L2.CX P w) P w K mg base N qual (defScope st) f cdv A outer s H E).A (cxOf (L2.CX P w) P w K mg base N qual (defScope st) f cdv A outer s H E).env (cxOf (L2.CX P w) P w K mg base N qual (defScope st) f cdv A outer s H E).xe →
    (cxOf (L2.CX P w) P w K mg base N qual (defScope st) f cdv A outer s H E).A.units + 64 < cLine →
    PSs (cxOf (L2.CX P w) P w K mg base N qual (defScope st) f cdv A outer s H E) (defBody st) (tMS K (fun cls d _ H => E cls d H) mb)
theorem df_fn2 (F : FunD K x qual (defArgs st) (defBody st) (defScope st) dv [] f fd) (S : FnScope N ps (defScope st)) (hbody : BodyOk P w K mg base k N qual st f mb) : FnOk P w K mg base (L2.CX P w) (k + 1) f fd ps (spM K ps.length (defRun N.length mb)) :=
  df_fn F S fun cdv A outer s H E hr => hbody cdv A outer s H E hr (takes_of rfl rfl rfl rfl) (passes_of rfl) (by
    have h := hr.un
    show (A.deeper (envOfC qual (defScope st) s.heap.objs.size f cdv)).units + 64 < cLine
    omega)
theorem df0 (F : FunD K x qual (defArgs st) (defBody st) (defScope st) [] [] f fd) (S : FnScope N ps (defScope st)) (hm : mg x = some (.ref f))
    (h : ∀ (kV doc pm : Value) (an : Option Addr) (cdv ct : Value) (us : List Value), us.length = ps.length → bindArgs (PySem.W.fnOf x qual (defArgs st) (defBody st) (defScope st) .none kV doc pm an cdv ct) ⟨us, []⟩ = pure (ps.zip us))
    (hbody : BodyOk P w K mg base k N qual st f mb) : Df P w K mg base (k + 1) x ps.length [] (defRun N.length mb) :=
  ⟨fun _ h => (nomatch h), f, fd, ps, rfl, hm, F.kp, df_fn2 F S hbody, fun j _ => ⟨[], by rw [List.drop_nil]; exact .nil, F.bindsN h⟩⟩
theorem dfD {dvs : List IV} (F : FunD K x qual (defArgs st) (defBody st) (defScope st) dv [] f fd) (S : FnScope N ps (defScope st)) (hm : mg x = some (.ref f)) (hf : dvs.all IV.flat = true) (hd : dvs.map IV.toV = dv) (hn : dvs.length = dv.length)
    (hB : ∀ j, j ≤ dv.length → ∃ ds, Vals (dv.drop j) ds ∧ Binds K fd ps ds)
    (hbody : BodyOk P w K mg base k N qual st f mb) : Df P w K mg base (k + 1) x ps.length dvs (defRun N.length mb) :=
  ⟨fun d h i e => (by
    have z := List.all_eq_true.mp hf d h
    rw [e] at z
    cases z), f, fd, ps, rfl, hm, F.kp, df_fn2 F S hbody, fun j hj => by
    rw [List.map_drop, hd]
    exact hB j (by rw [← hn]; exact hj)⟩
/-- from the facts of the head -/
theorem fun0 {oc : Value} {od an : Option Addr} {osl : Array (Option Value)} {kV doc pm cdv ct : Value} (l : K.lookup f = some ⟨oc, od, .func (PySem.W.fnOf x qual (defArgs st) (defBody st) (defScope st) .none kV doc pm an cdv ct), osl⟩)
    (c : PySem.W.codeIn K cdv qual = true) (k : PySem.W.keepIn K (.ref f) = true) : FunD K x qual (defArgs st) (defBody st) (defScope st) [] [] f (PySem.W.fnOf x qual (defArgs st) (defBody st) (defScope st) .none kV doc pm an cdv ct) :=
  ⟨⟨oc, od, .none, kV, doc, pm, an, cdv, ct, osl, rfl, l, c, .inl ⟨rfl, rfl⟩, .inl rfl⟩, k⟩
theorem funD {oc : Value} {od an : Option Addr} {osl : Array (Option Value)} {kV doc pm cdv ct : Value} {T : Addr} {o : Obj} {its : List Value} {n : Nat} (l : K.lookup f = some ⟨oc, od, .func (PySem.W.fnOf x qual (defArgs st) (defBody st) (defScope st) (.ref T) kV doc pm an cdv ct), osl⟩)
    (c : PySem.W.codeIn K cdv qual = true) (k : PySem.W.keepIn K (.ref f) = true) (lT : K.lookup T = some o) (oT : o.data = .seq its.toArray n) (hv : Vals dv its) (hd : dv ≠ []) : FunD K x qual (defArgs st) (defBody st) (defScope st) dv [] f (PySem.W.fnOf x qual (defArgs st) (defBody st) (defScope st) (.ref T) kV doc pm an cdv ct) :=
  ⟨⟨oc, od, .ref T, kV, doc, pm, an, cdv, ct, osl, rfl, l, c, .inr ⟨hd, T, o, its, n, rfl, lT, oT, hv⟩, .inl rfl⟩, k⟩
end
end L3
/-! L3i: the law's promise, from its mirror. -/
namespace L3
variable [TabT] [LamT]
open PySem PySem.Spec PyProof.Rows L2

/-- the law's promise: True of every script -/
def spLaw (K : PySem.W.Frag) : Sp := fun vs H Q _ => ∃ (a : Addr) (ns : List Int), vs = [.ref a] ∧ ns.length ≤ 63 ∧ (∀ z ∈ ns, Builtin.Int.intBits z ≤ 1048576) ∧ Only H ∧ SqL K H a (ns.map V.int) ∧ ∀ H', Q (.bl true) H'
theorem law_imp {K : PySem.W.Frag} {m : List IV → IH → Res IV} (hT : TabT.T = []) (hr0 : LamT.r0 = [] ∧ LamT.cs = []) (h : ∀ ns : List Int, ns.length ≤ 63 → (∀ z ∈ ns, Builtin.Int.intBits z ≤ 1048576) → ∃ ih, m [.ref 0] [.ro (ns.map IV.int)] = .ok (.bl true) ih) :
    ∀ vs H Q E, spLaw K vs H Q E → spM K 1 m vs H Q E := fun vs H Q E ⟨a, ns, e, h1, h2, hO, hS, q⟩ => by
  subst e
  obtain ⟨ih, h⟩ := h ns h1 h2
  refine ⟨[a], [.ro (ns.map IV.int)], [.ref 0], rfl, ⟨rfl, fun n b o e1 e2 => ?_, fun n k b o u e1 e2 e3 e4 s1 s2 => ?_, (by rw [hT]; exact fun p hp => nomatch hp), (by rw [hr0.1]; exact List.nil_prefix), (by rw [hr0.2]; exact fun p hp => nomatch hp)⟩, .cons ⟨a, rfl, rfl⟩ .nil, ?_⟩
  · cases n with
    | succ n => cases e1
    | zero =>
      cases e1
      cases e2
      refine ⟨ns.map V.int, ?_, Rs.flats_mk (f := IV.int) (g := V.int) (fun _ => rfl) ns⟩
      rcases hS with (z | ⟨o, z⟩) | z
      · rcases hO a with y | ⟨o, xs, y⟩
        · rw [y] at z; cases z
        · rw [y] at z; cases z
      · exact .inl ⟨o, z⟩
      · exact .inr (.inr z)
  · cases n with
    | succ n => cases e1
    | zero =>
      cases e3
      cases s1
  · rw [h]
    exact fun r' H' u p hr hv => by
      obtain rfl : u = .bl true := hv
      exact q H'
theorem cx_none {P : Program} {w : World} {H : Hp} {s : Shared} {e : Value} {s' : Shared} (h : L2.CX P w [] H s (fun _ _ _ => False) e s') : False := by
  obtain ⟨_, _, _, _, _, _, _, _, _, _, _, _, z⟩ := h
  exact z
end L3
/-! L3j: chains of two comparisons. -/
namespace L3
variable [TabT] [LamT]
open PySem L2
def mi_rng3 (m : Env → IH → Res (List IV)) (env : Env) (ih : IH) : Res Src := (m env ih).bind fun vs ih1 => match vs with
  | [.int i, .int j, .int k] => if k = -1 ∧ smallI i = true ∧ smallI j = true then .ok (.rng i (-1) (i - j).toNat) ih1 else .stuck
  | _ => .stuck
section
variable {X : Cx} {W : WX} {a b c : Expr} {ma mb mc : Env → IH → Res IV} {pos : Pos}
theorem chain_core {rr rr' : R2} {f g : IV → IV → IH → Res IV} (hf : Snd2 X.K W rr f) (hg : Snd2 X.K W rr' g) {σ : St} {H : Hp} {Q : VK} (h : tM X.K W (m_chain f g ma mb mc) σ H Q) : tChain rr rr' (tM X.K W ma) (tM X.K W mb) (tM X.K W mc) σ H Q := by
  obtain ⟨r, ih, env, hr, he, q⟩ := h
  refine tG.imp (tG_bind hr he q) fun u H1 ⟨r1, ih1, v, p, hr1, hv, q1⟩ => tG.imp (tG_bind hr1 (he.mono p) q1) fun w H2 ⟨r2, ih2, y, p2, hr2, hy, q2⟩ => hf r2 ih2 H2 v y u w σ _ hr2 (hv.mono p2) hy ?_
  dsimp only at q2
  cases e : f v y ih2 with
  | ok z ih3 =>
    rw [e] at q2
    intro r3 H3 z' p3 hr3 hz
    cases z with
    | bl k =>
      obtain rfl : z' = .bl k := hz
      refine ⟨k, rfl, ?_⟩
      cases k with
      | true =>
        rw [if_pos rfl]
        have q3 : PGen R X.K W σ r2 ((mc env ih3).bind fun u ih4 => g y u ih4) Q := q2
        exact tG.imp (tG_bind hr3 (he.mono (pre_trans p (pre_trans p2 p3))) (PGen.mono p3 q3)) fun u4 H4 ⟨r4, ih4, v4, p4, hr4, hv4, q4⟩ => hg _ _ _ _ _ _ _ _ _ hr4 (hy.mono (pre_trans p3 p4)) hv4 q4
      | false =>
        rw [if_neg (by decide)]
        have q3 : PGen R X.K W σ r2 (.ok (.bl false) ih3) Q := q2
        exact q3 r3 H3 _ p3 hr3 rfl
    | _ => exact (q2 : False).elim
  | exc c ih3 =>
    rw [e] at q2
    exact q2
  | stuck =>
    rw [e] at q2
    exact q2
theorem lm_chain {op op' : CmpOp} {rr rr' : R2} {f g : IV → IV → IH → Res IV} (ho : OpR X (compareOp op) rr) (hf : Snd2 X.K W rr f) (ho' : OpR X (compareOp op') rr') (hg : Snd2 X.K W rr' g) (ha : PE X a (tM X.K W ma)) (hb : PE X b (tM X.K W mb)) (hc : PE X c (tM X.K W mc))
    (hm : lastMarks [op, op'] [b, c] = false := by with_unfolding_all rfl) : PE X (.Compare a [op, op'] [b, c] pos) (tM X.K W (m_chain f g ma mb mc)) := PE.of (pe_chain ho ho' ha hb hc hm) fun σ H Q h => chain_core hf hg h
theorem lt_chain {op op' : CmpOp} {rr rr' : R2} {f g : IV → IV → IH → Res IV} (ho : OpR X (compareOp op) rr) (hf : Snd2 X.K W rr f) (ho' : OpR X (compareOp op') rr') (hg : Snd2 X.K W rr' g) (ha : PE X a (tM X.K W ma)) (hb : PE X b (tM X.K W mb)) (hc : PE X c (tM X.K W mc))
    (hm : lastMarks [op, op'] [b, c] = false := by with_unfolding_all rfl) : PT X (.Compare a [op, op'] [b, c] pos) (tMT X.K W (m_tb (m_chain f g ma mb mc))) := PT.of (pt_chain ho ho' ha hb hc hm) fun σ H Q h => chain_core hf hg (tb_core h)
theorem li_rng3 {tg a b d : Expr} {ml : Env → IH → Res (List IV)} {p pos : Pos} (hg : Gl X "range") (hm : X.mg "range" = none) (ha : PA X [a, b, d] (tMA X.K W ml))
    (hs : starEach [a, b, d] X.env = (false, eval a X.env) :: starEach [b, d] X.env := by rfl) (hpl : (backTo pos (starEach [b, d] X.env)).any (·.1) = false := by rfl) : PI X tg (.Call (.Name "range" p) [a, b, d] [] pos) (tMI X.K W (mi_rng3 ml)) :=
  PI.of (pi_range3 hg hm ha hs hpl) fun σ H Q ⟨r, ih, env, hr, he, q⟩ => tG.imp (tG_bind hr he q) fun u H1 ⟨r1, ih1, v, p, hr1, hv, q1⟩ => by
    dsimp only at q1
    split at q1
    · rename_i i j k
      cases hv with
      | cons v1 t1 =>
        cases t1 with
        | cons v2 t2 =>
          cases t2 with
          | cons v3 t3 =>
            cases t3
            obtain rfl := (show _ = V.int i from v1)
            obtain rfl := (show _ = V.int j from v2)
            obtain rfl := (show _ = V.int k from v3)
            split at q1
            · rename_i hj
              obtain ⟨rfl, hi, hj⟩ := hj
              obtain ⟨h1, h2⟩ := smallI_of hi
              obtain ⟨h3, h4⟩ := smallI_of hj
              exact ⟨i, j, -1, _, rfl, RgC.neg h1 h2 h3 h4, tG_end q1 hr1 ⟨rfl, rfl, rfl⟩⟩
            · exact q1.elim
    · exact q1.elim
end
end L3
/-! L3k: sorted. -/
namespace L3
variable [TabT] [LamT]
open PySem L2
/-- y put in behind all that it is not before -/
def insB {α : Type} (lt : α → α → Bool) (y : α) : List α → List α
  | [] => [y]
  | x :: l => if lt y x = true then y :: x :: l else x :: insB lt y l
def isB {α : Type} (lt : α → α → Bool) : List α → List α → List α
  | acc, [] => acc
  | acc, y :: r => isB lt (insB lt y acc) r
section
variable {α : Type} {lt : α → α → Bool}
theorem insB_split (O : SrtO.Swo lt) (y : α) : ∀ {l : List α}, SrtO.Srtd lt l → ∃ M N, l = M ++ N ∧ insB lt y l = M ++ y :: N ∧ (∀ x ∈ M, lt y x = false) ∧ ∀ x ∈ N, lt y x = true
  | [], _ => ⟨[], [], rfl, rfl, (fun _ h => nomatch h), fun _ h => nomatch h⟩
  | x :: l, h => by
    unfold insB
    split
    · rename_i hx
      exact ⟨[], x :: l, rfl, rfl, (fun _ h => nomatch h), O.lt_all h hx⟩
    · rename_i hx
      obtain ⟨M, N, e1, e2, h1, h2⟩ := insB_split O y (List.pairwise_cons.mp h).2
      refine ⟨x :: M, N, by rw [e1]; rfl, by rw [e2]; rfl, fun z hz => ?_, h2⟩
      rcases List.mem_cons.mp hz with e | e
      · rw [e]
        cases hh : lt y x with
        | true => exact absurd hh hx
        | false => rfl
      · exact h1 z e
theorem isB_spec (O : SrtO.Swo lt) : ∀ (r acc pre : List α), SrtO.Srtd lt acc → SrtO.Stb lt acc pre → SrtO.Srtd lt (isB lt acc r) ∧ SrtO.Stb lt (isB lt acc r) (pre ++ r)
  | [], acc, pre, h, s => ⟨h, by rw [List.append_nil]; exact s⟩
  | y :: r, acc, pre, h, s => by
    obtain ⟨M, N, e1, e2, h1, h2⟩ := insB_split O y h
    subst e1
    have k := isB_spec O r (insB lt y (M ++ N)) (pre ++ [y]) (by rw [e2]; exact SrtO.ins_srtd O h h1 h2) (by rw [e2]; exact SrtO.ins_stb O h2 s)
    rw [List.append_assoc] at k
    exact k
theorem isB_all (O : SrtO.Swo lt) (l : List α) : SrtO.Srtd lt (isB lt [] l) ∧ SrtO.Stb lt (isB lt [] l) l := isB_spec O l [] [] List.Pairwise.nil (SrtO.Stb.refl [])
end
theorem Stb.symm {α : Type} {lt : α → α → Bool} {l m : List α} (h : SrtO.Stb lt l m) : SrtO.Stb lt m l := ⟨h.perm.symm, fun x => (h.cls x).symm⟩
/-- the same steps on both sides -/
theorem ins_par {α β : Type} {T : α → β → Prop} {l1 : α → α → Bool} {l2 : β → β → Bool} (hT : ∀ x y u w, T x u → T y w → l1 x y = l2 u w) {y : α} {w : β} (hy : T y w) : ∀ {xs : List α} {us : List β}, Paired T xs us → Paired T (insB l1 y xs) (insB l2 w us)
  | _, _, .nil => .cons hy .nil
  | _, _, .cons (a := x) (b := u) q t => by
    unfold insB
    rw [hT y x w u hy q]
    split
    · exact .cons hy (.cons q t)
    · exact .cons q (ins_par hT hy t)
theorem is_par {α β : Type} {T : α → β → Prop} {l1 : α → α → Bool} {l2 : β → β → Bool} (hT : ∀ x y u w, T x u → T y w → l1 x y = l2 u w) : ∀ {xs : List α} {us : List β} {as : List α} {bs : List β}, Paired T as bs → Paired T xs us → Paired T (isB l1 as xs) (isB l2 bs us)
  | _, _, _, _, h, .nil => h
  | _, _, _, _, h, .cons q t => by
    unfold isB
    exact is_par hT (ins_par hT q h) t
/-! ### ints -/
def isI (ns : List Int) : List Int := isB (fun a b : Int => decide (a < b)) [] ns
theorem swoI : SrtO.Swo (fun a b : Int => decide (a < b)) := ⟨fun x y h => by
    simp only [decide_eq_true_eq, decide_eq_false_iff_not] at *
    omega, fun x y z h1 h2 => by
    simp only [decide_eq_true_eq, decide_eq_false_iff_not] at *
    omega⟩
theorem isI_perm (ns : List Int) : (isI ns).Perm ns := (isB_all swoI ns).2.perm
theorem isI_le (ns : List Int) : (isI ns).Pairwise (· ≤ ·) := ((isB_all swoI ns).1).imp fun h => by
  simp only [decide_eq_false_iff_not] at h
  omega
def f_sorted : List IV → IH → Res IV := f_ints fun ns ih => .ok (.ref ih.length) (ih ++ [.lst ((isI ns).map IV.int)])
theorem Rs.ints (r : List Addr) : ∀ ns : List Int, Rs r (ns.map IV.int) (ns.map V.int)
  | [] => .nil
  | _ :: l => .cons rfl (Rs.ints r l)
section
variable {K : PySem.W.Frag} {W : WX}
theorem s_sorted : SndC K W (rSortedI K) f_sorted := fun r ih H xs us σ Q hr hx q => by
  obtain ⟨a, ns, e, h, q2⟩ := ints_got hr hx q
  refine ⟨a, ns, e, h, fun ns' p hp hle hn => ?_⟩
  have e2 : ns' = isI ns := List.Perm.eq_of_pairwise (le := (· ≤ ·)) (fun a b _ _ h1 h2 => Int.le_antisymm h1 h2) hle (isI_le ns) (hp.trans (isI_perm ns).symm)
  rw [e2]
  exact end_lst q2 hr (Rs.ints r _) hn
end
/-! ### pairs of ints -/
def kI (ih : IH) : IV → Int × Int
  | .ref n => match ih[n]? with
    | some (.tup [.int i, .int j]) => (i, j)
    | _ => (0, 0)
  | _ => (0, 0)
def isPr (ih : IH) : IV → Bool
  | .ref n => match ih[n]? with
    | some (.tup [.int i, .int j]) => true
    | _ => false
  | _ => false
def ltI (ih : IH) (x y : IV) : Bool := SrtO.lexB (kI ih x) (kI ih y)
def f_sortP (xs : List IV) (ih : IH) : Res IV := match xs with
  | [.ref n] => match ih[n]? with
    | some o => if o.isL = true ∧ o.xs.all (isPr ih) = true then .ok (.ref ih.length) (ih ++ [.lst (isB (ltI ih) [] o.xs)]) else .stuck
    | none => .stuck
  | _ => .stuck
def kV (H : Hp) : V → Int × Int
  | .ref a => match H a with
    | some (.tup [.int i, .int j]) => (i, j)
    | _ => (0, 0)
  | _ => (0, 0)
theorem isPr_of {ih : IH} {x : IV} (h : isPr ih x = true) : ∃ n i j, x = .ref n ∧ ih[n]? = some (.tup [.int i, .int j]) := by
  unfold isPr at h
  split at h
  · rename_i n
    split at h
    · rename_i i j e
      exact ⟨n, i, j, rfl, e⟩
    · cases h
  · cases h
section
variable {K : PySem.W.Frag} {W : WX}
theorem pr_rel {r : List Addr} {ih : IH} {H : Hp} (hr : Rel K r ih H) {x : IV} {u : V} (h : R r x u) (hp : isPr ih x = true) : kI ih x = kV H u ∧ ∃ t, u = V.ref t ∧ H t = some (.tup [.int (kV H u).1, .int (kV H u).2]) := by
  obtain ⟨n, i, j, rfl, e⟩ := isPr_of hp
  obtain ⟨a, ea, rfl⟩ := h
  obtain ⟨ys, h1, h2⟩ := hr.get n a _ ea e
  have h3 : ys = [V.int i, V.int j] := by
    cases h2 with
    | cons q1 t =>
      cases t with
      | cons q2 t =>
        cases t
        cases q1
        cases q2
        rfl
  subst h3
  have e1 : kI ih (.ref n) = (i, j) := by
    unfold kI
    dsimp only
    rw [e]
  have e2 : kV H (.ref a) = (i, j) := by
    unfold kV
    dsimp only
    rw [h1]
  rw [e1, e2]
  exact ⟨rfl, a, rfl, h1⟩
theorem s_sortP : SndC K W (rSortedPO K) f_sortP := fun r ih H xs us σ Q hr hx q => by
  unfold f_sortP at q
  split at q
  · rename_i n
    cases hx with
    | cons h1 h2 =>
      cases h2
      obtain ⟨a, ea, rfl⟩ := h1.ref
      split at q
      · rename_i o e1
        split at q
        · rename_i hl
          obtain ⟨ys, h3, h4⟩ := (hr.get n a _ ea e1).l hl.1
          have hall := List.all_eq_true.mp hl.2
          have par : ∀ {zs : List IV} {ws : List V}, (∀ z ∈ zs, isPr ih z = true) → Rs r zs ws → Paired (fun x u => R r x u ∧ isPr ih x = true) zs ws := by
            intro zs ws hz h
            induction h with
            | nil => exact .nil
            | cons q t ihh => exact .cons ⟨q, hz _ List.mem_cons_self⟩ (ihh fun z h => hz z (List.mem_cons_of_mem _ h))
          have P4 := par hall h4
          have mem : ∀ {zs : List IV} {ws : List V}, Paired (fun x u => R r x u ∧ isPr ih x = true) zs ws → ∀ u ∈ ws, ∃ x, R r x u ∧ isPr ih x = true := by
            intro zs ws h
            induction h with
            | nil => intro u h; cases h
            | cons q t ihh =>
              intro u h
              rcases List.mem_cons.mp h with e | e
              · rw [e]; exact ⟨_, q⟩
              · exact ihh u e
          refine ⟨a, ys, kV H, rfl, h3, fun u hu => ?_, fun zs p s1 s2 hn => ?_⟩
          · obtain ⟨x, q1, q2⟩ := mem P4 u hu
            exact (pr_rel hr q1 q2).2
          · obtain ⟨k1, k2⟩ := isB_all (ltP_swo (kV H)) ys
            have e2 : zs = isB (ltP (kV H)) [] ys := SrtO.stb_uniq (ltP_swo (kV H)) s1 k1 (s2.trans (Stb.symm k2))
            rw [e2]
            have P5 := is_par (l1 := ltI ih) (l2 := ltP (kV H)) (fun x y u w h1 h2 => by
              show SrtO.lexB (kI ih x) (kI ih y) = SrtO.lexB (kV H u) (kV H w)
              rw [(pr_rel hr h1.1 h1.2).1, (pr_rel hr h2.1 h2.2).1]) .nil P4
            exact end_lst q hr (Paired.mapP P5 fun _ _ h => h.1) hn
        · exact q.elim
      · exact q.elim
  · exact q.elim
end
end L3
/-! L3l: list(range(a, b)), xs[::-1], x & 1, lists compared. -/
namespace L3
variable [TabT] [LamT]
open PySem L2
theorem Rs.reverse {r : List Addr} : ∀ {xs : List IV} {ys : List V}, Rs r xs ys → Rs r xs.reverse ys.reverse
  | _, _, .nil => .nil
  | _, _, .cons q t => by
    rw [List.reverse_cons, List.reverse_cons]
    exact Rs.append (Rs.reverse t) (.cons q .nil)
def f_rev (x : IV) (ih : IH) : Res IV := match x with
  | .ref n => match ih[n]? with
    | some o => if o.isL = true then .ok (.ref ih.length) (ih ++ [.lst o.xs.reverse]) else .stuck
    | none => .stuck
  | _ => .stuck
def rgI (a b : Int) : List IV := (List.range (b - a).toNat).map fun i : Nat => IV.int (a + (i : Int))
instance (a b : Int) : Decidable (RgOk a b) := by unfold RgOk; infer_instance
def f_lrg (xs : List IV) (ih : IH) : Res IV := match xs with
  | [.int i, .int j] => if RgOk i j then .ok (.ref ih.length) (ih ++ [.lst (rgI i j)]) else .stuck
  | _ => .stuck
def f_odd (x y : IV) (ih : IH) : Res IV := match x, y with
  | .int i, .int j => if 0 ≤ i ∧ j = 1 then .ok (.int (i % 2)) ih else .stuck
  | _, _ => .stuck
open Classical in
noncomputable def f_gtD (x y : IV) (ih : IH) : Res IV :=
  if h : ∃ p : PyData × PyData, Is ih x p.1 ∧ Is ih y p.2 ∧ PySem.W.alike p.1 p.2 = true ∧ p.1 ≠ .none ∧ p.1.depth ≤ 64 then .ok (.bl (PySem.W.dataLt h.choose.2 h.choose.1)) ih else .stuck
theorem f_gtD_of {x y : IV} {ih : IH} {d e : PyData} (h1 : Is ih x d) (h2 : Is ih y e) (s1 : PySem.W.alike d e = true) (s2 : d ≠ .none) (s3 : d.depth ≤ 64) : f_gtD x y ih = .ok (.bl (PySem.W.dataLt e d)) ih := by
  unfold f_gtD
  have h : ∃ p : PyData × PyData, Is ih x p.1 ∧ Is ih y p.2 ∧ PySem.W.alike p.1 p.2 = true ∧ p.1 ≠ .none ∧ p.1.depth ≤ 64 := ⟨(d, e), h1, h2, s1, s2, s3⟩
  rw [dif_pos h]
  have k := h.choose_spec
  rw [Is.uniq _ _ _ k.1 h1, Is.uniq _ _ _ k.2.1 h2]
def rGtD (K : PySem.W.Frag) : R2 := fun x y H Q => ∃ d e, Dp K H x d ∧ Dp K H y e ∧ PySem.W.alike d e = true ∧ d ≠ .none ∧ d.depth ≤ 64 ∧ Q (.bl (PySem.W.dataLt e d)) H
section
variable {X : Cx} {W : WX} {a b : Expr} {ma mb : Env → IH → Res IV} {pos : Pos}
theorem op_gtD (hu : X.A.units + 64 < cLine) : OpR X (compareOp .Gt) (rGtD X.K) := by
  intro pins s σ H x y v u Q I rx ry h
  obtain ⟨d, e, hd, he, sd, se, sz, q⟩ := h
  obtain ⟨as, r1⟩ := Dp.reads I d x v hd rx
  obtain ⟨bs, r2⟩ := Dp.reads I e y u he ry
  exact PySem.W.gt_data r1 r2 sd se (by have := Nat.min_le_left d.depth e.depth; omega) ⟨.bl _, H, I, rfl, q⟩
theorem s_gtD {K : PySem.W.Frag} {W : WX} : Snd2 K W (rGtD K) f_gtD := by
  intro r ih H x y u w σ Q hr hx hy q
  unfold f_gtD at q
  split at q
  · rename_i h
    have k := h.choose_spec
    exact ⟨_, _, Is.dp hr _ _ _ k.1 hx, Is.dp hr _ _ _ k.2.1 hy, k.2.2.1, k.2.2.2.1, k.2.2.2.2, tG_end q hr rfl⟩
  · exact q.elim
theorem s_odd {K : PySem.W.Frag} {W : WX} : Snd2 K W (fun x y H Q => ∃ n : Nat, x = .int (n : Int) ∧ y = .int 1 ∧ Q (.int ((n % 2 : Nat) : Int)) H) f_odd := by
  intro r ih H x y u w σ Q hr hx hy q
  unfold f_odd at q
  split at q
  · rename_i i j
    split at q
    · rename_i hh
      obtain ⟨n, rfl⟩ := Int.eq_ofNat_of_zero_le hh.1
      obtain rfl := hh.2
      cases hx
      cases hy
      refine ⟨n, rfl, rfl, ?_⟩
      exact tG_end q hr (by show V.int _ = V.int _; rw [Int.natCast_emod]; rfl)
    · exact q.elim
  · exact q.elim
theorem lm_rev {k : Nat} {p1 p2 p3 : Pos} (ha : PE X a (tM X.K W ma)) : PE X (.Subscript a (.Slice none none (some (.UnaryOp .USub (.Constant (.int 1) k p1) p2)) p3) pos) (tM X.K W (m_un f_rev ma)) :=
  PE.of (pe_revL ha) fun σ H Q ⟨r, ih, env, hr, he, q⟩ => tG.imp (tG_bind hr he q) fun u H1 ⟨r1, ih1, v, p, hr1, hv, q1⟩ => by
    replace q1 : PGen R X.K W σ r1 (f_rev v ih1) Q := q1
    unfold f_rev at q1
    split at q1
    · rename_i n
      obtain ⟨c, ec, rfl⟩ := hv.ref
      split at q1
      · rename_i o e1
        split at q1
        · rename_i hl
          obtain ⟨ys, h3, h4⟩ := (hr1.get n c _ ec e1).l hl
          exact ⟨c, ys, rfl, h3, fun l hp => end_lst q1 hr1 h4.reverse hp⟩
        · exact q1.elim
      · exact q1.elim
    · exact q1.elim
theorem app2 {f : List IV → IH → Res IV} {env : Env} {ih : IH} : m_app f (m_cons ma (m_cons mb m_nil)) env ih = (ma env ih).bind fun x ih1 => (mb env ih1).bind fun y ih2 => f [x, y] ih2 := by
  unfold m_app m_cons m_nil
  cases ma env ih with
  | ok x ih1 =>
    dsimp only [Res.bind]
    cases mb env ih1 <;> rfl
  | exc c ih1 => rfl
  | stuck => rfl
theorem Rs.rg (r : List Addr) (i j : Int) : Rs r (rgI i j) (rgV i j) := by
  unfold rgI rgV
  generalize List.range (j - i).toNat = l
  induction l with
  | nil => exact .nil
  | cons k l ihl => exact .cons rfl ihl
theorem lm_lrg {p q qos : Pos} (hc : X.calm = true) (h1 : Gl X "list") (h2 : X.mg "list" = none) (h3 : Gl X "range") (h4 : X.mg "range" = none) (ha : PE X a (tM X.K W ma)) (hb : PE X b (tM X.K W mb))
    (na : starEach [a, b] X.env = (false, eval a X.env) :: starEach [b] X.env := by rfl) (nb : starEach [b] X.env = (false, eval b X.env) :: starEach [] X.env := by rfl) (hp : (backTo qos (starEach [b] X.env)).any (·.1) = false := by rfl)
    (nc : starEach [.Call (.Name "range" q) [a, b] [] qos] X.env = (false, eval (.Call (.Name "range" q) [a, b] [] qos) X.env) :: starEach [] X.env := by rfl) :
    PE X (.Call (.Name "list" p) [.Call (.Name "range" q) [a, b] [] qos] [] pos) (tM X.K W (m_app f_lrg (m_cons ma (m_cons mb m_nil)))) :=
  PE.of (pe_listRg hc h1 h2 (prg_2 h3 h4 ha hb na nb hp) nc) fun σ H Q ⟨r, ih, env, hr, he, q⟩ => by
    rw [app2] at q
    exact tG.imp (tG_bind hr he q) fun u H1 ⟨r1, ih1, v, p, hr1, hv, q1⟩ => tG.imp (tG_bind hr1 (he.mono p) q1) fun w H2 ⟨r2, ih2, y, p2, hr2, hy, q2⟩ => by
      have hv2 := hv.mono p2
      replace q2 : PGen R X.K W σ r2 (f_lrg [v, y] ih2) Q := q2
      unfold f_lrg at q2
      split at q2
      · rename_i i j e
        cases e
        split at q2
        · rename_i ok
          cases hv2
          cases hy
          exact ⟨i, j, rfl, rfl, ok, fun l hp => end_lst q2 hr2 (Rs.rg _ i j) hp⟩
        · exact q2.elim
      · exact q2.elim
end
end L3
/-! L3n: chains of three comparisons, in, {}. -/
namespace L3
variable [TabT] [LamT]
open PySem L2 PyProof.Rows
theorem room65 {k : Nat} {A : Around} (h : Room k A) : A.units + 65 < cLine := by
  have := h.un
  omega
/-! ### {} -/
def m_dct (_ : Env) (ih : IH) : Res IV := .ok (.ref ih.length) (ih ++ [.dct])
theorem lm_dct {X : Cx} {W : WX} {pos : Pos} : PE X (.Dict [] [] pos) (tM X.K W m_dct) := PE.of pe_dnewK fun σ H Q ⟨r, ih, env, hr, he, q⟩ p hp =>
  q (r ++ [p]) _ _ pre_one (hr.new hp rfl fun H' e => ⟨_, e⟩) (R.newest hr.len)
/-! ### in -/
open Classical in
noncomputable def f_inn (neg : Bool) (x y : IV) (ih : IH) : Res IV :=
  if h : ∃ p : PyData × List PyData, Is ih x p.1 ∧ Is ih y (.list p.2) ∧ SeqAt.shaped p.1 = true ∧ SeqAt.shaped (.list p.2) = true then .ok (.bl (if neg = true then !(h.choose.2.any fun z => PyData.eqv z h.choose.1) else h.choose.2.any fun z => PyData.eqv z h.choose.1)) ih else .stuck
noncomputable def f_in := f_inn false
noncomputable def f_nin := f_inn true
theorem f_inn_of {neg : Bool} {x y : IV} {ih : IH} {d : PyData} {ds : List PyData} (h1 : Is ih x d) (h2 : Is ih y (.list ds)) (s1 : SeqAt.shaped d = true) (s2 : SeqAt.shaped (.list ds) = true) : f_inn neg x y ih = .ok (.bl (if neg = true then !(ds.any fun z => PyData.eqv z d) else ds.any fun z => PyData.eqv z d)) ih := by
  unfold f_inn
  have h : ∃ p : PyData × List PyData, Is ih x p.1 ∧ Is ih y (.list p.2) ∧ SeqAt.shaped p.1 = true ∧ SeqAt.shaped (.list p.2) = true := ⟨(d, ds), h1, h2, s1, s2⟩
  rw [dif_pos h]
  have k := h.choose_spec
  have e2 : h.choose.2 = ds := by
    have := Is.uniq _ _ _ k.2.1 h2
    cases this
    rfl
  rw [Is.uniq _ _ _ k.1 h1, e2]
theorem s_in {K : PySem.W.Frag} {W : WX} : Snd2 K W (rInD K) f_in := by
  intro r ih H x y u w σ Q hr hx hy q
  unfold f_in f_inn at q
  split at q
  · rename_i h
    have k := h.choose_spec
    exact ⟨_, _, Is.dp hr _ _ _ k.1 hx, Is.dp hr _ _ _ k.2.1 hy, k.2.2.1, k.2.2.2, tG_end q hr rfl⟩
  · exact q.elim
theorem s_nin {K : PySem.W.Frag} {W : WX} : Snd2 K W (rNotInD K) f_nin := by
  intro r ih H x y u w σ Q hr hx hy q
  unfold f_nin f_inn at q
  split at q
  · rename_i h
    have k := h.choose_spec
    exact ⟨_, _, Is.dp hr _ _ _ k.1 hx, Is.dp hr _ _ _ k.2.1 hy, k.2.2.1, k.2.2.2, tG_end q hr rfl⟩
  · exact q.elim
/-! ### a < b <= c < d -/
def m_chain3 (f g h : IV → IV → IH → Res IV) (ma mb mc md : Env → IH → Res IV) (env : Env) (ih : IH) : Res IV := (ma env ih).bind fun x ih1 => (mb env ih1).bind fun y ih2 => (f x y ih2).bind fun z ih3 => match z with
  | .bl k => if k = true then ((mc env ih3).bind fun u ih4 => (g y u ih4).bind fun z ih5 => match z with
    | .bl k => if k = true then (md env ih5).bind fun v ih6 => h u v ih6 else .ok (.bl false) ih5
    | _ => .stuck) else .ok (.bl false) ih3
  | _ => .stuck
def tChain3 (r r' r2 : R2) (ta tb tc td : TE) : TE := fun σ H Q => ta σ H fun x H1 => tb σ H1 fun y H2 => r x y H2 fun z H3 => ∃ k, z = .bl k ∧
  (if k = true then tc σ H3 fun u H4 => r' y u H4 fun z H5 => ∃ k, z = .bl k ∧ (if k = true then td σ H5 fun v H6 => r2 u v H6 Q else Q (.bl false) H5) else Q (.bl false) H3)
section
variable {X : Cx} {W : WX} {a b c d : Expr} {ta tb tc td : TE} {ma mb mc md : Env → IH → Res IV} {pos : Pos}
theorem pe_chain3 {o1 o2 o3 : CmpOp} {r1 r2 r3 : R2} (h1 : OpR X (compareOp o1) r1) (h2 : OpR X (compareOp o2) r2) (h3 : OpR X (compareOp o3) r3) (ha : PE X a ta) (hb : PE X b tb) (hc : PE X c tc) (hd : PE X d td)
    (hm : lastMarks [o1, o2, o3] [b, c, d] = false := by with_unfolding_all rfl) : PE X (.Compare a [o1, o2, o3] [b, c, d] pos) (tChain3 r1 r2 r3 ta tb tc td) := by
  refine ⟨fun pins s σ H Q I h => ?_⟩
  refine Compare_chain (thn (ha.run pins s σ H _ I h) fun v s1 ⟨x, H1, I1, q1, p1⟩ => chain_link (thn (hb.run pins s1 σ H1 _ I1 p1) fun u s2 ⟨y, H2, I2, q2, p2⟩ => thn (h1 pins s2 σ H2 x y v u _ I2 q1 q2 p2) fun e s3 ⟨z, H3, I3, q3, k, ez, p3⟩ => ?_)) hm
  subst ez
  cases q3
  refine wpAny_truthy_bool ?_
  cases k with
  | false => exact ite_ff ⟨.bl false, H3, I3, rfl, p3⟩
  | true =>
    refine ite_tt (chain_link (thn (hc.run pins s3 σ H3 _ I3 p3) fun w s4 ⟨y2, H4, I4, q4, p4⟩ => thn (h2 pins s4 σ H4 y y2 u w _ I4 q2 q4 p4) fun e s5 ⟨z, H5, I5, q5, k, ez, p5⟩ => ?_))
    subst ez
    cases q5
    refine wpAny_truthy_bool ?_
    cases k with
    | false => exact ite_ff ⟨.bl false, H5, I5, rfl, p5⟩
    | true => exact ite_tt (chain_last (thn (hd.run pins s5 σ H5 _ I5 p5) fun w2 s6 ⟨y3, H6, I6, q6, p6⟩ => h3 pins s6 σ H6 y2 y3 w w2 Q I6 q4 q6 p6))
theorem pt_chain3 {o1 o2 o3 : CmpOp} {r1 r2 r3 : R2} (h1 : OpR X (compareOp o1) r1) (h2 : OpR X (compareOp o2) r2) (h3 : OpR X (compareOp o3) r3) (ha : PE X a ta) (hb : PE X b tb) (hc : PE X c tc) (hd : PE X d td)
    (hm : lastMarks [o1, o2, o3] [b, c, d] = false := by with_unfolding_all rfl) : PT X (.Compare a [o1, o2, o3] [b, c, d] pos) (tTest (tChain3 r1 r2 r3 ta tb tc td)) := by
  refine ⟨fun pins s σ H Q I h => ?_⟩
  refine isTrue_chain (thn (ha.run pins s σ H _ I h) fun v s1 ⟨x, H1, I1, q1, p1⟩ => test_link (thn (hb.run pins s1 σ H1 _ I1 p1) fun u s2 ⟨y, H2, I2, q2, p2⟩ => thn (h1 pins s2 σ H2 x y v u _ I2 q1 q2 p2) fun e s3 ⟨z, H3, I3, q3, k, ez, p3⟩ => ?_)) hm
  subst ez
  cases q3
  refine wpAny_truthy_bool ?_
  cases k with
  | false =>
    obtain ⟨k', e', q'⟩ := p3
    cases e'
    exact ite_ff ⟨H3, I3, q'⟩
  | true =>
    refine ite_tt (test_link (thn (hc.run pins s3 σ H3 _ I3 p3) fun w s4 ⟨y2, H4, I4, q4, p4⟩ => thn (h2 pins s4 σ H4 y y2 u w _ I4 q2 q4 p4) fun e s5 ⟨z, H5, I5, q5, k, ez, p5⟩ => ?_))
    subst ez
    cases q5
    refine wpAny_truthy_bool ?_
    cases k with
    | false =>
      obtain ⟨k', e', q'⟩ := p5
      cases e'
      exact ite_ff ⟨H5, I5, q'⟩
    | true =>
      refine ite_tt (test_last (thn (hd.run pins s5 σ H5 _ I5 p5) fun w2 s6 ⟨y3, H6, I6, q6, p6⟩ => thn (h3 pins s6 σ H6 y2 y3 w w2 _ I6 q4 q6 p6) fun d' s7 ⟨z2, H7, I7, q7, k2, e2, p7⟩ => ?_))
      subst e2
      cases q7
      exact wpAny_truthy_bool ⟨H7, I7, p7⟩
theorem chain3_core {r1 r2 r3 : R2} {f g e : IV → IV → IH → Res IV} (hf : Snd2 X.K W r1 f) (hg : Snd2 X.K W r2 g) (he' : Snd2 X.K W r3 e) {σ : L2.St} {H : Hp} {Q : VK} (h : tM X.K W (m_chain3 f g e ma mb mc md) σ H Q) : tChain3 r1 r2 r3 (tM X.K W ma) (tM X.K W mb) (tM X.K W mc) (tM X.K W md) σ H Q := by
  obtain ⟨r, ih, env, hr, he, q⟩ := h
  refine tG.imp (tG_bind hr he q) fun u H1 ⟨r1, ih1, v, p, hr1, hv, q1⟩ => tG.imp (tG_bind hr1 (he.mono p) q1) fun w H2 ⟨r2, ih2, y, p2, hr2, hy, q2⟩ => hf r2 ih2 H2 v y u w σ _ hr2 (hv.mono p2) hy ?_
  dsimp only at q2
  cases e1 : f v y ih2 with
  | ok z ih3 =>
    rw [e1] at q2
    intro r3 H3 z' p3 hr3 hz
    cases z with
    | bl k =>
      obtain rfl : z' = .bl k := hz
      refine ⟨k, rfl, ?_⟩
      cases k with
      | true =>
        rw [if_pos rfl]
        have q3 : PGen R X.K W σ r2 ((mc env ih3).bind fun u ih4 => (g y u ih4).bind fun z ih5 => match z with
          | .bl k => if k = true then (md env ih5).bind fun v ih6 => e u v ih6 else .ok (.bl false) ih5
          | _ => .stuck) Q := q2
        have P3 := pre_trans p (pre_trans p2 p3)
        refine tG.imp (tG_bind hr3 (he.mono P3) (PGen.mono p3 q3)) fun u4 H4 ⟨r4, ih4, v4, p4, hr4, hv4, q4⟩ => hg r4 ih4 H4 y v4 w u4 σ _ hr4 (hy.mono (pre_trans p3 p4)) hv4 ?_
        dsimp only at q4
        cases e2 : g y v4 ih4 with
        | ok z ih5 =>
          rw [e2] at q4
          intro r5 H5 z' p5 hr5 hz
          cases z with
          | bl k =>
            obtain rfl : z' = .bl k := hz
            refine ⟨k, rfl, ?_⟩
            cases k with
            | true =>
              rw [if_pos rfl]
              have q5 : PGen R X.K W σ r4 ((md env ih5).bind fun v ih6 => e v4 v ih6) Q := q4
              exact tG.imp (tG_bind hr5 (he.mono (pre_trans P3 (pre_trans p4 p5))) (PGen.mono p5 q5)) fun u6 H6 ⟨r6, ih6, v6, p6, hr6, hv6, q6⟩ => he' _ _ _ _ _ _ _ _ _ hr6 (hv4.mono (pre_trans p5 p6)) hv6 q6
            | false =>
              rw [if_neg (by decide)]
              have q5 : PGen R X.K W σ r4 (.ok (.bl false) ih5) Q := q4
              exact q5 r5 H5 _ p5 hr5 rfl
          | _ => exact (q4 : False).elim
        | exc c ih5 =>
          rw [e2] at q4
          exact q4
        | stuck =>
          rw [e2] at q4
          exact q4
      | false =>
        rw [if_neg (by decide)]
        have q3 : PGen R X.K W σ r2 (.ok (.bl false) ih3) Q := q2
        exact q3 r3 H3 _ p3 hr3 rfl
    | _ => exact (q2 : False).elim
  | exc c ih3 =>
    rw [e1] at q2
    exact q2
  | stuck =>
    rw [e1] at q2
    exact q2
theorem lm_chain3 {o1 o2 o3 : CmpOp} {r1 r2 r3 : R2} {f g e : IV → IV → IH → Res IV} (h1 : OpR X (compareOp o1) r1) (hf : Snd2 X.K W r1 f) (h2 : OpR X (compareOp o2) r2) (hg : Snd2 X.K W r2 g) (h3 : OpR X (compareOp o3) r3) (he : Snd2 X.K W r3 e) (ha : PE X a (tM X.K W ma)) (hb : PE X b (tM X.K W mb)) (hc : PE X c (tM X.K W mc)) (hd : PE X d (tM X.K W md))
    (hm : lastMarks [o1, o2, o3] [b, c, d] = false := by with_unfolding_all rfl) : PE X (.Compare a [o1, o2, o3] [b, c, d] pos) (tM X.K W (m_chain3 f g e ma mb mc md)) := PE.of (pe_chain3 h1 h2 h3 ha hb hc hd hm) fun σ H Q h => chain3_core hf hg he h
theorem lt_chain3 {o1 o2 o3 : CmpOp} {r1 r2 r3 : R2} {f g e : IV → IV → IH → Res IV} (h1 : OpR X (compareOp o1) r1) (hf : Snd2 X.K W r1 f) (h2 : OpR X (compareOp o2) r2) (hg : Snd2 X.K W r2 g) (h3 : OpR X (compareOp o3) r3) (he : Snd2 X.K W r3 e) (ha : PE X a (tM X.K W ma)) (hb : PE X b (tM X.K W mb)) (hc : PE X c (tM X.K W mc)) (hd : PE X d (tM X.K W md))
    (hm : lastMarks [o1, o2, o3] [b, c, d] = false := by with_unfolding_all rfl) : PT X (.Compare a [o1, o2, o3] [b, c, d] pos) (tMT X.K W (m_tb (m_chain3 f g e ma mb mc md))) := PT.of (pt_chain3 h1 h2 h3 ha hb hc hd hm) fun σ H Q h => chain3_core hf hg he (tb_core h)
end
end L3
/-! L3q: a lambda of one parameter, handed to a def behind its other arguments. -/
namespace L3
variable [TabT] [LamT]
open PySem PySem.Spec PyProof.Rows L2

abbrev XN : XK := fun _ _ _ => False
/-- fits(e): the closure is the object n, in slot i -/
def m_fits (i n : Nat) (lam : IV → IH → Res IV) (me : Env → IH → Res IV) (env : Env) (ih : IH) : Res IV := match env[i]? with
  | some (some (.ref m)) => if m = n then (me env ih).bind fun x ih1 => (match lam x ih1 with
      | .ok v ih2 => .ok v ih2
      | _ => .stuck) else .stuck
  | _ => .stuck
/-- x(es, lambda a: body) -/
def m_callL (g : Nat → (IV → IH → Res IV) → List IV → IH → Res IV) (lam : Env → IV → IH → Res IV) (ma : Env → IH → Res (List IV)) (env : Env) (ih : IH) : Res IV :=
  (ma env ih).bind fun xs ih1 => match g ih1.length (lam env) (xs ++ [.ref ih1.length]) (ih1 ++ [.clo]) with
    | .ok v ih2 => .ok v ih2
    | _ => .stuck
/-- the lambda's body, by its parameter's slot -/
def lamB (p : Nat) (ml : Env → IH → Res IV) (env : Env) (x : IV) (ih : IH) : Res IV := ml (env.set p (some x)) ih

/-! ### its names -/
structure LamP (sc scope : Scope) (a : Str) : Prop where
  kd : scope.kind = .function
  nco : scope.isCoroutine = false
  ngn : scope.isGenerator = false
  par : scope.names.lookup a = some .local
  loc : ∀ y ∈ scope.names, y.2 = .local → y.1 = a
  ncl : ∀ y ∈ scope.names, y.2 ≠ .cell
  fre : ∀ y ∈ scope.names, y.2 = .free → sc.names.lookup y.1 = some .cell ∨ sc.names.lookup y.1 = some .free
def lamPB (sc scope : Scope) (a : Str) : Bool :=
  decide (scope.kind = .function) && !scope.isCoroutine && !scope.isGenerator && decide (scope.names.lookup a = some .local) &&
    scope.names.all fun y => (!decide (y.2 = .local) || decide (y.1 = a)) && !decide (y.2 = .cell) && (!decide (y.2 = .free) || (decide (sc.names.lookup y.1 = some .cell) || decide (sc.names.lookup y.1 = some .free)))
theorem lamP_by {sc scope : Scope} {a : Str} (h : lamPB sc scope a = true) : LamP sc scope a := by
  unfold lamPB at h
  simp only [Bool.and_eq_true, Bool.or_eq_true, Bool.not_eq_true', decide_eq_true_eq, decide_eq_false_iff_not, List.all_eq_true] at h
  obtain ⟨⟨⟨⟨h1, h2⟩, h3⟩, h4⟩, h5⟩ := h
  exact ⟨h1, h2, h3, h4, fun y hy e => (h5 y hy).1.1.resolve_left fun z => z e, fun y hy => (h5 y hy).1.2, fun y hy e => (h5 y hy).2.resolve_left fun z => z e⟩
section
variable {X : Cx} {pins : List (Addr × Obj)} {σ : L2.St} {H HZ : Hp} {s s1 : Shared} {scope : Scope} {a : Str}
theorem LamP.has (L : LamP X.env.scope scope a) (ok : X.Ok) : ∀ y ∈ scope.names, y.2 = .free → ∃ c, X.env.cells.lookup y.1 = some c := fun y hy e =>
  (L.fre y hy e).elim (fun k => ok.has y.1 (.inl k)) fun k => ok.has y.1 (.inr k)
/-- the lambda's frame, entered from the frames outer with the argument u -/
theorem lam_enter {A : Around} {outer : List PySem.Env} {E : XK} {f c' : Addr} {h₁ : Heap} {tk p : Nat} {y : V} {u : Value} (I : L2.Inv X pins σ H s) (L : LamP X.env.scope scope a) (e0 : Env0 X.prog X.w X.K X.mg X.base A outer s1 HZ) (hd : A.handled = none)
    (hN : X.N.Nodup) (hp : X.N[p]? = some a) (ry : RelV y u) (un : ∀ z c v, X.env.cells.lookup z = some c → s.heap.IsCell c v → s1.heap.IsCell c v ∧ HZ c = none) (hns : h₁.Ns s1.heap.objs.size fun z => ([(a, u)] : List (Str × Value)).reverse.lookup z) (kp : ∀ b o, s1.heap.get? b = some o → h₁.get? b = some o) :
    L2.Inv (LamX.lamCx X A outer s1 HZ E scope f c') [] (σ.set p (some y)) HZ { s1 with heap := h₁, toks := tk } := by
  have hfree := L.has I.ok
  have inX : ∀ {z : Str} {c : Addr}, (cloFrom X.env.cells scope.names []).lookup z = some c → X.env.cells.lookup z = some c := fun {z c} e => by
    rcases cloFrom_mem (PySem.mem_of_lookup e) with hm | ⟨h1, h2⟩
    · cases hm
    · obtain ⟨c1, hc⟩ := hfree _ h1 rfl
      have hc' : X.env.cells.lookup z = some c1 := hc
      have ec : c = c1 := by
        rw [h2, hc'] <;> rfl
      rw [ec]
      exact hc'
  have got : ∀ {z : Str}, scope.names.lookup z = some .free → ∃ c, (cloFrom X.env.cells scope.names []).lookup z = some c := fun {z} hl =>
    mem_lookup (cloFrom_has (cells := X.env.cells) (acc := []) (show (z, NameKind.free) ∈ scope.names from PySem.mem_of_lookup hl))
  have held : ∀ {z : Str} {c : Addr} {v : Option Value}, X.env.cells.lookup z = some c → s.heap.IsCell c v → h₁.IsCell c v := fun {z c v} n q => by
    obtain ⟨o, ho, hdat⟩ := (un z c v n q).1
    exact ⟨o, kp _ _ ho, hdat⟩
  have noA : ∀ b : Addr, b ∉ (LamX.lamCx X A outer s1 HZ E scope f c').ex := fun b z => absurd (show b ∈ ([] : List Addr) from z) (by simp)
  have okL : (LamX.lamCx X A outer s1 HZ E scope f c').Ok := {
    mod := e0.mod
    kind := L.kd
    glob := rfl
    blt := rfl
    above := Nat.le_refl _
    inj := fun y1 y2 c e1 e2 => I.ok.inj y1 y2 c (inX e1) (inX e2)
    has := fun z hz => (show scope.names.lookup z = some .cell ∨ scope.names.lookup z = some .free from hz).elim (fun k => absurd rfl (L.ncl _ (PySem.mem_of_lookup k))) fun k => got k
    cab := fun z c hz _ => absurd (show false = true from hz) Bool.false_ne_true
    hd := fun _ => hd
    frames := Around.frames_deeper e0.frames
    stk := .inr ⟨rfl, rfl⟩
    exf := fun b z => absurd z (noA b)
    bs := e0.bs
    bsz := e0.bsz
    noex := fun b _ _ => noA b
    exfs := fun b z => absurd z (noA b)
    funs := e0.funs
    frf := e0.frf }
  refine ⟨okL, rfl, e0.bare, Un.kept kp, ⟨_, hns, fun i z v e1 e2 e3 => ?_⟩, fun z c e => ?_, e0.hok.fresh (Nat.le_refl _), fun z c e => ?_, fun q hq => absurd (show q ∈ ([] : List (Addr × Obj)) ++ [] from hq) (by simp), e0.hok.kept kp, by rw [List.length_set]; exact I.len⟩
  · have e1' : X.N[i]? = some z := e1
    have e3' : Vis scope z := e3
    by_cases hz : z = a
    · subst hz
      obtain rfl : i = p := nodup_ix hN e1' hp
      have hl : i < σ.length := by rw [I.len]; exact (List.getElem?_eq_some_iff.mp hp).1
      rw [List.getElem?_set_self hl] at e2
      cases e2
      exact ⟨u, ry, .inl ⟨L.par, by simp⟩⟩
    · have hip : p ≠ i := fun e => hz (by rw [← e, hp] at e1'; exact (Option.some.inj e1').symm)
      rw [List.getElem?_set_ne hip] at e2
      rcases e3' with k | k | k
      · exact absurd (L.loc _ (PySem.mem_of_lookup k) rfl) hz
      · exact absurd rfl (L.ncl _ (PySem.mem_of_lookup k))
      · obtain ⟨m, hn, hl⟩ := I.loc
        have sees := L.fre _ (PySem.mem_of_lookup k) rfl
        obtain ⟨w', rw', q⟩ := hl i z v e1' e2 (sees.elim (fun k2 => .inr (.inl k2)) fun k2 => .inr (.inr k2))
        obtain ⟨c2, h2⟩ := got k
        refine ⟨w', rw', .inr ⟨.inr k, c2, h2, ?_⟩⟩
        have c1 := inX h2
        rcases q with ⟨k', _⟩ | ⟨_, c3, e', zc⟩
        · have k2' : X.env.scope.names.lookup z = some .local := k'
          rcases sees with k2 | k2
          · have k3 : X.env.scope.names.lookup z = _ := k2
            rw [k3] at k2'
            cases k2'
          · have k3 : X.env.scope.names.lookup z = _ := k2
            rw [k3] at k2'
            cases k2'
        · rw [c1] at e'
          cases e'
          exact held c1 zc
  · obtain ⟨w', zc⟩ := I.cell z c (inX e)
    exact ⟨w', held (inX e) zc⟩
  · obtain ⟨v, zc⟩ := I.cell z c (inX e)
    exact (un z c v (inX e) zc).2
end
theorem takes_none {X : Cx} : Takes X W0 := fun _ _ x => by
  obtain ⟨_, _, _, _, _, _, _, _, _, _, _, _, _, _, _, _, z⟩ := x
  exact z.elim
/-- a heap of which only some objects are told -/
noncomputable def keepH (h : Heap) (P : Addr → Prop) : Heap := by
  classical
  exact ⟨h.objs.mapIdx fun i o => if P i then o else { cls := .none, data := .freed }, h.life⟩
theorem keepH_size {h : Heap} {P : Addr → Prop} : (keepH h P).objs.size = h.objs.size := by
  unfold keepH
  exact Array.size_mapIdx
theorem keepH_in {h : Heap} {P : Addr → Prop} {b : Addr} (hb : P b) : (keepH h P).get? b = h.get? b := by
  unfold keepH Heap.get?
  dsimp only
  rw [Array.getElem?_mapIdx]
  cases h.objs[b]? with
  | none => rfl
  | some o => rw [Option.map_some, if_pos hb]
theorem keepH_out {h : Heap} {P : Addr → Prop} {b : Addr} (hb : ¬ P b) : (keepH h P).get? b = none := by
  unfold keepH Heap.get?
  dsimp only
  rw [Array.getElem?_mapIdx]
  cases h.objs[b]? with
  | none => rfl
  | some o => rw [Option.map_some, if_neg hb]
theorem keepH_sub {h : Heap} {P : Addr → Prop} {b : Addr} {o : Obj} (e : (keepH h P).get? b = some o) : P b ∧ h.get? b = some o := by
  by_cases hb : P b
  · rw [keepH_in hb] at e
    exact ⟨hb, e⟩
  · rw [keepH_out hb] at e
    cases e
theorem mod_keeps {K : PySem.W.Frag} {mg : Str → Option Value} {b1 b2 : Heap} (M : Mod K mg b1) (k : ∀ b o, b1.get? b = some o → b2.get? b = some o) : Mod K mg b2 :=
  ⟨M.kin.keeps k, M.glob.keeps k, M.blt.elim fun mb q => ⟨mb, q.1.keeps k, q.2⟩, M.nolimit.keeps k⟩
theorem funs_base {h b1 b2 : Heap} : ∀ {l : List PySem.Env}, h.FunFrames b1 l → (∀ L ∈ frs l, b1.get? L = none → b2.get? L = none) → h.FunFrames b2 l
  | [], _, _ => trivial
  | env :: rest, ⟨hk, ⟨L, o, hf, hn, ho, hd⟩, hr⟩, k => by
    have e : frs (env :: rest) = L :: frs rest := by
      show (env :: rest).filterMap (·.frame) = L :: rest.filterMap (·.frame)
      rw [List.filterMap_cons, hf]
    exact ⟨hk, ⟨L, o, hf, k L (by rw [e]; exact List.mem_cons_self) hn, ho, hd⟩, funs_base hr fun M hM => k M (by rw [e]; exact List.mem_cons_of_mem _ hM)⟩
section
variable {X : Cx} {pins : List (Addr × Obj)} {σ : L2.St} {H : Hp} {s : Shared}
/-- the context of the def that got the lambda, entered at s; base2: what is known to stay there -/
abbrev Zx (X : Cx) (base2 : Heap) (Ng : List Str) (qg : Str) (sg : Scope) (g : Addr) (cdg : Value) (s : Shared) (H : Hp) : Cx := cxOf (L2.CX X.prog X.w) X.prog X.w X.K X.mg base2 Ng qg sg g cdg X.A X.stack s H XN
/-- a context of that def: its own, or a block's -/
abbrev Zin (Z : Cx) (s0 : Shared) (H0 : Hp) (env : PySem.Env) (outer : List PySem.Env) (ex : List Addr) (fn : Str → Bool) (calm : Bool) (pn : List (Addr × Obj)) (xe : Value → Shared → Prop) : Cx :=
  Cx.mk Z.prog Z.w Z.K Z.mg Z.base Z.A Z.N s0 H0 env outer Z.stack ex fn calm pn xe
/-- what a lambda's call does there -/
abbrev ActOk (Z : Cx) (i n : Nat) (a : Str) (lam : IV → IH → Res IV) : Prop :=
  ∀ {s0 : Shared} {H0 : Hp} {env : PySem.Env} {outer : List PySem.Env} {ex : List Addr} {fn : Str → Bool} {calm : Bool} {pn : List (Addr × Obj)} {xe : Value → Shared → Prop} {e : Expr} {me : Env → IH → Res IV} {p1 p2 : Pos},
    PE (Zin Z s0 H0 env outer ex fn calm pn xe) e (tM Z.K W0 me) → Vis env.scope a → (starEach [e] env = [(false, eval e env)]) → PE (Zin Z s0 H0 env outer ex fn calm pn xe) (.Call (.Name a p1) [e] [] p2) (tM Z.K W0 (m_fits i n lam me))
theorem act_ok {base2 : Heap} {Ng : List Str} {qg : Str} {sg : Scope} {g f c' : Addr} {cdg pm ctv : Value} {params : Arguments} {body : Expr} {scope : Scope} {k i n p : Nat} {a b : Str} {ml : Env → IH → Res IV} {env0 : Env}
    (I : L2.Inv X pins σ H s) (L : LamP X.env.scope scope b) (hN : X.N.Nodup) (hp : X.N[p]? = some b) (he0 : REnv LamT.r0 env0 σ) (hn : LamT.r0[n]? = some f) (hcs : (c', X.env.qual ++ "<lambda>") ∈ LamT.cs)
    (hf : base2.get? f = some (PySem.W.kla_obj "<lambda>" (X.env.qual ++ "<lambda>") params body scope (cloFrom X.env.cells scope.names []) pm c' ctv)) (hcl : ∀ z c o, X.env.cells.lookup z = some c → s.heap.get? c = some o → base2.get? c = some o)
    (hb2 : ∀ b o, X.base.get? b = some o → base2.get? b = some o) (hz2 : X.base.objs.size ≤ base2.objs.size)
    (hbind : ∀ v : Value, bindArgs (PySem.W.kla_fn "<lambda>" (X.env.qual ++ "<lambda>") params body scope (cloFrom X.env.cells scope.names []) pm (.ref c') ctv) ⟨[v], []⟩ = pure [(b, v)])
    (hr : Room (k + 1) (X.A.deeper (envOfC qg sg s.heap.objs.size g cdg)))
    (hbody : ∀ (A : Around) (outer : List PySem.Env) (s' : Shared) (H' : Hp), Room k (A.deeper (LamX.lamEnv X scope s'.heap.objs.size f c')) → PE (LamX.lamCx X A outer s' H' XN scope f c') body (tM X.K W0 ml))
    (hNg : Ng[i]? = some a) (hd : (a == ("__debug__" : Str)) = false := by decide) (hcd : (a == ("__classdict__" : Str)) = false := by decide) : ActOk (Zx X base2 Ng qg sg g cdg s H) i n a (lamB p ml env0) := by
  intro s0 H0 env1 outer ex fn calm pn xe e me p1 p2 he hv hst
  generalize hZ : Zin (Zx X base2 Ng qg sg g cdg s H) s0 H0 env1 outer ex fn calm pn xe = Z at he ⊢
  have zb : Z.base = base2 := by rw [← hZ]; rfl
  have zA : Z.A = X.A.deeper (envOfC qg sg s.heap.objs.size g cdg) := by rw [← hZ]; rfl
  have zs : Z.stack = envOfC qg sg s.heap.objs.size g cdg :: X.stack := by rw [← hZ]; rfl
  have zN : Z.N = Ng := by rw [← hZ]; rfl
  have zp : Z.prog = X.prog := by rw [← hZ]; rfl
  have zw : Z.w = X.w := by rw [← hZ]; rfl
  have zK : Z.K = X.K := by rw [← hZ]; rfl
  have zm : Z.mg = X.mg := by rw [← hZ]; rfl
  have zv : Vis Z.env.scope a := by rw [← hZ]; exact hv
  have hst : starEach [e] Z.env = [(false, eval e Z.env)] := by rw [← hZ]; exact hst
  have he : PE Z e (tM X.K W0 me) := he
  show PE Z (.Call (.Name a p1) [e] [] p2) (tM X.K W0 (m_fits i n (lamB p ml env0) me))
  clear hZ
  obtain ⟨Zprog, Zw, ZK, Zmg, Zbase, ZA, ZN, Zs0, ZH0, Zenv, Zouter, Zstack, Zex, Zfn, Zcalm, Zpn, Zxe⟩ := Z
  dsimp only at zb zA zs zN zp zw zK zm zv hst
  replace zb := zb.symm
  subst zb
  subst zA
  subst zs
  replace zN := zN.symm
  subst zN
  subst zp
  subst zw
  subst zK
  subst zm
  refine ⟨fun pinsZ sZ σZ HZ Q IZ ⟨r, ih, env, hrl, hen, q⟩ => ?_⟩
  unfold m_fits at q
  split at q
  · rename_i m hm
    split at q
    · rename_i hmn
      subst hmn
      obtain ⟨u0, hu0, a0, ha0, hu1⟩ := hen.2 i _ hm
      subst hu1
      have ha1 : r[m]? = some f := pre_get hrl.pre hn
      rw [ha1] at ha0
      cases ha0
      refine wpAny_Call_Name_kw (thn ((pe_var (pos := p1) (i := i) hNg zv hd hcd).run pinsZ sZ σZ HZ (fun v H1 => v = .ref f ∧ H1 = HZ) IZ ⟨.ref f, hu0, rfl, rfl⟩) fun w1 s1 ⟨v, H1, I1, rv, ev, eH⟩ => ?_)
      subst ev
      rw [eH] at I1
      obtain rfl : w1 = Value.ref f := rv
      refine PySem.W.callWith_F ⟨_, _, _, _, (I1.bs f _ hf).1⟩ ?_ hst (by rfl)
      rw [hst]
      refine Calls.spliced_cons (thn (he.run pinsZ s1 σZ HZ _ I1 (tG_bind hrl hen q)) fun w s2 ⟨x2, H2, I2, rx, r2, ih2, v2, pre2, hr2, hv2, q2⟩ => ?_)
      refine Calls.spliced_nil ⟨⟨_, _, _, _, (I2.bs f _ hf).1⟩, ?_⟩
      have fAt := (I2.bs f _ hf).1
      obtain ⟨⟨oc, vs, t, hoc, hdc, hvc⟩, _, _⟩ := I2.hok c' _ (hr2.cod _ hcs)
      dsimp only at q2
      cases z : lamB p ml env0 v2 ih2 with
      | exc cc ihc => rw [z] at q2; exact q2.elim
      | stuck => rw [z] at q2; exact q2.elim
      | ok v3 ih3 =>
        rw [z] at q2
        have e02 := I2.env0
        have e0 : Env0 X.prog X.w X.K X.mg X.base (X.A.deeper (envOfC qg sg s.heap.objs.size g cdg)) (envOfC qg sg s.heap.objs.size g cdg :: X.stack) s2 H2 := by
          have fb : ∀ L, base2.get? L = none → X.base.get? L = none := fun L z => by
            cases z1 : X.base.get? L with
            | none => rfl
            | some o =>
              rw [hb2 L o z1] at z
              cases z
          exact ⟨e02.frames, I.ok.mod, fun b o z => e02.bs b o (hb2 b o z), Nat.le_trans hz2 e02.bsz, funs_base e02.funs (fun L _ z => fb L z), e02.frf, e02.hok, e02.bare⟩
        have rc : codeAny (model X.prog X.w) (X.A.deeper (envOfC qg sg s.heap.objs.size g cdg)) (.call (.ref f) ⟨[w], []⟩) (CR (L2.CX X.prog X.w) (envOfC qg sg s.heap.objs.size g cdg :: X.stack) X.prog X.w H2 s2 Q XN) s2 := by
          refine PySem.W.kla_callFunE hr.depth fAt rfl L.nco L.ngn rfl ⟨c', oc, vs, t, rfl, hoc, hdc, hvc⟩ ?_
          rw [hbind w]
          refine wpAny_pure (wpAny_newFunctionEnv L.ncl (fun y hy => by rw [List.mem_singleton.mp hy]; exact L.par) (fun h₁ hns hsb => ⟨I2.nolimit.fresh _ hsb, ?_⟩) L.kd)
          show codeAny _ _ (.expr body (LamX.lamEnv X scope s2.heap.objs.size f c')) _ _
          have kp : ∀ d o, s2.heap.get? d = some o → h₁.get? d = some o := fun d o ed => hsb.extBut d o (Nat.ne_of_lt (Heap.lt_size ed)) (Heap.get?_push_of_some _ ed)
          have J := lam_enter (E := XN) (f := f) (c' := c') (tk := s2.toks + ([(b, w)] : List (Str × Value)).length) I L e0 hr.hd hN hp rx (fun z c v e1 ⟨o, e2, e3⟩ => ⟨⟨o, (I2.bs c o (hcl z c o e1 e2)).1, e3⟩, (I2.bs c o (hcl z c o e1 e2)).2⟩) hns kp
          have rd : tM X.K W0 ml (σ.set p (some x2)) H2 Q := ⟨r2, ih2, env0.set p (some v2), hr2, (he0.mono hr2.pre).set hv2 p, by
            show PGen R X.K W0 (σ.set p (some x2)) r2 (lamB p ml env0 v2 ih2) Q
            rw [z]
            exact q2⟩
          refine PySem.W.kla_codeExpr (wpAny_mono ((hbody _ _ s2 H2 (hr.deeper _)).run [] _ _ H2 Q J rd) (fun v s' hq => ?_) fun e' s' hq => hq)
          obtain ⟨w', H', J', rv', q'⟩ := hq
          exact ⟨w', H', J'.os, J'.bare, J'.base, J'.hok, rv', q'⟩
        refine wpAny_call (codeAny_mono rc fun res s' hq => ?_)
        cases res with
        | error e' => exact passes_call (E := XN) takes_none (fun _ _ _ _ h => h) pinsZ σZ H2 s2 e' s' I2 hq
        | ok fl =>
          cases fl with
          | ret u => exact I2.after hq
          | next => exact False.elim hq
          | brk => exact False.elim hq
          | cont => exact False.elim hq
    · exact q.elim
  · exact q.elim
end
theorem RO.stays {K : PySem.W.Frag} {r : List Addr} {H H2 : Hp} {a : Addr} {o : MO} (h : RO K r H a o) (e : LamX.ExtN H H2) : RO K r H2 a o := by
  cases o with
  | lst xs => obtain ⟨ys, h1, h2⟩ := h; exact ⟨ys, e _ _ h1 (fun ps z => nomatch z), h2⟩
  | tup xs => obtain ⟨ys, h1, h2⟩ := h; exact ⟨ys, e _ _ h1 (fun ps z => nomatch z), h2⟩
  | ro xs =>
    obtain ⟨ys, h1, h2⟩ := h
    rcases h1 with ⟨o, h1⟩ | h1
    · exact ⟨ys, .inl ⟨o, e _ _ h1 (fun ps z => nomatch z)⟩, h2⟩
    · exact ⟨ys, .inr h1, h2⟩
  | rot xs => exact h
  | dct => obtain ⟨kvs, h1⟩ := h; exact ⟨kvs, e _ _ h1 (fun ps z => nomatch z)⟩
  | dk kvs => obtain ⟨ys, h1, h2⟩ := h; exact ⟨ys, e _ _ h1 (fun ps z => nomatch z), h2⟩
  | clo => trivial
/-- the closure at f is an object of the mirror, too -/
theorem Rel.lam {K : PySem.W.Frag} {r : List Addr} {ih : IH} {H H2 : Hp} {f c' : Addr} {q : Str} (h : Rel K r ih H) (e : LamX.ExtN H H2) (t : LamX.Tabs TabT.T H2) (hc : H2 c' = some (LamX.CodeO c' q)) :
    @Rel _ ⟨r ++ [f], (c', q) :: LamT.cs⟩ K (r ++ [f]) (ih ++ [.clo]) H2 := by
  have low : ∀ {n : Nat} {b : Addr} {o : MO}, (r ++ [f])[n]? = some b → (ih ++ [MO.clo])[n]? = some o → (r[n]? = some b ∧ ih[n]? = some o) ∨ o = .clo := fun {n b o} e1 e2 => by
    by_cases hn : n < r.length
    · rw [List.getElem?_append_left hn] at e1
      rw [List.getElem?_append_left (by rw [← h.len]; exact hn)] at e2
      exact .inl ⟨e1, e2⟩
    · right
      rw [List.getElem?_append_right (by rw [← h.len]; omega)] at e2
      cases hz : n - ih.length with
      | zero => rw [hz] at e2; exact (Option.some.inj e2).symm
      | succ j => rw [hz] at e2; cases e2
  refine @Rel.mk _ ⟨r ++ [f], (c', q) :: LamT.cs⟩ _ _ _ _ (by rw [List.length_append, List.length_append, h.len]; rfl) (fun n a o e1 e2 => ?_) (fun n m a o u e1 e2 e3 e4 s1 s2 => ?_) t (pre_refl _) (fun p hp => ?_)
  · rcases low e1 e2 with ⟨g1, g2⟩ | g
    · exact ((h.get n a o g1 g2).stays e).mono ⟨[f], rfl⟩
    · subst g
      trivial
  · rcases low e1 e3 with ⟨g1, g3⟩ | g
    · rcases low e2 e4 with ⟨g2, g4⟩ | g
      · exact h.inj n m a o u g1 g2 g3 g4 s1 s2
      · subst g
        cases s2
    · subst g
      cases s1
  · rcases List.mem_cons.mp hp with z | z
    · subst z
      exact hc
    · refine e _ _ (h.cod p z) fun ps y => ?_
      unfold LamX.CodeO at y
      cases y
theorem Rel.back {K : PySem.W.Frag} {r r' : List Addr} {ih' : IH} {H' : Hp} {f c' : Addr} {q : Str} (h : @Rel _ ⟨r ++ [f], (c', q) :: LamT.cs⟩ K r' ih' H') (hp : LamT.r0 <+: r) : Rel K r' ih' H' := by
  obtain ⟨g1, g2, g3, g4, g5, g6⟩ := h
  exact ⟨g1, g2, g3, g4, hp.trans (pre_trans ⟨[f], rfl⟩ g5), fun p z => g6 p (List.mem_cons_of_mem _ z)⟩
omit [LamT] in
/-- a def that is handed a lambda as its last argument -/
structure DfL (P : Program) (w : World) (K : PySem.W.Frag) (mg : Str → Option Value) (base : Heap) (k : Nat) (x : Str) (n N : Nat) (mb : Nat → (IV → IH → Res IV) → Env → IH → RS) : Prop where
  ex : ∃ (g : Addr) (qual : Str) (pg : Arguments) (bg : List Stmt) (sg : Scope) (dV kV doc pm cdv ct oc : Value) (an od : Option Addr) (osl : Array (Option Value)) (Ng ps : List Str) (a : Str),
    (ps.length = n + 1 ∧ Ng.length = N ∧ mg x = some (.ref g) ∧ PySem.W.keepIn K (.ref g) = true) ∧
    (K.lookup g = some ⟨oc, od, .func (PySem.W.fnOf x qual pg bg sg dV kV doc pm an cdv ct), osl⟩ ∧ PySem.W.codeIn K cdv qual = true ∧ Binds K (PySem.W.fnOf x qual pg bg sg dV kV doc pm an cdv ct) ps []) ∧
    (FnScope Ng ps sg ∧ Ng[n]? = some a ∧ Vis sg a ∧ (a == ("__debug__" : Str)) = false ∧ (a == ("__classdict__" : Str)) = false) ∧
    ∀ (I : LamT) (base2 : Heap) (A : Around) (outer : List PySem.Env) (s : Shared) (H : Hp) (m : Nat) (lam : IV → IH → Res IV), Room k (A.deeper (envOfC qual sg s.heap.objs.size g cdv)) →
      @ActOk _ I (cxOf (L2.CX P w) P w K mg base2 Ng qual sg g cdv A outer s H XN) n m a lam → PSs (cxOf (L2.CX P w) P w K mg base2 Ng qual sg g cdv A outer s H XN) bg (@tMS _ I K W0 (mb m lam))
section
variable {P : Program} {w : World} {K : PySem.W.Frag} {mg : Str → Option Value} {base : Heap} {k n : Nat} {x qual a : Str} {st : Stmt} {f : Addr} {fd : FuncData} {N ps : List Str}
omit [LamT] in
theorem dfL {mb : Nat → (IV → IH → Res IV) → Env → IH → RS} (F : FunD K x qual (defArgs st) (defBody st) (defScope st) [] [] f fd) (S : FnScope N ps (defScope st)) (hm : mg x = some (.ref f)) (hn : ps.length = n + 1) (ha : N[n]? = some a) (hv : Vis (defScope st) a)
    (h : ∀ (kV doc pm : Value) (an : Option Addr) (cdv ct : Value) (us : List Value), us.length = ps.length → bindArgs (PySem.W.fnOf x qual (defArgs st) (defBody st) (defScope st) .none kV doc pm an cdv ct) ⟨us, []⟩ = pure (ps.zip us))
    (hbody : ∀ (I : LamT) (base2 : Heap) (cdv : Value) (A : Around) (outer : List PySem.Env) (s : Shared) (H : Hp) (m : Nat) (lam : IV → IH → Res IV), Room k (cxOf (L2.CX P w) P w K mg base2 N qual (defScope st) f cdv A outer s H XN).A →
      Takes (cxOf (L2.CX P w) P w K mg base2 N qual (defScope st) f cdv A outer s H XN) W0 →
      PassesOwn (model P w) (cxOf (L2.CX P w) P w K mg base2 N qual (defScope st) f cdv A outer s H XN).A (cxOf (L2.CX P w) P w K mg base2 N qual (defScope st) f cdv A outer s H XN).env (cxOf (L2.CX P w) P w K mg base2 N qual (defScope st) f cdv A outer s H XN).xe →
      (cxOf (L2.CX P w) P w K mg base2 N qual (defScope st) f cdv A outer s H XN).A.units + 64 < cLine →
      @ActOk _ I (cxOf (L2.CX P w) P w K mg base2 N qual (defScope st) f cdv A outer s H XN) n m a lam → PSs (cxOf (L2.CX P w) P w K mg base2 N qual (defScope st) f cdv A outer s H XN) (defBody st) (@tMS _ I K W0 (mb m lam)))
    (hd : (a == ("__debug__" : Str)) = false := by decide) (hcd : (a == ("__classdict__" : Str)) = false := by decide) : DfL P w K mg base k x n N.length mb := by
  have hB := F.bindsN h
  obtain ⟨oc, od, dV, kV, doc, pm, an, cdv, ct, osl, rfl, lk, hc, hD, hK⟩ := F.ex
  exact ⟨f, qual, defArgs st, defBody st, defScope st, dV, kV, doc, pm, cdv, ct, oc, an, od, osl, N, ps, a, ⟨hn, rfl, hm, F.kp⟩, ⟨lk, hc, hB⟩, ⟨S, ha, hv, hd, hcd⟩, fun I base2 A outer s H m lam hr act => hbody I base2 cdv A outer s H m lam hr takes_none (passes_of rfl) (by
    have hu := hr.un
    show (A.deeper (envOfC qual (defScope st) s.heap.objs.size f cdv)).units + 64 < cLine
    omega) act⟩
/-- a def that makes lambdas: its code object is known -/
theorem df0M {c : Addr} {mb : Env → IH → RS} (F : FunD K x qual (defArgs st) (defBody st) (defScope st) [] [] f fd) (hc : fd.code = .ref c) (S : FnScope N ps (defScope st)) (hm : mg x = some (.ref f))
    (h : ∀ (kV doc pm : Value) (an : Option Addr) (cdv ct : Value) (us : List Value), us.length = ps.length → bindArgs (PySem.W.fnOf x qual (defArgs st) (defBody st) (defScope st) .none kV doc pm an cdv ct) ⟨us, []⟩ = pure (ps.zip us))
    (hbody : ∀ (A : Around) (outer : List PySem.Env) (s : Shared) (H : Hp) (E : XK), Room k (cxOf (L2.CX P w) P w K mg base N qual (defScope st) f (.ref c) A outer s H E).A →
      Takes (cxOf (L2.CX P w) P w K mg base N qual (defScope st) f (.ref c) A outer s H E) (fun cls d _ H => E cls d H) →
      PassesOwn (model P w) (cxOf (L2.CX P w) P w K mg base N qual (defScope st) f (.ref c) A outer s H E).A (cxOf (L2.CX P w) P w K mg base N qual (defScope st) f (.ref c) A outer s H E).env (cxOf (L2.CX P w) P w K mg base N qual (defScope st) f (.ref c) A outer s H E).xe →
      (cxOf (L2.CX P w) P w K mg base N qual (defScope st) f (.ref c) A outer s H E).A.units + 64 < cLine →
      PSs (cxOf (L2.CX P w) P w K mg base N qual (defScope st) f (.ref c) A outer s H E) (defBody st) (tMS K (fun cls d _ H => E cls d H) mb)) : Df P w K mg base (k + 1) x ps.length [] (defRun N.length mb) := by
  refine ⟨fun _ h => (nomatch h), f, fd, ps, rfl, hm, F.kp, ?_, fun j _ => ⟨[], by rw [List.drop_nil]; exact .nil, F.bindsN h⟩⟩
  obtain ⟨oc, od, dV, kV, doc, pm, an, cdv, ct, osl, rfl, lk, hcd, _, _⟩ := F.ex
  have hc' : cdv = .ref c := hc
  subst hc'
  refine fn_of lk hcd S (fun vs H Q E ⟨r, ih, args, e, _, rs, _⟩ => rs.length ▸ e) fun A outer s H vs Q E hr ⟨r, ih, args, e, hrel, rs, q⟩ => ⟨_, hbody A outer s H E hr (takes_of rfl rfl rfl rfl) (passes_of rfl) (by
    have hu := hr.un
    show (A.deeper (envOfC qual (defScope st) s.heap.objs.size f (.ref c))).units + 64 < cLine
    omega), r, ih, _, hrel, start_rel rs, ?_⟩
  unfold defRun at q
  cases z : mb (startI N.length args) ih with
  | ok fl ih2 =>
    rw [z] at q
    cases fl with
    | ret v => exact q
    | next env => exact fun r' H' σ' p hr' he' => q r' H' .non p hr' rfl
    | brk env => exact q.elim
    | cont env => exact q.elim
  | exc c env ih2 =>
    rw [z] at q
    exact fun r' H' σ' p hr' he' => q r' H' p hr'
  | stuck => rw [z] at q; exact q
end
/-- written arguments, one by one -/
inductive AL (X : Cx) (W : WX) : List Expr → (Env → IH → Res (List IV)) → Prop
  | nil : AL X W [] m_nil
  | cons {a : Expr} {es : List Expr} {ma : Env → IH → Res IV} {mr : Env → IH → Res (List IV)} (h : PE X a (tM X.K W ma)) (hs : ∀ rest, starEach (a :: rest) X.env = (false, eval a X.env) :: starEach rest X.env) (t : AL X W es mr) : AL X W (a :: es) (m_cons ma mr)
theorem AL.run {X : Cx} {W : WX} {es : List Expr} {m : Env → IH → Res (List IV)} (h : AL X W es m) {le : Expr} (hle : starEach [le] X.env = [(false, eval le X.env)]) : ∀ {pos : Pos} {pins : List (Addr × Obj)} {s : Shared} {σ : L2.St} {H : Hp} {r : List Addr} {ih : IH} {env : Env} {Q : List Value → Shared → Prop},
    L2.Inv X pins σ H s → Rel X.K r ih H → REnv r env σ → (match m env ih with
      | .ok vs ih1 => ∀ r1 H1 zs us s1, r <+: r1 → Rel X.K r1 ih1 H1 → Rs r1 vs zs → Vals zs us → L2.Inv X pins σ H1 s1 → wpAny (model X.prog X.w) X.A (eval le X.env) (fun w s2 => Q (us ++ [w]) s2) X.xe s1
      | .exc c ih1 => ∀ r1 H1, r <+: r1 → Rel X.K r1 ih1 H1 → W (.ref c) none σ H1
      | .stuck => False) → wpAny (model X.prog X.w) X.A (spliced (backTo pos (starEach (es ++ [le]) X.env))) Q X.xe s := by
  induction h with
  | nil =>
    intro pos pins s σ H r ih env Q I hr he k
    have k' : ∀ r1 H1 zs us s1, r <+: r1 → Rel X.K r1 ih H1 → Rs r1 [] zs → Vals zs us → L2.Inv X pins σ H1 s1 → wpAny (model X.prog X.w) X.A (eval le X.env) (fun w s2 => Q (us ++ [w]) s2) X.xe s1 := k
    rw [List.nil_append, hle]
    show wpAny _ _ (spliced [(false, eval le X.env)]) _ _ s
    exact Calls.spliced_cons (thn (k' r H [] [] s (pre_refl r) hr .nil .nil I) fun w s2 hq => Calls.spliced_nil hq)
  | @cons a es ma mr h hs t iht =>
    intro pos pins s σ H r ih env Q I hr he k
    rw [List.cons_append, hs]
    show wpAny _ _ (spliced ((false, eval a X.env) :: backTo pos (starEach (es ++ [le]) X.env))) _ _ s
    unfold m_cons at k
    have rd : tG R X.K W ma σ H (Got R X.K r fun r1 ih1 v => ∀ {s1 : Shared} {H1 : Hp} {w1 : Value} {x1 : V}, Rel X.K r1 ih1 H1 → R r1 v x1 → RelV x1 w1 → L2.Inv X pins σ H1 s1 → wpAny (model X.prog X.w) X.A (spliced (backTo pos (starEach (es ++ [le]) X.env))) (fun us s2 => Q (w1 :: us) s2) X.xe s1) := by
      refine ⟨r, ih, env, hr, he, ?_⟩
      cases e : ma env ih with
      | stuck => rw [e] at k; exact k
      | exc c ih1 => rw [e] at k; exact fun r1 H1 p1 q1 => k r1 H1 p1 q1
      | ok v ih1 =>
        rw [e] at k
        refine fun r1 H1 u p1 q1 hv => ⟨r1, ih1, v, p1, q1, hv, fun {s1 H1' w1 x1} hrel hv1 rv1 I1 => ?_⟩
        refine iht I1 hrel (he.mono p1) ?_
        have k2 := k
        simp only [Res.bind_ok] at k2
        cases e2 : mr env ih1 with
        | stuck => rw [e2] at k2; exact k2
        | exc c ih2 => rw [e2] at k2; exact fun r2 H2 p2 q2 => k2 r2 H2 (pre_trans p1 p2) q2
        | ok vs ih2 =>
          rw [e2] at k2
          exact fun r2 H2 zs us s2 p2 q2 hvs rvs I2 => k2 r2 H2 (x1 :: zs) (w1 :: us) s2 (pre_trans p1 p2) q2 (.cons (hv1.mono p2) hvs) (.cons rv1 rvs) I2
    refine Calls.spliced_cons (thn (h.run pins s σ H _ I rd) fun w1 s1 ⟨x1, H1, I1, rv1, r1, ih1, v, p1, hr1, hv1, q1⟩ => q1 hr1 hv1 rv1 I1)
section
variable {X : Cx} {W : WX} {k n N p : Nat} {x b : Str} {mb : Nat → (IV → IH → Res IV) → Env → IH → RS} {es : List Expr} {ma : Env → IH → Res (List IV)} {ml : Env → IH → Res IV} {params : Arguments} {body : Expr} {scope : Scope} {np lpos pos : Pos} {c P : Addr}
/-- what the making of a lambda asks of its maker -/
structure MkL (base : Heap) (mg : Str → Option Value) (c P : Addr) (q : Str) : Prop where
  tb : LamX.TabB base mg c P
  mem : (P, q) ∈ TabT.T
  one : ∀ z ∈ TabT.T, z.1 = P → z.2 = q
theorem lm_callL (D : DfL X.prog X.w X.K X.mg X.base (k + 1) x n N mb) (hr : Room (k + 2) X.A) (hg : Gl X x) (ha : AL X W es ma) (tk : Takes X W) (M : MkL X.base X.mg c P (X.env.qual ++ "<lambda>")) (hcode : X.env.code = .ref c) (L : LamP X.env.scope scope b) (hN : X.N.Nodup) (hp : X.N[p]? = some b)
    (hdef : defaultsOf params X.env = ([], [])) (hbind : ∀ (q : Str) (cl : List (Str × Addr)) (pm cv ctv v : Value), bindArgs (PySem.W.kla_fn "<lambda>" q params body scope cl pm cv ctv) ⟨[v], []⟩ = pure [(b, v)]) (hen : es.length = n)
    (hlam : ∀ (I : LamT) (A : Around) (outer : List PySem.Env) (s : Shared) (H : Hp) (f c' : Addr), Room k (A.deeper (LamX.lamEnv X scope s.heap.objs.size f c')) → PE (LamX.lamCx X A outer s H XN scope f c') body (@tM _ I X.K W0 ml))
    (hfnA : ∀ z, X.fn z = true := by intro _; rfl) (hle : starEach [.Lambda params body scope lpos] X.env = [(false, eval (.Lambda params body scope lpos) X.env)] := by rfl) (hdb : (x == ("__debug__" : Str)) = false := by decide)
    (hpl : ∀ {first : Expr} {rest : List Expr}, es ++ [.Lambda params body scope lpos] = first :: rest → starEach (first :: rest) X.env = (false, eval first X.env) :: starEach rest X.env ∧ (backTo pos (starEach rest X.env)).any (·.1) = false) :
    PE X (.Call (.Name x np) (es ++ [.Lambda params body scope lpos]) [] pos) (tM X.K W (m_callL (fun m lam => defRun N (mb m lam)) (lamB p ml) ma)) := by
  obtain ⟨g, qual, pg, bg, sg, dV, kV, doc, pm, cdv, ct, oc, an, od, osl, Ng, ps, a, ⟨hps, hNg, hm, hk⟩, ⟨lk, hcd, hB⟩, ⟨Sg, hNa, hva, hda, hca⟩, hbody⟩ := D.ex
  refine ⟨fun pins s σ H Q I ⟨r, ih, env, hrl, he, q⟩ => ?_⟩
  refine wpAny_Call_Name_kw (ld_glob I hg hm ?_ hdb)
  obtain ⟨first, rest, hfr⟩ : ∃ first rest, es ++ [Expr.Lambda params body scope lpos] = first :: rest := by
    cases es with
    | nil => exact ⟨_, _, rfl⟩
    | cons e es => exact ⟨_, _, rfl⟩
  obtain ⟨hs1, hs2⟩ := hpl hfr
  have run := ha.run hle (pos := pos) (Q := fun us s1 => X.K.In s1.heap ∧ wpAny (model X.prog X.w) X.A (call (.ref g) us) (EP X pins σ Q) X.xe s1) I hrl he ?_
  · rw [hfr] at run ⊢
    exact PySem.W.callWith_K (h₀ := X.base) I.ok.mod.kin hk run hs1 hs2
  unfold m_callL at q
  cases em : ma env ih with
  | stuck => rw [em] at q; exact q.elim
  | exc cc ih1 => rw [em] at q; exact fun r1 H1 p1 q1 => q r1 H1 p1 q1
  | ok vs ih1 =>
    rw [em] at q
    simp only [Res.bind_ok] at q
    intro r1 H1 zs us s1 p1 hr1 hvs rvs I1
    refine LamX.lam_make2 I1 M.tb hcode M.mem M.one hr1.tab hdef (L.has I.ok) fun f c' pm' ctv H2 s2 I2 eN T2 hf hfn hfo hco => ⟨I2.kIn, ?_⟩
    have hrel := hr1.lam (f := f) eN T2 hco
    have hnf : (r1 ++ [f])[ih1.length]? = some f := by
      rw [← hr1.len, List.getElem?_append_right (Nat.le_refl _), Nat.sub_self]
      rfl
    have lus : (us ++ [Value.ref f]).length = ps.length := by
      rw [List.length_append, hps, ← rvs.length, ← hvs.length, ← hen]
      have : vs.length = es.length := by
        have key : ∀ {es : List Expr} {ma : Env → IH → Res (List IV)}, AL X W es ma → ∀ {env : Env} {ih ih1 : IH} {vs : List IV}, ma env ih = .ok vs ih1 → vs.length = es.length := by
          intro es ma h
          induction h with
          | nil => intro env ih ih1 vs e; cases e; rfl
          | @cons a es ma mr h hs t iht =>
            intro env ih ih1 vs e
            unfold m_cons at e
            cases e1 : ma env ih with
            | stuck => rw [e1] at e; cases e
            | exc c ih2 => rw [e1] at e; cases e
            | ok v ih2 =>
              rw [e1] at e
              simp only [Res.bind_ok] at e
              cases e2 : mr env ih2 with
              | stuck => rw [e2] at e; cases e
              | exc c ih3 => rw [e2] at e; cases e
              | ok ws ih3 =>
                rw [e2] at e
                simp only [Res.bind_ok] at e
                cases e
                rw [List.length_cons, List.length_cons, iht e2]
        exact key ha em
      rw [this]
      rfl
    obtain ⟨PK, hPK⟩ : ∃ P : Addr → Prop, P = fun b => (∃ o, X.base.get? b = some o) ∨ b = f ∨ ∃ z, X.env.cells.lookup z = some b := ⟨_, rfl⟩
    have pk1 : ∀ b o, X.base.get? b = some o → PK b := fun b o z => by rw [hPK]; exact .inl ⟨o, z⟩
    have pk2 : PK f := by rw [hPK]; exact .inr (.inl rfl)
    have pk3 : ∀ z c, X.env.cells.lookup z = some c → PK c := fun z c e => by rw [hPK]; exact .inr (.inr ⟨z, e⟩)
    have hb2 : ∀ b o, X.base.get? b = some o → (keepH s2.heap PK).get? b = some o := fun b o z => by rw [keepH_in (pk1 b o z)]; exact I2.bk b o z
    have e02 : Env0 X.prog X.w X.K X.mg (keepH s2.heap PK) X.A X.stack s2 H2 := by
      have e0 := I2.env0
      refine ⟨e0.frames, mod_keeps e0.mod hb2, fun b o z => ?_, Nat.le_of_eq keepH_size, funs_base e0.funs fun L hL hn => ?_, e0.frf, e0.hok, e0.bare⟩
      · obtain ⟨z1, z2⟩ := keepH_sub z
        refine ⟨z2, ?_⟩
        rw [hPK] at z1
        rcases z1 with ⟨o', z1⟩ | z1 | ⟨y, z1⟩
        · exact (e0.bs b o' z1).2
        · rw [z1]; exact hfn
        · exact I2.freeC y b z1
      · refine keepH_out fun z1 => ?_
        rw [hPK] at z1
        rcases z1 with ⟨o', z1⟩ | z1 | ⟨y, z1⟩
        · rw [hn] at z1; cases z1
        · rw [z1] at hL; exact hfo hL
        · rcases List.mem_cons.mp (I2.stkSub L hL) with z2 | z2
          · exact I2.cne y L z1 z2
          · obtain ⟨_, o, ho, _⟩ := I2.ok.funs.mem z2
            exact absurd (Nat.lt_of_lt_of_le (Heap.lt_size ho) (I2.ok.cab y L (hfnA y) z1)) (Nat.lt_irrefl _)
    have rc : codeAny (model X.prog X.w) X.A (.call (.ref g) ⟨us ++ [.ref f], []⟩) (CR (L2.CX X.prog X.w) X.stack X.prog X.w H2 s2 Q XN) s2 := by
      refine LamX.run_ofS (N := Ng) (ps := ps) (us := us ++ [.ref f]) (vs := zs ++ [.ref f]) lk hcd Sg hr e02 (by have hb := hB s2 (us ++ [.ref f]) I2.kIn (by rw [List.append_nil]; exact lus); rw [List.append_nil] at hb; exact hb) (rvs.append (.cons (show RelV (.ref f) (.ref f) from rfl) .nil)) (by rw [List.length_append, rvs.length]; rw [List.length_append] at lus; exact lus) fun hr' => ?_
      have act := @act_ok _ ⟨r1 ++ [f], (c', X.env.qual ++ "<lambda>") :: LamT.cs⟩ X pins σ H2 s2 (keepH s2.heap PK) Ng qual sg g f c' cdv pm' ctv params body scope k n ih1.length p a b ml env I2 L hN hp (he.mono (pre_trans p1 ⟨[f], rfl⟩)) hnf List.mem_cons_self (by rw [keepH_in pk2]; exact hf) (fun z c o e1 e2 => by rw [keepH_in (pk3 z c e1)]; exact e2) hb2 (by rw [keepH_size]; exact Nat.le_trans I2.ok.bsz I2.sz) (hbind _ _ _ _ _) hr'
        (fun A outer s' H' hr2 => hlam _ A outer s' H' f c' hr2) hNa hda hca
      refine ⟨_, hbody ⟨r1 ++ [f], (c', X.env.qual ++ "<lambda>") :: LamT.cs⟩ (keepH s2.heap PK) X.A X.stack s2 H2 ih1.length (lamB p ml env) hr' act, r1 ++ [f], ih1 ++ [.clo], startI N (vs ++ [.ref ih1.length]), hrel, ?_, ?_⟩
      · rw [← hNg]
        exact start_rel ((hvs.mono ⟨[f], rfl⟩).append (.cons ⟨f, hnf, rfl⟩ .nil))
      · unfold defRun at q
        cases z : mb ih1.length (lamB p ml env) (startI N (vs ++ [.ref ih1.length])) (ih1 ++ [.clo]) with
        | stuck => rw [z] at q; exact q
        | exc cc env2 ih2 => rw [z] at q; exact q.elim
        | ok fl ih2 =>
          rw [z] at q
          cases fl with
          | ret v => exact fun r' H' u p' hr' hv' => q r' H' u (pre_trans p1 (pre_trans ⟨[f], rfl⟩ p')) (hr'.back hr1.pre) hv'
          | next env2 => exact fun r' H' σ' p' hr' he' => q r' H' .non (pre_trans p1 (pre_trans ⟨[f], rfl⟩ p')) (hr'.back hr1.pre) rfl
          | brk env2 => exact q.elim
          | cont env2 => exact q.elim
    have hx : Passes (L2.CX X.prog X.w) X XN := passes_call tk fun _ _ _ _ h => h.elim
    refine wpAny_call (codeAny_mono rc fun res s' hq => ?_)
    cases res with
    | error e' => exact hx pins σ H2 s2 e' s' I2 hq
    | ok fl =>
      cases fl with
      | ret u => exact I2.after hq
      | next => exact False.elim hq
      | brk => exact False.elim hq
      | cont => exact False.elim hq
end
end L3
/-! L3r: the law's promise, where tables of code objects are about. -/
namespace L3
variable [TabT] [LamT]
open PySem PySem.Spec PyProof.Rows L2

/-- the law's promise: True of every script; the tables at Ps are empty at first -/
def spLawT (K : PySem.W.Frag) (Ps : List Addr) : Sp := fun vs H Q _ => ∃ (a : Addr) (ns : List Int), vs = [.ref a] ∧ ns.length ≤ 63 ∧ (∀ z ∈ ns, Builtin.Int.intBits z ≤ 1048576) ∧ (∀ P ∈ Ps, H P = some (.tbl #[])) ∧ SqL K H a (ns.map V.int) ∧ ∀ H', Q (.bl true) H'
section
variable {P : Program} {w : World} {K : PySem.W.Frag} {mg : Str → Option Value} {base : Heap} {k : Nat} {f a : Addr} {fd : FuncData} {m : List IV → IH → Res IV} {H : Hp} {ys : List V} {o : Obj} {Ps : List Addr}
theorem frz_env {A : Around} {outer : List PySem.Env} {s : Shared} (e0 : Env0 P w K mg base A outer s H) (h : H a = some (.lst ys)) (ho : s.heap.get? a = some o) : Env0 P w K mg base A outer s (upd H a (.frz o (.lst ys))) := by
  have off : ∀ {b : Addr}, H b = none → b ≠ a := fun {b} e z => by rw [z, h] at e; cases e
  refine ⟨e0.frames, e0.mod, fun b u e => ⟨(e0.bs b u e).1, (upd_ne (off (e0.bs b u e).2)).trans (e0.bs b u e).2⟩, e0.bsz, e0.funs, fun b e => (upd_ne (off (e0.frf b e))).trans (e0.frf b e), fun b u e => ?_, e0.bare⟩
  have own : ∀ {c d : Addr}, H c = some (.own d) → upd H a (.frz o (.lst ys)) c = some (.own d) := fun {c d} z => (upd_ne (ne_of z h fun y => nomatch y)).trans z
  have tup : ∀ {c : Addr} {xs : List V}, H c = some (.tup xs) → upd H a (.frz o (.lst ys)) c = some (.tup xs) := fun {c xs} z => (upd_ne (ne_of z h fun y => nomatch y)).trans z
  by_cases hb : b = a
  · subst hb
    rw [upd_same] at e
    cases e
    exact ⟨ho, (e0.hok b _ h).stay (fun _ _ _ q => q) (fun _ q => own q) fun _ _ q => tup q⟩
  · rw [upd_ne hb] at e
    exact (e0.hok b u e).stay (fun _ _ _ q => q) (fun _ q => own q) fun _ _ q => tup q
theorem frz_back {outer : List PySem.Env} {s s' : Shared} {Q : VK} {u : Value} (h : H a = some (.lst ys)) (e : CE outer P w (upd H a (.frz o (.lst ys))) s Q u s') : CE outer P w H s Q u s' := by
  obtain ⟨v, H', os, bare, un, hok, rv, q⟩ := e
  have off : ∀ {b : Addr}, H b = none → upd H a (.frz o (.lst ys)) b = none := fun {b} e => (upd_ne (fun z => by rw [z, h] at e; cases e)).trans e
  refine ⟨v, H', os, bare, ⟨fun b x g n => un.keep b x g (off n), fun b x g n => un.slot b x g (off n), fun b x g n => un.free b x g (off n), un.there, fun b xs z => ?_, fun b x y z => ?_, fun b ps z => ?_⟩, hok, rv, q⟩
  · exact un.tups b xs ((upd_ne (ne_of z h fun y => nomatch y)).trans z)
  · exact un.frzs b x y ((upd_ne (ne_of z h fun y => nomatch y)).trans z)
  · exact un.tbls b ps ((upd_ne (ne_of z h fun y => nomatch y)).trans z)
/-- the mirror's heap at the law's start -/
theorem rel_law {ns : List Int} (hr0 : LamT.r0 = [] ∧ LamT.cs = []) (hT : ∀ p ∈ TabT.T, H p.1 = some (.tbl #[])) (h : (∃ o, H a = some (.frz o (.lst (ns.map V.int)))) ∨ SqL K (fun _ => none) a (ns.map V.int)) : Rel K [a] [.ro (ns.map IV.int)] H := by
  refine ⟨rfl, fun n b o e1 e2 => ?_, fun n k b o u e1 e2 e3 e4 s1 s2 => ?_, fun p hp => LamX.TabS.nil (hT p hp), (by rw [hr0.1]; exact List.nil_prefix), (by rw [hr0.2]; exact fun p hp => nomatch hp)⟩
  · cases n with
    | succ n => cases e1
    | zero =>
      cases e1
      cases e2
      exact ⟨ns.map V.int, h, Rs.flats_mk (f := IV.int) (g := V.int) (fun _ => rfl) ns⟩
  · cases n with
    | succ n => cases e1
    | zero =>
      cases e3
      cases s1
theorem fn_lawT (hr0 : LamT.r0 = [] ∧ LamT.cs = []) (hP : ∀ p ∈ TabT.T, p.1 ∈ Ps) (F : FnOk P w K mg base (L2.CX P w) k f fd ["script"] (spM K 1 m))
    (h : ∀ ns : List Int, ns.length ≤ 63 → (∀ z ∈ ns, Builtin.Int.intBits z ≤ 1048576) → ∃ ih, m [.ref 0] [.ro (ns.map IV.int)] = .ok (.bl true) ih) : FnOk P w K mg base (L2.CX P w) k f fd ["script"] (spLawT K Ps) := by
  refine ⟨fun vs H Q E ⟨a, ns, e, _⟩ => by rw [e]; rfl, fun A outer s H args us vs Q E hr e0 hb hv ⟨a, ns, e, h1, h2, hT, hS, q⟩ => ?_⟩
  subst e
  obtain ⟨ih, hm⟩ := h ns h1 h2
  have sp : ∀ {H2 : Hp}, (∀ p ∈ TabT.T, H2 p.1 = some (.tbl #[])) → ((∃ o, H2 a = some (.frz o (.lst (ns.map V.int)))) ∨ SqL K (fun _ => none) a (ns.map V.int)) → spM K 1 m [.ref a] H2 Q XN := fun {H2} t z =>
    ⟨[a], _, [.ref 0], rfl, rel_law hr0 t z, .cons ⟨a, rfl, rfl⟩ .nil, by
      rw [hm]
      exact fun r' H' u p hr hv => by
        obtain rfl : u = .bl true := hv
        exact q H'⟩
  have noX : ∀ {H2 : Hp} {e : Value} {s' : Shared}, L2.CX P w outer H2 s XN e s' → False := fun {H2 e s'} z => by
    obtain ⟨_, _, _, _, _, _, _, _, _, _, _, _, z⟩ := z
    exact z
  have conv : ∀ {H2 : Hp} {r : Result} {s' : Shared}, (∀ {u : Value} {s' : Shared}, CE outer P w H2 s Q u s' → CE outer P w H s Q u s') → CR (L2.CX P w) outer P w H2 s Q XN r s' → CR (L2.CX P w) outer P w H s Q E r s' := fun {H2 r s'} c z => by
    cases r with
    | error e => exact (noX z).elim
    | ok fl =>
      cases fl with
      | ret u => exact c z
      | next => exact z
      | brk => exact z
      | cont => exact z
  have hT' : ∀ p ∈ TabT.T, H p.1 = some (.tbl #[]) := fun p hp => hT _ (hP p hp)
  rcases hS with (z | z) | z
  · obtain ⟨zl, its, n, rv, ho⟩ := e0.hok a _ z
    exact codeAny_mono (F.run A outer s _ args us _ Q XN hr (frz_env e0 z ho) hb hv (sp (fun p hp => (upd_ne (ne_of (hT' p hp) z fun y => nomatch y)).trans (hT' p hp)) (.inl ⟨_, upd_same⟩))) fun r s' hq => conv (fun {u s'} c => frz_back z c) hq
  · exact codeAny_mono (F.run A outer s H args us _ Q XN hr e0 hb hv (sp hT' (.inl z))) fun r s' hq => conv (fun {u s'} c => c) hq
  · exact codeAny_mono (F.run A outer s H args us _ Q XN hr e0 hb hv (sp hT' (.inr (.inr z)))) fun r s' hq => conv (fun {u s'} c => c) hq
end
end L3
/-! L3s: min(xs, default=None). -/
namespace L3
variable [TabT] [LamT]
open PySem PySem.Spec PyProof.Rows L2

def f_minD (x : IV) (ih : IH) : Res IV := match x with
  | .ref n => match ih[n]? with
    | some (.lst xs) => match ints? xs with
      | some [] => .ok .non ih
      | some (a :: r) => .ok (.int (minI (a :: r))) ih
      | none => .stuck
    | _ => .stuck
  | _ => .stuck
theorem foldl_minI (a : Int) : ∀ r : List Int, r.foldl min a = minI (a :: r)
  | [] => rfl
  | b :: r => by
    rw [List.foldl_cons, foldl_minI]
    cases r with
    | nil => rfl
    | cons c r =>
      show min (min a b) (minI (c :: r)) = min a (min b (minI (c :: r)))
      omega
theorem reads_intsD {h : Heap} : ∀ {its : List Value} {ns : List Int}, Vals (ns.map V.int) its → ReadsAll h its (ns.map PyData.int) []
  | its, [], r => by cases r; exact .nil
  | its, n :: ns, r => by
    cases r with
    | cons a b =>
      obtain ⟨t, rfl⟩ := a
      exact .cons (.int n t) (reads_intsD b)
theorem alike_intsD (ns : List Int) : PySem.W.AlikeAll (ns.map PyData.int) := by
  refine ⟨fun x hx y hy => ?_, fun x hx e => ?_⟩
  · obtain ⟨a, _, rfl⟩ := List.mem_map.mp hx
    obtain ⟨b, _, rfl⟩ := List.mem_map.mp hy
    rfl
  · obtain ⟨a, _, rfl⟩ := List.mem_map.mp hx
    cases e
theorem depth_intsD : ∀ ns : List Int, PyData.depthAll (ns.map PyData.int) ≤ 2
  | [] => by decide
  | n :: ns => by
    have h := depth_intsD ns
    show max (PyData.depth (.int n)) (PyData.depthAll (ns.map PyData.int)) ≤ 2
    have h2 : PyData.depth (.int n) ≤ 2 := by unfold PyData.depth; decide
    omega
section
variable {X : Cx} {W : WX} {e : Expr} {ma : Env → IH → Res IV} {p pos kpos cpos : Pos} {j : Nat}
theorem lm_minD (hc : X.calm = true) (hu : X.A.units + 64 < cLine) (hg : Gl X "min") (hm : X.mg "min" = none) (h : PE X e (tM X.K W ma)) (hs : starEach [e] X.env = [(false, eval e X.env)] := by rfl) :
    PE X (.Call (.Name "min" p) [e] [⟨some "default", .Constant .none j cpos, kpos⟩] pos) (tM X.K W (m_un f_minD ma)) := by
  refine PE.of ⟨fun pins s σ H Q I q => ?_⟩ fun σ H Q h => h
  obtain ⟨r, ih, env, hr, he, q⟩ := q
  refine wpAny_Call_Name_kw (ld_blt I hg hm rfl ?_)
  refine callWith_kw ?_ (by rw [hs]; rfl) (by rw [hs]; rfl)
  rw [hs]
  refine Calls.spliced_cons (thn (h.run pins s σ H _ I (tG_bind hr he q)) fun u s1 ⟨x, H1, I1, rx, r1, ih1, v, p1, hr1, hv, q1⟩ => ?_)
  refine Calls.spliced_nil ?_
  refine thn ((pk_cons (X := X) (nm := some "default") (kpos := kpos) (pe_non (X := X)) pk_nil).run pos pins s1 σ H1 (fun vs H2 => vs = [.non] ∧ H2 = H1) I1 ⟨rfl, rfl⟩) fun us s2 ⟨vs, H2, I2, rv, e1, e2⟩ => ?_
  subst e1 e2
  obtain ⟨w, rfl⟩ : ∃ w, us = [w] := by
    cases rv with
    | cons a b => cases b; exact ⟨_, rfl⟩
  have hw : w = Value.none := by
    cases rv with
    | cons a b => exact a
  subst hw
  dsimp only at q1
  unfold f_minD at q1
  split at q1
  · rename_i n
    obtain ⟨a, ea, hx⟩ := hv
    subst hx
    obtain rfl : u = Value.ref a := rx
    split at q1
    · rename_i xs e3
      split at q1
      · rename_i e4
        obtain ⟨ys, h3, h4⟩ := hr1.get n a _ ea e3
        rw [ints?_of e4] at h4
        have hy := h4.flats fun _ _ => IV.noConfusion
        subst hy
        obtain ⟨its, rvs, hl, _⟩ := I2.list (.inl (.inl h3))
        exact PySem.W.min_list_default (I2.ok.hd hc) hl.isList (reads_intsD (ns := []) rvs) (alike_intsD []) (by have := depth_intsD []; omega) (fun _ h' tk hk => ⟨.non, H2, I2.kept hk, rfl, tG_end q1 hr1 rfl⟩) fun y ys i v h' tk bs z => by cases z
      · rename_i a0 r0 e4
        obtain ⟨ys, h3, h4⟩ := hr1.get n a _ ea e3
        rw [ints?_of e4] at h4
        have hy := h4.flats fun _ _ => IV.noConfusion
        subst hy
        obtain ⟨its, rvs, hl, _⟩ := I2.list (.inl (.inl h3))
        refine PySem.W.min_list_default (I2.ok.hd hc) hl.isList (reads_intsD (ns := a0 :: r0) rvs) (alike_intsD (a0 :: r0)) (by have := depth_intsD (a0 :: r0); omega) (fun z => by cases z) fun y ys i v h' tk bs z hi hrd hk => ?_
        cases z
        rw [PySem.W.minD_ints, foldl_minI] at hrd
        cases hrd with
        | int _ t => exact ⟨.int _, H2, I2.kept hk, ⟨_, rfl⟩, tG_end q1 hr1 rfl⟩
      · exact q1.elim
    · exact q1.elim
  · exact q1.elim
end
end L3
/-! L3t: an or of a whole number or None. -/
namespace L3
variable [TabT] [LamT]
open PySem PySem.Spec PyProof.Rows L2

def m_orI (ma mb : Env → IH → Res IV) (env : Env) (ih : IH) : Res IV := (ma env ih).bind fun v ih1 => match v with
  | .int i => if i = 0 then mb env ih1 else .ok (.int i) ih1
  | .non => mb env ih1
  | _ => .stuck
section
variable {X : Cx} {a b : Expr} {rest : List Expr} {pos : Pos} {ta tb : TE}
def tOrI (ta tb : TE) : TE := fun σ H Q => ta σ H fun x H1 => (∃ i, x = .int i ∧ if i = 0 then tb σ H1 Q else Q (.int i) H1) ∨ (x = .non ∧ tb σ H1 Q)
theorem pe_orI (ha : PE X a ta) (hb : PE X (.BoolOp .Or (b :: rest) pos) tb) : PE X (.BoolOp .Or (a :: b :: rest) pos) (tOrI ta tb) := by
  refine ⟨fun pins s σ H Q I h => ?_⟩
  refine BoolOp_or (thn (ha.run pins s σ H _ I h) fun v s1 ⟨x, H1, I1, r1, q1⟩ => ?_)
  rcases q1 with ⟨i, rfl, q1⟩ | ⟨rfl, q1⟩
  · obtain ⟨t, rfl⟩ := r1
    refine P.truthy_int ?_
    by_cases hi : i = 0
    · rw [if_pos hi] at q1
      rw [show (i != 0) = false by simp [hi]]
      exact hb.run pins s1 σ H1 Q I1 q1
    · rw [if_neg hi] at q1
      rw [show (i != 0) = true by simp [hi]]
      exact ⟨.int i, H1, I1, ⟨_, rfl⟩, q1⟩
  · cases r1
    refine truthy_none ?_
    exact hb.run pins s1 σ H1 Q I1 q1
end
section
variable {X : Cx} {W : WX} {a b : Expr} {rest : List Expr} {pos : Pos} {ma mb : Env → IH → Res IV}
theorem lm_orI (ha : PE X a (tM X.K W ma)) (hb : PE X (.BoolOp .Or (b :: rest) pos) (tM X.K W mb)) : PE X (.BoolOp .Or (a :: b :: rest) pos) (tM X.K W (m_orI ma mb)) :=
  PE.of (pe_orI ha hb) fun σ H Q ⟨r, ih, env, hr, he, q⟩ => tG.imp (tG_bind hr he q) fun u H1 ⟨r1, ih1, v, p, hr1, hv, q1⟩ => by
    cases v with
    | int i =>
      obtain rfl : u = .int i := hv
      refine .inl ⟨i, rfl, ?_⟩
      dsimp only at q1
      split at q1
      · rename_i h
        rw [if_pos h]
        exact ⟨r1, ih1, env, hr1, he.mono p, q1⟩
      · rename_i h
        rw [if_neg h]
        exact tG_end q1 hr1 rfl
    | non =>
      obtain rfl : u = .non := hv
      exact .inr ⟨rfl, ⟨r1, ih1, env, hr1, he.mono p, q1⟩⟩
    | _ => exact q1.elim
end
/-! ### min of a tuple of whole numbers -/
def f_minT (xs : List IV) (ih : IH) : Res IV := match xs with
  | [.ref n] => match ih[n]? with
    | some (.tup ys) => match ints? ys with
      | some (a :: r) => .ok (.int (minI (a :: r))) ih
      | _ => .stuck
    | _ => .stuck
  | _ => .stuck
def rMinT (K : PySem.W.Frag) : List V → Hp → VK → Prop := fun vs H Q => ∃ (a : Addr) (n : Int) (ns : List Int), vs = [V.ref a] ∧ SqT K H a ((n :: ns).map V.int) ∧ Q (.int (minI (n :: ns))) H
section
variable {X : Cx} {K : PySem.W.Frag} {W : WX}
theorem cr_minT (hc : X.calm = true) (hu : X.A.units + 64 < cLine) : CallR X (.builtin "min") (rMinT X.K) := by
  intro pins s σ H vs us Q I r h
  obtain ⟨a, n, ns, rfl, hs, q⟩ := h
  obtain ⟨its, rv, hl, _⟩ := I.tuple hs
  rw [Vals.ref1 r]
  refine PySem.W.min_tuple_data (I.ok.hd hc) (show s.heap.IsTuple a its.toArray from hl) (reads_intsD (ns := n :: ns) rv) (alike_intsD (n :: ns)) (by have := depth_intsD (n :: ns); show X.A.units + 1 + PyData.depthAll ((n :: ns).map PyData.int) < cLine; omega) fun i v h' tk bs hi hrd hk => ?_
  rw [PySem.W.minD_ints, foldl_minI] at hrd
  cases hrd with
  | int _ t => exact ⟨.int _, H, I.kept hk, ⟨_, rfl⟩, q⟩
theorem s_minT : SndC K W (rMinT K) f_minT := fun r ih H xs us σ Q hr hx q => by
  unfold f_minT at q
  split at q
  · rename_i n
    obtain ⟨b, rfl, hb⟩ : ∃ b, us = [V.ref b] ∧ r[n]? = some b := by
      cases hx with
      | cons h1 h2 =>
        cases h2
        obtain ⟨a, ea, rfl⟩ := h1.ref
        exact ⟨a, rfl, ea⟩
    split at q
    · rename_i ys e1
      split at q
      · rename_i a0 r0 e4
        obtain ⟨zs, h3, h4⟩ := hr.get n b _ hb e1
        rw [ints?_of e4] at h4
        have hy := h4.flats fun _ _ => IV.noConfusion
        subst hy
        exact ⟨b, a0, r0, rfl, .inl (.inl h3), tG_end q hr rfl⟩
      · exact q.elim
    · exact q.elim
  · exact q.elim
end
end L3
/-! L3u: dicts by their keys. -/
namespace L3
variable [TabT] [LamT]
open PySem PySem.Spec PyProof.Rows L2
theorem hu1 {A : Around} (h : A.units + 64 < cLine) : A.units + 1 < cLine := by omega
def keyM : IV → Option Key
  | .int i => some (.inl i)
  | .str x => some (.inr x)
  | _ => none
def getM (kvs : List (Key × IV)) (k : Key) : Option IV := (kvs.find? fun kv => decide (kv.1 = k)).map (·.2)
def putM (kvs : List (Key × IV)) (k : Key) (v : IV) : List (Key × IV) :=
  if (kvs.any fun kv => decide (kv.1 = k)) = true then kvs.map fun kv => if kv.1 = k then (kv.1, v) else kv else kvs ++ [(k, v)]
theorem keyM_kV {r : List Addr} {x : IV} {y : V} {k : Key} (h : R r x y) (e : keyM x = some k) : y = L2.kV k := by
  cases x with
  | int i => cases e; exact h
  | str z => cases e; exact h
  | _ => cases e
theorem RK.val {r : List Addr} {kvs : List (Key × IV)} {ys : List (Key × V)} (h : RK r kvs ys) (k : Key) : (getM kvs k = none ∧ valV ys k = none) ∨ ∃ v u, getM kvs k = some v ∧ valV ys k = some u ∧ R r v u := by
  unfold RK at h
  induction h with
  | nil => exact .inl ⟨rfl, rfl⟩
  | @cons p q ps qs h t ih =>
    obtain ⟨h1, h2⟩ := h
    by_cases e : p.1 = k
    · refine .inr ⟨p.2, q.2, ?_, valV_pos (h1.symm.trans e), h2⟩
      unfold getM
      rw [List.find?_cons, decide_eq_true e]
      rfl
    · have e2 : getM (p :: ps) k = getM ps k := by
        unfold getM
        rw [List.find?_cons, decide_eq_false e]
      rw [e2, valV_neg (fun z => e (h1.trans z))]
      exact ih
theorem RK.put {r : List Addr} {kvs : List (Key × IV)} {ys : List (Key × V)} (h : RK r kvs ys) (k : Key) {v : IV} {u : V} (hv : R r v u) : RK r (putM kvs k v) (putK ys k u) := by
  have ha : (kvs.any fun kv => decide (kv.1 = k)) = ys.any fun kv => decide (kv.1 = k) := by
    unfold RK at h
    induction h with
    | nil => rfl
    | @cons p q ps qs h t ih =>
      rw [List.any_cons, List.any_cons, ih, h.1]
  unfold putM putK
  rw [ha]
  split
  · rename_i hq
    clear hq ha
    unfold RK at h ⊢
    induction h with
    | nil => exact .nil
    | @cons p q ps qs h t ih =>
      rw [List.map_cons, List.map_cons]
      refine .cons ?_ ih
      obtain ⟨h1, h2⟩ := h
      by_cases e : p.1 = k
      · rw [if_pos e, if_pos (h1.symm.trans e)]
        exact ⟨h1, hv⟩
      · rw [if_neg e, if_neg (fun z => e (h1.trans z))]
        exact ⟨h1, h2⟩
  · rename_i hq
    clear hq ha
    unfold RK at h ⊢
    induction h with
    | nil => exact .cons ⟨rfl, hv⟩ .nil
    | @cons p q ps qs h t ih => exact .cons h ih
theorem RK.keys {r : List Addr} {kvs : List (Key × IV)} {ys : List (Key × V)} (h : RK r kvs ys) : kvs.map (·.1) = ys.map (·.1) := by
  unfold RK at h
  induction h with
  | nil => rfl
  | @cons p q ps qs h t ih => rw [List.map_cons, List.map_cons, ih, h.1]
theorem RK.length {r : List Addr} {kvs : List (Key × IV)} {ys : List (Key × V)} (h : RK r kvs ys) : kvs.length = ys.length := Paired.length h
/-! ### {} -/
def m_dnew (_ : Env) (ih : IH) : Res IV := .ok (.ref ih.length) (ih ++ [.dk []])
section
variable {X : Cx} {W : WX} {pos : Pos} {a b : Expr} {ma mb mc : Env → IH → Res IV}
theorem lm_dnew : PE X (.Dict [] [] pos) (tM X.K W m_dnew) := PE.of pe_dnewK fun σ H Q ⟨r, ih, env, hr, he, q⟩ p hp =>
  q (r ++ [p]) _ _ pre_one (hr.new hp rfl fun H' e => ⟨[], e, .nil⟩) (R.newest hr.len)
/-! ### d[k] -/
def f_dget (x y : IV) (ih : IH) : Res IV := match x with
  | .ref n => match ih[n]?, keyM y with
    | some (.dk kvs), some k => match getM kvs k with
      | some v => .ok v ih
      | none => .stuck
    | _, _ => .stuck
  | _ => .stuck
theorem lm_dget (hu : X.A.units + 1 < cLine) (ha : PE X a (tM X.K W ma)) (hb : PE X b (tM X.K W mb)) (hs : NoSl b := by intro _ _; rfl) : PE X (.Subscript a b pos) (tM X.K W (m_op f_dget ma mb)) :=
  PE.of (pe_dget hu ha hb hs) fun σ H Q ⟨r, ih, env, hr, he, q⟩ => tG.imp (tG_bind hr he q) fun u H1 ⟨r1, ih1, v, p, hr1, hv, q1⟩ =>
    tG.imp (tG_bind hr1 (he.mono p) q1) fun w H2 ⟨r2, ih2, y, p2, hr2, hy, q2⟩ => by
      cases v with
      | ref n =>
        obtain ⟨ad, ea, rfl⟩ := (hv.mono p2).ref
        unfold f_dget at q2
        dsimp only at q2
        split at q2
        · rename_i kvs k e1 e2
          obtain ⟨ys, h1, h2⟩ := hr2.get n ad _ ea e1
          obtain rfl := keyM_kV hy e2
          split at q2
          · rename_i z e3
            rcases h2.val k with ⟨g1, g2⟩ | ⟨v1, u1, g1, g2, g3⟩
            · rw [e3] at g1
              cases g1
            · rw [e3] at g1
              cases g1
              exact ⟨ad, u1, rfl, by rw [← g2]; exact DGet.k h1, tG_end q2 hr2 g3⟩
          · exact q2.elim
        · exact q2.elim
      | _ => exact q2.elim
/-! ### d.get(k, z) -/
def m_dget2 (mo mi mz : Env → IH → Res IV) (env : Env) (ih : IH) : Res IV := (mo env ih).bind fun x ih1 => match x with
  | .ref n => match ih1[n]? with
    | some (.dk _) => (mi env ih1).bind fun y ih2 => (mz env ih2).bind fun z ih3 => match ih3[n]?, keyM y with
      | some (.dk kvs), some k => .ok ((getM kvs k).getD z) ih3
      | _, _ => .stuck
    | _ => .stuck
  | _ => .stuck
theorem lm_dget2 {o e f : Expr} {apos cpos : Pos} {mo mi mz : Env → IH → Res IV} (hu : X.A.units + 1 < cLine) (ho : PE X o (tM X.K W mo)) (he : PE X e (tM X.K W mi)) (hf : PE X f (tM X.K W mz)) (m : M2 X o "get" apos e f cpos) : PE X (.Call (.Attribute o "get" apos) [e, f] [] cpos) (tM X.K W (m_dget2 mo mi mz)) :=
  PE.of (pe_dget2 hu ho he hf m) fun σ H Q ⟨r, ih, env, hr, he, q⟩ => tG.imp (tG_bind hr he q) fun u H1 ⟨r1, ih1, v, p, hr1, hv, q1⟩ => by
    cases v with
    | ref n =>
      obtain ⟨ad, ea, rfl⟩ := hv.ref
      dsimp only at q1
      split at q1
      · rename_i kvs0 e0
        obtain ⟨ys0, h0, _⟩ := hr1.get n ad _ ea e0
        refine ⟨ad, rfl, .inl ⟨ys0, .inl h0⟩, ?_⟩
        refine tG.imp (tG_bind hr1 (he.mono p) q1) fun w H2 ⟨r2, ih2, y, p2, hr2, hy, q2⟩ => tG.imp (tG_bind hr2 ((he.mono p).mono p2) q2) fun w3 H3 ⟨r3, ih3, z, p3, hr3, hz, q3⟩ => ?_
        dsimp only at q3
        split at q3
        · rename_i kvs k e1 e2
          obtain ⟨ys, h1, h2⟩ := hr3.get n ad _ (pre_get (pre_trans p2 p3) ea) e1
          obtain rfl := keyM_kV (hy.mono p3) e2
          refine ⟨valV ys k, DGet.k h1, ?_⟩
          rcases h2.val k with ⟨g1, g2⟩ | ⟨v1, u1, g1, g2, g3⟩
          · rw [g1] at q3
            rw [g2]
            exact tG_end q3 hr3 hz
          · rw [g1] at q3
            rw [g2]
            exact tG_end q3 hr3 g3
        · exact q3.elim
      · exact q1.elim
    | _ => exact q1.elim
/-! ### d[k] = v -/
def f_dput (o i v : IV) (ih : IH) : Option IH := match o with
  | .ref n => match ih[n]?, keyM i with
    | some (.dk kvs), some k => if kvs.length < 100000 then some (ih.set n (.dk (putM kvs k v))) else none
    | _, _ => none
  | _ => none
def ms_dput (m mo mi : Env → IH → Res IV) (env : Env) (ih : IH) : RS := (m env ih).stm env fun v ih1 => (mo env ih1).stm env fun o ih2 => (mi env ih2).stm env fun i ih3 => match f_dput o i v ih3 with
  | some ih4 => .ok (.next env) ih4
  | none => .stuck
theorem ls_dput {o i e : Expr} {tpos : Pos} {m mo mi : Env → IH → Res IV} (hu : X.A.units + 1 < cLine) (he : PE X e (tM X.K W m)) (ho : PE X o (tM X.K W mo)) (hi : PE X i (tM X.K W mi)) (hs : swapsWith e (some (.Subscript o i tpos)) pos.line X.env = pure false := by rfl) :
    PS X (.Assign [.Subscript o i tpos] e pos) (tMS X.K W (ms_dput m mo mi)) :=
  PS.of (ps_dput hu ho hi he hs) fun D σ H ⟨r, ih, env, hr, he, q⟩ => tG.imp (tG_stm hr he q) fun u H1 ⟨r1, ih1, v, p, hr1, hv, q1⟩ =>
    tG.imp (tG_stm hr1 (he.mono p) q1) fun u2 H2 ⟨r2, ih2, v2, p2, hr2, hv2, q2⟩ => tG.imp (tG_stm hr2 ((he.mono p).mono p2) q2) fun u3 H3 ⟨r3, ih3, v3, p3, hr3, hv3, q3⟩ => by
      dsimp only at q3
      cases e : f_dput v2 v3 v ih3 with
      | some ih4 =>
        rw [e] at q3
        cases v2 with
        | ref n =>
          obtain ⟨ad, ea, rfl⟩ := (hv2.mono p3).ref
          unfold f_dput at e
          dsimp only at e
          split at e
          · rename_i kvs k e1 e2
            obtain ⟨ys, h1, h2⟩ := hr3.get n ad _ ea e1
            obtain rfl := keyM_kV hv3 e2
            split at e
            · rename_i hl
              cases e
              refine ⟨ad, _, rfl, DPut.k h1 (by rw [← h2.length]; exact line5l hl), ?_⟩
              exact q3 r3 _ σ (pre_refl r3) (hr3.writeD ea e1 (h2.put k ((hv.mono p2).mono p3))) (((he.mono p).mono p2).mono p3)
            · cases e
          · cases e
        | _ => cases e
      | none =>
        rw [e] at q3
        exact q3.elim
end
end L3
/-! L3v: sum(d.values()), sorted(d), a dict of one pair. -/
namespace L3
variable [TabT] [LamT]
open PySem PySem.Spec PyProof.Rows L2
/-- the ints that the values are -/
def valsI : List (Key × IV) → Option (List Int)
  | [] => some []
  | (_, .int i) :: r => (valsI r).map (i :: ·)
  | _ :: _ => none
def keysI : List (Key × IV) → Option (List Int)
  | [] => some []
  | (.inl i, _) :: r => (keysI r).map (i :: ·)
  | _ :: _ => none
theorem valsI_of {r : List Addr} : ∀ {kvs : List (Key × IV)} {ys : List (Key × V)} {ns : List Int}, RK r kvs ys → valsI kvs = some ns → ys.map (·.2) = ns.map V.int
  | [], _, ns, h, e => by
    cases h
    cases e
    rfl
  | (k, v) :: kvs, _, ns, h, e => by
    cases h with
    | @cons p q ps qs a b =>
      cases v with
      | int i =>
        unfold valsI at e
        cases e2 : valsI kvs with
        | none => rw [e2] at e; cases e
        | some ms =>
          rw [e2] at e
          cases e
          rw [List.map_cons, List.map_cons, valsI_of b e2]
          congr 1
          exact a.2
      | _ => cases e
theorem keysI_of : ∀ {kvs : List (Key × IV)} {ns : List Int}, keysI kvs = some ns → kvs.map (·.1) = ns.map Sum.inl
  | [], ns, e => by
    cases e
    rfl
  | (k, v) :: kvs, ns, e => by
    cases k with
    | inl i =>
      unfold keysI at e
      cases e2 : keysI kvs with
      | none => rw [e2] at e; cases e
      | some ms =>
        rw [e2] at e
        cases e
        rw [List.map_cons, List.map_cons, keysI_of e2]
    | inr x => cases e
def f_sortedD (xs : List IV) (ih : IH) : Res IV := match xs with
  | [.ref n] => match ih[n]? with
    | some (.dk kvs) => match keysI kvs with
      | some ks => if ks.length < 64 then .ok (.ref ih.length) (ih ++ [.lst ((isI ks).map IV.int)]) else .stuck
      | none => .stuck
    | _ => .stuck
  | _ => .stuck
abbrev rSortedDI : List V → Hp → VK → Prop := fun xs H Q => ∃ (a : Addr) (kvs : List (Key × V)) (ks : List Int), xs = [.ref a] ∧ Rd H a (.dK kvs) ∧ kvs.map (·.1) = ks.map Sum.inl ∧ ks.length < 64 ∧
    ∀ (ys : List Int) (p : Addr), ys.Perm ks → ys.Pairwise (· ≤ ·) → H p = none → Q (.ref p) (upd H p (.lst (ys.map V.int)))
section
variable {K : PySem.W.Frag} {W : WX}
theorem s_sortedD : SndC K W rSortedDI f_sortedD := fun r ih H xs us σ Q hr hx q => by
  unfold f_sortedD at q
  split at q
  · rename_i n
    obtain ⟨b, rfl, hb⟩ : ∃ b, us = [V.ref b] ∧ r[n]? = some b := by
      cases hx with
      | cons h1 h2 =>
        cases h2
        obtain ⟨a, ea, rfl⟩ := h1.ref
        exact ⟨a, rfl, ea⟩
    split at q
    · rename_i kvs e1
      split at q
      · rename_i ks e2
        split at q
        · rename_i hl
          obtain ⟨ys, h1, h2⟩ := hr.get n b _ hb e1
          refine ⟨b, ys, ks, rfl, .inl h1, by rw [← h2.keys]; exact keysI_of e2, hl, fun ns' p hp hle hn => ?_⟩
          have e3 : ns' = isI ks := List.Perm.eq_of_pairwise (le := (· ≤ ·)) (fun a b _ _ h1 h2 => Int.le_antisymm h1 h2) hle (isI_le ks) (hp.trans (isI_perm ks).symm)
          subst e3
          exact end_lst q hr (Rs.ints r _) hn
        · exact q.elim
      · exact q.elim
    · exact q.elim
  · exact q.elim
end
/-! ### {k: v} -/
theorem PGen.pre {α β : Type} {rel : List Addr → α → β → Prop} {K : PySem.W.Frag} {W : WX} {σ : L2.St} {r r' : List Addr} {res : Res α} {Q : β → Hp → Prop} (p : r <+: r') (h : PGen rel K W σ r res Q) : PGen rel K W σ r' res Q := by
  cases res with
  | ok v ih => exact fun r2 H u p2 => h r2 H u (pre_trans p p2)
  | exc c ih => exact fun r2 H p2 => h r2 H (pre_trans p p2)
  | stuck => exact h
def m_disp1 (ma mb : Env → IH → Res IV) (env : Env) (ih : IH) : Res IV := (ma env (ih ++ [.dk []])).bind fun x ih1 => (mb env ih1).bind fun y ih2 => match keyM x, ih2[ih.length]? with
  | some k, some (.dk []) => .ok (.ref ih.length) (ih2.set ih.length (.dk [(k, y)]))
  | _, _ => .stuck
section
variable {X : Cx} {W : WX} {pos p apos cpos : Pos} {a b e : Expr} {ma mb : Env → IH → Res IV}
theorem lm_disp1 (ha : PE X a (tM X.K W ma)) (hb : PE X b (tM X.K W mb)) : PE X (.Dict [some a] [b] pos) (tM X.K W (m_disp1 ma mb)) :=
  PE.of (pe_disp (pps_cons ha hb pps_nil) rfl rfl (by simp) (by simp)) fun σ H Q ⟨r, ih, env, hr, he, q⟩ p hp => by
    have hr0 : Rel X.K (r ++ [p]) (ih ++ [.dk []]) (upd H p (.dK [])) := hr.new hp rfl fun H' e => ⟨[], e, .nil⟩
    have hl : r[ih.length]? = none := List.getElem?_eq_none (by rw [hr.len]; exact Nat.le_refl _)
    have hp0 : (r ++ [p])[ih.length]? = some p := by
      rw [List.getElem?_append_right (by rw [hr.len]; exact Nat.le_refl _), hr.len, Nat.sub_self]
      rfl
    have q := q.pre (pre_one (p := p))
    unfold m_disp1 at q
    show tM X.K W ma σ (upd H p (.dK [])) (fun x H1 => tM X.K W mb σ H1 (fun y H2 => tPairs [] σ H2 (fun ps H3 => _)))
    refine tG.imp (tG_bind hr0 (he.mono pre_one) q) fun u H1 ⟨r1, ih1, x, p1, hr1, hx, q1⟩ => tG.imp (tG_bind hr1 ((he.mono pre_one).mono p1) q1) fun w H2 ⟨r2, ih2, y, p2, hr2, hy, q2⟩ => ?_
    dsimp only at q2
    split at q2
    · rename_i k e1 e2
      have hp2 := pre_get (pre_trans p1 p2) hp0
      obtain ⟨ys, h1, h2⟩ := hr2.get _ p _ hp2 e2
      cases h2
      obtain rfl := keyM_kV (hx.mono p2) e1
      refine ⟨h1, [(k, w)], rfl, by simp, ?_⟩
      exact q2 r2 _ _ (pre_refl r2) (hr2.writeD hp2 e2 (.cons ⟨rfl, hy⟩ .nil)) ⟨p, hp2, rfl⟩
    · exact q2.elim
/-! ### sum(d.values()) -/
def okSum (ns : List Int) : Bool := ns.all (fun x => decide (0 ≤ x)) && decide (ns.sum < 2 ^ 62)
def f_sumV (x : IV) (ih : IH) : Res IV := match x with
  | .ref n => match ih[n]? with
    | some (.dk kvs) => match valsI kvs with
      | some ns => if okSum ns = true then .ok (.int ns.sum) ih else .stuck
      | none => .stuck
    | _ => .stuck
  | _ => .stuck
theorem okSum_of {ns : List Int} (h : okSum ns = true) : (∀ x ∈ ns, 0 ≤ x) ∧ ns.sum < 2 ^ 62 := by
  unfold okSum at h
  rw [Bool.and_eq_true, List.all_eq_true, decide_eq_true_eq] at h
  exact ⟨fun x hx => of_decide_eq_true (h.1 x hx), h.2⟩
theorem sum_take : ∀ (ns : List Int) (j : Nat), (∀ x ∈ ns, 0 ≤ x) → 0 ≤ (ns.take j).sum ∧ (ns.take j).sum ≤ ns.sum ∧ 0 ≤ ns.getD j 0 ∧ ns.getD j 0 ≤ ns.sum
  | [], j, _ => by simp
  | a :: ns, 0, h => by
    have h0 := h a (by simp)
    have i := sum_take ns 0 fun x hx => h x (List.mem_cons_of_mem _ hx)
    simp only [List.take_zero, List.sum_nil] at i
    rw [List.take_zero, List.sum_nil, List.sum_cons]
    show 0 ≤ 0 ∧ 0 ≤ a + ns.sum ∧ 0 ≤ a ∧ a ≤ a + ns.sum
    omega
  | a :: ns, j + 1, h => by
    have h0 := h a (by simp)
    have i := sum_take ns j fun x hx => h x (List.mem_cons_of_mem _ hx)
    rw [List.take_succ_cons, List.sum_cons, List.sum_cons, List.getD_cons_succ]
    omega
theorem preSum_take (ns : List Int) : ∀ j, preSum (fun i => ns.getD i 0) j = (ns.take j).sum
  | 0 => by rw [List.take_zero]; rfl
  | j + 1 => by
    show preSum (fun i => ns.getD i 0) j + ns.getD j 0 = _
    rw [preSum_take ns j, List.take_add_one, List.sum_append, List.getD_eq_getElem?_getD]
    cases ns[j]? with
    | none => rfl
    | some x => show _ + x = _ + (x + 0); omega
theorem lm_sumV (hc : X.calm = true) (hg : Gl X "sum") (hm : X.mg "sum" = none) (he : PE X e (tM X.K W ma)) (hbase : attributeBase e "values" X.env (eval e X.env) = eval e X.env := by rfl) (hline : (apos.endLine == cpos.line) = true := by rfl)
    (hs : starEach [.Call (.Attribute e "values" apos) [] [] cpos] X.env = [(false, eval (.Call (.Attribute e "values" apos) [] [] cpos) X.env)] := by rfl) :
    PE X (.Call (.Name "sum" p) [.Call (.Attribute e "values" apos) [] [] cpos] [] pos) (tM X.K W (m_un f_sumV ma)) := by
  refine PE.of ⟨fun pins s σ H Q I q => ?_⟩ fun σ H Q h => h
  obtain ⟨r, ih, env, hr, hE, q⟩ := q
  refine wpAny_Call_Name_kw (ld_blt I hg hm rfl ?_)
  refine PyProof.Rows.callWith_builtin1 ?_ hs (by rfl)
  refine Calls.spliced_cons ?_
  refine wpAny_Call_method (T := "dict") (id := "dict.values") hbase rfl hline PySem.F.plainAttrs_dict PySem.F.slot_dict_values PySem.F.type_dict_values (thn (he.run pins s σ H _ I (tG_bind hr hE q)) fun u s1 ⟨x, H1, I1, rx, r1, ih1, v, p1, hr1, hv, q1⟩ => ?_)
  dsimp only at q1
  cases v with
  | ref n =>
    obtain ⟨ad, ea, hx⟩ := hv
    subst hx
    obtain rfl : u = Value.ref ad := rx
    unfold f_sumV at q1
    dsimp only at q1
    split at q1
    · rename_i kvs e1
      split at q1
      · rename_i ns e2
        split at q1
        · rename_i hok
          obtain ⟨ys, h1, h2⟩ := hr1.get n ad _ ea e1
          have hv2 := valsI_of h2 e2
          obtain ⟨z, hsm, vs, rel, dd⟩ := dk_of I1.hok h1
          refine ⟨dd.typeIs, dd.mapOf.noDict, ?_⟩
          have I2 : Inv X pins σ H1 { s1 with heap := s1.heap.push { cls := .type "dict_values", data := .fields #[.ref ad] } } := I1.kept (t' := s1.toks) fun b ob q => Heap.get?_push_of_some _ q
          refine method_meetsIn PySem.F.slot_dict_values PySem.F.entry_dict_values rfl (PySem.evalArgs_none ⟨rfl, dd.typeIs, PySem.F.args_dict_values_1 _, _, meets_dict_values (mixKind X.prog X.w) ad hsm, ⟨vs, dd⟩, ?_⟩)
          refine Calls.spliced_nil ?_
          obtain ⟨ob, es, ep, hget, hex, hdt, hkeys, hprs, hnd⟩ := dd
          have l1 := hprs.length
          rw [Array.length_toList] at l1
          have l2 : ys.length = vs.length := rel.length
          have l3 : ys.length = ns.length := by
            have e := congrArg List.length hv2
            rw [List.length_map, List.length_map] at e
            exact e
          have hsz : es.size = ns.length := by omega
          have hP : ∀ (i : Nat) (e : DictEntry), es[i]? = some e → ∃ t, e.val = .int (ns.getD i 0) t := fun i e he => by
            have hi : i < es.size := (Array.getElem?_eq_some_iff.mp he).1
            have hi2 : i < ys.length := by omega
            have hi3 : i < ns.length := by omega
            obtain ⟨u, hu, ru⟩ := kv_get rel (i := i) (k := ys[i].1) (v := ys[i].2) (List.getElem?_eq_getElem hi2)
            obtain ⟨g1, g2⟩ := hprs.get? (e := e) (by rw [Array.getElem?_toList]; exact he) hu
            have e2 : ys[i].2 = V.int ns[i] := by
              have z : (ys.map (·.2))[i]? = (ns.map V.int)[i]? := by rw [hv2]
              rw [List.getElem?_map, List.getElem?_map, List.getElem?_eq_getElem hi2, List.getElem?_eq_getElem hi3] at z
              exact Option.some.inj z
            have e3 : ns.getD i 0 = ns[i] := by rw [List.getD_eq_getElem?_getD, List.getElem?_eq_getElem hi3] <;> rfl
            rw [e2] at ru
            rw [e3, g2]
            exact ru
          have ha : ad < s1.heap.objs.size := Heap.lt_size hget
          have hget2 : (s1.heap.push { cls := .type "dict_values", data := .fields #[.ref ad] }).get? ad = some ob := Heap.get?_push_of_some _ hget
          obtain ⟨hpos, hlt⟩ := okSum_of hok
          show wpAny _ _ (call (.builtin "sum") _) _ _ _
          refine call_sum_walk ?_
          refine DSub.iter_vals (v := s1.heap.objs.size) (a := ad) (Heap.get?_push_size _ rfl) hget2 hdt ?_
          refine ⟨(s1.heap.push { cls := .type "dict_values", data := .fields #[.ref ad] }).objs.size, [(s1.heap.push { cls := .type "dict_values", data := .fields #[.ref ad] }).objs.size, ad], [(s1.heap.push { cls := .type "dict_values", data := .fields #[.ref ad] }).objs.size], es.size, fun i v => ∃ t, v = .int (ns.getD i 0) t, _, fun i => ns.getD i 0, rfl, DSub.walksVal (a := ad) (show X.A.in1.handled = none from I1.ok.hd hc) (by
            rw [size_push']
            exact Nat.ne_of_lt (Nat.lt_succ_of_lt ha)) hdt hP, ⟨Heap.get?_push_size _ rfl, Heap.get?_push_of_some _ hget2⟩, fun b hb => ?_, fun i v h => h, fun j hj => ?_, fun h' tk t' hk => ?_⟩
          · show b < ((s1.heap.push _).push _).objs.size
            rw [size_push', size_push']
            rcases List.mem_cons.mp hb with z | z
            · rw [z, size_push']
              exact Nat.lt_succ_self _
            · rw [List.mem_singleton.mp z]
              exact Nat.lt_succ_of_lt (Nat.lt_succ_of_lt ha)
          · rw [preSum_take]
            have h1 := sum_take ns j hpos
            have h2 := sum_take ns (j + 1) hpos
            unfold InLong
            dsimp only
            omega
          · have hk2 : ∀ b o, s1.heap.get? b = some o → h'.get? b = some o := fun b o e => hk b o (fun z => by
              rw [List.mem_singleton.mp z, size_push'] at e
              exact absurd (Heap.lt_size e) (Nat.not_lt_of_lt (Nat.lt_succ_self _))) (Heap.get?_push_of_some _ (Heap.get?_push_of_some _ e))
            refine ⟨.int ns.sum, H1, I1.kept (t' := tk) hk2, ⟨t', ?_⟩, tG_end q1 hr1 rfl⟩
            rw [preSum_take, hsz, List.take_length]
        · exact q1.elim
      · exact q1.elim
    · exact q1.elim
  | _ => exact q1.elim
end
end L3
/-! L3y: xs.count(x), xs.index(x) of flat items. -/
namespace L3
variable [TabT] [LamT]
open PySem PySem.Spec PyProof.Rows L2
theorem cnt_eqU {x : V} : ∀ {xs : List V} {us : List Value}, Vals xs us → xs.all flatV = true → us.countP (eqU x) = xs.countP fun y => eqV y x
  | _, _, .nil, _ => rfl
  | y :: xs, u :: us, .cons r t, f => by
    rw [List.all_cons, Bool.and_eq_true] at f
    rw [List.countP_cons, List.countP_cons, cnt_eqU t f.2, eqU_of r f.1]
section
variable {X : Cx}
def rCount (K : PySem.W.Frag) : V → List V → Hp → VK → Prop := fun x xs H Q => ∃ (a : Addr) (ys : List V) (y : V), x = V.ref a ∧ xs = [y] ∧ SqL K H a ys ∧ flatV y = true ∧ ys.all flatV = true ∧ Q (.int (ys.countP fun z => eqV z y : Nat)) H
theorem mt_count : MtR X "list.count" (rCount X.K) := by
  intro pins s σ H x xs v us Q I rx rxs h
  obtain ⟨a, ys, y, rfl, rfl, hs, fy, fys, q⟩ := h
  cases rx
  cases rxs with
  | cons ry rt =>
    rename_i uy ut
    cases rt
    obtain ⟨its, rv, ⟨⟨cls, dd, data, sl⟩, n, ho, hc, hdn, hd⟩, hlen⟩ := I.list hs
    simp only at hc hd
    subst hc hd
    refine call_meets PySem.F.slot_list_count ⟨_, ho, rfl⟩ PySem.F.entry_list_count (PySem.F.args_list_count_2 _ _)
      (SeqAt.list_countAt a its.toArray n dd sl uy (eqU y)) ⟨ho, fun u' hu' => mem_eqAt ry fy rv fys u' (by simpa using hu'), ?_⟩
    have ec : its.toArray.toList.countP (eqU y) = ys.countP fun z => eqV z y := cnt_eqU rv fys
    refine ⟨.int (ys.countP fun z => eqV z y : Nat), H, I.tok _, ⟨s.toks, ?_⟩, q⟩
    show Value.int ((its.toArray.toList.countP (eqU y) : Nat) : Int) s.toks = Value.int ((ys.countP fun z => eqV z y : Nat) : Int) s.toks
    rw [ec]
end
def flatI : IV → Bool
  | .non => true
  | .bl _ => true
  | .int _ => true
  | .str _ => true
  | _ => false
theorem flatI_R {r : List Addr} {x : IV} {u : V} (h : R r x u) (f : flatI x = true) : u = x.toV ∧ flatV u = true := by
  cases x with
  | non => exact ⟨h, by rw [show u = _ from h]; rfl⟩
  | bl b => exact ⟨h, by rw [show u = _ from h]; rfl⟩
  | int i => exact ⟨h, by rw [show u = _ from h]; rfl⟩
  | str z => exact ⟨h, by rw [show u = _ from h]; rfl⟩
  | _ => cases f
theorem flatI_Rs {r : List Addr} : ∀ {xs : List IV} {us : List V}, Rs r xs us → xs.all flatI = true → us = xs.map IV.toV ∧ us.all flatV = true
  | _, _, .nil, _ => ⟨rfl, rfl⟩
  | x :: xs, u :: us, .cons h t, f => by
    rw [List.all_cons, Bool.and_eq_true] at f
    obtain ⟨e1, f1⟩ := flatI_R h f.1
    obtain ⟨e2, f2⟩ := flatI_Rs t f.2
    exact ⟨by rw [e1, e2]; rfl, by rw [List.all_cons, f1, f2]; rfl⟩
def eqI (y : IV) (z : IV) : Bool := eqV z.toV y.toV
def f_count (x : IV) (vs : List IV) (ih : IH) : Res IV := match x, vs with
  | .ref n, [y] => match ih[n]? with
    | some o => if o.isL = true ∧ flatI y = true ∧ o.xs.all flatI = true then .ok (.int (o.xs.countP (eqI y) : Nat)) ih else .stuck
    | none => .stuck
  | _, _ => .stuck
def f_index (x : IV) (vs : List IV) (ih : IH) : Res IV := match x, vs with
  | .ref n, [y] => match ih[n]? with
    | some o => if o.isL = true ∧ flatI y = true ∧ o.xs.all flatI = true then (match o.xs.findIdx? (eqI y) with
      | some j => .ok (.int (j : Nat)) ih
      | none => .stuck) else .stuck
    | none => .stuck
  | _, _ => .stuck
section
variable {X : Cx} {K : PySem.W.Frag} {W : WX}
theorem s_count : SndM K W (rCount K) f_count := by
  intro r ih H x u xs us σ Q hr hx hxs q
  unfold f_count at q
  split at q
  · rename_i n y
    obtain ⟨a, ea, rfl⟩ := hx.ref
    obtain ⟨w, rfl, hy⟩ := hxs.one
    split at q
    · rename_i o e1
      split at q
      · rename_i hc
        obtain ⟨ys, h1, h2⟩ := (hr.get n a _ ea e1).l hc.1
        obtain ⟨e2, f2⟩ := flatI_R hy hc.2.1
        obtain ⟨e3, f3⟩ := flatI_Rs h2 hc.2.2
        refine ⟨a, ys, w, rfl, rfl, h1, f2, f3, tG_end q hr ?_⟩
        show _ = _
        rw [e3, e2, List.countP_map]
        rfl
      · exact q.elim
    · exact q.elim
  · exact q.elim
theorem s_index : SndM K W (rIndex K) f_index := by
  intro r ih H x u xs us σ Q hr hx hxs q
  unfold f_index at q
  split at q
  · rename_i n y
    obtain ⟨a, ea, rfl⟩ := hx.ref
    obtain ⟨w, rfl, hy⟩ := hxs.one
    split at q
    · rename_i o e1
      split at q
      · rename_i hc
        obtain ⟨ys, h1, h2⟩ := (hr.get n a _ ea e1).l hc.1
        obtain ⟨e2, f2⟩ := flatI_R hy hc.2.1
        obtain ⟨e3, f3⟩ := flatI_Rs h2 hc.2.2
        split at q
        · rename_i j ej
          obtain ⟨hj, hp, hno⟩ := List.findIdx?_eq_some_iff_getElem.mp ej
          refine ⟨a, ys, w, j, o.xs[j].toV, rfl, rfl, h1, f2, f3, by rw [e3, List.getElem?_map, List.getElem?_eq_getElem hj]; rfl, by rw [e2]; exact hp, fun m z' hm hz => ?_, tG_end q hr rfl⟩
          rw [e3, List.getElem?_map, List.getElem?_eq_getElem (by omega)] at hz
          cases hz
          rw [e2]
          have := hno m hm
          exact Bool.eq_false_iff.mpr this
        · exact q.elim
      · exact q.elim
    · exact q.elim
  · exact q.elim
end
end L3
/-! L3z: repr; defs that are run where no repr is under way. -/
namespace L3
variable [TabT] [LamT]
open PySem PySem.Spec PyProof.Rows L2

/-! ### repr -/
/-- the data of a value: as Is says, or a pair of such a value and an empty dict -/
def IsR (ih : IH) (v : IV) (d : PyData) : Prop := Is ih v d ∨ ∃ n m x e, v = .ref n ∧ ih[n]? = some (.tup [x, .ref m]) ∧ Is ih x e ∧ ih[m]? = some (.dk []) ∧ d = .tuple [e, .dict []]
theorem IsR.uniq {ih : IH} {v : IV} {d e : PyData} (h : IsR ih v d) (k : IsR ih v e) : d = e := by
  have no : ∀ {n m : Nat} {x : IV} {e d : PyData}, ih[n]? = some (.tup [x, .ref m]) → ih[m]? = some (.dk []) → Is ih (.ref n) d → False := fun {n m x e d} h1 h2 h3 => by
    cases h3 with
    | lst g1 g2 g3 =>
      rw [h1] at g1
      cases g1
      cases g2
    | tup g1 g2 g3 =>
      rw [h1] at g1
      cases g1
      cases g3 with
      | cons a b =>
        cases b with
        | cons c d =>
          cases c with
          | lst f1 f2 f3 => rw [h2] at f1; cases f1; cases f2
          | tup f1 f2 f3 => rw [h2] at f1; cases f1; cases f2
  rcases h with h | ⟨n, m, x, d1, rfl, h1, h2, h3, rfl⟩
  · rcases k with k | ⟨n, m, x, e1, rfl, k1, k2, k3, rfl⟩
    · exact Is.uniq _ _ _ h k
    · exact (no (e := e1) k1 k3 h).elim
  · rcases k with k | ⟨n', m', x', e1, e0, k1, k2, k3, rfl⟩
    · exact (no (e := d1) h1 h3 k).elim
    · cases e0
      rw [h1] at k1
      cases k1
      rw [Is.uniq _ _ _ h2 k2]
def okR (d : PyData) : Prop := d.showable = true ∧ d.shown.length ≤ sizeLine ∧ d.depth ≤ 50
open Classical in
noncomputable def f_repr (xs : List IV) (ih : IH) : Res IV := match xs with
  | [.ref n] => if h : ∃ d, IsR ih (.ref n) d ∧ okR d then .ok (.str h.choose.shown) ih else .stuck
  | _ => .stuck
open Classical in
theorem f_repr_of {n : Nat} {ih : IH} {d : PyData} (h : IsR ih (.ref n) d) (k : okR d) : f_repr [.ref n] ih = .ok (.str d.shown) ih := by
  unfold f_repr
  have e : ∃ d, IsR ih (.ref n) d ∧ okR d := ⟨d, h, k⟩
  show (if h : ∃ d, IsR ih (.ref n) d ∧ okR d then Res.ok (IV.str h.choose.shown) ih else .stuck) = _
  rw [dif_pos e]
  rw [IsR.uniq e.choose_spec.1 h]
/-- the same, of the heap -/
def DpR (K : PySem.W.Frag) (H : Hp) (a : Addr) (d : PyData) : Prop := Dp K H (.ref a) d ∨ ∃ x b e, SqT K H a [x, .ref b] ∧ Dp K H x e ∧ H b = some (.dK []) ∧ d = .tuple [e, .dict []]
mutual
theorem dp_noDict {K : PySem.W.Frag} {H : Hp} : ∀ (d : PyData) (v : V), Dp K H v d → d.hasDict = false
  | .none, _, _ => rfl
  | .bool _, _, _ => rfl
  | .int _, _, _ => rfl
  | .str _, _, _ => rfl
  | .list ds, _, h => by
    cases h with
    | lst h1 h2 =>
      have := dp_noDictAll ds _ h2
      simpa [PyData.hasDict] using this
  | .tuple ds, _, h => by
    cases h with
    | tup h1 h2 =>
      have := dp_noDictAll ds _ h2
      simpa [PyData.hasDict] using this
  | .dict _, _, h => by cases h
theorem dp_noDictAll {K : PySem.W.Frag} {H : Hp} : ∀ (ds : List PyData) (vs : List V), DpAll K H vs ds → PyData.hasDictAll ds = false
  | [], _, _ => rfl
  | d :: ds, _, h => by
    cases h with
    | cons h1 h2 =>
      have a := dp_noDict d _ h1
      have b := dp_noDictAll ds _ h2
      simp [PyData.hasDictAll, a, b]
end
def rRepr (K : PySem.W.Frag) : List V → Hp → VK → Prop := fun xs H Q => ∃ a d, xs = [.ref a] ∧ DpR K H a d ∧ okR d ∧ Q (.str d.shown) H
section
variable {X : Cx}
theorem call_reprA (hg : X.A.guards = some []) (hu : X.A.units + 64 < cLine) : CallR X (.builtin "repr") (rRepr X.K) := by
  intro pins s σ H xs us Q I r h
  obtain ⟨a, d, rfl, hd, ⟨k1, k2, k3⟩, q⟩ := h
  rw [Vals.ref1 r]
  have fin : ∀ (h' : Heap) (u tk : Nat), (∀ b o, s.heap.get? b = some o → h'.get? b = some o) → EP X pins σ Q (.str d.shown u) { s with heap := h', toks := tk } := fun h' u tk hk => ⟨.str d.shown, H, I.kept hk, ⟨u, rfl⟩, q⟩
  rcases hd with hd | ⟨x, b, e, hs, hx, hb, rfl⟩
  · obtain ⟨as, rr⟩ := Dp.reads I d _ _ hd (show RelV (.ref a) (.ref a) from rfl)
    exact repr_of_reads' rr k1 (fun z => by rw [dp_noDict d _ hd] at z; cases z) hg (by omega) (fun _ _ z => z) fun h' u tk hk => fin h' u tk hk
  · obtain ⟨its, rv, ⟨o, ho, hc, n, hdt⟩, _⟩ := I.tuple hs
    cases rv with
    | cons r1 rv =>
      rename_i ux its
      cases rv with
      | cons r2 rv =>
        rename_i ub its
        cases rv
        cases (show ub = Value.ref b from r2)
        obtain ⟨ax, rx⟩ := Dp.reads I e _ _ hx r1
        obtain ⟨_, hsys, vs, hkv, od, es, ep, hb1, hb2, hb3, _, hb5, _⟩ := dk_of I.hok hb
        have hvs : vs = [] := by
          have := Paired.length hkv
          exact List.length_eq_zero_iff.mp (by simpa using this.symm)
        subst hvs
        have hes : es.toList = [] := List.length_eq_zero_iff.mp (by rw [hb5.length]; rfl)
        have rd : Reads s.heap (.ref b) (.dict []) (b :: [] ++ []) := Reads.dict (as := []) (bs := []) hb1 hb2.1 hb3 (by rw [hes]; exact ReadsAll.nil) (by rw [hes]; exact ReadsAll.nil)
        have rt : Reads s.heap (.ref a) (.tuple [e, .dict []]) (ax ++ ((b :: [] ++ []) ++ [])) := Reads.tuple ho hc hdt (.cons rx (.cons rd .nil))
        have sh : e.showable = true ∧ (PyData.dict []).showable = true := by
          simp [PyData.showable, PyData.showableAll, PyData.showableKv] at k1 ⊢
          exact k1
        have hz : (tupleText [e.shown, (PyData.dict []).shown]).length ≤ sizeLine := by simpa [PyData.shown, PyData.shownAll] using k2
        obtain ⟨bs1, m1, q1⟩ := ReprK.of_reads (prog := X.prog) (w := X.w) rx sh.1 (fun z => by rw [dp_noDict e _ hx] at z; cases z) (Nat.le_trans (tupleText_mem_le (by simp)) hz)
        obtain ⟨bs2, m2, q2⟩ := ReprK.of_reads (prog := X.prog) (w := X.w) rd sh.2 (fun _ z => by
          have : sysModules = b := by simpa using z
          rw [← this] at hsys
          simp at hsys) (Nat.le_trans (tupleText_mem_le (by simp)) hz)
        have l1 : e.depth ≤ PyData.depthAll [e, .dict []] := by simp only [PyData.depthAll]; omega
        have l2 : (PyData.dict []).depth ≤ PyData.depthAll [e, .dict []] := by simp only [PyData.depthAll]; omega
        have hk : ReprAllK X.prog X.w (bs1 ++ bs2) s.heap (PyData.depthAll [e, .dict []]) [ux, .ref b] [e.shown, (PyData.dict []).shown] := by
          have a1 := ReprAllK.more_le (as' := bs1 ++ bs2) (fun b hb => List.mem_append_left _ hb) l1 (.cons q1 .nil)
          have a2 := ReprAllK.more_le (as' := bs1 ++ bs2) (fun b hb => List.mem_append_right _ hb) l2 (.cons q2 .nil)
          cases a1 with
          | cons c1 _ => exact .cons c1 a2
        have hm : ReadAtMost s.heap (PyData.depthAll [e, .dict []]) (bs1 ++ bs2) := (m1.mono l1).append (m2.mono l2)
        have hna : a ∉ bs1 ++ bs2 := not_mem_of_deeper rt (by simp only [PyData.depth]; omega) hm
        have dl : PyData.depthAll [e, .dict []] ≤ 50 := by
          have k4 : (PyData.tuple [e, .dict []]).depth ≤ 50 := k3
          simp only [PyData.depth] at k4
          omega
        refine call_repr_slot (by omega) (T := "tuple") ⟨o, ho, hc⟩ F.slot_tuple_repr ?_
        refine call_tuple_reprK (items := #[ux, .ref b]) ho hc hdt hna hk (g := []) hg (fun b _ => Clear.nil b) (by show X.A.units + 1 + _ < cLine; omega) (fun _ _ z => z) (fun h' u tk hk' => ⟨_, _, rfl, ?_⟩) hz
        have := fin h' u tk hk'
        simpa [PyData.shown, PyData.shownAll] using this
end
theorem s_repr {K : PySem.W.Frag} {W : WX} : SndC K W (rRepr K) f_repr := by
  intro r ih H xs us σ Q hr hx q
  unfold f_repr at q
  split at q
  · rename_i n
    split at q
    · rename_i h
      obtain ⟨h1, h2⟩ := h.choose_spec
      cases hx with
      | cons hx1 hx2 =>
        cases hx2
        obtain ⟨a, ea, rfl⟩ := hx1.ref
        refine ⟨a, h.choose, rfl, ?_, h2, tG_end q hr rfl⟩
        generalize h.choose = d at h1
        rcases h1 with h1 | ⟨n', m, x, e, e0, g1, g2, g3, rfl⟩
        · exact .inl (Is.dp hr _ _ _ h1 ⟨a, ea, rfl⟩)
        · cases e0
          obtain ⟨ys, t1, t2⟩ := (hr.get n a _ ea g1).t rfl
          cases t2 with
          | cons c1 t2 =>
            cases t2 with
            | cons c2 t2 =>
              cases t2
              obtain ⟨b, eb, rfl⟩ := c2.ref
              obtain ⟨ys2, d1, d2⟩ := hr.get m b _ eb g3
              cases d2
              exact .inr ⟨_, b, e, t1, Is.dp hr _ _ _ g2 c1, d1, rfl⟩
    · exact q.elim
  · exact q.elim

/-! ### defs that are run where no repr is under way -/
structure FnOkG (P : Program) (w : World) (K : PySem.W.Frag) (mg : Str → Option Value) (base : Heap) (CX : CXT) (k : Nat) (f : Addr) (fd : FuncData) (ps : List Str) (sp : Sp) : Prop where
  len : ∀ vs H Q E, sp vs H Q E → vs.length = ps.length
  run : ∀ (A : Around) (outer : List PySem.Env) (s : Shared) (H : Hp) (args : Args) (us : List Value) (vs : List V) (Q : VK) (E : XK), A.guards = some [] → Room k A → Env0 P w K mg base A outer s H → BindsTo s fd args (ps.zip us) → Vals vs us → sp vs H Q E →
    codeAny (model P w) A (.call (.ref f) args) (CR CX outer P w H s Q E) s
theorem FnOkG.imp {P : Program} {w : World} {K : PySem.W.Frag} {mg : Str → Option Value} {base : Heap} {CX : CXT} {k : Nat} {f : Addr} {fd : FuncData} {ps : List Str} {sp sp' : Sp} (F : FnOkG P w K mg base CX k f fd ps sp) (h : ∀ vs H Q E, sp' vs H Q E → sp vs H Q E) : FnOkG P w K mg base CX k f fd ps sp' :=
  ⟨fun vs H Q E q => F.len vs H Q E (h _ _ _ _ q), fun A outer s H args us vs Q E hg hr he hb hv hs => F.run A outer s H args us vs Q E hg hr he hb hv (h _ _ _ _ hs)⟩
section
variable {P : Program} {w : World} {K : PySem.W.Frag} {mg mb : Str → Option Value} {k : Nat} {fa a : Addr} {fd : FuncData} {x : Str} {sp : Sp} {s₁ : Shared} {vs : List Value} {ns : List Int}
/-- the promise, from a heap in which the script may be told -/
theorem law_runG {CX : CXT} {H : Hp} (KX : K.In s₁.heap) (hns : s₁.heap.Ns mainGlobals mg) (hb : s₁.heap.Ns builtinsNs mb) (hbb : ∀ x : Str, x ≠ "__name__" → mb x = bootBuiltins x) (hlim : s₁.heap.NoLimit) (hg : s₁.gens = #[])
    (hr : Room k callerA) (F : ∀ base : Heap, K.In base → base.Ns mainGlobals mg → FnOkG P w K mg base CX k fa fd [x] sp) (hbind : ∀ (s : Shared) (u : Value), BindsTo s fd ⟨[u], []⟩ [(x, u)]) (hCX : ∀ H e s', CX [] H s₁ (fun _ _ _ => False) e s' → False)
    (ok : HOk P w H s₁.heap) (hsp : sp [.ref a] H (fun v _ => v = .bl true) fun _ _ _ => False)
    (told : ∀ b u, H b = some u → (∃ o xs, u = .frz o (.lst xs)) ∧ K.lookup b = none ∧ ∃ o vs n, s₁.heap.get? b = some o ∧ o.data = .seq vs n) :
    codeAny (model P w) callerA (.call (.ref fa) ⟨[.ref a], []⟩) (fun r s' => r = .ok (.ret (.bool true)) ∧ OldK s₁.heap s'.heap ∧ s'.os = s₁.os ∧ AllBare s'.gens) s₁ := by
  have free : ∀ {b : Addr} {o : Obj}, s₁.heap.get? b = some o → (∀ vs n, o.data ≠ .seq vs n) → (hidT s₁.heap H).get? b = some o := fun {b o} e nd => by
    refine hidT_get e ?_
    cases z : H b with
    | none => rfl
    | some u =>
      obtain ⟨_, _, o', vs', n', e', d'⟩ := told b u z
      rw [e] at e'
      cases e'
      exact absurd d' (nd vs' n')
  have ns : ∀ {b : Addr} {m : Str → Option Value}, s₁.heap.Ns b m → (hidT s₁.heap H).Ns b m := fun {b m} h => by
    obtain ⟨o, es, ep, e, d, r⟩ := h
    exact ⟨o, es, ep, free e (fun vs n z => by rw [d] at z; cases z), d, r⟩
  have kin : K.In (hidT s₁.heap H) := fun b o e => hidT_get (KX b o e) (by
    cases z : H b with
    | none => rfl
    | some u =>
      obtain ⟨_, n, _⟩ := told b u z
      rw [n] at e
      cases e)
  obtain ⟨mc, l1, l2⟩ := hlim
  have e0 : Env0 P w K mg (hidT s₁.heap H) callerA [] s₁ H := ⟨rfl, ⟨kin, ns hns, ⟨mb, ns hb, hbb⟩, ⟨mc, ns l1, l2⟩⟩, fun b o e => of_hidT e, Nat.le_of_eq (hidT_size _ _), trivial, (fun b hb => absurd (show b ∈ ([] : List Addr) from hb) List.not_mem_nil), ok, .of_eq hg⟩
  refine codeAny_mono ((F _ kin (ns hns)).run callerA [] s₁ H ⟨[.ref a], []⟩ [.ref a] [.ref a] _ _ rfl hr e0 (hbind s₁ (.ref a)) (.cons rfl .nil) hsp) fun r s' h => ?_
  cases r with
  | error e => exact (hCX H e s' h).elim
  | ok fl =>
    cases fl with
    | next => exact False.elim h
    | brk => exact False.elim h
    | cont => exact False.elim h
    | ret u =>
      obtain ⟨v, H', os, bare, un, ok', rv, hv⟩ := h
      have hv' : v = .bl true := hv
      subst hv'
      obtain rfl : u = Value.bool true := rv
      refine ⟨rfl, OldK.of_keep fun b o e => ?_, os, bare⟩
      cases z : H b with
      | none => exact un.keep b o e z (fun h => List.not_mem_nil h) List.not_mem_nil
      | some u =>
        obtain ⟨⟨ob, xs, rfl⟩, _⟩ := told b u z
        have k1 := (ok b _ z).1
        have k2 := (ok' b _ (un.frzs b ob _ z)).1
        rw [e] at k1
        cases k1
        exact k2
theorem law_callG {CX : CXT} (KX : K.In s₁.heap) (hns : s₁.heap.Ns mainGlobals mg) (hb : s₁.heap.Ns builtinsNs mb) (hbb : ∀ x : Str, x ≠ "__name__" → mb x = bootBuiltins x) (hlim : s₁.heap.NoLimit) (hg : s₁.gens = #[])
    (ha : s₁.heap.get? a = some { cls := .type "list", data := .seq vs.toArray }) (hi : IntsAre vs ns) (hl : ns.length ≤ sizeLine) (hr : Room k callerA)
    (F : ∀ base : Heap, K.In base → base.Ns mainGlobals mg → FnOkG P w K mg base CX k fa fd [x] sp) (hbind : ∀ (s : Shared) (u : Value), BindsTo s fd ⟨[u], []⟩ [(x, u)])
    (hsp : ∀ H : Hp, Only H → SqL K H a (ns.map V.int) → sp [.ref a] H (fun v _ => v = .bl true) fun _ _ _ => False)
    (hCX : ∀ H e s', CX [] H s₁ (fun _ _ _ => False) e s' → False) :
    codeAny (model P w) callerA (.call (.ref fa) ⟨[.ref a], []⟩) (fun r s' => r = .ok (.ret (.bool true)) ∧ OldK s₁.heap s'.heap ∧ s'.os = s₁.os ∧ AllBare s'.gens) s₁ := by
  have rv := vals_ints hi
  cases hk : K.lookup a with
  | some o =>
    obtain rfl : o = { cls := .type "list", data := .seq vs.toArray } := Option.some.inj ((KX a o hk).symm.trans ha)
    refine law_runG (H := fun _ => none) KX hns hb hbb hlim hg hr F hbind hCX (fun b u z => nomatch z) (hsp _ (fun _ => .inl rfl) ?_) fun b u z => nomatch z
    exact .inr ⟨_, vs.toArray, _, hk, rfl, rfl, rfl, by rw [List.size_toArray, hi.length]; exact hl, by simpa using rv⟩
  | none =>
    obtain ⟨H, hH⟩ : ∃ H : Hp, H = fun b => if b = a then some (.frz { cls := .type "list", data := .seq vs.toArray } (.lst (ns.map V.int))) else none := ⟨_, rfl⟩
    have at_ : H a = some (.frz { cls := .type "list", data := .seq vs.toArray } (.lst (ns.map V.int))) := by rw [hH]; exact if_pos rfl
    have only : ∀ b u, H b = some u → b = a ∧ u = .frz { cls := .type "list", data := .seq vs.toArray } (.lst (ns.map V.int)) := fun b u z => by
      rw [hH] at z
      by_cases e : b = a
      · exact ⟨e, (Option.some.inj ((if_pos e).symm.trans z)).symm⟩
      · exact nomatch (if_neg e).symm.trans z
    refine law_runG (H := H) KX hns hb hbb hlim hg hr F hbind hCX (fun b u z => ?_) (hsp H (fun b => ?_) (.inl (.inr ⟨_, at_⟩))) fun b u z => ?_
    · obtain ⟨rfl, rfl⟩ := only b u z
      exact ⟨ha, by rw [List.length_map]; exact hl, vs, _, rv, ha⟩
    · cases z : H b with
      | none => exact .inl rfl
      | some u => exact .inr ⟨_, _, by rw [(only b u z).2]⟩
    · obtain ⟨rfl, rfl⟩ := only b u z
      exact ⟨⟨_, _, rfl⟩, hk, _, _, _, ha, rfl⟩
theorem walk_ofG {l : PySem.W.OpenLaw} {n k : Nat} {q : Program} {loose : List Str} {XP : (Str → Option Value) → Heap → Prop} {YP : World → Heap → Prop} {d : DefRec} {K : Params → PySem.W.Frag} {CX : World → CXT} {sp : World → Sp} {x : Str}
    (hn : l.most = some n) (hn2 : n ≤ sizeLine) (hdf : d.params.defaults = []) (hr : Room k callerA) (hY : ∀ (w : World) (h : Heap), YP w h → (K w.params).In h)
    (F : ∀ (w : World) (mg : Str → Option Value) (fa : Addr) (h : Heap), (K w.params).In h → h.Ns mainGlobals mg → mg d.name = some (.ref fa) →
      ∃ fd : FuncData, (∀ (s : Shared) (u : Value), BindsTo s fd ⟨[u], []⟩ [(x, u)]) ∧ ∀ base : Heap, (K w.params).In base → base.Ns mainGlobals mg → FnOkG l.prog w (K w.params) mg base (CX w) k fa fd [x] (sp w))
    (hsp : ∀ (w : World) (H : Hp) (a : Addr) (ns : List Int), ns.length ≤ n → (∀ z ∈ ns, Builtin.Int.intBits z ≤ 1048576) → Only H → SqL (K w.params) H a (ns.map V.int) → sp w [.ref a] H (fun v _ => v = .bl true) fun _ _ _ => False)
    (hCX : ∀ (w : World) (H : Hp) (s : Shared) (e : Value) (s' : Shared), CX w [] H s (fun _ _ _ => False) e s' → False) : PySem.W.WalkO q loose XP YP l.row.toRowW d [] (fun f vs => PySem.call f vs) := by
  refine Att.attach_callB hn hdf fun w s₀ s₁ mg mb fa o pm cd doc a vs ns G Y ho hd hcd hmg hobj hints hlen hbits hg => ?_
  obtain ⟨fd, hb, hF⟩ := F w mg fa _ (hY w _ Y) G.T.g hmg
  exact law_callG (hY w _ Y) G.T.g G.T.b G.T.builtins G.T.nolimit hg hobj hints (Nat.le_trans hlen hn2) hr hF hb (fun H hO hS => hsp w H a ns hlen hbits hO hS) fun H e s' => hCX w H s₁ e s'
end
/-! ### a def with a repr in it -/
section
variable {P : Program} {w : World} {K : PySem.W.Frag} {mg : Str → Option Value} {base : Heap} {k : Nat} {x qual : Str} {st : Stmt} {dv : List V} {f : Addr} {fd : FuncData} {N ps : List Str} {mb : Env → IH → RS}
abbrev BodyOkG (P : Program) (w : World) (K : PySem.W.Frag) (mg : Str → Option Value) (base : Heap) (k : Nat) (N : List Str) (qual : Str) (st : Stmt) (f : Addr) (mb : Env → IH → RS) : Prop :=
  ∀ (cdv : Value) (A : Around) (outer : List PySem.Env) (s : Shared) (H : Hp) (E : XK), (cxOf (L2.CX P w) P w K mg base N qual (defScope st) f cdv A outer s H E).A.guards = some [] → Room k (cxOf (L2.CX P w) P w K mg base N qual (defScope st) f cdv A outer s H E).A →
    Takes (cxOf (L2.CX P w) P w K mg base N qual (defScope st) f cdv A outer s H E) (fun cls d _ H => E cls d H) →
    PassesOwn (model P w) (cxOf (L2.CX P w) P w K mg base N qual (defScope st) f cdv A outer s H E).A (cxOf (L2.CX P w) P w K mg base N qual (defScope st) f cdv A outer s H E).env (cxOf (L2.CX P w) P w K mg base N qual (defScope st) f cdv A outer s H E).xe →
    (cxOf (L2.CX P w) P w K mg base N qual (defScope st) f cdv A outer s H E).A.units + 64 < cLine →
    PSs (cxOf (L2.CX P w) P w K mg base N qual (defScope st) f cdv A outer s H E) (defBody st) (tMS K (fun cls d _ H => E cls d H) mb)
theorem df_fnG (F : FunD K x qual (defArgs st) (defBody st) (defScope st) dv [] f fd) (S : FnScope N ps (defScope st)) (hbody : BodyOkG P w K mg base k N qual st f mb) : FnOkG P w K mg base (L2.CX P w) (k + 1) f fd ps (spM K ps.length (defRun N.length mb)) := by
  obtain ⟨oc, od, dV, kV, doc, pm, an, cdv, ct, osl, rfl, lk, hcd, _, _⟩ := F.ex
  refine ⟨fun vs H Q E ⟨r, ih, args, e, _, rs, _⟩ => rs.length ▸ e, fun A outer s H args us vs Q E hg hr e0 hb hv ⟨r, ih, args', e, hrel, rs, q⟩ => ?_⟩
  refine LamX.run_ofS lk hcd S hr e0 hb hv (rs.length ▸ e) fun hr' => ⟨_, hbody cdv A outer s H E hg hr' (takes_of rfl rfl rfl rfl) (passes_of rfl) (by
    have hu := hr'.un
    show (A.deeper (envOfC qual (defScope st) s.heap.objs.size f cdv)).units + 64 < cLine
    omega), r, ih, _, hrel, start_rel rs, ?_⟩
  unfold defRun at q
  cases z : mb (startI N.length args') ih with
  | ok fl ih2 =>
    rw [z] at q
    cases fl with
    | ret v => exact q
    | next env => exact fun r' H' σ' p hr' he' => q r' H' .non p hr' rfl
    | brk env => exact q.elim
    | cont env => exact q.elim
  | exc c env ih2 =>
    rw [z] at q
    exact fun r' H' σ' p hr' he' => q r' H' p hr'
  | stuck => rw [z] at q; exact q
end
end L3
/-! L4: how mirrors are run; sizes of ints. -/
namespace L3
instance : TabT := ⟨[]⟩
instance : LamT := ⟨[], []⟩
open PySem PySem.Spec PyProof.Rows L2

theorem startI_cons (N : Nat) (a : IV) (r : List IV) : startI (N + 1) (a :: r) = some a :: startI N r := by
  unfold startI
  rw [List.map_cons, List.length_cons, Nat.add_sub_add_right]
  rfl
theorem startI_nil (N : Nat) : startI N [] = List.replicate N none := rfl
theorem rep_succ (N : Nat) : List.replicate (N + 1) (none : Option IV) = none :: List.replicate N none := rfl
theorem rep_zero : List.replicate 0 (none : Option IV) = [] := rfl

/-! ### operations, applied -/
section
variable {ih : IH} {i j : Int} {n m : Nat} {o : MO} {v : IV}
theorem a_int : f_int [.int i] ih = .ok (.int i) ih := rfl
theorem a_add : f_add (.int i) (.int j) ih = .ok (.int (i + j)) ih := rfl
theorem a_addI : f_addI (.int i) (.int j) ih = .ok (.int (i + j)) ih := rfl
theorem a_sub : f_sub (.int i) (.int j) ih = .ok (.int (i - j)) ih := rfl
theorem a_neg : f_neg (.int i) ih = .ok (.int (-i)) ih := rfl
theorem a_lt : f_lt (.int i) (.int j) ih = .ok (.bl (decide (i < j))) ih := rfl
theorem a_le : f_le (.int i) (.int j) ih = .ok (.bl (decide (i ≤ j))) ih := rfl
theorem a_gt : f_gt (.int i) (.int j) ih = .ok (.bl (decide (j < i))) ih := rfl
theorem a_ge : f_ge (.int i) (.int j) ih = .ok (.bl (decide (j ≤ i))) ih := rfl
theorem a_max2 : f_max2 [.int i, .int j] ih = .ok (.int (if j > i then j else i)) ih := rfl
theorem a_min2 : f_min2 [.int i, .int j] ih = .ok (.int (if j < i then j else i)) ih := rfl
theorem a_abs : f_abs [.int i] ih = .ok (.int (if i < 0 then -i else i)) ih := rfl
theorem a_mul (h : cMul i j = true) : f_mulA (.int i) (.int j) ih = .ok (.int (i * j)) ih := by
  show (if cMul i j = true then _ else _) = _
  rw [if_pos h]
theorem a_mulI (h : cMul i j = true) : f_mul (.int i) (.int j) ih = .ok (.int (i * j)) ih := by
  show (if cMul i j = true then _ else _) = _
  rw [if_pos h]
theorem a_fdiv (h : cDiv i j = true) : f_fdiv (.int i) (.int j) ih = .ok (.int (i / j)) ih := by
  show (if cDiv i j = true then _ else _) = _
  rw [if_pos h]
theorem a_mod (h : 0 < j) : f_mod (.int i) (.int j) ih = .ok (.int (i % j)) ih := by
  show (if cMod i j = true then _ else _) = _
  exact if_pos (decide_eq_true h)
theorem a_shl (h : cShl i j = true) : f_shl (.int i) (.int j) ih = .ok (.int (i * 2 ^ j.toNat)) ih := by
  show (if cShl i j = true then _ else _) = _
  rw [if_pos h]
theorem a_shr (h : 0 ≤ j) : f_shr (.int i) (.int j) ih = .ok (.int (i / 2 ^ j.toNat)) ih := by
  show (if cShr i j = true then _ else _) = _
  exact if_pos (decide_eq_true h)
theorem a_pow (h : cPow i j = true) : f_pow (.int i) (.int j) ih = .ok (.int (i ^ j.toNat)) ih := by
  show (if cPow i j = true then _ else _) = _
  rw [if_pos h]
theorem a_len (h : ih[n]? = some o) (hd : o.isS = true := by rfl) : f_len [.ref n] ih = .ok (.int o.xs.length) ih := by
  unfold f_len
  dsimp only
  rw [h]
  cases o with
  | dct => cases hd
  | dk _ => cases hd
  | clo => cases hd
  | _ => rfl
theorem a_ix (h : ih[n]? = some o) (hv : atI o.xs i = some v) : f_ix (.ref n) (.int i) ih = .ok v ih := by
  unfold f_ix
  dsimp only
  rw [h]
  dsimp only
  rw [hv]
theorem a_isN {x : IV} : f_isN x .non ih = .ok (.bl (decide (x = .non))) ih := by
  unfold f_isN
  rw [if_pos rfl]
theorem a_notN {x : IV} : f_notN x .non ih = .ok (.bl (!decide (x = .non))) ih := by
  unfold f_notN
  rw [if_pos rfl]
theorem a_lst {xs : List IV} (h : xs.length ≤ 100000) : f_lst xs ih = .ok (.ref ih.length) (ih ++ [.lst xs]) := by
  unfold f_lst
  rw [if_pos h]
theorem a_tup {xs : List IV} (h : xs.length ≤ 100000) : f_tup xs ih = .ok (.ref ih.length) (ih ++ [.tup xs]) := by
  unfold f_tup
  rw [if_pos h]
theorem a_list (h : ih[n]? = some o) (hd : o.isS = true := by rfl) : f_list [.ref n] ih = .ok (.ref ih.length) (ih ++ [.lst o.xs]) := by
  unfold f_list
  dsimp only
  rw [h]
  cases o with
  | dct => cases hd
  | dk _ => cases hd
  | clo => cases hd
  | _ => rfl
theorem a_append {xs : List IV} {y : IV} (h : ih[n]? = some (.lst xs)) (hl : xs.length < 100000) : f_append (.ref n) [y] ih = .ok .non (ih.set n (.lst (xs ++ [y]))) := by
  unfold f_append
  dsimp only
  rw [h]
  dsimp only
  rw [if_pos hl]
theorem a_isLst (h : ih[n]? = some o) (hl : o.isL = true) : isLst (.ref n) ih = true := by
  unfold isLst
  dsimp only
  rw [h]
  exact hl
theorem a_setL {xs : List IV} {y : IV} {k : Nat} (h : ih[n]? = some (.lst xs)) (hk : ixN xs.length i = some k) : f_setL (.ref n) (.int i) y ih = some (ih.set n (.lst (xs.set k y))) := by
  unfold f_setL
  dsimp only
  rw [h]
  dsimp only
  rw [hk]
theorem a_call {xs ds : List IV} {f : List IV → IH → Res IV} (h : (xs ++ ds).length = n) : f_call n ds f xs ih = f (xs ++ ds) ih := by
  unfold f_call
  rw [if_pos h]
theorem atI_ok {α : Type} {xs : List α} {k : Nat} {v : α} (hi : i = (k : Int)) (h : xs[k]? = some v) : atI xs i = some v := by
  rw [hi]
  exact atI_nat h
end
theorem atI_nn {α : Type} (xs : List α) (k : Nat) : atI xs (k : Int) = xs[k]? := by
  unfold atI ixN
  rw [if_pos (Int.natCast_nonneg k)]
  by_cases h : k < xs.length
  · rw [if_pos (by omega)]
    rfl
  · rw [if_neg (by omega), List.getElem?_eq_none (by omega)]
    rfl
theorem atI_0 {α : Type} (xs : List α) : atI xs 0 = xs[0]? := atI_nn xs 0
theorem atI_1 {α : Type} (xs : List α) : atI xs 1 = xs[1]? := atI_nn xs 1
theorem atI_2 {α : Type} (xs : List α) : atI xs 2 = xs[2]? := atI_nn xs 2
theorem atI_3 {α : Type} (xs : List α) : atI xs 3 = xs[3]? := atI_nn xs 3
theorem atI_4 {α : Type} (xs : List α) : atI xs 4 = xs[4]? := atI_nn xs 4
theorem atI_5 {α : Type} (xs : List α) : atI xs 5 = xs[5]? := atI_nn xs 5
theorem atI_6 {α : Type} (xs : List α) : atI xs 6 = xs[6]? := atI_nn xs 6
theorem atI_7 {α : Type} (xs : List α) : atI xs 7 = xs[7]? := atI_nn xs 7
theorem atI_8 {α : Type} (xs : List α) : atI xs 8 = xs[8]? := atI_nn xs 8
theorem atI_9 {α : Type} (xs : List α) : atI xs 9 = xs[9]? := atI_nn xs 9
theorem atI_10 {α : Type} (xs : List α) : atI xs 10 = xs[10]? := atI_nn xs 10
theorem atI_11 {α : Type} (xs : List α) : atI xs 11 = xs[11]? := atI_nn xs 11
theorem atI_12 {α : Type} (xs : List α) : atI xs 12 = xs[12]? := atI_nn xs 12
theorem ixN_30 : ixN 3 0 = some 0 := rfl
theorem ixN_31 : ixN 3 1 = some 1 := rfl
theorem ixN_32 : ixN 3 2 = some 2 := rfl
theorem xs_lst (xs : List IV) : (MO.lst xs).xs = xs := rfl
theorem xs_tup (xs : List IV) : (MO.tup xs).xs = xs := rfl
theorem xs_ro (xs : List IV) : (MO.ro xs).xs = xs := rfl
theorem xs_rot (xs : List IV) : (MO.rot xs).xs = xs := rfl
theorem isL_lst (xs : List IV) : (MO.lst xs).isL = true := rfl
theorem isL_tup (xs : List IV) : (MO.tup xs).isL = false := rfl
theorem isL_ro (xs : List IV) : (MO.ro xs).isL = true := rfl
theorem isT_tup (xs : List IV) : (MO.tup xs).isT = true := rfl
theorem isT_rot (xs : List IV) : (MO.rot xs).isT = true := rfl
theorem isL_rot (xs : List IV) : (MO.rot xs).isL = false := rfl
/-! ### sizes of ints -/
/-- an int of at most n bits -/
def B (n : Nat) (i : Int) : Prop := i.natAbs < 2 ^ n
section
variable {i j : Int} {n m k : Nat}
theorem B.mono (h : B n i) (e : n ≤ m) : B m i := Nat.lt_of_lt_of_le h (Nat.pow_le_pow_right (by decide) e)
theorem B.ib (h : B n i) : ibits i ≤ n := PyProof.Rows.intBits_le h
theorem B.of_ib (h : ibits i ≤ n) : B n i := by
  unfold ibits Builtin.Int.intBits at h
  split at h
  · rename_i h0
    have : i = 0 := by simpa using h0
    subst this
    exact Nat.two_pow_pos n
  · exact Nat.lt_of_lt_of_le Nat.lt_log2_self (Nat.pow_le_pow_right (by decide) h)
theorem B.add (h : B n i) (g : B n j) : B (n + 1) (i + j) := by
  unfold B at *
  rw [Nat.pow_succ]
  omega
theorem B.sub (h : B n i) (g : B n j) : B (n + 1) (i - j) := by
  unfold B at *
  rw [Nat.pow_succ]
  omega
theorem B.neg (h : B n i) : B n (-i) := by
  unfold B at *
  rw [Int.natAbs_neg]
  exact h
theorem B.mul (h : B n i) (g : B m j) : B (n + m) (i * j) := by
  unfold B at *
  rw [Int.natAbs_mul, Nat.pow_add]
  exact Nat.mul_lt_mul'' h g
theorem B.div (h : B n i) (g : 0 < j) : B n (i / j) := by
  unfold B at *
  have : (i / j).natAbs ≤ i.natAbs := by
    rcases Int.le_total 0 i with hi | hi
    · have h1 := Int.ediv_nonneg hi (Int.le_of_lt g)
      have h2 := Int.ediv_le_self j hi
      omega
    · have h1 : i / j ≤ 0 := by
        have := Int.ediv_le_ediv g hi
        rw [Int.zero_ediv] at this
        exact this
      have h2 : i ≤ i / j := by
        rw [Int.le_ediv_iff_mul_le g]
        have : i * j ≤ i * 1 := Int.mul_le_mul_of_nonpos_left hi (by omega)
        omega
      omega
  omega
theorem B.mod (g : 0 < j) (h : B n j) : B n (i % j) := by
  unfold B at *
  have h1 := Int.emod_nonneg i (Int.ne_of_gt g)
  have h2 := Int.emod_lt_of_pos i g
  omega
theorem B.le (h0 : 0 ≤ i) (h : i ≤ j) (g : B n j) : B n i := by
  unfold B at *
  omega
theorem B.lt (h0 : 0 ≤ i) (h : i < 2 ^ n) : B n i := by
  unfold B
  have e : ((2 ^ n : Nat) : Int) = 2 ^ n := by rw [Int.natCast_pow]; rfl
  omega
theorem B.cmul (h : B n i) (g : B m j) (e : n + m ≤ 134217728) : cMul i j = true := by
  have := h.ib
  have := g.ib
  exact decide_eq_true (by omega)
theorem cDiv_of (g : 0 < j) (h : B n j) (h0 : 0 < n) (e : n ≤ 9000) : cDiv i j = true := by
  unfold cDiv
  rw [Bool.and_eq_true]
  exact ⟨decide_eq_true g, decide_eq_true (Nat.lt_of_lt_of_le (PySem.Flt.log2_lt_of h0 h) e)⟩
theorem cShl_of (h : B n i) (e : n + k ≤ 134217728) : cShl i (k : Int) = true := by
  have := h.ib
  unfold cShl
  rw [Bool.and_eq_true]
  exact ⟨decide_eq_true (by omega), decide_eq_true (by omega)⟩
end

/-! ### heaps that grow -/
def Ext (a b : IH) : Prop := ∀ (n : Nat) (o : MO), a[n]? = some o → b[n]? = some o
theorem Ext.refl (a : IH) : Ext a a := fun _ _ h => h
theorem Ext.trans {a b d : IH} (h : Ext a b) (k : Ext b d) : Ext a d := fun n o e => k n o (h n o e)
theorem Ext.app (a b : IH) : Ext a (a ++ b) := fun n o e => by
  rw [List.getElem?_append_left (List.getElem?_eq_some_iff.mp e).1]
  exact e
/-- all objects but the one at p stay -/
def ExtP (p : Nat) (a b : IH) : Prop := ∀ (n : Nat) (o : MO), n ≠ p → a[n]? = some o → b[n]? = some o
theorem ExtP.refl (p : Nat) (a : IH) : ExtP p a a := fun _ _ _ h => h
theorem ExtP.trans {p : Nat} {a b d : IH} (h : ExtP p a b) (k : ExtP p b d) : ExtP p a d := fun n o hn e => k n o hn (h n o hn e)
theorem Ext.p {a b : IH} (h : Ext a b) (p : Nat) : ExtP p a b := fun n o _ e => h n o e
theorem ExtP.set (p : Nat) (a : IH) (o : MO) : ExtP p a (a.set p o) := fun n u hn e => by
  rw [List.getElem?_set_ne (Ne.symm hn)]
  exact e
theorem get_new (a : IH) (o : MO) : (a ++ [o])[a.length]? = some o := by
  rw [List.getElem?_append_right (Nat.le_refl _), Nat.sub_self]
  rfl
theorem get_set {a : IH} {p : Nat} {o u : MO} (h : a[p]? = some u) : (a.set p o)[p]? = some o := List.getElem?_set_self (List.getElem?_eq_some_iff.mp h).1
theorem lt_of_get {a : IH} {p : Nat} {u : MO} (h : a[p]? = some u) : p < a.length := (List.getElem?_eq_some_iff.mp h).1
end L3
/-! L6: loops and comprehensions of mirrors. -/
namespace L3
open PySem PySem.Spec PyProof.Rows L2

/-! ### for -/
/-- a loop whose turns all go on -/
theorem forGo_ind {s : Src} {g : IV → Env → IH → Option Env} {mb : Env → IH → RS} (k : Nat) (P : Nat → Env → IH → Prop)
    (turn : ∀ i env ih, i < k → P i env ih → ∃ v ih1 env1 env2 ih2, s.turn i ih = .item v ih1 ∧ g v env ih1 = some env1 ∧ mb env1 ih1 = .ok (.next env2) ih2 ∧ P (i + 1) env2 ih2)
    (stop : ∀ env ih, P k env ih → s.turn k ih = .stop) :
    ∀ (f i : Nat) (env : Env) (ih : IH), i ≤ k → k - i < f → P i env ih → ∃ env' ih', forGo s g mb f i env ih = .ok (.next env') ih' ∧ P k env' ih' := by
  intro f
  induction f with
  | zero => intro i env ih h1 h2; omega
  | succ f ihf =>
    intro i env ih h1 h2 hp
    unfold forGo
    by_cases hk : i = k
    · subst hk
      rw [stop env ih hp]
      exact ⟨env, ih, rfl, hp⟩
    · obtain ⟨v, ih1, env1, env2, ih2, t1, t2, t3, t4⟩ := turn i env ih (by omega) hp
      rw [t1]
      dsimp only
      rw [t2]
      dsimp only
      rw [t3]
      exact ihf (i + 1) env2 ih2 (by omega) (by omega) t4
/-- a loop that may hand back -/
theorem forGo_ret {s : Src} {g : IV → Env → IH → Option Env} {mb : Env → IH → RS} (k : Nat) (P : Nat → Env → IH → Prop) (Z : IV → IH → Prop)
    (turn : ∀ i env ih, i < k → P i env ih → ∃ v ih1 env1, s.turn i ih = .item v ih1 ∧ g v env ih1 = some env1 ∧ ((∃ env2 ih2, mb env1 ih1 = .ok (.next env2) ih2 ∧ P (i + 1) env2 ih2) ∨ ∃ u ih2, mb env1 ih1 = .ok (.ret u) ih2 ∧ Z u ih2))
    (stop : ∀ env ih, P k env ih → s.turn k ih = .stop) :
    ∀ (f i : Nat) (env : Env) (ih : IH), i ≤ k → k - i < f → P i env ih → (∃ env' ih', forGo s g mb f i env ih = .ok (.next env') ih' ∧ P k env' ih') ∨ ∃ u ih', forGo s g mb f i env ih = .ok (.ret u) ih' ∧ Z u ih' := by
  intro f
  induction f with
  | zero => intro i env ih h1 h2; omega
  | succ f ihf =>
    intro i env ih h1 h2 hp
    unfold forGo
    by_cases hk : i = k
    · subst hk
      rw [stop env ih hp]
      exact .inl ⟨env, ih, rfl, hp⟩
    · obtain ⟨v, ih1, env1, t1, t2, t3⟩ := turn i env ih (by omega) hp
      rw [t1]
      dsimp only
      rw [t2]
      dsimp only
      rcases t3 with ⟨env2, ih2, t3, t4⟩ | ⟨u, ih2, t3, t4⟩
      · rw [t3]
        exact ihf (i + 1) env2 ih2 (by omega) (by omega) t4
      · rw [t3]
        exact .inr ⟨u, ih2, rfl, t4⟩
theorem turn_rng {lo d : Int} {k i : Nat} {ih : IH} (h : i < k) : (Src.rng lo d k).turn i ih = .item (.int (lo + (i : Int) * d)) ih := if_pos h
theorem stop_rng {lo d : Int} {k : Nat} {ih : IH} : (Src.rng lo d k).turn k ih = .stop := if_neg (Nat.lt_irrefl k)
theorem lAt_of {ih : IH} {n : Nat} {o : MO} (h : ih[n]? = some o) (hl : o.isL = true) : lAt ih n true = some o.xs := by
  unfold lAt
  rw [h]
  exact if_pos hl
theorem turn_lst {ih : IH} {n i : Nat} {o : MO} {v : IV} (h : ih[n]? = some o) (hl : o.isL = true) (hv : o.xs[i]? = some v) : (Src.lst n).turn i ih = .item v ih := by
  unfold Src.turn
  dsimp only
  rw [lAt_of h hl]
  dsimp only
  rw [hv]
theorem stop_lst {ih : IH} {n : Nat} {o : MO} (h : ih[n]? = some o) (hl : o.isL = true) : (Src.lst n).turn o.xs.length ih = .stop := by
  unfold Src.turn
  dsimp only
  rw [lAt_of h hl]
  dsimp only
  rw [List.getElem?_eq_none (Nat.le_refl _)]
theorem turn_enm {ih : IH} {n i : Nat} {o : MO} {v : IV} (h : ih[n]? = some o) (hl : o.isL = true) (hv : o.xs[i]? = some v) : (Src.enm n).turn i ih = .item (.ref ih.length) (ih ++ [.tup [.int (i : Int), v]]) := by
  unfold Src.turn
  dsimp only
  rw [lAt_of h hl]
  dsimp only
  rw [hv]
theorem stop_enm {ih : IH} {n : Nat} {o : MO} (h : ih[n]? = some o) (hl : o.isL = true) : (Src.enm n).turn o.xs.length ih = .stop := by
  unfold Src.turn
  dsimp only
  rw [lAt_of h hl]
  dsimp only
  rw [List.getElem?_eq_none (Nat.le_refl _)]
theorem turn_zip {ih : IH} {n m i : Nat} {o u : MO} {v w : IV} (h : ih[n]? = some o) (hl : o.isL = true) (hv : o.xs[i]? = some v) (h2 : ih[m]? = some u) (hl2 : u.isL = true) (hw : u.xs[i]? = some w) : (Src.zip n m).turn i ih = .item (.ref ih.length) (ih ++ [.tup [v, w]]) := by
  unfold Src.turn
  dsimp only
  rw [lAt_of h hl, lAt_of h2 hl2]
  dsimp only
  rw [hv, hw]
theorem stop_zip {ih : IH} {n m i : Nat} {o u : MO} (h : ih[n]? = some o) (hl : o.isL = true) (h2 : ih[m]? = some u) (hl2 : u.isL = true) (hi : o.xs.length ≤ i ∨ u.xs.length ≤ i) : (Src.zip n m).turn i ih = .stop := by
  unfold Src.turn
  dsimp only
  rw [lAt_of h hl, lAt_of h2 hl2]
  dsimp only
  rcases hi with hi | hi
  · rw [List.getElem?_eq_none hi]
  · rw [List.getElem?_eq_none hi]
    split <;> first | rfl | (rename_i z; cases z)
theorem for_rng1 {g : IV → Env → IH → Option Env} {mb : Env → IH → RS} {m : Env → IH → Res (List IV)} {env : Env} {ih ih1 : IH} {j : Int} (hm : m env ih = .ok [.int j] ih1) (hj : smallI j = true) : ms_for (mi_rng1 m) g mb env ih = forGo (.rng 0 1 j.toNat) g mb (j.toNat + 1) 0 env ih1 := by
  unfold ms_for mi_rng1
  rw [hm, Res.bind_ok]
  dsimp only
  rw [if_pos hj]
  rfl
theorem for_rng2 {g : IV → Env → IH → Option Env} {mb : Env → IH → RS} {m : Env → IH → Res (List IV)} {env : Env} {ih ih1 : IH} {i j : Int} (hm : m env ih = .ok [.int i, .int j] ih1) (hi : smallI i = true) (hj : smallI j = true) : ms_for (mi_rng2 m) g mb env ih = forGo (.rng i 1 (j - i).toNat) g mb ((j - i).toNat + 1) 0 env ih1 := by
  unfold ms_for mi_rng2
  rw [hm, Res.bind_ok]
  dsimp only
  rw [if_pos ⟨hi, hj⟩]
  rfl
theorem for_lst {g : IV → Env → IH → Option Env} {mb : Env → IH → RS} {m : Env → IH → Res IV} {env : Env} {ih ih1 : IH} {n : Nat} {o : MO} (hm : m env ih = .ok (.ref n) ih1) (h : ih1[n]? = some o) (hl : o.isL = true) : ms_for (mi_lst m) g mb env ih = forGo (.lst n) g mb (o.xs.length + 1) 0 env ih1 := by
  unfold ms_for mi_lst
  rw [hm, Res.bind_ok]
  dsimp only
  rw [lAt_of h hl]
  show forGo (.lst n) g mb ((Src.lst n).size ih1 + 1) 0 env ih1 = _
  unfold Src.size
  dsimp only
  rw [h]
theorem for_enm {g : IV → Env → IH → Option Env} {mb : Env → IH → RS} {m : Env → IH → Res (List IV)} {env : Env} {ih ih1 : IH} {n : Nat} {o : MO} (hm : m env ih = .ok [.ref n] ih1) (h : ih1[n]? = some o) (hl : o.isL = true) : ms_for (mi_enm m) g mb env ih = forGo (.enm n) g mb (o.xs.length + 1) 0 env ih1 := by
  unfold ms_for mi_enm
  rw [hm, Res.bind_ok]
  dsimp only
  rw [lAt_of h hl]
  show forGo (.enm n) g mb ((Src.enm n).size ih1 + 1) 0 env ih1 = _
  unfold Src.size
  dsimp only
  rw [h]
theorem smallI_mk {i : Int} (h : -(2 ^ 62) ≤ i) (h2 : i < 2 ^ 62) : smallI i = true := by
  unfold smallI
  rw [decide_eq_true h, decide_eq_true h2]
  rfl

/-! ### comprehensions -/
theorem lcGo_ind {s : Src} {g : IV → Env → IH → Option Env} {n : Env → IH → Res Bool} {me : Env → IH → Res IV} {d : Nat} {env : Env} (k : Nat) (P : Nat → List IV → IH → Prop)
    (turn : ∀ i acc ih, i < k → P i acc ih → ih[d]? = some (.lst acc) → ∃ v ih1 env1 b ih2, s.turn i ih = .item v ih1 ∧ g v env ih1 = some env1 ∧ n env1 ih1 = .ok b ih2 ∧ (b = false → ih2[d]? = some (.lst acc) ∧ P (i + 1) acc ih2) ∧
      (b = true → ∃ y ih3, me env1 ih2 = .ok y ih3 ∧ ih3[d]? = some (.lst acc) ∧ acc.length < 100000 ∧ P (i + 1) (acc ++ [y]) (ih3.set d (.lst (acc ++ [y])))))
    (stop : ∀ acc ih, P k acc ih → ih[d]? = some (.lst acc) → s.turn k ih = .stop) :
    ∀ (f i : Nat) (acc : List IV) (ih : IH), i ≤ k → k - i < f → P i acc ih → ih[d]? = some (.lst acc) → ∃ acc' ih', lcGo s g n me d env f i ih = .ok (.ref d) ih' ∧ ih'[d]? = some (.lst acc') ∧ P k acc' ih' := by
  intro f
  induction f with
  | zero => intro i acc ih h1 h2; omega
  | succ f ihf =>
    intro i acc ih h1 h2 hp hd
    unfold lcGo
    by_cases hk : i = k
    · subst hk
      rw [stop acc ih hp hd]
      exact ⟨acc, ih, rfl, hd, hp⟩
    · obtain ⟨v, ih1, env1, b, ih2, t1, t2, t3, t4, t5⟩ := turn i acc ih (by omega) hp hd
      rw [t1]
      dsimp only
      rw [t2]
      dsimp only
      rw [t3]
      cases b with
      | false =>
        obtain ⟨h3, h4⟩ := t4 rfl
        exact ihf (i + 1) acc ih2 (by omega) (by omega) h4 h3
      | true =>
        obtain ⟨y, ih3, h3, h4, h5, h6⟩ := t5 rfl
        dsimp only
        rw [h3]
        dsimp only
        rw [h4]
        dsimp only
        rw [if_pos h5]
        exact ihf (i + 1) (acc ++ [y]) _ (by omega) (by omega) h6 (get_set h4)
theorem set_append_last (a : IH) (o u : MO) : (a ++ [o]).set a.length u = a ++ [u] := by
  rw [List.set_append_right _ _ (Nat.le_refl _), Nat.sub_self]
  rfl
/-- [me for x in xs if n], over a list; the parts leave the heap -/
theorem lc_lst {vs : List Nat} {m : Env → IH → Res IV} {i : Nat} {n : Env → IH → Res Bool} {me : Env → IH → Res IV} {env : Env} {ih ih1 : IH} {p : Nat} {o : MO} (F : IV → IV) (T : IV → Bool) (hm : m env ih = .ok (.ref p) ih1) (ho : ih1[p]? = some o) (hl : o.isL = true) (hz : o.xs.length < 100000)
    (ht : ∀ x ∈ o.xs, ∀ ih', Ext ih1 ih' → n ((wipeI env vs).set i (some x)) ih' = .ok (T x) ih') (he : ∀ x ∈ o.xs, T x = true → ∀ ih', Ext ih1 ih' → me ((wipeI env vs).set i (some x)) ih' = .ok (F x) ih') :
    m_lc vs (mi_lst m) (g_nm i) n me env ih = .ok (.ref ih1.length) (ih1 ++ [.lst ((o.xs.filter T).map F)]) := by
  unfold m_lc mi_lst
  rw [hm, Res.bind_ok]
  dsimp only
  rw [lAt_of ho hl]
  dsimp only
  rw [Res.bind_ok]
  have hs : (Src.lst p).size ih1 = o.xs.length := by
    unfold Src.size
    dsimp only
    rw [ho]
  rw [hs]
  obtain ⟨acc', ih', e1, e2, e3⟩ := lcGo_ind (s := .lst p) (g := g_nm i) (n := n) (me := me) (d := ih1.length) (env := wipeI env vs) o.xs.length (fun k acc ih => acc = ((o.xs.take k).filter T).map F ∧ ih = ih1 ++ [.lst acc])
    (fun k acc ih hk ⟨ha, hi⟩ hd => by
      subst hi
      have hx : (ih1 ++ [MO.lst acc])[p]? = some o := Ext.app _ _ _ _ ho
      have hxk : o.xs[k]? = some o.xs[k] := List.getElem?_eq_getElem hk
      have hmem : o.xs[k] ∈ o.xs := List.getElem_mem hk
      have etk : (o.xs.take (k + 1)) = o.xs.take k ++ [o.xs[k]] := by rw [List.take_add_one, hxk]; rfl
      refine ⟨o.xs[k], _, _, T o.xs[k], _, turn_lst hx hl hxk, rfl, ht _ hmem _ (Ext.app _ _), fun hb => ⟨hd, ?_, rfl⟩, fun hb => ⟨_, _, he _ hmem hb _ (Ext.app _ _), hd, ?_, ?_, ?_⟩⟩
      · rw [etk, List.filter_append, ha, List.filter_cons, hb]
        simp
      · rw [ha, List.length_map]
        exact Nat.lt_of_le_of_lt (List.length_filter_le _ _) (Nat.lt_of_le_of_lt (List.length_take_le' _ _) hz)
      · rw [etk, List.filter_append, ha, List.filter_cons, hb]
        simp
      · rw [set_append_last])
    (fun acc ih ⟨ha, hi⟩ hd => by
      subst hi
      exact stop_lst (Ext.app _ _ _ _ ho) hl)
    (o.xs.length + 1) 0 [] (ih1 ++ [.lst []]) (Nat.zero_le _) (by omega) ⟨by simp, rfl⟩ (get_new _ _)
  rw [e1]
  obtain ⟨h1, h2⟩ := e3
  rw [h2, h1, List.take_length]
theorem filter_true (xs : List IV) : xs.filter (fun _ => true) = xs := List.filter_eq_self.mpr fun _ _ => rfl
/-- without a test -/
theorem lc_map {vs : List Nat} {m : Env → IH → Res IV} {i : Nat} {me : Env → IH → Res IV} {env : Env} {ih ih1 : IH} {p : Nat} {o : MO} (F : IV → IV) (hm : m env ih = .ok (.ref p) ih1) (ho : ih1[p]? = some o) (hl : o.isL = true) (hz : o.xs.length < 100000)
    (he : ∀ x ∈ o.xs, ∀ ih', Ext ih1 ih' → me ((wipeI env vs).set i (some x)) ih' = .ok (F x) ih') :
    m_lc vs (mi_lst m) (g_nm i) n_yes me env ih = .ok (.ref ih1.length) (ih1 ++ [.lst (o.xs.map F)]) := by
  have h := lc_lst (n := n_yes) F (fun _ => true) hm ho hl hz (fun x _ ih' _ => rfl) (fun x hx _ ih' e => he x hx ih' e)
  rw [filter_true] at h
  exact h
/-- over a range -/
theorem lc_rng {vs : List Nat} {m : Env → IH → Res (List IV)} {i : Nat} {me : Env → IH → Res IV} {env : Env} {ih ih1 : IH} {j : Int} (F : Nat → IV) (hm : m env ih = .ok [.int j] ih1) (hj : smallI j = true) (hz : j < 100000)
    (he : ∀ k : Nat, (k : Int) < j → ∀ ih', Ext ih1 ih' → me ((wipeI env vs).set i (some (.int (k : Int)))) ih' = .ok (F k) ih') :
    m_lc vs (mi_rng1 m) (g_nm i) n_yes me env ih = .ok (.ref ih1.length) (ih1 ++ [.lst ((List.range j.toNat).map F)]) := by
  unfold m_lc mi_rng1
  rw [hm, Res.bind_ok]
  dsimp only
  rw [if_pos hj, Res.bind_ok]
  show lcGo (.rng 0 1 j.toNat) (g_nm i) n_yes me ih1.length (wipeI env vs) (j.toNat + 1) 0 (ih1 ++ [.lst []]) = _
  obtain ⟨acc', ih', e1, e2, e3⟩ := lcGo_ind (s := .rng 0 1 j.toNat) (g := g_nm i) (n := n_yes) (me := me) (d := ih1.length) (env := wipeI env vs) j.toNat (fun k acc ih => acc = (List.range k).map F ∧ ih = ih1 ++ [.lst acc])
    (fun k acc ih hk ⟨ha, hi⟩ hd => by
      subst hi
      have e0 : (0 : Int) + (k : Int) * 1 = (k : Int) := by omega
      refine ⟨.int (k : Int), _, _, true, _, by rw [turn_rng hk, e0], rfl, rfl, (fun hb => nomatch hb), fun _ => ⟨_, _, he k (by omega) _ (Ext.app _ _), hd, ?_, ?_, ?_⟩⟩
      · rw [ha, List.length_map, List.length_range]
        omega
      · rw [ha, List.range_succ, List.map_append]
        rfl
      · rw [set_append_last])
    (fun acc ih _ hd => stop_rng) (j.toNat + 1) 0 [] (ih1 ++ [.lst []]) (Nat.zero_le _) (by omega) ⟨by simp, rfl⟩ (get_new _ _)
  rw [e1]
  obtain ⟨h1, h2⟩ := e3
  rw [h2, h1]
theorem ExtP.of_set {a b : IH} {d : Nat} {o : MO} (h : Ext a b) (hd : a.length ≤ d) : Ext a (b.set d o) := fun n u e => by
  have := (List.getElem?_eq_some_iff.mp e).1
  rw [List.getElem?_set_ne (by omega)]
  exact h n u e
/-- [me for a, b in zip(xs, ys)]: the pairs stay behind -/
theorem lc_zip {vs : List Nat} {m : Env → IH → Res (List IV)} {i j : Nat} {me : Env → IH → Res IV} {env : Env} {ih ih1 : IH} {p q : Nat} {o u : MO} (F : IV → IV → IV) (hm : m env ih = .ok [.ref p, .ref q] ih1) (ho : ih1[p]? = some o) (hl : o.isL = true) (hu : ih1[q]? = some u) (hl2 : u.isL = true) (hz : o.xs.length < 100000)
    (he : ∀ (k : Nat) (x y : IV), o.xs[k]? = some x → u.xs[k]? = some y → ∀ ih', Ext ih1 ih' → me (((wipeI env vs).set i (some x)).set j (some y)) ih' = .ok (F x y) ih') :
    ∃ ih', m_lc vs (mi_zip m) (g_tup 2 (g_cons (g_nm i) (g_cons (g_nm j) g_nil))) n_yes me env ih = .ok (.ref ih1.length) ih' ∧ Ext ih1 ih' ∧ ih'[ih1.length]? = some (.lst (List.zipWith F o.xs u.xs)) := by
  unfold m_lc mi_zip
  rw [hm, Res.bind_ok]
  dsimp only
  rw [lAt_of ho hl, lAt_of hu hl2]
  dsimp only
  rw [Res.bind_ok]
  have hs : (Src.zip p q).size ih1 = o.xs.length := by
    unfold Src.size
    dsimp only
    rw [ho]
  rw [hs]
  obtain ⟨acc', ih', e1, e2, e3⟩ := lcGo_ind (s := .zip p q) (g := g_tup 2 (g_cons (g_nm i) (g_cons (g_nm j) g_nil))) (n := n_yes) (me := me) (d := ih1.length) (env := wipeI env vs) (min o.xs.length u.xs.length) (fun k acc ih => acc = List.zipWith F (o.xs.take k) (u.xs.take k) ∧ Ext ih1 ih)
    (fun k acc ih hk ⟨ha, hi⟩ hd => by
      have hk1 : k < o.xs.length := by omega
      have hk2 : k < u.xs.length := by omega
      have hx : o.xs[k]? = some o.xs[k] := List.getElem?_eq_getElem hk1
      have hy : u.xs[k]? = some u.xs[k] := List.getElem?_eq_getElem hk2
      have e0 : Ext ih (ih ++ [.tup [o.xs[k], u.xs[k]]]) := Ext.app _ _
      refine ⟨.ref ih.length, _, _, true, _, turn_zip (hi _ _ ho) hl hx (hi _ _ hu) hl2 hy, ?_, rfl, (fun hb => nomatch hb), fun _ => ⟨_, _, he k _ _ hx hy _ (hi.trans e0), e0 _ _ hd, ?_, ?_, ?_⟩⟩
      · unfold g_tup
        dsimp only
        rw [get_new]
        rfl
      · rw [ha, List.length_zipWith, List.length_take, List.length_take]
        omega
      · have e3 : o.xs.take (k + 1) = o.xs.take k ++ [o.xs[k]] := by rw [List.take_add_one, hx]; rfl
        have e4 : u.xs.take (k + 1) = u.xs.take k ++ [u.xs[k]] := by rw [List.take_add_one, hy]; rfl
        rw [ha, e3, e4, List.zipWith_append (by rw [List.length_take, List.length_take]; omega)]
        rfl
      · exact ExtP.of_set (hi.trans e0) (Nat.le_refl _))
    (fun acc ih ⟨ha, hi⟩ hd => stop_zip (hi _ _ ho) hl (hi _ _ hu) hl2 (by omega))
    (o.xs.length + 1) 0 [] (ih1 ++ [.lst []]) (Nat.zero_le _) (by omega) ⟨by simp, Ext.app _ _⟩ (get_new _ _)
  refine ⟨ih', e1, e3.2, ?_⟩
  rw [e2, e3.1]
  congr 2
  exact (List.zipWith_eq_zipWith_take_min (f := F)).symm

/-! ### built-ins over lists -/
theorem a_ints {g : List Int → IH → Res IV} {n : Nat} {ih : IH} {o : MO} {ns : List Int} (h : ih[n]? = some o) (hl : o.isL = true) (hx : o.xs = ns.map IV.int) : f_ints g [.ref n] ih = g ns ih := by
  unfold f_ints
  dsimp only
  rw [h]
  dsimp only
  rw [if_pos hl, hx, ints?_map]
theorem a_bls {g : List Bool → IH → Res IV} {n : Nat} {ih : IH} {o : MO} {ns : List Bool} (h : ih[n]? = some o) (hl : o.isL = true) (hx : o.xs = ns.map IV.bl) : f_bls g [.ref n] ih = g ns ih := by
  unfold f_bls
  dsimp only
  rw [h]
  dsimp only
  rw [if_pos hl, hx, bls?_map]
theorem a_sum {n : Nat} {ih : IH} {o : MO} {ns : List Int} (h : ih[n]? = some o) (hl : o.isL = true) (hx : o.xs = ns.map IV.int) : f_sum [.ref n] ih = .ok (.int ns.sum) ih := a_ints h hl hx
theorem a_all {n : Nat} {ih : IH} {o : MO} {ns : List Bool} (h : ih[n]? = some o) (hl : o.isL = true) (hx : o.xs = ns.map IV.bl) : f_all [.ref n] ih = .ok (.bl (ns.all id)) ih := a_bls h hl hx
theorem a_any {n : Nat} {ih : IH} {o : MO} {ns : List Bool} (h : ih[n]? = some o) (hl : o.isL = true) (hx : o.xs = ns.map IV.bl) : f_any [.ref n] ih = .ok (.bl (ns.any id)) ih := a_bls h hl hx
theorem a_slL {n : Nat} {ih : IH} {xs : List IV} {lo hi : Option Int} (h : ih[n]? = some (.lst xs)) : f_sl (.ref n) lo hi ih = .ok (.ref ih.length) (ih ++ [.lst (cutI xs lo hi)]) := by
  unfold f_sl
  dsimp only
  rw [h]
theorem cutI_1 (xs : List IV) : cutI xs (some 1) none = xs.drop 1 := by
  unfold cutI
  rw [show HT.sIx xs.length 0 (some 1) = min 1 xs.length from HT.sIx_nat xs.length 0 1, HT.sIx_none]
  cases xs with
  | nil => rfl
  | cons x r =>
    rw [show min 1 (x :: r).length = 1 by rw [List.length_cons]; omega]
    show (List.take ((x :: r).length - 1) r) = r
    rw [List.length_cons, Nat.add_sub_cancel]
    exact List.take_length
/-! ### equal data -/
theorem Is.ext {a b : IH} (e : Ext a b) : ∀ (d : PyData) (v : IV), Is a v d → Is b v d := by
  intro d
  have both : (∀ (d : PyData) (v : IV), Is a v d → Is b v d) ∧ (∀ (ds : List PyData) (vs : List IV), IsAll a vs ds → IsAll b vs ds) := by
    constructor
    · intro d v h
      exact Is.rec (motive_1 := fun v d _ => Is b v d) (motive_2 := fun vs ds _ => IsAll b vs ds) .non .bl .int .str (fun h1 h2 _ h3 => .lst (e _ _ h1) h2 h3) (fun h1 h2 _ h3 => .tup (e _ _ h1) h2 h3) .nil (fun _ _ h1 h2 => .cons h1 h2) h
    · intro ds vs h
      exact IsAll.rec (motive_1 := fun v d _ => Is b v d) (motive_2 := fun vs ds _ => IsAll b vs ds) .non .bl .int .str (fun h1 h2 _ h3 => .lst (e _ _ h1) h2 h3) (fun h1 h2 _ h3 => .tup (e _ _ h1) h2 h3) .nil (fun _ _ h1 h2 => .cons h1 h2) h
  exact both.1 d
theorem IsAll.ints (ih : IH) : ∀ ns : List Int, IsAll ih (ns.map IV.int) (ns.map PyData.int)
  | [] => .nil
  | n :: r => .cons (.int n) (IsAll.ints ih r)
theorem Is.ints {ih : IH} {n : Nat} {o : MO} {ns : List Int} (h : ih[n]? = some o) (hl : o.isL = true) (hx : o.xs = ns.map IV.int) : Is ih (.ref n) (.list (ns.map .int)) := .lst h hl (hx ▸ IsAll.ints ih ns)
theorem shaped_int (i : Int) : SeqAt.shaped (.int i) = true := by
  unfold SeqAt.shaped
  simp [PyData.canLay0, PyData.depth]
theorem canLay_ints : ∀ ns : List Int, PyData.canLayAll0 (ns.map PyData.int) = true
  | [] => by simp [PyData.canLayAll0]
  | n :: r => by
    rw [List.map_cons]
    simp [PyData.canLayAll0, PyData.canLay0, canLay_ints r]
theorem depth_ints : ∀ ns : List Int, PyData.depthAll (ns.map PyData.int) = 0
  | [] => by simp [PyData.depthAll]
  | n :: r => by
    rw [List.map_cons]
    simp [PyData.depthAll, PyData.depth, depth_ints r]
theorem shaped_ints (ns : List Int) : SeqAt.shaped (.list (ns.map .int)) = true := by
  unfold SeqAt.shaped
  simp [PyData.canLay0, PyData.depth, canLay_ints, depth_ints]
theorem eqv_ints : ∀ ns ms : List Int, PyData.eqvAll (ns.map .int) (ms.map .int) = decide (ns = ms)
  | [], [] => by simp [PyData.eqvAll]
  | [], _ :: _ => by simp [PyData.eqvAll]
  | _ :: _, [] => by simp [PyData.eqvAll]
  | n :: r, m :: s => by
    rw [List.map_cons, List.map_cons]
    simp only [PyData.eqvAll, PyData.eqv, eqv_ints r s]
    by_cases h : n = m
    · subst h
      simp
    · simp [h]
theorem eqv_list (ns ms : List Int) : PyData.eqv (.list (ns.map .int)) (.list (ms.map .int)) = decide (ns = ms) := by
  simp only [PyData.eqv, eqv_ints]
theorem eqv_same {d : PyData} (h : SeqAt.shaped d = true) : PyData.eqv d d = true := by
  unfold SeqAt.shaped at h
  rw [Bool.and_eq_true] at h
  exact PySem.SeqAt.eqv_refl d h.1
theorem a_eq_int {i j : Int} {ih : IH} : f_eq (.int i) (.int j) ih = .ok (.bl (decide (i = j))) ih := by
  rw [f_eq_of (.int i) (.int j) (shaped_int i) (shaped_int j)]
  simp only [PyData.eqv]
  rfl
theorem a_ne_int {i j : Int} {ih : IH} : f_ne (.int i) (.int j) ih = .ok (.bl (!decide (i = j))) ih := by
  rw [f_ne_of (.int i) (.int j) (shaped_int i) (shaped_int j)]
  simp only [PyData.eqv]
  rfl
/-- equal things: != is False, == is True -/
theorem a_ne_same {x y : IV} {ih : IH} {d : PyData} (h1 : Is ih x d) (h2 : Is ih y d) (s : SeqAt.shaped d = true) : f_ne x y ih = .ok (.bl false) ih := by
  rw [f_ne_of h1 h2 s s, eqv_same s]
  rfl
theorem a_eq_same {x y : IV} {ih : IH} {d : PyData} (h1 : Is ih x d) (h2 : Is ih y d) (s : SeqAt.shaped d = true) : f_eq x y ih = .ok (.bl true) ih := by
  rw [f_eq_of h1 h2 s s, eqv_same s]
end L3
/-! L7: mirrors, run backwards: what is wanted behind a mirror. -/
namespace L3
open PySem PySem.Spec PyProof.Rows L2

abbrev PQ (α : Type) := α → IH → Prop
abbrev EQ := Addr → IH → Prop
abbrev SQ := Fl → IH → Prop
abbrev ES := Addr → Env → IH → Prop
def wp {α : Type} (r : Res α) (Q : PQ α) (E : EQ) : Prop := match r with
  | .ok v ih => Q v ih
  | .exc c ih => E c ih
  | .stuck => False
def ws (r : RS) (Q : SQ) (E : ES) : Prop := match r with
  | .ok f ih => Q f ih
  | .exc c env ih => E c env ih
  | .stuck => False
def E0 : EQ := fun _ _ => False
def S0 : ES := fun _ _ _ => False
def kE (E : ES) (env : Env) : EQ := fun c ih => E c env ih
section
variable {α β : Type} {v : α} {ih : IH} {Q Q' : PQ α} {E E' : EQ} {c : Addr} {r : Res α} {env : Env} {f : Fl} {S : SQ} {F : ES}
theorem wp_ok : wp (.ok v ih) Q E = Q v ih := rfl
theorem wp_exc : wp (.exc c ih) Q E = E c ih := rfl
theorem wp_stuck : wp (.stuck) Q E = False := rfl
theorem ws_ok : ws (.ok f ih) S F = S f ih := rfl
theorem ws_exc : ws (.exc c env ih) S F = F c env ih := rfl
theorem ws_stuck : ws .stuck S F = False := rfl
theorem wp.imp (h : wp r Q E) (q : ∀ v ih, Q v ih → Q' v ih) (e : ∀ c ih, E c ih → E' c ih) : wp r Q' E' := by
  cases r with
  | ok v ih => exact q _ _ h
  | exc c ih => exact e _ _ h
  | stuck => exact h
theorem ws.imp {r : RS} {S' : SQ} {F' : ES} (h : ws r S F) (q : ∀ v ih, S v ih → S' v ih) (e : ∀ c env ih, F c env ih → F' c env ih) : ws r S' F' := by
  cases r with
  | ok v ih => exact q _ _ h
  | exc c env ih => exact e _ _ _ h
  | stuck => exact h
theorem wp_bind {r : Res α} {k : α → IH → Res β} {Q : PQ β} : wp (r.bind k) Q E = wp r (fun v ih => wp (k v ih) Q E) E := by
  cases r <;> rfl
theorem ws_stm {r : Res α} {k : α → IH → RS} : ws (r.stm env k) S F = wp r (fun v ih => ws (k v ih) S F) (kE F env) := by
  cases r <;> rfl
/-- an outcome -/
theorem wp.out (h : wp r Q E0) : ∃ v ih', r = .ok v ih' ∧ Q v ih' := by
  cases r with
  | ok v ih => exact ⟨v, ih, rfl, h⟩
  | exc c ih => exact h.elim
  | stuck => exact h.elim
theorem wp.eq {a : α} {b : IH} (h : wp r (fun v ih' => v = a ∧ ih' = b) E0) : r = .ok a b := by
  obtain ⟨v, ih', e, rfl, rfl⟩ := h.out
  exact e
theorem wp.of {a : α} {b : IH} (h : r = .ok a b) (q : Q a b) : wp r Q E := by
  rw [h]
  exact q
theorem ws.out {r : RS} (h : ws r S S0) : ∃ f ih', r = .ok f ih' ∧ S f ih' := by
  cases r with
  | ok v ih => exact ⟨v, ih, rfl, h⟩
  | exc c env ih => exact h.elim
  | stuck => exact h.elim
end

/-! ### what is left, as constants -/
section
variable {α β γ : Type}
def k_un (f : α → IH → Res β) (Q : PQ β) (E : EQ) : PQ α := fun x ih => wp (f x ih) Q E
def k_op (f : IV → IV → IH → Res IV) (mb : Env → IH → Res IV) (env : Env) (Q : PQ IV) (E : EQ) : PQ IV := fun x ih => wp (mb env ih) (k_un (f x) Q E) E
def k_cons2 (x : IV) (Q : PQ (List IV)) : PQ (List IV) := fun xs ih => Q (x :: xs) ih
def k_cons (mr : Env → IH → Res (List IV)) (env : Env) (Q : PQ (List IV)) (E : EQ) : PQ IV := fun x ih => wp (mr env ih) (k_cons2 x Q) E
def k_if (ma mb : Env → IH → Res α) (env : Env) (Q : PQ α) (E : EQ) : PQ Bool := fun b ih => if b = true then wp (ma env ih) Q E else wp (mb env ih) Q E
def k_and (mb : Env → IH → Res Bool) (env : Env) (Q : PQ Bool) (E : EQ) : PQ Bool := fun b ih => if b = true then wp (mb env ih) Q E else Q false ih
def k_or (mb : Env → IH → Res Bool) (env : Env) (Q : PQ Bool) (E : EQ) : PQ Bool := fun b ih => if b = true then Q true ih else wp (mb env ih) Q E
def k_not (Q : PQ Bool) : PQ Bool := fun b ih => Q (!b) ih
def k_tb (Q : PQ Bool) : PQ IV := fun v ih => match v with
  | .bl b => Q b ih
  | _ => False
def k_andV (mb : Env → IH → Res IV) (env : Env) (Q : PQ IV) (E : EQ) : PQ Bool := fun b ih => if b = true then wp (mb env ih) Q E else Q (.bl false) ih
def k_orV (mb : Env → IH → Res IV) (env : Env) (Q : PQ IV) (E : EQ) : PQ Bool := fun b ih => if b = true then Q (.bl true) ih else wp (mb env ih) Q E
def k_notV (Q : PQ IV) : PQ Bool := fun b ih => Q (.bl !b) ih
def k_some (Q : PQ (Option Int)) : PQ IV := fun v ih => match v with
  | .int i => Q (some i) ih
  | _ => False
def k_sl3 (x : IV) (l : Option Int) (Q : PQ IV) (E : EQ) : PQ (Option Int) := fun h ih => wp (f_sl x l h ih) Q E
def k_sl2 (x : IV) (mh : Env → IH → Res (Option Int)) (env : Env) (Q : PQ IV) (E : EQ) : PQ (Option Int) := fun l ih => wp (mh env ih) (k_sl3 x l Q E) E
def k_sl (ml mh : Env → IH → Res (Option Int)) (env : Env) (Q : PQ IV) (E : EQ) : PQ IV := fun x ih => wp (ml env ih) (k_sl2 x mh env Q E) E
def k_mL2 (f : IV → List IV → IH → Res IV) (x : IV) (Q : PQ IV) (E : EQ) : PQ (List IV) := fun xs ih => wp (f x xs ih) Q E
def k_mL (f : IV → List IV → IH → Res IV) (mr : Env → IH → Res (List IV)) (env : Env) (Q : PQ IV) (E : EQ) : PQ IV := fun x ih => isLst x ih = true ∧ wp (mr env ih) (k_mL2 f x Q E) E
def k_mL0 (f : IV → List IV → IH → Res IV) (Q : PQ IV) (E : EQ) : PQ IV := fun x ih => isLst x ih = true ∧ wp (f x [] ih) Q E
def k_ch3 (g : IV → IV → IH → Res IV) (y : IV) (mc : Env → IH → Res IV) (env : Env) (Q : PQ IV) (E : EQ) : PQ Bool := fun k ih => if k = true then wp (mc env ih) (k_un (g y) Q E) E else Q (.bl false) ih
def k_ch2 (f g : IV → IV → IH → Res IV) (x : IV) (mc : Env → IH → Res IV) (env : Env) (Q : PQ IV) (E : EQ) : PQ IV := fun y ih => wp (f x y ih) (k_tb (k_ch3 g y mc env Q E)) E
def k_ch (f g : IV → IV → IH → Res IV) (mb mc : Env → IH → Res IV) (env : Env) (Q : PQ IV) (E : EQ) : PQ IV := fun x ih => wp (mb env ih) (k_ch2 f g x mc env Q E) E
def ks_set (g : IV → Env → IH → Option Env) (env : Env) (S : SQ) : PQ IV := fun v ih => match g v env ih with
  | some env' => S (.next env') ih
  | none => False
def ks_expr (env : Env) (S : SQ) : PQ IV := fun _ ih => S (.next env) ih
def ks_ret (S : SQ) : PQ IV := fun v ih => S (.ret v) ih
def ks_if (ma mb : Env → IH → RS) (env : Env) (S : SQ) (F : ES) : PQ Bool := fun b ih => if b = true then ws (ma env ih) S F else ws (mb env ih) S F
def ks_seq (mb : Env → IH → RS) (S : SQ) (F : ES) : SQ := fun f ih => match f with
  | .next env => ws (mb env ih) S F
  | z => S z ih
def ks_aug2 (i : Nat) (env : Env) (S : SQ) : PQ IV := fun z ih => S (.next (env.set i (some z))) ih
def ks_aug (i : Nat) (f : IV → IV → IH → Res IV) (x : IV) (env : Env) (S : SQ) (F : ES) : PQ IV := fun y ih => wp (f x y ih) (ks_aug2 i env S) (kE F env)
def ks_par (i j : Nat) (env : Env) (S : SQ) : PQ (List IV) := fun vs ih => match vs with
  | [v, w] => S (.next ((env.set i (some v)).set j (some w))) ih
  | _ => False
def ks_sl4 (o i v : IV) (env : Env) (S : SQ) (ih : IH) : Prop := match f_setL o i v ih with
  | some ih4 => S (.next env) ih4
  | none => False
def ks_sl3 (v o : IV) (env : Env) (S : SQ) : PQ IV := fun i ih => ks_sl4 o i v env S ih
def ks_sl2 (v : IV) (mi : Env → IH → Res IV) (env : Env) (S : SQ) (F : ES) : PQ IV := fun o ih => wp (mi env ih) (ks_sl3 v o env S) (kE F env)
def ks_sl (mo mi : Env → IH → Res IV) (env : Env) (S : SQ) (F : ES) : PQ IV := fun v ih => wp (mo env ih) (ks_sl2 v mi env S F) (kE F env)
def kd (Q : PQ IV) : SQ := fun f ih => match f with
  | .ret v => Q v ih
  | .next _ => Q .non ih
  | _ => False
def kdE (E : EQ) : ES := fun c _ ih => E c ih
/-- of a source: the loop -/
def ks_for (g : IV → Env → IH → Option Env) (mb : Env → IH → RS) (env : Env) (S : SQ) (F : ES) : PQ Src := fun s ih => ws (forGo s g mb (s.size ih + 1) 0 env ih) S F
def k_lc (vs : List Nat) (g : IV → Env → IH → Option Env) (n : Env → IH → Res Bool) (me : Env → IH → Res IV) (env : Env) (Q : PQ IV) (E : EQ) : PQ Src := fun s ih => wp (lcGo s g n me ih.length (wipeI env vs) (s.size ih + 1) 0 (ih ++ [.lst []])) Q E
def k_r1 (Q : PQ Src) : PQ (List IV) := fun vs ih => match vs with
  | [.int j] => smallI j = true ∧ Q (.rng 0 1 j.toNat) ih
  | _ => False
def k_r2 (Q : PQ Src) : PQ (List IV) := fun vs ih => match vs with
  | [.int i, .int j] => (smallI i = true ∧ smallI j = true) ∧ Q (.rng i 1 (j - i).toNat) ih
  | _ => False
def k_il2 (n : Nat) (Q : PQ Src) (ih : IH) : Option (List IV) → Prop
  | some _ => Q (.lst n) ih
  | none => False
def k_il (Q : PQ Src) : PQ IV := fun v ih => match v with
  | .ref n => k_il2 n Q ih (lAt ih n true)
  | _ => False
def k_it2 (n : Nat) (Q : PQ Src) (ih : IH) : Option (List IV) → Prop
  | some _ => Q (.tup n) ih
  | none => False
def k_it (Q : PQ Src) : PQ IV := fun v ih => match v with
  | .ref n => k_it2 n Q ih (lAt ih n false)
  | _ => False
def k_ie2 (n : Nat) (Q : PQ Src) (ih : IH) : Option (List IV) → Prop
  | some _ => Q (.enm n) ih
  | none => False
def k_ie (Q : PQ Src) : PQ (List IV) := fun v ih => match v with
  | [.ref n] => k_ie2 n Q ih (lAt ih n true)
  | _ => False
def k_iz2 (n k : Nat) (Q : PQ Src) (ih : IH) : Option (List IV) → Option (List IV) → Prop
  | some _, some _ => Q (.zip n k) ih
  | _, _ => False
def k_iz (Q : PQ Src) : PQ (List IV) := fun v ih => match v with
  | [.ref n, .ref k] => k_iz2 n k Q ih (lAt ih n true) (lAt ih k true)
  | _ => False
/-- reading at a place -/
def k_ix2 (Q : PQ IV) (ih : IH) : Option IV → Prop
  | some v => Q v ih
  | none => False
def k_ix (i : Int) (Q : PQ IV) (ih : IH) : Option MO → Prop
  | some o => k_ix2 Q ih (atI o.xs i)
  | none => False
def k_len (Q : PQ IV) (ih : IH) : Option MO → Prop
  | some .dct => False
  | some (.dk _) => False
  | some .clo => False
  | some o => Q (.int o.xs.length) ih
  | none => False
def k_app1 (n : Nat) (y : IV) (Q : PQ IV) (ih : IH) : Option MO → Prop
  | some (.lst xs) => xs.length < 100000 ∧ Q .non (ih.set n (.lst (xs ++ [y])))
  | _ => False
def k_setL (n : Nat) (i : Int) (v : IV) (env : Env) (S : SQ) (ih : IH) : Option MO → Prop
  | some (.lst xs) => match ixN xs.length i with
    | some j => S (.next env) (ih.set n (.lst (xs.set j v)))
    | none => False
  | _ => False
end

/-! ### the steps -/
section
variable {α β : Type} {ma mb mc mr2 : Env → IH → Res IV} {mt nb : Env → IH → Res Bool} {mr : Env → IH → Res (List IV)} {ml mh : Env → IH → Res (Option Int)} {sa sb : Env → IH → RS} {env env' : Env} {ih ih' : IH} {Q : PQ IV} {QB : PQ Bool} {QL : PQ (List IV)} {QO : PQ (Option Int)} {QS : PQ Src} {E : EQ} {S : SQ} {F : ES} {f g : IV → IV → IH → Res IV} {x y v w : IV} {xs : List IV} {i j : Int} {n m : Nat} {b : Bool} {p q : Prop} {o : MO} {c : Addr}
theorem wp_op : wp (m_op f ma mb env ih) Q E = wp (ma env ih) (k_op f mb env Q E) E := by
  unfold m_op
  rw [wp_bind]
  simp only [wp_bind]
  rfl
theorem kk_op : k_op f mb env Q E x ih = wp (mb env ih) (k_un (f x) Q E) E := rfl
theorem kk_un {f : α → IH → Res β} {Q : PQ β} {x : α} : k_un f Q E x ih = wp (f x ih) Q E := rfl
theorem wp_un {f : IV → IH → Res IV} : wp (m_un f ma env ih) Q E = wp (ma env ih) (k_un f Q E) E := by
  unfold m_un
  rw [wp_bind]
  rfl
theorem wp_cons : wp (m_cons ma mr env ih) QL E = wp (ma env ih) (k_cons mr env QL E) E := by
  unfold m_cons
  rw [wp_bind]
  simp only [wp_bind]
  rfl
theorem kk_cons : k_cons mr env QL E x ih = wp (mr env ih) (k_cons2 x QL) E := rfl
theorem kk_cons2 : k_cons2 x QL xs ih = QL (x :: xs) ih := rfl
theorem wp_nil : wp (m_nil env ih) QL E = QL [] ih := rfl
theorem wp_c : wp (m_c v env ih) Q E = Q v ih := rfl
theorem wp_app {f : List IV → IH → Res IV} : wp (m_app f mr env ih) Q E = wp (mr env ih) (k_un f Q E) E := by
  unfold m_app
  rw [wp_bind]
  rfl
theorem wp_if : wp (m_if mt ma mb env ih) Q E = wp (mt env ih) (k_if ma mb env Q E) E := by
  unfold m_if
  rw [wp_bind]
  congr 1
  funext b ih
  cases b <;> rfl
theorem kk_if1 {ma mb : Env → IH → Res α} {Q : PQ α} : k_if ma mb env Q E true ih = wp (ma env ih) Q E := rfl
theorem kk_if0 {ma mb : Env → IH → Res α} {Q : PQ α} : k_if ma mb env Q E false ih = wp (mb env ih) Q E := rfl
theorem wp_and : wp (m_and mt nb env ih) QB E = wp (mt env ih) (k_and nb env QB E) E := by
  unfold m_and
  rw [wp_bind]
  congr 1
  funext b ih
  cases b <;> rfl
theorem kk_and1 : k_and nb env QB E true ih = wp (nb env ih) QB E := rfl
theorem kk_and0 : k_and nb env QB E false ih = QB false ih := rfl
theorem wp_or : wp (m_or mt nb env ih) QB E = wp (mt env ih) (k_or nb env QB E) E := by
  unfold m_or
  rw [wp_bind]
  congr 1
  funext b ih
  cases b <;> rfl
theorem kk_or1 : k_or nb env QB E true ih = QB true ih := rfl
theorem kk_or0 : k_or nb env QB E false ih = wp (nb env ih) QB E := rfl
theorem wp_not : wp (m_not mt env ih) QB E = wp (mt env ih) (k_not QB) E := by
  unfold m_not
  rw [wp_bind]
  rfl
theorem kk_not : k_not QB b ih = QB (!b) ih := rfl
theorem wp_tb : wp (m_tb ma env ih) QB E = wp (ma env ih) (k_tb QB) E := by
  unfold m_tb
  rw [wp_bind]
  congr 1
  funext v ih
  cases v <;> rfl
theorem kk_tb : k_tb QB (.bl b) ih = QB b ih := rfl
theorem wp_andV : wp (m_andV ma mb env ih) Q E = wp (ma env ih) (k_tb (k_andV mb env Q E)) E := by
  unfold m_andV
  rw [wp_bind]
  congr 1
  funext v ih
  cases v with
  | bl b => cases b <;> rfl
  | _ => rfl
theorem kk_andV1 : k_andV mb env Q E true ih = wp (mb env ih) Q E := rfl
theorem kk_andV0 : k_andV mb env Q E false ih = Q (.bl false) ih := rfl
theorem wp_orV : wp (m_orV ma mb env ih) Q E = wp (ma env ih) (k_tb (k_orV mb env Q E)) E := by
  unfold m_orV
  rw [wp_bind]
  congr 1
  funext v ih
  cases v with
  | bl b => cases b <;> rfl
  | _ => rfl
theorem kk_orV1 : k_orV mb env Q E true ih = Q (.bl true) ih := rfl
theorem kk_orV0 : k_orV mb env Q E false ih = wp (mb env ih) Q E := rfl
theorem wp_notV : wp (m_notV ma env ih) Q E = wp (ma env ih) (k_tb (k_notV Q)) E := by
  unfold m_notV
  rw [wp_bind]
  congr 1
  funext v ih
  cases v <;> rfl
theorem kk_notV : k_notV Q b ih = Q (.bl !b) ih := rfl
theorem wp_noneS : wp (m_none env ih) QO E = QO none ih := rfl
theorem wp_some : wp (m_some ma env ih) QO E = wp (ma env ih) (k_some QO) E := by
  unfold m_some
  rw [wp_bind]
  congr 1
  funext v ih
  cases v <;> rfl
theorem kk_some : k_some QO (.int i) ih = QO (some i) ih := rfl
theorem wp_sl : wp (m_sl ma ml mh env ih) Q E = wp (ma env ih) (k_sl ml mh env Q E) E := by
  unfold m_sl
  rw [wp_bind]
  simp only [wp_bind]
  rfl
theorem kk_sl : k_sl ml mh env Q E x ih = wp (ml env ih) (k_sl2 x mh env Q E) E := rfl
theorem kk_sl2 {l : Option Int} : k_sl2 x mh env Q E l ih = wp (mh env ih) (k_sl3 x l Q E) E := rfl
theorem kk_sl3 {l h : Option Int} : k_sl3 x l Q E h ih = wp (f_sl x l h ih) Q E := rfl
theorem wp_mL {f : IV → List IV → IH → Res IV} : wp (m_mL f ma mr env ih) Q E = wp (ma env ih) (k_mL f mr env Q E) E := by
  unfold m_mL
  rw [wp_bind]
  congr 1
  funext v ih
  unfold k_mL
  by_cases h : isLst v ih = true
  · rw [if_pos h, wp_bind, eq_true h, true_and]
    rfl
  · rw [if_neg h, eq_false h, false_and]
    rfl
theorem kk_mL {f : IV → List IV → IH → Res IV} : k_mL f mr env Q E x ih = (isLst x ih = true ∧ wp (mr env ih) (k_mL2 f x Q E) E) := rfl
theorem kk_mL2 {f : IV → List IV → IH → Res IV} : k_mL2 f x Q E xs ih = wp (f x xs ih) Q E := rfl
theorem wp_mL0 {f : IV → List IV → IH → Res IV} : wp (m_mL0 f ma env ih) Q E = wp (ma env ih) (k_mL0 f Q E) E := by
  unfold m_mL0
  rw [wp_bind]
  congr 1
  funext v ih
  unfold k_mL0
  by_cases h : isLst v ih = true
  · rw [if_pos h, eq_true h, true_and]
  · rw [if_neg h, eq_false h, false_and]
    rfl
theorem kk_mL0 {f : IV → List IV → IH → Res IV} : k_mL0 f Q E x ih = (isLst x ih = true ∧ wp (f x [] ih) Q E) := rfl
theorem wp_chain : wp (m_chain f g ma mb mc env ih) Q E = wp (ma env ih) (k_ch f g mb mc env Q E) E := by
  unfold m_chain
  rw [wp_bind]
  congr 1
  funext x ih
  rw [wp_bind]
  unfold k_ch
  congr 1
  funext y ih
  rw [wp_bind]
  unfold k_ch2
  congr 1
  funext z ih
  cases z with
  | bl k =>
    cases k with
    | true =>
      show wp (if true = true then (mc env ih).bind _ else _) Q E = _
      rw [if_pos rfl, wp_bind]
      rfl
    | false => rfl
  | _ => rfl
theorem kk_ch : k_ch f g mb mc env Q E x ih = wp (mb env ih) (k_ch2 f g x mc env Q E) E := rfl
theorem kk_ch2 : k_ch2 f g x mc env Q E y ih = wp (f x y ih) (k_tb (k_ch3 g y mc env Q E)) E := rfl
theorem kk_ch31 : k_ch3 g y mc env Q E true ih = wp (mc env ih) (k_un (g y) Q E) E := rfl
theorem kk_ch30 : k_ch3 g y mc env Q E false ih = Q (.bl false) ih := rfl
-- statements
theorem ws_set {g : IV → Env → IH → Option Env} : ws (ms_set g ma env ih) S F = wp (ma env ih) (ks_set g env S) (kE F env) := by
  unfold ms_set
  rw [ws_stm]
  congr 1
  funext v ih
  unfold ks_set
  cases g v env ih <;> rfl
theorem kks_nm : ks_set (g_nm n) env S v ih = S (.next (env.set n (some v))) ih := rfl
def ks_g (S : SQ) (ih : IH) : Option Env → Prop
  | some env => S (.next env) ih
  | none => False
theorem kks_g {S : SQ} {env : Env} : ks_g S ih (some env) = S (.next env) ih := rfl
theorem kks_tup {f : List IV → Env → IH → Option Env} : ks_set (g_tup n f) env S v ih = ks_g S ih (g_tup n f v env ih) := by
  unfold ks_set
  cases g_tup n f v env ih <;> rfl
theorem kks_lst {f : List IV → Env → IH → Option Env} : ks_set (g_lst n f) env S v ih = ks_g S ih (g_lst n f v env ih) := by
  unfold ks_set
  cases g_lst n f v env ih <;> rfl
theorem ws_expr : ws (ms_expr ma env ih) S F = wp (ma env ih) (ks_expr env S) (kE F env) := by
  unfold ms_expr
  rw [ws_stm]
  rfl
theorem kks_expr : ks_expr env S v ih = S (.next env) ih := rfl
theorem ws_ret : ws (ms_ret ma env ih) S F = wp (ma env ih) (ks_ret S) (kE F env) := by
  unfold ms_ret
  rw [ws_stm]
  rfl
theorem kks_ret : ks_ret S v ih = S (.ret v) ih := rfl
theorem ws_retN : ws (ms_retN env ih) S F = S (.ret .non) ih := rfl
theorem ws_pass : ws (ms_pass env ih) S F = S (.next env) ih := rfl
theorem ws_brk : ws (ms_brk env ih) S F = S (.brk env) ih := rfl
theorem ws_cont : ws (ms_cont env ih) S F = S (.cont env) ih := rfl
theorem ws_raise : ws (ms_raise c env ih) S F = F c env ih := rfl
theorem ws_if : ws (ms_if mt sa sb env ih) S F = wp (mt env ih) (ks_if sa sb env S F) (kE F env) := by
  unfold ms_if
  rw [ws_stm]
  congr 1
  funext b ih
  cases b <;> rfl
theorem kks_if1 : ks_if sa sb env S F true ih = ws (sa env ih) S F := rfl
theorem kks_if0 : ks_if sa sb env S F false ih = ws (sb env ih) S F := rfl
theorem ws_seq : ws (ms_seq sa sb env ih) S F = ws (sa env ih) (ks_seq sb S F) F := by
  unfold ms_seq
  cases sa env ih with
  | ok f ih =>
    cases f <;> rfl
  | exc c env ih => rfl
  | stuck => rfl
theorem kks_next : ks_seq sb S F (.next env) ih = ws (sb env ih) S F := rfl
theorem kks_retS : ks_seq sb S F (.ret v) ih = S (.ret v) ih := rfl
theorem kks_brk : ks_seq sb S F (.brk env) ih = S (.brk env) ih := rfl
theorem kks_cont : ks_seq sb S F (.cont env) ih = S (.cont env) ih := rfl
def k_augE (i : Nat) (f : IV → IV → IH → Res IV) (m : Env → IH → Res IV) (env : Env) (ih : IH) (S : SQ) (F : ES) : Option (Option IV) → Prop
  | some (some x) => wp (m env ih) (ks_aug i f x env S F) (kE F env)
  | _ => False
theorem kk_augE : k_augE n f ma env ih S F (some (some x)) = wp (ma env ih) (ks_aug n f x env S F) (kE F env) := rfl
theorem ws_aug : ws (ms_aug n f ma env ih) S F = k_augE n f ma env ih S F env[n]? := by
  unfold ms_aug
  cases e : env[n]? with
  | none => rfl
  | some a =>
    cases a with
    | none => rfl
    | some x =>
      show ws ((ma env ih).stm env _) S F = _
      rw [ws_stm]
      simp only [ws_stm]
      rfl
theorem kks_aug : ks_aug n f x env S F y ih = wp (f x y ih) (ks_aug2 n env S) (kE F env) := rfl
theorem kks_aug2 : ks_aug2 n env S v ih = S (.next (env.set n (some v))) ih := rfl
theorem ws_par : ws (ms_par n m mr env ih) S F = wp (mr env ih) (ks_par n m env S) (kE F env) := by
  unfold ms_par
  rw [ws_stm]
  congr 1
  funext vs ih
  rcases vs with _ | ⟨a, _ | ⟨z, _ | ⟨y, r⟩⟩⟩ <;> rfl
theorem kks_par : ks_par n m env S [v, w] ih = S (.next ((env.set n (some v)).set m (some w))) ih := rfl
theorem ws_setL {m mo mi : Env → IH → Res IV} : ws (ms_setL m mo mi env ih) S F = wp (m env ih) (ks_sl mo mi env S F) (kE F env) := by
  unfold ms_setL
  rw [ws_stm]
  congr 1
  funext v ih
  rw [ws_stm]
  unfold ks_sl
  congr 1
  funext o ih
  rw [ws_stm]
  unfold ks_sl2
  congr 1
  funext i ih
  unfold ks_sl3 ks_sl4
  cases f_setL o i v ih <;> rfl
theorem kks_sl {mo mi : Env → IH → Res IV} : ks_sl mo mi env S F v ih = wp (mo env ih) (ks_sl2 v mi env S F) (kE F env) := rfl
theorem kks_sl2 {mi : Env → IH → Res IV} : ks_sl2 v mi env S F w ih = wp (mi env ih) (ks_sl3 v w env S) (kE F env) := rfl
theorem kks_sl3 : ks_sl3 v (.ref n) env S (.int i) ih = k_setL n i v env S ih ih[n]? := by
  unfold ks_sl3 ks_sl4 f_setL k_setL
  dsimp only
  cases ih[n]? with
  | none => rfl
  | some o =>
    cases o with
    | lst xs =>
      dsimp only
      cases ixN xs.length i <;> rfl
    | _ => rfl
theorem kk_setL : k_setL n i v env S ih (some (.lst xs)) = k_setL n i v env S ih (some (.lst xs)) := rfl
theorem wp_def {sm : Env → IH → RS} : wp (defRun n sm xs ih) Q E = ws (sm (startI n xs) ih) (kd Q) (kdE E) := by
  unfold defRun
  cases sm (startI n xs) ih with
  | ok f ih =>
    cases f <;> rfl
  | exc c env ih => rfl
  | stuck => rfl
theorem kkd_ret : kd Q (.ret v) ih = Q v ih := rfl
theorem kkd_next : kd Q (.next env) ih = Q .non ih := rfl
theorem kkdE : kdE E c env ih = E c ih := rfl
theorem kkE : kE F env c ih = F c env ih := rfl
-- loops
theorem ws_for {mi : Env → IH → Res Src} {g : IV → Env → IH → Option Env} : ws (ms_for mi g sa env ih) S F = wp (mi env ih) (ks_for g sa env S F) (kE F env) := by
  unfold ms_for
  rw [ws_stm]
  rfl
theorem wp_lc {vs : List Nat} {mi : Env → IH → Res Src} {g : IV → Env → IH → Option Env} : wp (m_lc vs mi g mt ma env ih) Q E = wp (mi env ih) (k_lc vs g mt ma env Q E) E := by
  unfold m_lc
  rw [wp_bind]
  rfl
theorem wp_r1 : wp (mi_rng1 mr env ih) QS E = wp (mr env ih) (k_r1 QS) E := by
  unfold mi_rng1
  rw [wp_bind]
  congr 1
  funext vs ih
  rcases vs with _ | ⟨a, _ | ⟨z, r⟩⟩
  · rfl
  · cases a with
    | int j =>
      show wp (if smallI j = true then _ else _) QS E = (smallI j = true ∧ _)
      by_cases h : smallI j = true
      · rw [if_pos h, eq_true h, true_and]
        rfl
      · rw [if_neg h, eq_false h, false_and]
        rfl
    | _ => rfl
  · cases a <;> rfl
theorem kk_r1 : k_r1 QS [.int j] ih = (smallI j = true ∧ QS (.rng 0 1 j.toNat) ih) := rfl
theorem wp_r2 : wp (mi_rng2 mr env ih) QS E = wp (mr env ih) (k_r2 QS) E := by
  unfold mi_rng2
  rw [wp_bind]
  congr 1
  funext vs ih
  rcases vs with _ | ⟨a, _ | ⟨z, _ | ⟨y, r⟩⟩⟩
  · rfl
  · cases a <;> rfl
  · cases a with
    | int i =>
      cases z with
      | int j =>
        show wp (if smallI i = true ∧ smallI j = true then _ else _) QS E = ((smallI i = true ∧ smallI j = true) ∧ _)
        by_cases h : smallI i = true ∧ smallI j = true
        · rw [if_pos h, eq_true h, true_and]
          rfl
        · rw [if_neg h, eq_false h, false_and]
          rfl
      | _ => rfl
    | _ => rfl
  · cases a <;> cases z <;> rfl
theorem kk_r2 : k_r2 QS [.int i, .int j] ih = ((smallI i = true ∧ smallI j = true) ∧ QS (.rng i 1 (j - i).toNat) ih) := rfl
def k_r3 (Q : PQ Src) : PQ (List IV) := fun vs ih => match vs with
  | [.int i, .int j, .int k] => (k = -1 ∧ smallI i = true ∧ smallI j = true) ∧ Q (.rng i (-1) (i - j).toNat) ih
  | _ => False
theorem wp_r3 : wp (mi_rng3 mr env ih) QS E = wp (mr env ih) (k_r3 QS) E := by
  unfold mi_rng3
  rw [wp_bind]
  congr 1
  funext vs ih
  rcases vs with _ | ⟨a, _ | ⟨z, _ | ⟨y, _ | ⟨x, r⟩⟩⟩⟩
  · rfl
  · cases a <;> rfl
  · cases a <;> cases z <;> rfl
  · cases a with
    | int i =>
      cases z with
      | int j =>
        cases y with
        | int k =>
          show wp (if k = -1 ∧ smallI i = true ∧ smallI j = true then _ else _) QS E = ((k = -1 ∧ smallI i = true ∧ smallI j = true) ∧ _)
          by_cases h : k = -1 ∧ smallI i = true ∧ smallI j = true
          · rw [if_pos h, eq_true h, true_and]
            rfl
          · rw [if_neg h, eq_false h, false_and]
            rfl
        | _ => rfl
      | _ => rfl
    | _ => rfl
  · cases a <;> cases z <;> cases y <;> rfl
theorem kk_r3 {k : Int} : k_r3 QS [.int i, .int j, .int k] ih = ((k = -1 ∧ smallI i = true ∧ smallI j = true) ∧ ∀ n, n = (i - j).toNat → QS (.rng i (-1) n) ih) := by
  rw [forall_eq]
  rfl
theorem wp_il : wp (mi_lst ma env ih) QS E = wp (ma env ih) (k_il QS) E := by
  unfold mi_lst
  rw [wp_bind]
  congr 1
  funext v ih
  cases v with
  | ref n =>
    show wp (match lAt ih n true with
      | some _ => _
      | none => _) QS E = k_il2 n QS ih (lAt ih n true)
    cases lAt ih n true <;> rfl
  | _ => rfl
theorem wp_it : wp (mi_tup ma env ih) QS E = wp (ma env ih) (k_it QS) E := by
  unfold mi_tup
  rw [wp_bind]
  congr 1
  funext v ih
  cases v with
  | ref n =>
    show wp (match lAt ih n false with
      | some _ => _
      | none => _) QS E = k_it2 n QS ih (lAt ih n false)
    cases lAt ih n false <;> rfl
  | _ => rfl
theorem wp_ie : wp (mi_enm mr env ih) QS E = wp (mr env ih) (k_ie QS) E := by
  unfold mi_enm
  rw [wp_bind]
  congr 1
  funext v ih
  rcases v with _ | ⟨a, _ | ⟨z, r⟩⟩
  · rfl
  · cases a with
    | ref n =>
      show wp (match lAt ih n true with
        | some _ => _
        | none => _) QS E = k_ie2 n QS ih (lAt ih n true)
      cases lAt ih n true <;> rfl
    | _ => rfl
  · cases a <;> rfl
theorem wp_iz : wp (mi_zip mr env ih) QS E = wp (mr env ih) (k_iz QS) E := by
  unfold mi_zip
  rw [wp_bind]
  congr 1
  funext v ih
  rcases v with _ | ⟨a, _ | ⟨z, _ | ⟨y, r⟩⟩⟩
  · rfl
  · cases a <;> rfl
  · cases a with
    | ref n =>
      cases z with
      | ref k =>
        show wp (match lAt ih n true, lAt ih k true with
          | some _, some _ => _
          | _, _ => _) QS E = k_iz2 n k QS ih (lAt ih n true) (lAt ih k true)
        cases lAt ih n true <;> cases lAt ih k true <;> rfl
      | _ => rfl
    | _ => rfl
  · cases a <;> cases z <;> rfl
theorem kk_il : k_il QS (.ref n) ih = k_il2 n QS ih (lAt ih n true) := rfl
theorem kk_il2 : k_il2 n QS ih (some xs) = QS (.lst n) ih := rfl
theorem kk_it : k_it QS (.ref n) ih = k_it2 n QS ih (lAt ih n false) := rfl
theorem kk_it2 : k_it2 n QS ih (some xs) = QS (.tup n) ih := rfl
theorem kk_ie : k_ie QS [.ref n] ih = k_ie2 n QS ih (lAt ih n true) := rfl
theorem kk_ie2 : k_ie2 n QS ih (some xs) = QS (.enm n) ih := rfl
theorem kk_iz : k_iz QS [.ref n, .ref m] ih = k_iz2 n m QS ih (lAt ih n true) (lAt ih m true) := rfl
theorem kk_iz2 {ys : List IV} : k_iz2 n m QS ih (some xs) (some ys) = QS (.zip n m) ih := rfl
def k_lAt (l : Bool) : Option MO → Option (List IV)
  | some o => if o.isK l = true then some o.xs else none
  | none => none
theorem lAt_k {l : Bool} : lAt ih n l = k_lAt l ih[n]? := by
  unfold lAt k_lAt
  cases ih[n]? <;> rfl
theorem k_lAtL : k_lAt true (some (.lst xs)) = some xs := rfl
theorem k_lAtO : k_lAt true (some (.ro xs)) = some xs := rfl
theorem k_lAtT : k_lAt false (some (.tup xs)) = some xs := rfl
-- operations
theorem wp_int : wp (f_int [.int i] ih) Q E = Q (.int i) ih := rfl
theorem wp_add : wp (f_add (.int i) (.int j) ih) Q E = Q (.int (i + j)) ih := rfl
theorem wp_addI : wp (f_addI (.int i) (.int j) ih) Q E = Q (.int (i + j)) ih := rfl
theorem wp_sub : wp (f_sub (.int i) (.int j) ih) Q E = Q (.int (i - j)) ih := rfl
theorem wp_neg : wp (f_neg (.int i) ih) Q E = Q (.int (-i)) ih := rfl
theorem wp_lt : wp (f_lt (.int i) (.int j) ih) Q E = Q (.bl (decide (i < j))) ih := rfl
theorem wp_le : wp (f_le (.int i) (.int j) ih) Q E = Q (.bl (decide (i ≤ j))) ih := rfl
theorem wp_gt : wp (f_gt (.int i) (.int j) ih) Q E = Q (.bl (decide (j < i))) ih := rfl
theorem wp_ge : wp (f_ge (.int i) (.int j) ih) Q E = Q (.bl (decide (j ≤ i))) ih := rfl
theorem wp_max2 : wp (f_max2 [.int i, .int j] ih) Q E = Q (.int (if j > i then j else i)) ih := rfl
theorem wp_min2 : wp (f_min2 [.int i, .int j] ih) Q E = Q (.int (if j < i then j else i)) ih := rfl
theorem wp_abs : wp (f_abs [.int i] ih) Q E = Q (.int (if i < 0 then -i else i)) ih := rfl
theorem wp_I {C : Int → Int → Bool} {g : Int → Int → IV} : wp (f_I C g (.int i) (.int j) ih) Q E = (C i j = true ∧ Q (g i j) ih) := by
  unfold f_I
  dsimp only
  by_cases h : C i j = true
  · rw [if_pos h, eq_true h, true_and]
    rfl
  · rw [if_neg h, eq_false h, false_and]
    rfl
theorem wp_mulI : wp (f_mul (.int i) (.int j) ih) Q E = (cMul i j = true ∧ Q (.int (i * j)) ih) := wp_I
theorem wp_mul : wp (f_mulA (.int i) (.int j) ih) Q E = (cMul i j = true ∧ Q (.int (i * j)) ih) := by
  show wp (if cMul i j = true then _ else _) Q E = _
  by_cases h : cMul i j = true
  · rw [if_pos h, eq_true h, true_and]
    rfl
  · rw [if_neg h, eq_false h, false_and]
    rfl
theorem wp_fdiv : wp (f_fdiv (.int i) (.int j) ih) Q E = (cDiv i j = true ∧ Q (.int (i / j)) ih) := wp_I
theorem wp_mod : wp (f_mod (.int i) (.int j) ih) Q E = (0 < j ∧ Q (.int (i % j)) ih) := by
  refine wp_I.trans ?_
  unfold cMod
  rw [decide_eq_true_eq]
theorem wp_shl : wp (f_shl (.int i) (.int j) ih) Q E = (cShl i j = true ∧ Q (.int (i * 2 ^ j.toNat)) ih) := wp_I
theorem wp_shr : wp (f_shr (.int i) (.int j) ih) Q E = (0 ≤ j ∧ Q (.int (i / 2 ^ j.toNat)) ih) := by
  refine wp_I.trans ?_
  unfold cShr
  rw [decide_eq_true_eq]
theorem wp_pow : wp (f_pow (.int i) (.int j) ih) Q E = (cPow i j = true ∧ Q (.int (i ^ j.toNat)) ih) := wp_I
theorem wp_isN : wp (f_isN x .non ih) Q E = Q (.bl (decide (x = .non))) ih := rfl
theorem wp_notN : wp (f_notN x .non ih) Q E = Q (.bl (!decide (x = .non))) ih := rfl
theorem wp_eqI : wp (f_eq (.int i) (.int j) ih) Q E = Q (.bl (decide (i = j))) ih := by
  rw [a_eq_int]
  rfl
theorem wp_neI : wp (f_ne (.int i) (.int j) ih) Q E = Q (.bl (!decide (i = j))) ih := by
  rw [a_ne_int]
  rfl
theorem wp_ix : wp (f_ix (.ref n) (.int i) ih) Q E = k_ix i Q ih ih[n]? := by
  unfold f_ix
  dsimp only
  cases ih[n]? with
  | none => rfl
  | some o =>
    show wp (match atI o.xs i with
      | some v => _
      | none => _) Q E = k_ix2 Q ih (atI o.xs i)
    cases atI o.xs i <;> rfl
theorem kk_ix : k_ix i Q ih (some o) = k_ix2 Q ih (atI o.xs i) := rfl
theorem kk_ix2 : k_ix2 Q ih (some v) = Q v ih := rfl
theorem wp_len : wp (f_len [.ref n] ih) Q E = k_len Q ih ih[n]? := by
  unfold f_len
  dsimp only
  cases ih[n]? with
  | none => rfl
  | some o => cases o <;> rfl
theorem kk_lenL : k_len Q ih (some (.lst xs)) = Q (.int xs.length) ih := rfl
theorem kk_lenT : k_len Q ih (some (.tup xs)) = Q (.int xs.length) ih := rfl
theorem kk_lenO : k_len Q ih (some (.ro xs)) = Q (.int xs.length) ih := rfl
theorem kk_lenP : k_len Q ih (some (.rot xs)) = Q (.int xs.length) ih := rfl
theorem wp_appd : wp (f_append (.ref n) [y] ih) Q E = k_app1 n y Q ih ih[n]? := by
  unfold f_append
  dsimp only
  cases ih[n]? with
  | none => rfl
  | some o =>
    cases o with
    | lst xs =>
      show wp (if xs.length < 100000 then _ else _) Q E = (xs.length < 100000 ∧ _)
      by_cases h : xs.length < 100000
      · rw [if_pos h, eq_true h, true_and]
        rfl
      · rw [if_neg h, eq_false h, false_and]
        rfl
    | _ => rfl
theorem kk_app1 : k_app1 n y Q ih (some (.lst xs)) = (xs.length < 100000 ∧ Q .non (ih.set n (.lst (xs ++ [y])))) := rfl
def k_isL : Option MO → Bool
  | some o => o.isL
  | none => false
theorem isL_k : isLst (.ref n) ih = k_isL ih[n]? := by
  show (match ih[n]? with
    | some o => o.isL
    | none => false) = k_isL ih[n]?
  cases ih[n]? <;> rfl
theorem kk_isL : k_isL (some o) = o.isL := rfl
-- by hand: new objects
theorem wp_lst (hl : xs.length ≤ 100000) (k : Q (.ref ih.length) (ih ++ [.lst xs])) : wp (f_lst xs ih) Q E := by
  rw [a_lst hl]
  exact k
theorem wp_tup (hl : xs.length ≤ 100000) (k : Q (.ref ih.length) (ih ++ [.tup xs])) : wp (f_tup xs ih) Q E := by
  rw [a_tup hl]
  exact k
theorem wp_list (h : ih[n]? = some o) (k : Q (.ref ih.length) (ih ++ [.lst o.xs])) (hd : o.isS = true := by rfl) : wp (f_list [.ref n] ih) Q E := by
  rw [a_list h hd]
  exact k
/-- a choice out of a list -/
theorem wp_pick (h : ih[n]? = some o) (h0 : 0 ≤ i) (h1 : i < (o.xs.length : Int)) (k : ∀ v ∈ o.xs, Q v ih) : wp (f_ix (.ref n) (.int i) ih) Q E := by
  obtain ⟨m, rfl⟩ := Int.eq_ofNat_of_zero_le h0
  have hm : m < o.xs.length := by omega
  rw [a_ix h (v := o.xs[m]) (by rw [atI_nn]; exact List.getElem?_eq_getElem hm)]
  exact k _ (List.getElem_mem hm)
theorem wp_eq {d e : PyData} (h1 : Is ih x d) (h2 : Is ih y e) (s1 : SeqAt.shaped d = true) (s2 : SeqAt.shaped e = true) (k : Q (.bl (PyData.eqv d e)) ih) : wp (f_eq x y ih) Q E := by
  rw [f_eq_of h1 h2 s1 s2]
  exact k
theorem wp_ne {d e : PyData} (h1 : Is ih x d) (h2 : Is ih y e) (s1 : SeqAt.shaped d = true) (s2 : SeqAt.shaped e = true) (k : Q (.bl (!PyData.eqv d e)) ih) : wp (f_ne x y ih) Q E := by
  rw [f_ne_of h1 h2 s1 s2]
  exact k
theorem wp_isi {T t : String} (h : tyN x ih = some t) (k : kitB t T = some b) (q : Q (.bl b) ih) : wp (f_isi [x, .ty T] ih) Q E := by
  unfold f_isi
  dsimp only
  rw [h]
  dsimp only
  rw [k]
  exact q
-- both ways
theorem dec_if [Decidable p] {ma mb : Env → IH → Res α} {Q : PQ α} (h1 : p → k_if ma mb env Q E true ih) (h0 : ¬ p → k_if ma mb env Q E false ih) : k_if ma mb env Q E (decide p) ih := by
  by_cases h : p
  · rw [decide_eq_true h]; exact h1 h
  · rw [decide_eq_false h]; exact h0 h
theorem dec_ifs [Decidable p] (h1 : p → ks_if sa sb env S F true ih) (h0 : ¬ p → ks_if sa sb env S F false ih) : ks_if sa sb env S F (decide p) ih := by
  by_cases h : p
  · rw [decide_eq_true h]; exact h1 h
  · rw [decide_eq_false h]; exact h0 h
end
end L3
/-! L8: loops and lists, run backwards. -/
namespace L3
open PySem PySem.Spec PyProof.Rows L2
/-- a fact that the walk does not see -/
structure Hide (p : Prop) : Prop where
  get : p
/-- all but p, and what is new, is as before -/
abbrev Fr (p : Nat) (ih ih' : IH) : Prop := ∀ n, n < ih.length → n ≠ p → ih'[n]? = ih[n]?
abbrev Fx (ih ih' : IH) : Prop := ∀ n, n < ih.length → ih'[n]? = ih[n]?
theorem g_new {ih : IH} {o : MO} : (ih ++ [o])[ih.length]? = some o := get_new _ _
theorem g_nw {ih : IH} {o : MO} {n : Nat} (h : n = ih.length) : (ih ++ [o])[n]? = some o := h ▸ get_new _ _
theorem g_old {ih : IH} {o : MO} {n : Nat} (h : n < ih.length) : (ih ++ [o])[n]? = ih[n]? := List.getElem?_append_left h
theorem g_set {ih : IH} {o : MO} {n : Nat} (h : n < ih.length) : (ih.set n o)[n]? = some o := List.getElem?_set_self h
theorem g_sne {ih : IH} {o : MO} {n m : Nat} (h : m ≠ n) : (ih.set m o)[n]? = ih[n]? := List.getElem?_set_ne h
theorem Fr.refl {p : Nat} {ih : IH} : Fr p ih ih := fun _ _ _ => rfl
theorem Fx.refl {ih : IH} : Fx ih ih := fun _ _ => rfl
theorem Fx.fr {p : Nat} {a b : IH} (h : Fx a b) : Fr p a b := fun n l _ => h n l
theorem Fr.trans {p : Nat} {a b c : IH} (h : Fr p a b) (k : Fr p b c) (l : a.length ≤ b.length) : Fr p a c := fun n h1 h2 => by rw [k n (by omega) h2, h n h1 h2]
theorem Fx.trans {a b c : IH} (h : Fx a b) (k : Fx b c) (l : a.length ≤ b.length) : Fx a c := fun n h1 => by rw [k n (by omega), h n h1]
theorem Fx.app {a : IH} {o : MO} : Fx a (a ++ [o]) := fun n h => g_old h
theorem Fx.ext {a b : IH} (h : Fx a b) : Ext a b := fun n o e => by rw [h n (lt_of_get e)]; exact e
theorem Ext.fx {a b : IH} (h : Ext a b) : Fx a b := fun n l => by
  rw [List.getElem?_eq_getElem l]
  exact h n _ (List.getElem?_eq_getElem l)
theorem Fx.set {a b : IH} {n : Nat} {o : MO} (h : Fx a b) (l : a.length ≤ n) : Fx a (b.set n o) := fun m hm => by
  rw [g_sne (by omega)]
  exact h m hm
theorem Fr.set {p : Nat} {a b : IH} {n : Nat} {o : MO} (h : Fr p a b) (l : a.length ≤ n) : Fr p a (b.set n o) := fun m hm hp => by
  rw [g_sne (by omega)]
  exact h m hm hp
theorem Fr.setp {p : Nat} {a b : IH} {o : MO} (h : Fr p a b) : Fr p a (b.set p o) := fun m hm hp => by
  rw [g_sne (by omega)]
  exact h m hm hp
/-- a loop's body -/
def kf (P : Env → IH → Prop) (S : SQ) : SQ := fun f ih => match f with
  | .next e => P e ih
  | .cont e => P e ih
  | .brk e => S (.next e) ih
  | .ret v => S (.ret v) ih
section
variable {P : Env → IH → Prop} {S : SQ} {F : ES} {env : Env} {ih : IH} {v : IV}
/-- what holds behind a turn -/
def Inv (P : Env → IH → Prop) (env : Env) (ih : IH) : Prop := P env ih
theorem Inv.mk (h : P env ih) : Inv P env ih := h
theorem kf_next : kf P S (.next env) ih = Inv P env ih := rfl
theorem kf_cont : kf P S (.cont env) ih = Inv P env ih := rfl
theorem kf_brk : kf P S (.brk env) ih = S (.next env) ih := rfl
theorem kf_ret : kf P S (.ret v) ih = S (.ret v) ih := rfl
theorem ws_loop {r : RS} {k : Env → IH → RS} (h : ws r (kf P S) F) (hk : ∀ env ih, P env ih → ws (k env ih) S F) : ws (r.loop k) S F := by
  cases r with
  | ok f ih =>
    cases f with
    | next e => exact hk _ _ h
    | cont e => exact hk _ _ h
    | brk e => exact h
    | ret v => exact h
  | exc c e ih => exact h
  | stuck => exact h
theorem go_ind {s : Src} {g : IV → Env → IH → Option Env} {mb : Env → IH → RS} (k : Nat) (P : Nat → Env → IH → Prop)
    (turn : ∀ i env ih, i < k → P i env ih → ∃ v ih1 env1, s.turn i ih = .item v ih1 ∧ g v env ih1 = some env1 ∧ ws (mb env1 ih1) (kf (P (i + 1)) S) F)
    (stop : ∀ env ih, P k env ih → s.turn k ih = .stop ∧ S (.next env) ih) : ∀ (f i : Nat) (env : Env) (ih : IH), i ≤ k → k - i < f → P i env ih → ws (forGo s g mb f i env ih) S F := by
  intro f
  induction f with
  | zero => intro i env ih h1 h2; omega
  | succ f hf =>
    intro i env ih h1 h2 hP
    unfold forGo
    by_cases hi : i = k
    · subst hi
      obtain ⟨e1, e2⟩ := stop env ih hP
      rw [e1]
      exact e2
    · obtain ⟨v, ih1, env1, e1, e2, e3⟩ := turn i env ih (by omega) hP
      rw [e1]
      dsimp only
      rw [e2]
      exact ws_loop e3 fun env2 ih2 h => hf (i + 1) env2 ih2 (by omega) (by omega) h
/-- for x in range -/
theorem for_rng {mb : Env → IH → RS} {x : Nat} {lo d : Int} {k : Nat} (P : Nat → Env → IH → Prop) (h0 : P 0 env ih)
    (step : ∀ i env ih, i < k → P i env ih → ws (mb (env.set x (some (.int (lo + (i : Int) * d)))) ih) (kf (P (i + 1)) S) F) (fin : ∀ env ih, P k env ih → S (.next env) ih) : ks_for (g_nm x) mb env S F (.rng lo d k) ih :=
  go_ind k P (fun i env ih hi h => ⟨_, _, _, turn_rng hi, rfl, step i env ih hi h⟩) (fun env ih h => ⟨stop_rng, fin env ih h⟩) _ 0 env ih (Nat.zero_le _) (by show k - 0 < k + 1; omega) h0
theorem for_rng0 {mb : Env → IH → RS} {x : Nat} {k : Nat} (P : Nat → Env → IH → Prop) (h0 : P 0 env ih)
    (step : ∀ i env ih, i < k → P i env ih → ws (mb (env.set x (some (.int (i : Int)))) ih) (kf (P (i + 1)) S) F) (fin : ∀ env ih, P k env ih → S (.next env) ih) : ks_for (g_nm x) mb env S F (.rng 0 1 k) ih :=
  for_rng P h0 (fun i env ih hi h => by rw [show (0 : Int) + (i : Int) * 1 = (i : Int) by omega]; exact step i env ih hi h) fin
theorem for_rng1' {mb : Env → IH → RS} {x : Nat} {lo : Int} {k : Nat} (P : Nat → Env → IH → Prop) (h0 : P 0 env ih)
    (step : ∀ i env ih, i < k → P i env ih → ws (mb (env.set x (some (.int (lo + (i : Int))))) ih) (kf (P (i + 1)) S) F) (fin : ∀ env ih, P k env ih → S (.next env) ih) : ks_for (g_nm x) mb env S F (.rng lo 1 k) ih :=
  for_rng P h0 (fun i env ih hi h => by rw [show lo + (i : Int) * 1 = lo + (i : Int) by omega]; exact step i env ih hi h) fin
/-- for x in a list that stays -/
theorem for_lstG {g : IV → Env → IH → Option Env} {mb : Env → IH → RS} {n : Nat} {o : MO} (P : Nat → Env → IH → Prop) (hg : ih[n]? = some o) (hl : o.isL = true) (h0 : P 0 env ih) (ho : ∀ i env ih, P i env ih → ih[n]? = some o)
    (step : ∀ i v env ih, o.xs[i]? = some v → P i env ih → ∃ env1, g v env ih = some env1 ∧ ws (mb env1 ih) (kf (P (i + 1)) S) F) (fin : ∀ env ih, P o.xs.length env ih → S (.next env) ih) : ks_for g mb env S F (.lst n) ih :=
  go_ind o.xs.length P (fun i env ih hi h => by
    obtain ⟨env1, e1, e2⟩ := step i _ env ih (List.getElem?_eq_getElem hi) h
    exact ⟨_, _, env1, turn_lst (ho _ _ _ h) hl (List.getElem?_eq_getElem hi), e1, e2⟩) (fun env ih h => ⟨stop_lst (ho _ _ _ h) hl, fin env ih h⟩) _ 0 env ih (Nat.zero_le _) (by
    show _ < (Src.lst n).size ih + 1
    unfold Src.size
    dsimp only
    rw [hg]
    dsimp only
    omega) h0
theorem for_lst1 {mb : Env → IH → RS} {x n : Nat} {o : MO} (P : Nat → Env → IH → Prop) (hg : ih[n]? = some o) (hl : o.isL = true) (h0 : P 0 env ih) (ho : ∀ i env ih, P i env ih → ih[n]? = some o)
    (step : ∀ i v env ih, o.xs[i]? = some v → P i env ih → ws (mb (env.set x (some v)) ih) (kf (P (i + 1)) S) F) (fin : ∀ env ih, P o.xs.length env ih → S (.next env) ih) : ks_for (g_nm x) mb env S F (.lst n) ih :=
  for_lstG P hg hl h0 ho (fun i v env ih e h => ⟨_, rfl, step i v env ih e h⟩) fin
theorem for_enum {g : IV → Env → IH → Option Env} {mb : Env → IH → RS} {n : Nat} {o : MO} (P : Nat → Env → IH → Prop) (hg : ih[n]? = some o) (hl : o.isL = true) (h0 : P 0 env ih) (ho : ∀ i env ih, P i env ih → ih[n]? = some o)
    (step : ∀ i v env ih, o.xs[i]? = some v → P i env ih → ∃ env1, g (.ref ih.length) env (ih ++ [.tup [.int (i : Int), v]]) = some env1 ∧ ws (mb env1 (ih ++ [.tup [.int (i : Int), v]])) (kf (P (i + 1)) S) F) (fin : ∀ env ih, P o.xs.length env ih → S (.next env) ih) : ks_for g mb env S F (.enm n) ih :=
  go_ind o.xs.length P (fun i env ih hi h => by
    obtain ⟨env1, e1, e2⟩ := step i _ env ih (List.getElem?_eq_getElem hi) h
    exact ⟨_, _, env1, turn_enm (ho _ _ _ h) hl (List.getElem?_eq_getElem hi), e1, e2⟩) (fun env ih h => ⟨stop_enm (ho _ _ _ h) hl, fin env ih h⟩) _ 0 env ih (Nat.zero_le _) (by
    show _ < (Src.enm n).size ih + 1
    unfold Src.size
    dsimp only
    rw [hg]
    dsimp only
    omega) h0
theorem for_zip2 {g : IV → Env → IH → Option Env} {mb : Env → IH → RS} {n m : Nat} {o u : MO} (P : Nat → Env → IH → Prop) (hg : ih[n]? = some o) (hl : o.isL = true) (hl2 : u.isL = true) (h0 : P 0 env ih) (ho : ∀ i env ih, P i env ih → ih[n]? = some o ∧ ih[m]? = some u)
    (step : ∀ i v w env ih, o.xs[i]? = some v → u.xs[i]? = some w → P i env ih → ∃ env1, g (.ref ih.length) env (ih ++ [.tup [v, w]]) = some env1 ∧ ws (mb env1 (ih ++ [.tup [v, w]])) (kf (P (i + 1)) S) F) (fin : ∀ env ih, P (min o.xs.length u.xs.length) env ih → S (.next env) ih) : ks_for g mb env S F (.zip n m) ih :=
  go_ind (min o.xs.length u.xs.length) P (fun i env ih hi h => by
    obtain ⟨env1, e1, e2⟩ := step i _ _ env ih (List.getElem?_eq_getElem (by omega)) (List.getElem?_eq_getElem (by omega)) h
    exact ⟨_, _, env1, turn_zip (ho _ _ _ h).1 hl (List.getElem?_eq_getElem (by omega)) (ho _ _ _ h).2 hl2 (List.getElem?_eq_getElem (by omega)), e1, e2⟩) (fun env ih h => ⟨stop_zip (ho _ _ _ h).1 hl (ho _ _ _ h).2 hl2 (by omega), fin env ih h⟩) _ 0 env ih (Nat.zero_le _) (by
    show _ < (Src.zip n m).size ih + 1
    unfold Src.size
    dsimp only
    rw [hg]
    dsimp only
    omega) h0
/-- while, with what gets less -/
theorem while_ind {n : Env → IH → Res Bool} {mb : Env → IH → RS} (P : Env → IH → Prop) (μ : Env → IH → Nat → Prop)
    (step : ∀ k env ih, P env ih → μ env ih k → wp (n env ih) (fun b ih1 => if b = true then ws (mb env ih1) (kf (fun e i => P e i ∧ ∃ j, j < k ∧ μ e i j) S) F else S (.next env) ih1) (kE F env)) :
    ∀ (f k : Nat) (env : Env) (ih : IH), P env ih → μ env ih k → k < f → ws (whileGo n mb f env ih) S F := by
  intro f
  induction f with
  | zero => intro k env ih _ _ h; omega
  | succ f hf =>
    intro k env ih hP hm hk
    unfold whileGo
    rw [ws_stm]
    refine wp.imp (step k env ih hP hm) (fun b ih1 h => ?_) fun _ _ h => h
    cases b with
    | true =>
      rw [if_pos rfl] at h ⊢
      exact ws_loop h fun env2 ih2 ⟨h1, j, h2, h3⟩ => hf j env2 ih2 h1 h3 (by omega)
    | false => exact h
end
section
variable {Q : PQ IV} {E : EQ} {env : Env} {ih : IH}
theorem k_lAt_of {ih : IH} {n : Nat} {o : MO} (h : ih[n]? = some o) (hl : o.isL = true) : lAt ih n true = some o.xs := lAt_of h hl
/-- [me for x in xs if n] -/
theorem lc_flt {vs : List Nat} {i n : Nat} {mt : Env → IH → Res Bool} {me : Env → IH → Res IV} {o : MO} (F : IV → IV) (T : IV → Bool) (ho : ih[n]? = some o) (hl : o.isL = true) (hz : o.xs.length < 100000)
    (ht : ∀ x ∈ o.xs, ∀ ih', Fx ih ih' → wp (mt ((wipeI env vs).set i (some x)) ih') (fun b ih'' => b = T x ∧ ih'' = ih') E0)
    (he : ∀ x ∈ o.xs, T x = true → ∀ ih', Fx ih ih' → wp (me ((wipeI env vs).set i (some x)) ih') (fun v ih'' => v = F x ∧ ih'' = ih') E0)
    (q : Q (.ref ih.length) (ih ++ [.lst ((o.xs.filter T).map F)])) : k_lc vs (g_nm i) mt me env Q E (.lst n) ih := by
  have h := lc_lst (vs := vs) (m := m_c (.ref n)) (i := i) (n := mt) (me := me) (env := env) (ih := ih) F T rfl ho hl hz (fun x hx ih' e => (ht x hx ih' e.fx).eq) fun x hx t ih' e => (he x hx t ih' e.fx).eq
  have k := wp.of (E := E) h q
  rw [wp_lc, wp_il, wp_c, kk_il, lAt_of ho hl, kk_il2] at k
  exact k
/-- [me for x in xs] -/
theorem lc_all {vs : List Nat} {i n : Nat} {me : Env → IH → Res IV} {o : MO} (F : IV → IV) (ho : ih[n]? = some o) (hl : o.isL = true) (hz : o.xs.length < 100000)
    (he : ∀ x ∈ o.xs, ∀ ih', Fx ih ih' → wp (me ((wipeI env vs).set i (some x)) ih') (fun v ih'' => v = F x ∧ ih'' = ih') E0)
    (q : Q (.ref ih.length) (ih ++ [.lst (o.xs.map F)])) : k_lc vs (g_nm i) n_yes me env Q E (.lst n) ih := by
  have h := lc_map (vs := vs) (m := m_c (.ref n)) (i := i) (me := me) (env := env) (ih := ih) F rfl ho hl hz fun x hx ih' e => (he x hx ih' e.fx).eq
  have k := wp.of (E := E) h q
  rw [wp_lc, wp_il, wp_c, kk_il, lAt_of ho hl, kk_il2] at k
  exact k
/-- over a list of ints -/
theorem lc_int {vs : List Nat} {i n : Nat} {me : Env → IH → Res IV} {o : MO} {ns : List Int} (F : Int → IV) (ho : ih[n]? = some o) (hl : o.isL = true) (hx : o.xs = ns.map IV.int) (hz : ns.length < 100000)
    (he : ∀ x ∈ ns, ∀ ih', Fx ih ih' → wp (me ((wipeI env vs).set i (some (.int x))) ih') (fun v ih'' => v = F x ∧ ih'' = ih') E0)
    (q : Q (.ref ih.length) (ih ++ [.lst (ns.map F)])) : k_lc vs (g_nm i) n_yes me env Q E (.lst n) ih := by
  have e : (ns.map IV.int).map (fun | .int k => F k | _ => .non) = ns.map F := by rw [List.map_map]; rfl
  refine lc_all (fun | .int k => F k | _ => .non) ho hl (by rw [hx, List.length_map]; exact hz) (fun x hx' ih' f => ?_) (by rw [hx, e]; exact q)
  rw [hx] at hx'
  obtain ⟨k, hk, rfl⟩ := List.mem_map.mp hx'
  exact he k hk ih' f
/-- [me for i in range(j)] -/
theorem lc_rngW {vs : List Nat} {i : Nat} {me : Env → IH → Res IV} {j : Nat} (F : Nat → IV) (hz : j < 100000)
    (he : ∀ k, k < j → ∀ ih', Fx ih ih' → wp (me ((wipeI env vs).set i (some (.int (k : Int)))) ih') (fun v ih'' => v = F k ∧ ih'' = ih') E0)
    (q : Q (.ref ih.length) (ih ++ [.lst ((List.range j).map F)])) : k_lc vs (g_nm i) n_yes me env Q E (.rng 0 1 j) ih := by
  have sj : smallI (j : Int) = true := smallI_mk (by omega) (by omega)
  have h := lc_rng (vs := vs) (m := fun _ ih => .ok [.int (j : Int)] ih) (i := i) (me := me) (env := env) (ih := ih) (j := (j : Int)) F rfl sj (by omega) fun x hx ih' e => (he x (by omega) ih' e.fx).eq
  rw [Int.toNat_natCast] at h
  have k : wp (m_lc vs (mi_rng1 fun _ ih => .ok [.int (j : Int)] ih) (g_nm i) n_yes me env ih) Q E := by
    rw [h, wp_ok]
    exact q
  rw [wp_lc, wp_r1] at k
  have k2 := k.2
  rw [Int.toNat_natCast] at k2
  exact k2
theorem lc_zipW {vs : List Nat} {i j n m : Nat} {me : Env → IH → Res IV} {o u : MO} (F : IV → IV → IV) (ho : ih[n]? = some o) (hl : o.isL = true) (hu : ih[m]? = some u) (hl2 : u.isL = true) (hz : o.xs.length < 100000)
    (he : ∀ (k : Nat) (x y : IV), o.xs[k]? = some x → u.xs[k]? = some y → ∀ ih', Fx ih ih' → wp (me (((wipeI env vs).set i (some x)).set j (some y)) ih') (fun v ih'' => v = F x y ∧ ih'' = ih') E0)
    (q : ∀ ih', Fx ih ih' → ih.length < ih'.length → ih'[ih.length]? = some (.lst (List.zipWith F o.xs u.xs)) → Q (.ref ih.length) ih') : k_lc vs (g_tup 2 (g_cons (g_nm i) (g_cons (g_nm j) g_nil))) n_yes me env Q E (.zip n m) ih := by
  obtain ⟨ih', h, x, g⟩ := lc_zip (vs := vs) (m := fun _ ih => .ok [.ref n, .ref m] ih) (i := i) (j := j) (me := me) (env := env) (ih := ih) F rfl ho hl hu hl2 hz fun k x y h1 h2 ih' e => (he k x y h1 h2 ih' e.fx).eq
  have k := wp.of (E := E) h (q ih' x.fx (lt_of_get g) g)
  rw [wp_lc, wp_iz] at k
  have k2 : k_iz (k_lc vs (g_tup 2 (g_cons (g_nm i) (g_cons (g_nm j) g_nil))) n_yes me env Q E) [.ref n, .ref m] ih := k
  rw [kk_iz, lAt_of ho hl, lAt_of hu hl2, kk_iz2] at k2
  exact k2
theorem wp_sumW {n : Nat} {o : MO} {ns : List Int} (h : ih[n]? = some o) (hl : o.isL = true) (hx : o.xs = ns.map IV.int) (q : Q (.int ns.sum) ih) : wp (f_sum [.ref n] ih) Q E := wp.of (a_sum h hl hx) q
theorem wp_allW {n : Nat} {o : MO} {ns : List Bool} (h : ih[n]? = some o) (hl : o.isL = true) (hx : o.xs = ns.map IV.bl) (q : Q (.bl (ns.all id)) ih) : wp (f_all [.ref n] ih) Q E := wp.of (a_all h hl hx) q
theorem wp_anyW {n : Nat} {o : MO} {ns : List Bool} (h : ih[n]? = some o) (hl : o.isL = true) (hx : o.xs = ns.map IV.bl) (q : Q (.bl (ns.any id)) ih) : wp (f_any [.ref n] ih) Q E := wp.of (a_any h hl hx) q
theorem wp_slL {n : Nat} {xs : List IV} {lo hi : Option Int} (h : ih[n]? = some (.lst xs)) (q : Q (.ref ih.length) (ih ++ [.lst (cutI xs lo hi)])) : wp (f_sl (.ref n) lo hi ih) Q E := wp.of (a_slL h) q
end
/-- a choice -/
theorem k_pick {Q : PQ IV} {ih : IH} {xs : List IV} {i : Int} (h0 : 0 ≤ i) (h1 : i < (xs.length : Int)) (k : ∀ v ∈ xs, Q v ih) : k_ix2 Q ih (atI xs i) := by
  obtain ⟨m, rfl⟩ := Int.eq_ofNat_of_zero_le h0
  have hm : m < xs.length := by omega
  rw [atI_nn, List.getElem?_eq_getElem hm]
  exact k _ (List.getElem_mem hm)
def allI (P : Int → Prop) : List IV → Prop
  | [] => True
  | .int z :: r => P z ∧ allI P r
  | _ :: _ => False
theorem allI_mem {P : Int → Prop} : ∀ {xs : List IV}, allI P xs → ∀ v ∈ xs, ∃ z, v = .int z ∧ P z
  | [], _, v, h => nomatch h
  | .int z :: r, h, v, hv => by
    rcases List.mem_cons.mp hv with e | e
    · exact ⟨z, e, h.1⟩
    · exact allI_mem h.2 v e
theorem k_pickI (P : Int → Prop) {Q : PQ IV} {ih : IH} {xs : List IV} {i : Int} (h0 : 0 ≤ i) (h1 : i < (xs.length : Int)) (ha : allI P xs) (k : ∀ z, P z → Q (.int z) ih) : k_ix2 Q ih (atI xs i) := k_pick h0 h1 fun v hv => by
  obtain ⟨z, rfl, hz⟩ := allI_mem ha v hv
  exact k z hz
theorem wp_allL {Q : PQ IV} {E : EQ} {ih : IH} {n : Nat} (ns : List Bool) (h : ih[n]? = some (.lst (ns.map IV.bl))) (q : Q (.bl (ns.all id)) ih) : wp (f_all [.ref n] ih) Q E := wp.of (a_all h rfl rfl) q
theorem wp_anyL {Q : PQ IV} {E : EQ} {ih : IH} {n : Nat} (ns : List Bool) (h : ih[n]? = some (.lst (ns.map IV.bl))) (q : Q (.bl (ns.any id)) ih) : wp (f_any [.ref n] ih) Q E := wp.of (a_any h rfl rfl) q
theorem wp_sumL {Q : PQ IV} {E : EQ} {ih : IH} {n : Nat} (ns : List Int) (h : ih[n]? = some (.lst (ns.map IV.int))) (q : Q (.int ns.sum) ih) : wp (f_sum [.ref n] ih) Q E := wp.of (a_sum h rfl rfl) q
/-- over a list of ints -/
theorem lc_intL {Q : PQ IV} {E : EQ} {env : Env} {ih : IH} {vs : List Nat} {i n : Nat} {me : Env → IH → Res IV} (ns : List Int) (F : Int → IV) (ho : ih[n]? = some (.lst (ns.map IV.int))) (hz : ns.length < 100000)
    (he : ∀ x ∈ ns, ∀ ih', Fx ih ih' → wp (me ((wipeI env vs).set i (some (.int x))) ih') (fun v ih'' => v = F x ∧ ih'' = ih') E0)
    (q : Q (.ref ih.length) (ih ++ [.lst (ns.map F)])) : k_lc vs (g_nm i) n_yes me env Q E (.lst n) ih := lc_int F ho rfl rfl hz he q
/-- over a list of ints, with a test -/
theorem lc_intT {Q : PQ IV} {E : EQ} {env : Env} {ih : IH} {vs : List Nat} {i n : Nat} {mt : Env → IH → Res Bool} {me : Env → IH → Res IV} (ns : List Int) (T : Int → Bool) (F : Int → IV) (ho : ih[n]? = some (.lst (ns.map IV.int))) (hz : ns.length < 100000)
    (ht : ∀ x ∈ ns, ∀ ih', Fx ih ih' → wp (mt ((wipeI env vs).set i (some (.int x))) ih') (fun v ih'' => v = T x ∧ ih'' = ih') E0)
    (he : ∀ x ∈ ns, T x = true → ∀ ih', Fx ih ih' → wp (me ((wipeI env vs).set i (some (.int x))) ih') (fun v ih'' => v = F x ∧ ih'' = ih') E0)
    (q : Q (.ref ih.length) (ih ++ [.lst ((ns.filter T).map F)])) : k_lc vs (g_nm i) mt me env Q E (.lst n) ih := by
  refine lc_flt (fun | .int k => F k | _ => .non) (fun | .int k => T k | _ => false) ho rfl (by rw [xs_lst, List.length_map]; exact hz) (fun x hx ih' f => ?_) (fun x hx t ih' f => ?_) ?_
  · obtain ⟨k, hk, rfl⟩ := List.mem_map.mp hx
    exact ht k hk ih' f
  · obtain ⟨k, hk, rfl⟩ := List.mem_map.mp hx
    exact he k hk t ih' f
  · rw [xs_lst, List.filter_map, List.map_map]
    exact q
/-- what is new, by a name of its own -/
theorem newN {P : IV → IH → Prop} {ih : IH} {o : MO} (k : ∀ n ih', ih.length ≤ n → n < ih'.length → ih'.length ≤ ih.length + 1 → Fx ih ih' → ih'[n]? = some o → P (.ref n) ih') : P (.ref ih.length) (ih ++ [o]) := k _ _ (Nat.le_refl _) (by simp) (by simp) Fx.app g_new
/-- both ways give the same -/
theorem if_join {α : Type} {ma mb : Env → IH → Res α} {env : Env} {ih : IH} {Q : PQ α} {E : EQ} {b : Bool} (v : α) (h1 : b = true → wp (ma env ih) (fun x ih' => x = v ∧ ih' = ih) E0) (h0 : b = false → wp (mb env ih) (fun x ih' => x = v ∧ ih' = ih) E0) (q : Q v ih) : k_if ma mb env Q E b ih := by
  cases b with
  | true => exact wp.of (h1 rfl).eq q
  | false => exact wp.of (h0 rfl).eq q
theorem ws_while {n : Nat} {mt : Env → IH → Res Bool} {mb : Env → IH → RS} {env : Env} {ih : IH} {S : SQ} {F : ES} : ws (ms_while n mt mb env ih) S F = ws (whileGo mt mb n env ih) S F := rfl
theorem ws_whileA {n : Nat} {mt : Env → IH → Res Bool} {mb : Env → IH → RS} {env : Env} {ih : IH} {S : SQ} {F : ES} : ws (ms_while n mt mb env ih) S F = ∀ fu, fu = n → ws (whileGo mt mb fu env ih) S F := by
  rw [forall_eq]
  rfl
theorem g_pair {i j : Nat} {v w : IV} {env : Env} {ih : IH} : g_tup 2 (g_cons (g_nm i) (g_cons (g_nm j) g_nil)) (.ref ih.length) env (ih ++ [.tup [v, w]]) = some ((env.set i (some v)).set j (some w)) := by
  unfold g_tup
  dsimp only
  rw [g_new]
  rfl
theorem cutI_m1 (xs : List IV) (x : IV) : cutI (xs ++ [x]) none (some (-1)) = xs := by
  unfold cutI
  rw [HT.sIx_none]
  have e : HT.sIx (xs ++ [x]).length (xs ++ [x]).length (some (-1)) = xs.length := by
    have h := HT.clip_eq (-1) (xs ++ [x]).length (xs ++ [x]).length
    rw [if_pos (by decide)] at h
    simp only [List.length_append, List.length_singleton] at h ⊢
    omega
  rw [e, List.drop_zero, Nat.sub_zero, List.take_left']
  rfl
/-! ### isinstance -/
section
variable {Q : PQ IV} {E : EQ} {ih : IH} {n : Nat} {i : Int} {xs : List IV}
theorem kit_ii : kitB "int" "int" = some true := by decide +kernel
theorem kit_ib : kitB "int" "bool" = some false := by decide +kernel
theorem kit_ll : kitB "list" "list" = some true := by decide +kernel
theorem kit_tt : kitB "tuple" "tuple" = some true := by decide +kernel
theorem kit_lt : kitB "list" "tuple" = some false := by decide +kernel
theorem kit_tl : kitB "tuple" "list" = some false := by decide +kernel
theorem kit2_NoneType_int : kitB "NoneType" "int" = some false := by decide +kernel
theorem kit2_NoneType_bool : kitB "NoneType" "bool" = some false := by decide +kernel
theorem kit2_NoneType_list : kitB "NoneType" "list" = some false := by decide +kernel
theorem kit2_NoneType_tuple : kitB "NoneType" "tuple" = some false := by decide +kernel
theorem kit2_NoneType_str : kitB "NoneType" "str" = some false := by decide +kernel
theorem kit2_bool_int : kitB "bool" "int" = some true := by decide +kernel
theorem kit2_bool_bool : kitB "bool" "bool" = some true := by decide +kernel
theorem kit2_bool_list : kitB "bool" "list" = some false := by decide +kernel
theorem kit2_bool_tuple : kitB "bool" "tuple" = some false := by decide +kernel
theorem kit2_bool_str : kitB "bool" "str" = some false := by decide +kernel
theorem kit2_str_int : kitB "str" "int" = some false := by decide +kernel
theorem kit2_str_bool : kitB "str" "bool" = some false := by decide +kernel
theorem kit2_str_list : kitB "str" "list" = some false := by decide +kernel
theorem kit2_str_tuple : kitB "str" "tuple" = some false := by decide +kernel
theorem kit2_str_str : kitB "str" "str" = some true := by decide +kernel
theorem kit2_dict_int : kitB "dict" "int" = some false := by decide +kernel
theorem kit2_dict_bool : kitB "dict" "bool" = some false := by decide +kernel
theorem kit2_dict_list : kitB "dict" "list" = some false := by decide +kernel
theorem kit2_dict_tuple : kitB "dict" "tuple" = some false := by decide +kernel
theorem kit2_dict_str : kitB "dict" "str" = some false := by decide +kernel
theorem kit2_list_int : kitB "list" "int" = some false := by decide +kernel
theorem kit2_list_bool : kitB "list" "bool" = some false := by decide +kernel
theorem kit2_list_str : kitB "list" "str" = some false := by decide +kernel
theorem kit2_tuple_int : kitB "tuple" "int" = some false := by decide +kernel
theorem kit2_tuple_bool : kitB "tuple" "bool" = some false := by decide +kernel
theorem kit2_tuple_str : kitB "tuple" "str" = some false := by decide +kernel
theorem kit2_int_list : kitB "int" "list" = some false := by decide +kernel
theorem kit2_int_tuple : kitB "int" "tuple" = some false := by decide +kernel
theorem kit2_int_str : kitB "int" "str" = some false := by decide +kernel
theorem wp_isiII : wp (f_isi [.int i, .ty "int"] ih) Q E = Q (.bl true) ih := by
  rw [show f_isi [.int i, .ty "int"] ih = .ok (.bl true) ih by
    unfold f_isi
    dsimp only [tyN]
    rw [kit_ii]]
  rfl
theorem wp_isiIB : wp (f_isi [.int i, .ty "bool"] ih) Q E = Q (.bl false) ih := by
  rw [show f_isi [.int i, .ty "bool"] ih = .ok (.bl false) ih by
    unfold f_isi
    dsimp only [tyN]
    rw [kit_ib]]
  rfl
def tyO : Option MO → Option String
  | some (.lst _) => some "list"
  | some (.tup _) => some "tuple"
  | some .dct => some "dict"
  | some (.dk _) => some "dict"
  | _ => none
def k_isi2 (Q : PQ IV) (ih : IH) : Option Bool → Prop
  | some b => Q (.bl b) ih
  | none => False
def k_isi (T : String) (Q : PQ IV) (ih : IH) : Option String → Prop
  | some t => k_isi2 Q ih (kitB t T)
  | none => False
theorem wp_isiN {T : String} : wp (f_isi [.non, .ty T] ih) Q E = k_isi2 Q ih (kitB "NoneType" T) := by
  unfold f_isi
  dsimp only [tyN]
  show wp (match kitB "NoneType" T with
    | some b => _
    | none => _) Q E = k_isi2 Q ih (kitB "NoneType" T)
  cases kitB "NoneType" T <;> rfl
theorem wp_isiBl {T : String} {b : Bool} : wp (f_isi [.bl b, .ty T] ih) Q E = k_isi2 Q ih (kitB "bool" T) := by
  unfold f_isi
  dsimp only [tyN]
  show wp (match kitB "bool" T with
    | some b => _
    | none => _) Q E = k_isi2 Q ih (kitB "bool" T)
  cases kitB "bool" T <;> rfl
theorem wp_isiS {T : String} {z : Str} : wp (f_isi [.str z, .ty T] ih) Q E = k_isi2 Q ih (kitB "str" T) := by
  unfold f_isi
  dsimp only [tyN]
  show wp (match kitB "str" T with
    | some b => _
    | none => _) Q E = k_isi2 Q ih (kitB "str" T)
  cases kitB "str" T <;> rfl
theorem wp_isiR {T : String} : wp (f_isi [.ref n, .ty T] ih) Q E = k_isi T Q ih (tyO ih[n]?) := by
  unfold f_isi
  dsimp only [tyN]
  cases ih[n]? with
  | none => rfl
  | some o =>
    cases o with
    | lst xs =>
      show wp (match kitB "list" T with
        | some b => _
        | none => _) Q E = k_isi2 Q ih (kitB "list" T)
      cases kitB "list" T <;> rfl
    | tup xs =>
      show wp (match kitB "tuple" T with
        | some b => _
        | none => _) Q E = k_isi2 Q ih (kitB "tuple" T)
      cases kitB "tuple" T <;> rfl
    | dct =>
      show wp (match kitB "dict" T with
        | some b => _
        | none => _) Q E = k_isi2 Q ih (kitB "dict" T)
      cases kitB "dict" T <;> rfl
    | dk kvs =>
      show wp (match kitB "dict" T with
        | some b => _
        | none => _) Q E = k_isi2 Q ih (kitB "dict" T)
      cases kitB "dict" T <;> rfl
    | _ => rfl
theorem tyO_l : tyO (some (.lst xs)) = some "list" := rfl
theorem tyO_d : tyO (some .dct) = some "dict" := rfl
theorem tyO_t : tyO (some (.tup xs)) = some "tuple" := rfl
theorem kk_isi {T t : String} : k_isi T Q ih (some t) = k_isi2 Q ih (kitB t T) := rfl
theorem kk_isi2 {b : Bool} : k_isi2 Q ih (some b) = Q (.bl b) ih := rfl
end
/-- over a range, with a test -/
theorem lc_rngT {Q : PQ IV} {E : EQ} {env : Env} {ih : IH} {vs : List Nat} {i : Nat} {mt : Env → IH → Res Bool} {me : Env → IH → Res IV} {j : Nat} {lo : Int} (T : Nat → Bool) (F : Nat → IV) (hz : j < 100000)
    (ht : ∀ k, k < j → ∀ ih', Fx ih ih' → wp (mt ((wipeI env vs).set i (some (.int (lo + (k : Int))))) ih') (fun v ih'' => v = T k ∧ ih'' = ih') E0)
    (he : ∀ k, k < j → T k = true → ∀ ih', Fx ih ih' → wp (me ((wipeI env vs).set i (some (.int (lo + (k : Int))))) ih') (fun v ih'' => v = F k ∧ ih'' = ih') E0)
    (q : Q (.ref ih.length) (ih ++ [.lst (((List.range j).filter T).map F)])) : k_lc vs (g_nm i) mt me env Q E (.rng lo 1 j) ih := by
  show wp (lcGo (.rng lo 1 j) (g_nm i) mt me ih.length (wipeI env vs) (j + 1) 0 (ih ++ [.lst []])) Q E
  obtain ⟨acc', ih', e1, e2, e3⟩ := lcGo_ind (s := .rng lo 1 j) (g := g_nm i) (n := mt) (me := me) (d := ih.length) (env := wipeI env vs) j (fun k acc ih' => acc = ((List.range k).filter T).map F ∧ ih' = ih ++ [.lst acc])
    (fun k acc ih2 hk ⟨ha, hi⟩ hd => by
      subst hi
      have e0 : lo + (k : Int) * 1 = lo + (k : Int) := by omega
      refine ⟨.int (lo + (k : Int)), _, _, T k, _, by rw [turn_rng hk, e0], rfl, (ht k hk _ Fx.app).eq, fun hb => ⟨hd, ?_, rfl⟩, fun hb => ⟨_, _, (he k hk hb _ Fx.app).eq, hd, ?_, ?_, ?_⟩⟩
      · rw [List.range_succ, List.filter_append, ha, List.filter_cons, hb]
        simp
      · rw [ha, List.length_map]
        exact Nat.lt_of_le_of_lt (List.length_filter_le _ _) (by rw [List.length_range]; omega)
      · rw [List.range_succ, List.filter_append, ha, List.filter_cons, hb]
        simp
      · rw [set_append_last])
    (fun acc ih _ hd => stop_rng) (j + 1) 0 [] (ih ++ [.lst []]) (Nat.zero_le _) (by omega) ⟨by simp, rfl⟩ (get_new _ _)
  obtain ⟨h1, h2⟩ := e3
  rw [h2, h1] at e1
  exact wp.of e1 q
/-- over a range from 0, with a test -/
theorem lc_rngT0 {Q : PQ IV} {E : EQ} {env : Env} {ih : IH} {vs : List Nat} {i : Nat} {mt : Env → IH → Res Bool} {me : Env → IH → Res IV} {j : Nat} (T : Nat → Bool) (F : Nat → IV) (hz : j < 100000)
    (ht : ∀ k, k < j → ∀ ih', Fx ih ih' → wp (mt ((wipeI env vs).set i (some (.int (k : Int)))) ih') (fun v ih'' => v = T k ∧ ih'' = ih') E0)
    (he : ∀ k, k < j → T k = true → ∀ ih', Fx ih ih' → wp (me ((wipeI env vs).set i (some (.int (k : Int)))) ih') (fun v ih'' => v = F k ∧ ih'' = ih') E0)
    (q : Q (.ref ih.length) (ih ++ [.lst (((List.range j).filter T).map F)])) : k_lc vs (g_nm i) mt me env Q E (.rng 0 1 j) ih :=
  lc_rngT T F hz (fun k hk ih' f => by rw [Int.zero_add]; exact ht k hk ih' f) (fun k hk t ih' f => by rw [Int.zero_add]; exact he k hk t ih' f) q
/-- lists put together -/
theorem wp_cat {Q : PQ IV} {E : EQ} {ih : IH} {n m : Nat} {xs ys : List IV} (h1 : ih[n]? = some (.lst xs)) (h2 : ih[m]? = some (.lst ys)) (hl : xs.length + ys.length ≤ 100000) (q : Q (.ref ih.length) (ih ++ [.lst (xs ++ ys)])) : wp (f_add (.ref n) (.ref m) ih) Q E := by
  have e : f_add (.ref n) (.ref m) ih = .ok (.ref ih.length) (ih ++ [.lst (xs ++ ys)]) := by
    unfold f_add
    dsimp only
    rw [h1, h2]
    dsimp only
    rw [if_pos hl]
  exact wp.of e q
end L3
namespace L3
open PySem PySem.Spec PyProof.Rows L2

noncomputable def b_law_mixed (c : Cs) : Env → IH → RS := (ms_seq (ms_set (g_nm 2) (m_op f_add (m_op f_mod (m_app f_int (m_cons (m_var 0) m_nil)) (m_c (.int 2147483629))) (m_op f_mulA (m_op f_fdiv (m_var 0) (m_c (.int 2147483629))) (m_c (.int 30011)))))
 (ms_seq (ms_set (g_nm 2) (m_op f_mod (m_app f_int (m_cons (m_op f_mulA (m_op f_add (m_op f_add (m_var 2) (m_op f_mulA (m_c (.int 69621)) (m_var 1))) (m_c (.int 1))) (m_c (.int 48271))) m_nil)) (m_c (.int 2147483629))))
 (ms_seq (ms_set (g_nm 2) (m_op f_mod (m_app f_int (m_cons (m_op f_mulA (m_var 2) (m_op f_add (m_op f_add (m_op f_fdiv (m_var 2) (m_c (.int 907))) (m_c (.int 16831))) (m_var 1))) m_nil)) (m_c (.int 2147483587))))
 (ms_ret (m_op f_mod (m_app f_int (m_cons (m_op f_mulA (m_var 2) (m_op f_add (m_op f_fdiv (m_var 2) (m_c (.int 1201))) (m_c (.int 30011)))) m_nil)) (m_c (.int 2147483563)))))))
noncomputable def m_law_mixed (c : Cs) : List IV → IH → Res IV := defRun 3 (b_law_mixed c)
noncomputable def b_law_next (c : Cs) : Env → IH → RS := (ms_seq (ms_if (m_tb (m_op f_ge (m_op f_ix (m_var 0) (m_c (.int 0))) (m_op f_pow (m_c (.int 10)) (m_c (.int 18)))))
 (ms_seq (ms_set (g_nm 2) (m_op f_mod (m_app f_int (m_cons (m_op f_ix (m_var 0) (m_c (.int 0))) m_nil)) (m_var 1)))
 (ms_seq (ms_setL (m_op f_fdiv (m_op f_ix (m_var 0) (m_c (.int 0))) (m_var 1)) (m_var 0) (m_c (.int 0)))
 (ms_ret (m_var 2))))
 ms_pass)
 (ms_seq (ms_setL (m_op f_add (m_op f_ix (m_var 0) (m_c (.int 2))) (m_c (.int 1))) (m_var 0) (m_c (.int 2)))
 (ms_ret (m_op f_mod (m_app f_int (m_cons (m_app (f_call 2 [] (m_law_mixed c)) (m_cons (m_op f_ix (m_var 0) (m_c (.int 1))) (m_cons (m_op f_ix (m_var 0) (m_c (.int 2))) m_nil))) m_nil)) (m_var 1)))))
noncomputable def m_law_next (c : Cs) : List IV → IH → Res IV := defRun 3 (b_law_next c)
noncomputable def b_law_bent (c : Cs) : Env → IH → RS := (ms_seq (ms_if (m_tb (m_op f_eq (m_var 1) (m_app f_lst m_nil)))
 (ms_ret (m_op f_ix (m_app f_lst (m_cons (m_c .non) (m_cons (m_app f_tup m_nil) (m_cons m_dnew (m_cons (m_c (.str "")) (m_cons (m_app f_lst (m_cons (m_c .non) m_nil)) (m_cons (m_app f_lst (m_cons (m_c (.bl true)) m_nil)) (m_cons (m_app f_lst (m_cons (m_var 2) m_nil)) (m_cons (m_app f_lst (m_cons (m_c (.int 0)) m_nil)) (m_cons (m_app f_lst (m_cons (m_app f_lst (m_cons (m_c (.int 1)) m_nil)) m_nil)) (m_cons (m_c (.int 0)) m_nil))))))))))) (m_app (f_call 2 [] (m_law_next c)) (m_cons (m_var 0) (m_cons (m_c (.int 10)) m_nil)))))
 ms_pass)
 (ms_seq (ms_set (g_nm 3) (m_app (f_call 2 [] (m_law_next c)) (m_cons (m_var 0) (m_cons (m_app f_len (m_cons (m_var 1) m_nil)) m_nil))))
 (ms_seq (ms_set (g_nm 4) (m_op f_ix (m_app f_lst (m_cons (m_c .non) (m_cons (m_c (.bl true)) (m_cons (m_c (.str "5")) (m_cons (m_app f_lst (m_cons (m_c (.int 5)) m_nil)) (m_cons (m_op f_add (m_op f_ix (m_var 1) (m_var 3)) (m_c (.int 1))) (m_cons (m_op f_sub (m_op f_ix (m_var 1) (m_var 3)) (m_c (.int 1))) (m_cons (m_var 2) (m_cons (m_c (.int 0)) (m_cons (m_un f_neg (m_c (.int 1))) (m_cons (m_op f_ix (m_var 1) (m_c (.int 0))) m_nil))))))))))) (m_app (f_call 2 [] (m_law_next c)) (m_cons (m_var 0) (m_cons (m_c (.int 10)) m_nil)))))
 (ms_seq (ms_set (g_nm 5) (m_app f_lst (m_cons (m_op f_add (m_sl (m_var 1) m_none (m_some (m_var 3))) (m_sl (m_var 1) (m_some (m_op f_add (m_var 3) (m_c (.int 1)))) m_none)) (m_cons (m_op f_add (m_op f_add (m_sl (m_var 1) m_none (m_some (m_var 3))) (m_app f_lst (m_cons (m_var 4) m_nil))) (m_sl (m_var 1) (m_some (m_op f_add (m_var 3) (m_c (.int 1)))) m_none)) (m_cons (m_op f_add (m_op f_add (m_sl (m_var 1) m_none (m_some (m_var 3))) (m_app f_lst (m_cons (m_var 4) m_nil))) (m_sl (m_var 1) (m_some (m_var 3)) m_none)) m_nil)))))
 (ms_ret (m_op f_ix (m_op f_add (m_op f_add (m_var 5) (m_app f_lst (m_cons (m_app f_tuple (m_cons (m_var 1) m_nil)) (m_cons (m_un f_rev (m_var 1)) (m_cons (m_op f_add (m_var 1) (m_sl (m_var 1) m_none (m_some (m_c (.int 1))))) m_nil))))) (m_var 5)) (m_app (f_call 2 [] (m_law_next c)) (m_cons (m_var 0) (m_cons (m_c (.int 9)) m_nil)))))))))
noncomputable def m_law_bent (c : Cs) : List IV → IH → Res IV := defRun 6 (b_law_bent c)
noncomputable def lb_law_enough_1 (c : Cs) : Env → IH → RS := (ms_seq (ms_if (m_tb (m_op f_gt (m_op f_sub (m_var 6) (m_var 5)) (m_var 0)))
 (ms_ret (m_c (.bl false)))
 ms_pass)
 (ms_set (g_nm 5) (m_var 6)))
noncomputable def le_law_enough_1 (c : Cs) : Env → IH → Res IV := (m_var 6)
noncomputable def ln_law_enough_1 (c : Cs) : Env → IH → Res Bool := (m_tb (m_chain f_le f_le (m_var 7) (m_var 6) (m_var 8)))
noncomputable def lc_law_enough_1 (c : Cs) : Env → IH → Res IV := m_lc [6] (mi_lst (m_op f_add (m_app f_lst (m_cons (m_var 2) m_nil)) (m_var 4))) (g_nm 6) (ln_law_enough_1 c) (le_law_enough_1 c)
noncomputable def lb_law_enough_2 (c : Cs) : Env → IH → RS := (ms_seq (ms_set (g_nm 9) (lc_law_enough_1 c))
 (ms_if (m_and (m_tb (m_chain f_le f_lt (m_var 2) (m_var 8) (m_var 3))) (m_tb (m_op f_eq (m_var 9) (m_app f_lst m_nil))))
 (ms_ret (m_c (.bl false)))
 ms_pass))
noncomputable def b_law_enough (c : Cs) : Env → IH → RS := (ms_seq (ms_set (g_nm 5) (m_var 2))
 (ms_seq (ms_for (mi_lst (m_op f_add (m_var 4) (m_app f_lst (m_cons (m_var 3) m_nil)))) (g_nm 6)
 (lb_law_enough_1 c))
 (ms_seq (ms_for (mi_lst (m_var 1)) (g_tup 2 (g_cons (g_nm 7) (g_cons (g_nm 8) g_nil)))
 (lb_law_enough_2 c))
 (ms_ret (m_c (.bl true))))))
noncomputable def m_law_enough (c : Cs) : List IV → IH → Res IV := defRun 10 (b_law_enough c)
noncomputable def lb_law_is_looks_1 (c : Cs) : Env → IH → RS := (ms_seq (ms_if (m_or (m_not (m_tb (m_app f_isi (m_cons (m_var 4) (m_cons (m_c (.ty "int")) m_nil))))) (m_or (m_tb (m_app f_isi (m_cons (m_var 4) (m_cons (m_c (.ty "bool")) m_nil)))) (m_not (m_tb (m_chain f_lt f_lt (m_var 1) (m_var 4) (m_var 2))))))
 (ms_ret (m_c (.bl false)))
 ms_pass)
 (ms_if (m_and (m_tb (m_op f_gt (m_var 3) (m_c (.int 0)))) (m_tb (m_op f_le (m_var 4) (m_op f_ix (m_var 0) (m_op f_sub (m_var 3) (m_c (.int 1)))))))
 (ms_ret (m_c (.bl false)))
 ms_pass))
noncomputable def b_law_is_looks (c : Cs) : Env → IH → RS := (ms_seq (ms_if (m_not (m_tb (m_app f_isi (m_cons (m_var 0) (m_cons (m_c (.ty "list")) m_nil)))))
 (ms_ret (m_c (.bl false)))
 ms_pass)
 (ms_seq (ms_for (mi_enm (m_cons (m_var 0) m_nil)) (g_tup 2 (g_cons (g_nm 3) (g_cons (g_nm 4) g_nil)))
 (lb_law_is_looks_1 c))
 (ms_ret (m_c (.bl true)))))
noncomputable def m_law_is_looks (c : Cs) : List IV → IH → Res IV := defRun 5 (b_law_is_looks c)
noncomputable def b_law_cell_at (c : Cs) : Env → IH → RS := (ms_seq (ms_if (m_tb (m_op f_lt (m_var 1) (m_app f_len (m_cons (m_var 0) m_nil))))
 (ms_ret (m_op f_ix (m_var 0) (m_var 1)))
 ms_pass)
 (ms_ret (m_c (.int 0))))
noncomputable def m_law_cell_at (c : Cs) : List IV → IH → Res IV := defRun 2 (b_law_cell_at c)
noncomputable def b_law_source (c : Cs) : Env → IH → RS := (ms_seq (ms_if (m_tb (m_op f_lt (m_var 1) (m_app f_len (m_cons (m_var 0) m_nil))))
 (ms_ret (m_app f_lst (m_cons (m_op f_ix (m_var 0) (m_var 1)) (m_cons (m_op f_ix (m_var 0) (m_var 1)) (m_cons (m_c (.int 0)) m_nil)))))
 ms_pass)
 (ms_seq (ms_set (g_nm 2) (m_app (f_call 2 [] (m_law_mixed c)) (m_cons (m_app (f_call 2 [] (m_law_cell_at c)) (m_cons (m_var 0) (m_cons (m_c (.int 0)) m_nil))) (m_cons (m_op f_add (m_c (.int 1000)) (m_var 1)) m_nil))))
 (ms_ret (m_app f_lst (m_cons (m_var 2) (m_cons (m_var 2) (m_cons (m_c (.int 0)) m_nil)))))))
noncomputable def m_law_source (c : Cs) : List IV → IH → Res IV := defRun 3 (b_law_source c)
noncomputable def lb_law_windows_1 (c : Cs) : Env → IH → RS := (ms_seq (ms_set (g_nm 4) (m_app (f_call 2 [] (m_law_next c)) (m_cons (m_var 0) (m_cons (m_var 1) m_nil))))
 (ms_seq (ms_set (g_nm 5) (m_op f_add (m_var 4) (m_op f_ix (m_app f_lst (m_cons (m_c (.int 0)) (m_cons (m_c (.int 1)) (m_cons (m_app (f_call 2 [] (m_law_next c)) (m_cons (m_var 0) (m_cons (m_c (.int 6)) m_nil))) (m_cons (m_app (f_call 2 [] (m_law_next c)) (m_cons (m_var 0) (m_cons (m_var 1) m_nil))) m_nil))))) (m_app (f_call 2 [] (m_law_next c)) (m_cons (m_var 0) (m_cons (m_c (.int 4)) m_nil))))))
 (ms_expr (m_mL f_append (m_var 2) (m_cons (m_app f_tup (m_cons (m_var 4) (m_cons (m_var 5) m_nil))) m_nil)))))
noncomputable def b_law_windows (c : Cs) : Env → IH → RS := (ms_seq (ms_set (g_nm 2) (m_app f_lst m_nil))
 (ms_seq (ms_for (mi_rng1 (m_cons (m_app (f_call 2 [] (m_law_next c)) (m_cons (m_var 0) (m_cons (m_c (.int 7)) m_nil))) m_nil)) (g_nm 3)
 (lb_law_windows_1 c))
 (ms_ret (m_op f_add (m_var 2) (m_sl (m_var 2) m_none (m_some (m_app (f_call 2 [] (m_law_next c)) (m_cons (m_var 0) (m_cons (m_c (.int 2)) m_nil)))))))))
noncomputable def m_law_windows (c : Cs) : List IV → IH → Res IV := defRun 6 (b_law_windows c)
noncomputable def b_is_whole (c : Cs) : Env → IH → RS := (ms_ret (m_andV (m_app f_isi (m_cons (m_var 0) (m_cons (m_c (.ty "int")) m_nil))) (m_andV (m_notV (m_app f_isi (m_cons (m_var 0) (m_cons (m_c (.ty "bool")) m_nil)))) (m_orV (m_op f_isN (m_var 1) (m_c .non)) (m_op f_ge (m_var 0) (m_var 1))))))
noncomputable def m_is_whole (c : Cs) : List IV → IH → Res IV := defRun 2 (b_is_whole c)
noncomputable def b_check_cycle (c : Cs) : Env → IH → RS := (ms_if (m_not (m_tb (m_app (f_call 2 [] (m_is_whole c)) (m_cons (m_var 0) (m_cons (m_var 1) m_nil)))))
 (ms_raise c.NoCycle)
 ms_pass)
noncomputable def m_check_cycle (c : Cs) : List IV → IH → Res IV := defRun 2 (b_check_cycle c)
noncomputable def b_is_stretch (c : Cs) : Env → IH → RS := (ms_ret (m_andV (m_app f_isi (m_cons (m_var 0) (m_cons (m_c (.ty "tuple")) m_nil))) (m_andV (m_op f_eq (m_app f_len (m_cons (m_var 0) m_nil)) (m_c (.int 2))) (m_andV (m_app (f_call 2 [] (m_is_whole c)) (m_cons (m_op f_ix (m_var 0) (m_c (.int 0))) (m_cons (m_c (.int 0)) m_nil))) (m_app (f_call 2 [] (m_is_whole c)) (m_cons (m_op f_ix (m_var 0) (m_c (.int 1))) (m_cons (m_op f_ix (m_var 0) (m_c (.int 0))) m_nil)))))))
noncomputable def m_is_stretch (c : Cs) : List IV → IH → Res IV := defRun 1 (b_is_stretch c)
noncomputable def le_check_frame_1 (c : Cs) : Env → IH → Res IV := (m_app (f_call 1 [] (m_is_stretch c)) (m_cons (m_var 4) m_nil))
noncomputable def lc_check_frame_1 (c : Cs) : Env → IH → Res IV := m_lc [4] (mi_lst (m_var 1)) (g_nm 4) n_yes (le_check_frame_1 c)
noncomputable def b_check_frame (c : Cs) : Env → IH → RS := (ms_seq (ms_if (m_not (m_tb (m_app (f_call 2 [] (m_is_whole c)) (m_cons (m_var 0) (m_cons (m_c (.int 1)) m_nil)))))
 (ms_raise c.NoSpan)
 ms_pass)
 (ms_seq (ms_if (m_or (m_not (m_tb (m_app f_isi (m_cons (m_var 1) (m_cons (m_c (.ty "list")) m_nil))))) (m_not (m_tb (m_app f_all (m_cons (lc_check_frame_1 c) m_nil)))))
 (ms_raise c.NoWindow)
 ms_pass)
 (ms_seq (ms_expr (m_app (f_call 2 [(.int 0)] (m_check_cycle c)) (m_cons (m_var 2) m_nil)))
 (ms_expr (m_app (f_call 2 [] (m_check_cycle c)) (m_cons (m_var 3) (m_cons (m_var 2) m_nil)))))))
noncomputable def m_check_frame (c : Cs) : List IV → IH → Res IV := defRun 5 (b_check_frame c)
noncomputable def le_open_ends_1 (c : Cs) : Env → IH → Res IV := (m_var 4)
noncomputable def ln_open_ends_1 (c : Cs) : Env → IH → Res Bool := (m_and (m_tb (m_op f_gt (m_var 3) (m_var 1))) (m_tb (m_op f_lt (m_var 4) (m_var 2))))
noncomputable def lc_open_ends_1 (c : Cs) : Env → IH → Res IV := m_lc [3, 4] (mi_lst (m_var 0)) (g_tup 2 (g_cons (g_nm 3) (g_cons (g_nm 4) g_nil))) (ln_open_ends_1 c) (le_open_ends_1 c)
noncomputable def b_open_ends (c : Cs) : Env → IH → RS := (ms_ret (lc_open_ends_1 c))
noncomputable def m_open_ends (c : Cs) : List IV → IH → Res IV := defRun 5 (b_open_ends c)
noncomputable def wb_fewest_1 (c : Cs) : Env → IH → RS := (ms_seq (ms_set (g_nm 6) (m_app (f_call 3 [] (m_open_ends c)) (m_cons (m_var 1) (m_cons (m_var 5) (m_cons (m_var 3) m_nil)))))
 (ms_seq (ms_if (m_and (m_tb (m_op f_eq (m_var 6) (m_app f_lst m_nil))) (m_tb (m_op f_le (m_op f_sub (m_var 3) (m_var 5)) (m_var 0))))
 (ms_ret (m_var 4))
 ms_pass)
 (ms_seq (ms_set (g_nm 5) (m_app f_min1 (m_cons (m_op f_add (m_var 6) (m_app f_lst (m_cons (m_op f_add (m_var 5) (m_var 0)) m_nil))) m_nil)))
 (ms_seq (ms_expr (m_mL f_append (m_var 4) (m_cons (m_var 5) m_nil)))
 (ms_if (m_tb (m_op f_gt (m_app f_len (m_cons (m_var 4) m_nil)) (m_c (.int 2000))))
 (ms_raise c.TooMany)
 ms_pass)))))
noncomputable def wt_fewest_1 (c : Cs) : Env → IH → Res Bool := (m_tb (m_c (.bl true)))
noncomputable def b_fewest (c : Cs) : Env → IH → RS := (ms_seq (ms_expr (m_app (f_call 4 [] (m_check_frame c)) (m_cons (m_var 0) (m_cons (m_var 1) (m_cons (m_var 2) (m_cons (m_var 3) m_nil))))))
 (ms_seq (ms_set (g_nm 4) (m_app f_lst m_nil))
 (ms_seq (ms_set (g_nm 5) (m_var 2))
 (ms_while 1000000 (wt_fewest_1 c)
 (wb_fewest_1 c)))))
noncomputable def m_fewest (c : Cs) : List IV → IH → Res IV := defRun 7 (b_fewest c)
noncomputable def le_is_looks_1 (c : Cs) : Env → IH → Res IV := (m_andV (m_app (f_call 2 [] (m_is_whole c)) (m_cons (m_var 3) (m_cons (m_op f_add (m_var 1) (m_c (.int 1))) m_nil))) (m_op f_lt (m_var 3) (m_var 2)))
noncomputable def lc_is_looks_1 (c : Cs) : Env → IH → Res IV := m_lc [3] (mi_lst (m_var 0)) (g_nm 3) n_yes (le_is_looks_1 c)
noncomputable def le_is_looks_2 (c : Cs) : Env → IH → Res IV := (m_op f_lt (m_var 3) (m_var 4))
noncomputable def lc_is_looks_2 (c : Cs) : Env → IH → Res IV := m_lc [3, 4] (mi_zip (m_cons (m_var 0) (m_cons (m_sl (m_var 0) (m_some (m_c (.int 1))) m_none) m_nil))) (g_tup 2 (g_cons (g_nm 3) (g_cons (g_nm 4) g_nil))) n_yes (le_is_looks_2 c)
noncomputable def b_is_looks (c : Cs) : Env → IH → RS := (ms_seq (ms_if (m_or (m_not (m_tb (m_app f_isi (m_cons (m_var 0) (m_cons (m_c (.ty "list")) m_nil))))) (m_not (m_tb (m_app f_all (m_cons (lc_is_looks_1 c) m_nil)))))
 (ms_ret (m_c (.bl false)))
 ms_pass)
 (ms_ret (m_app f_all (m_cons (lc_is_looks_2 c) m_nil))))
noncomputable def m_is_looks (c : Cs) : List IV → IH → Res IV := defRun 5 (b_is_looks c)
noncomputable def le_suffices_1 (c : Cs) : Env → IH → Res IV := (m_op f_le (m_op f_sub (m_var 9) (m_var 8)) (m_var 0))
noncomputable def lc_suffices_1 (c : Cs) : Env → IH → Res IV := m_lc [8, 9] (mi_zip (m_cons (m_var 5) (m_cons (m_sl (m_var 5) (m_some (m_c (.int 1))) m_none) m_nil))) (g_tup 2 (g_cons (g_nm 8) (g_cons (g_nm 9) g_nil))) n_yes (le_suffices_1 c)
noncomputable def le_suffices_2 (c : Cs) : Env → IH → Res IV := (m_app f_tup (m_cons (m_var 10) (m_cons (m_var 11) m_nil)))
noncomputable def ln_suffices_1 (c : Cs) : Env → IH → Res Bool := (m_tb (m_chain f_le f_lt (m_var 2) (m_var 11) (m_var 3)))
noncomputable def lc_suffices_2 (c : Cs) : Env → IH → Res IV := m_lc [10, 11] (mi_lst (m_var 1)) (g_tup 2 (g_cons (g_nm 10) (g_cons (g_nm 11) g_nil))) (ln_suffices_1 c) (le_suffices_2 c)
noncomputable def le_suffices_3 (c : Cs) : Env → IH → Res IV := (m_chain f_le f_le (m_var 10) (m_var 12) (m_var 11))
noncomputable def lc_suffices_3 (c : Cs) : Env → IH → Res IV := m_lc [12] (mi_lst (m_var 6)) (g_nm 12) n_yes (le_suffices_3 c)
noncomputable def le_suffices_4 (c : Cs) : Env → IH → Res IV := (m_app f_any (m_cons (lc_suffices_3 c) m_nil))
noncomputable def lc_suffices_4 (c : Cs) : Env → IH → Res IV := m_lc [10, 11] (mi_lst (m_var 7)) (g_tup 2 (g_cons (g_nm 10) (g_cons (g_nm 11) g_nil))) n_yes (le_suffices_4 c)
noncomputable def b_suffices (c : Cs) : Env → IH → RS := (ms_seq (ms_set (g_nm 5) (m_op f_add (m_op f_add (m_app f_lst (m_cons (m_var 2) m_nil)) (m_var 4)) (m_app f_lst (m_cons (m_var 3) m_nil))))
 (ms_seq (ms_if (m_not (m_tb (m_app f_all (m_cons (lc_suffices_1 c) m_nil))))
 (ms_ret (m_c (.bl false)))
 ms_pass)
 (ms_seq (ms_set (g_nm 6) (m_op f_add (m_app f_lst (m_cons (m_var 2) m_nil)) (m_var 4)))
 (ms_seq (ms_set (g_nm 7) (lc_suffices_2 c))
 (ms_ret (m_app f_all (m_cons (lc_suffices_4 c) m_nil)))))))
noncomputable def m_suffices (c : Cs) : List IV → IH → Res IV := defRun 13 (b_suffices c)
noncomputable def b_is_enough (c : Cs) : Env → IH → RS := (ms_seq (ms_expr (m_app (f_call 4 [] (m_check_frame c)) (m_cons (m_var 0) (m_cons (m_var 1) (m_cons (m_var 2) (m_cons (m_var 3) m_nil))))))
 (ms_ret (m_andV (m_app (f_call 3 [] (m_is_looks c)) (m_cons (m_var 4) (m_cons (m_var 2) (m_cons (m_var 3) m_nil)))) (m_app (f_call 5 [] (m_suffices c)) (m_cons (m_var 0) (m_cons (m_var 1) (m_cons (m_var 2) (m_cons (m_var 3) (m_cons (m_var 4) m_nil)))))))))
noncomputable def m_is_enough (c : Cs) : List IV → IH → Res IV := defRun 5 (b_is_enough c)
noncomputable def le_law_1 (c : Cs) : Env → IH → Res IV := (m_var 15)
noncomputable def ln_law_1 (c : Cs) : Env → IH → Res Bool := (m_tb (m_op f_gt (m_app (f_call 2 [] (m_law_next c)) (m_cons (m_var 2) (m_cons (m_c (.int 3)) m_nil))) (m_c (.int 0))))
noncomputable def lc_law_1 (c : Cs) : Env → IH → Res IV := m_lc [15] (mi_lst (m_var 8)) (g_nm 15) (ln_law_1 c) (le_law_1 c)
noncomputable def lb_law_1 (c : Cs) : Env → IH → RS := (ms_expr (m_mL f_append (m_var 9) (m_cons (m_app (f_call 3 [] (m_law_bent c)) (m_cons (m_var 2) (m_cons (m_op f_ix (m_var 9) (m_app (f_call 2 [] (m_law_next c)) (m_cons (m_var 2) (m_cons (m_c (.int 4)) m_nil)))) (m_cons (m_var 4) m_nil)))) m_nil)))
noncomputable def lb_law_2 (c : Cs) : Env → IH → RS := (ms_seq (ms_set (g_nm 12) (m_app f_repr (m_cons (m_app f_tup (m_cons (m_var 6) (m_cons (m_var 11) m_nil))) m_nil)))
 (ms_seq (ms_set (g_nm 13) (m_app (f_call 3 [] (m_law_is_looks c)) (m_cons (m_var 11) (m_cons (m_var 3) (m_cons (m_var 4) m_nil)))))
 (ms_seq (ms_if (m_tb (m_var 13))
 (ms_set (g_nm 13) (m_app (f_call 5 [] (m_law_enough c)) (m_cons (m_var 5) (m_cons (m_var 6) (m_cons (m_var 3) (m_cons (m_var 4) (m_cons (m_var 11) m_nil)))))))
 ms_pass)
 (ms_seq (ms_set (g_nm 14) (m_app (f_call 5 [] (m_is_enough c)) (m_cons (m_var 5) (m_cons (m_var 6) (m_cons (m_var 3) (m_cons (m_var 4) (m_cons (m_var 11) m_nil)))))))
 (ms_if (m_or (m_tb (m_op f_ne (m_var 14) (m_var 13))) (m_or (m_not (m_tb (m_app f_isi (m_cons (m_var 14) (m_cons (m_c (.ty "bool")) m_nil))))) (m_tb (m_op f_ne (m_app f_repr (m_cons (m_app f_tup (m_cons (m_var 6) (m_cons (m_var 11) m_nil))) m_nil)) (m_var 12)))))
 (ms_ret (m_c (.bl false)))
 ms_pass)))))
noncomputable def lb_law_3 (c : Cs) : Env → IH → RS := (ms_seq (ms_set (g_nm 2) (m_app (f_call 2 [] (m_law_source c)) (m_cons (m_var 0) (m_cons (m_var 1) m_nil))))
 (ms_seq (ms_set (g_nm 3) (m_app (f_call 2 [] (m_law_next c)) (m_cons (m_var 2) (m_cons (m_c (.int 9)) m_nil))))
 (ms_seq (ms_set (g_nm 4) (m_op f_add (m_var 3) (m_app (f_call 2 [] (m_law_next c)) (m_cons (m_var 2) (m_cons (m_c (.int 30)) m_nil)))))
 (ms_seq (ms_set (g_nm 5) (m_op f_ix (m_app f_lst (m_cons (m_op f_add (m_c (.int 1)) (m_app (f_call 2 [] (m_law_next c)) (m_cons (m_var 2) (m_cons (m_c (.int 5)) m_nil)))) (m_cons (m_op f_add (m_c (.int 4)) (m_app (f_call 2 [] (m_law_next c)) (m_cons (m_var 2) (m_cons (m_c (.int 30)) m_nil)))) (m_cons (m_op f_pow (m_c (.int 10)) (m_c (.int 50))) m_nil)))) (m_app (f_call 2 [] (m_law_next c)) (m_cons (m_var 2) (m_cons (m_c (.int 3)) m_nil)))))
 (ms_seq (ms_set (g_nm 6) (m_app (f_call 2 [] (m_law_windows c)) (m_cons (m_var 2) (m_cons (m_op f_add (m_var 4) (m_c (.int 2))) m_nil))))
 (ms_seq (ms_set (g_nm 7) (m_app (f_call 4 [] (m_fewest c)) (m_cons (m_var 5) (m_cons (m_var 6) (m_cons (m_var 3) (m_cons (m_var 4) m_nil))))))
 (ms_seq (ms_set (g_nm 8) (m_app f_lrg (m_cons (m_op f_add (m_var 3) (m_c (.int 1))) (m_cons (m_var 4) m_nil))))
 (ms_seq (ms_set (g_nm 9) (m_app f_lst (m_cons (m_var 7) (m_cons (m_var 8) (m_cons (m_app f_lst m_nil) (m_cons (lc_law_1 c) m_nil))))))
 (ms_seq (ms_for (mi_rng1 (m_cons (m_c (.int 8)) m_nil)) (g_nm 10)
 (lb_law_1 c))
 (ms_for (mi_lst (m_var 9)) (g_nm 11)
 (lb_law_2 c)))))))))))
noncomputable def b_law (c : Cs) : Env → IH → RS := (ms_seq (ms_for (mi_rng1 (m_cons (m_app f_max2 (m_cons (m_c (.int 1)) (m_cons (m_app f_min2 (m_cons (m_c (.int 8)) (m_cons (m_app f_len (m_cons (m_var 0) m_nil)) m_nil))) m_nil))) m_nil)) (g_nm 1)
 (lb_law_3 c))
 (ms_ret (m_c (.bl true))))
noncomputable def m_law (c : Cs) : List IV → IH → Res IV := defRun 16 (b_law c)
end L3
/-! L5: the draws that every law makes. -/
namespace L3
open PySem PySem.Spec PyProof.Rows L2
local macro_rules | `(tactic| walk_at "run") => `(tactic| simp only [m_op, m_var, m_c, m_un, m_nil, m_cons, m_if, m_and, m_or, m_not, m_tb, m_andV, m_orV, m_notV, m_app, m_sl, m_none, m_some, m_mL, m_mL0, ms_set, ms_expr, ms_ret, ms_retN, ms_pass, ms_brk, ms_cont, ms_if, ms_seq, ms_aug, ms_par, ms_setL, ms_raise,
  Res.bind_ok, Res.bind_exc, Res.bind_stuck, Res.stm_ok, Res.stm_exc, Res.stm_stuck, RS.seq_next, RS.seq_ret, RS.seq_brk, RS.seq_cont, RS.seq_exc, RS.seq_stuck, RS.out_ret, RS.out_next, RS.out_exc,
  startI_cons, startI_nil, rep_succ, rep_zero, List.getElem?_cons_zero, List.getElem?_cons_succ, List.set_cons_zero, List.set_cons_succ, defRun, g_nm, f_call, List.append_nil, List.nil_append, List.cons_append, List.length_cons, List.length_nil, if_true, if_false,
  a_int, a_add, a_addI, a_sub, a_neg, a_lt, a_le, a_gt, a_ge, a_max2, a_min2, a_abs, a_isN, a_notN, a_mul, a_mulI, a_fdiv, a_mod, a_shl, a_shr, a_pow, a_lst, a_tup, f_ix, f_len, f_list, f_append, f_setL, isLst, atI_0, atI_1, atI_2, atI_3, atI_4, atI_5, atI_6, atI_7, atI_8, atI_9, atI_10, atI_11, atI_12, ixN_30, ixN_31, ixN_32, Int.toNat_zero, Int.reduceToNat, Int.reduceNeg, xs_lst, xs_tup, xs_ro, xs_rot, isL_lst, isL_tup, isL_ro, isL_rot,
  Bool.false_eq_true, Bool.true_eq_false, Bool.not_true, Bool.not_false, decide_true, decide_false, ↓reduceIte, Int.reduceLT, Int.reduceLE, Nat.reduceLT, Nat.reduceLeDiff, Nat.reduceAdd, *])
/-- the script stands at 0 -/
def Scr (ns : List Int) (ih : IH) : Prop := ih[0]? = some (.ro (ns.map IV.int))
theorem atI_map {ns : List Int} {k : Nat} {i : Int} (hi : i = (k : Int)) (h : k < ns.length) : atI (ns.map IV.int) i = some (.int (ns.getD k 0)) := by
  refine atI_ok hi ?_
  rw [List.getElem?_map, List.getElem?_eq_getElem h, List.getD_eq_getElem?_getD, List.getElem?_eq_getElem h]
  rfl
theorem run_cell_at (c : Cs) {ns : List Int} {k : Nat} {ih : IH} (h : Scr ns ih) : m_law_cell_at c [.ref 0, .int (k : Int)] ih = .ok (.int (ns.getD k 0)) ih := by
  have e : (ns.map IV.int).length = ns.length := List.length_map _
  unfold m_law_cell_at b_law_cell_at
  have h' : ih[0]? = some (.ro (ns.map IV.int)) := h
  clear h
  by_cases hk : k < ns.length
  · have e1 : decide ((k : Int) < (ns.length : Int)) = true := decide_eq_true (by omega)
    have e2 := atI_map (i := (k : Int)) rfl hk
    clear hk
    walk_at "run"
  · have e1 : decide ((k : Int) < (ns.length : Int)) = false := decide_eq_false (by omega)
    have e2 : ns.getD k 0 = 0 := by
      rw [List.getD_eq_getElem?_getD, List.getElem?_eq_none (by omega)]
      rfl
    clear hk
    walk_at "run"
theorem lit {i : Int} (n : Nat) (h : i.natAbs < 2 ^ n := by decide) : B n i := h
theorem run_mixed (c : Cs) {a k : Int} (ih : IH) (ha : B 1100000 a) (hk : B 64 k) : ∃ v : Int, m_law_mixed c [.int a, .int k] ih = .ok (.int v) ih ∧ 0 ≤ v ∧ v < 2147483563 := by
  unfold m_law_mixed b_law_mixed
  have h1 : B 31 (a % 2147483629) := B.mod (by decide) (lit 31)
  have h2 : B 1100000 (a / 2147483629) := B.div ha (by decide)
  have h3 : B 1100016 (a / 2147483629 * 30011) := B.mul (m := 16) h2 (lit 16)
  have h4 : B 1100017 (a % 2147483629 + a / 2147483629 * 30011) := B.add (h1.mono (by decide)) h3
  have h5 : B 81 (69621 * k) := B.mul (n := 17) (lit 17) hk
  have h6 : B 1100018 (a % 2147483629 + a / 2147483629 * 30011 + 69621 * k) := B.add h4 (h5.mono (by decide))
  have h7 : B 1100019 (a % 2147483629 + a / 2147483629 * 30011 + 69621 * k + 1) := B.add h6 ((lit 1 : B 1 1).mono (by decide))
  have c1 : cDiv a 2147483629 = true := cDiv_of (by decide) (lit 32) (by decide) (by decide)
  have c2 : cMul (a / 2147483629) 30011 = true := B.cmul h2 (lit 16 : B 16 30011) (by decide)
  have c3 : cMul 69621 k = true := B.cmul (lit 17 : B 17 69621) hk (by decide)
  have c4 : cMul (a % 2147483629 + a / 2147483629 * 30011 + 69621 * k + 1) 48271 = true := B.cmul h7 (lit 16 : B 16 48271) (by decide)
  obtain ⟨x, ex⟩ : ∃ x, (a % 2147483629 + a / 2147483629 * 30011 + 69621 * k + 1) * 48271 % 2147483629 = x := ⟨_, rfl⟩
  have g1 : B 31 x := ex ▸ B.mod (by decide) (lit 31)
  have g2 : B 66 (x / 907 + 16831 + k) := B.add (B.add (n := 64) ((B.div g1 (by decide)).mono (by decide)) ((lit 15 : B 15 16831).mono (by decide))) (hk.mono (by decide))
  have c5 : cDiv x 907 = true := cDiv_of (by decide) (lit 10 : B 10 907) (by decide) (by decide)
  have c6 : cMul x (x / 907 + 16831 + k) = true := B.cmul g1 g2 (by decide)
  obtain ⟨y, ey⟩ : ∃ y, x * (x / 907 + 16831 + k) % 2147483587 = y := ⟨_, rfl⟩
  have k1 : B 31 y := ey ▸ B.mod (by decide) (lit 31)
  have k2 : B 32 (y / 1201 + 30011) := B.add ((B.div k1 (by decide)).mono (by decide)) ((lit 15 : B 15 30011).mono (by decide))
  have c7 : cDiv y 1201 = true := cDiv_of (by decide) (lit 11 : B 11 1201) (by decide) (by decide)
  have c8 : cMul y (y / 1201 + 30011) = true := B.cmul k1 k2 (by decide)
  clear h1 h2 h3 h4 h5 h6 h7 g1 g2 k1 k2 ha hk
  walk_at "run"
  exact ⟨_, rfl, Int.emod_nonneg _ (by decide), Int.emod_lt_of_pos _ (by decide)⟩
/-- a source of draws at p; so many draws were made off it at most -/
def Src0 (p : Nat) (m : Nat) (ih : IH) : Prop := ∃ a b k : Int, ih[p]? = some (.lst [.int a, .int b, .int k]) ∧ B 1100000 a ∧ B 1100000 b ∧ 0 ≤ k ∧ k ≤ (m : Int)
theorem Src0.mono {p m n : Nat} {ih : IH} (h : Src0 p m ih) (e : m ≤ n) : Src0 p n ih := by
  obtain ⟨a, b, k, h1, h2, h3, h4, h5⟩ := h
  exact ⟨a, b, k, h1, h2, h3, h4, by omega⟩
theorem Src0.ext {p m : Nat} {ih ih' : IH} (h : Src0 p m ih) (e : Ext ih ih') : Src0 p m ih' := by
  obtain ⟨a, b, k, h1, h2⟩ := h
  exact ⟨a, b, k, e _ _ h1, h2⟩
theorem B64 {k : Int} {m : Nat} (h0 : 0 ≤ k) (h : k ≤ (m : Int)) (hm : m ≤ 1000000000) : B 64 k := B.lt h0 (by omega)
theorem at3_0 {a b k : IV} : atI [a, b, k] (0 : Int) = some a := rfl
theorem at3_1 {a b k : IV} : atI [a, b, k] (1 : Int) = some b := rfl
theorem at3_2 {a b k : IV} : atI [a, b, k] (2 : Int) = some k := rfl
theorem run_next (c : Cs) {p m : Nat} {many : Int} {ih : IH} (h : Src0 p m ih) (hm : m ≤ 1000000) (h0 : 0 < many) (hb : B 8000 many) : ∃ (v : Int) (ih' : IH), m_law_next c [.ref p, .int many] ih = .ok (.int v) ih' ∧ 0 ≤ v ∧ v < many ∧ Src0 p (m + 1) ih' ∧ ExtP p ih ih' ∧ ih'.length = ih.length := by
  obtain ⟨a, b, k, h1, ha, hbb, hk0, hk⟩ := h
  unfold m_law_next b_law_next
  have p1 : cPow 10 18 = true := by decide
  by_cases hc : (10 : Int) ^ 18 ≤ a
  · refine ⟨a % many, ih.set p (.lst [.int (a / many), .int b, .int k]), ?_, Int.emod_nonneg _ (Int.ne_of_gt h0), Int.emod_lt_of_pos _ h0, ⟨_, b, k, get_set h1, B.div ha h0, hbb, hk0, by omega⟩, ExtP.set _ _ _, List.length_set⟩
    have c1 := decide_eq_true hc
    have c2 : cDiv a many = true := cDiv_of h0 hb (by decide) (by decide)
    clear hc hb ha hbb hk0 hk hm
    walk_at "run"
  · obtain ⟨v, e3, v0, v1⟩ := run_mixed c (ih.set p (MO.lst [.int a, .int b, .int (k + 1)])) hbb (B64 (k := k + 1) (m := m + 1) (by omega) (by omega) (by omega))
    have e2 := get_set (o := MO.lst [.int a, .int b, .int (k + 1)]) h1
    refine ⟨v % many, ih.set p (MO.lst [.int a, .int b, .int (k + 1)]), ?_, Int.emod_nonneg _ (Int.ne_of_gt h0), Int.emod_lt_of_pos _ h0, ⟨a, b, k + 1, e2, ha, hbb, by omega, by omega⟩, ExtP.set _ _ _, List.length_set⟩
    have c1 := decide_eq_false hc
    clear hc hb ha hbb hk0 hk hm v0 v1
    walk_at "run"
theorem run_source (c : Cs) {ns : List Int} {k : Nat} {ih : IH} (h : Scr ns ih) (hb : ∀ z ∈ ns, ibits z ≤ 1048576) (hk : k ≤ 1000000) : ∃ ih', m_law_source c [.ref 0, .int (k : Int)] ih = .ok (.ref ih.length) ih' ∧ Src0 ih.length 0 ih' ∧ Ext ih ih' ∧ ih'.length = ih.length + 1 := by
  have e : (MO.ro (ns.map IV.int)).xs.length = ns.length := List.length_map _
  have bz : ∀ j, B 1100000 (ns.getD j 0) := fun j => by
    by_cases hj : j < ns.length
    · rw [List.getD_eq_getElem?_getD, List.getElem?_eq_getElem hj]
      exact (B.of_ib (hb _ (List.getElem_mem hj))).mono (by decide)
    · rw [List.getD_eq_getElem?_getD, List.getElem?_eq_none (by omega)]
      exact lit 1100000 (Nat.two_pow_pos _)
  unfold m_law_source b_law_source
  have h' : ih[0]? = some (.ro (ns.map IV.int)) := h
  have e : (ns.map IV.int).length = ns.length := List.length_map _
  have l3 : ∀ a b k : IV, [a, b, k].length ≤ 100000 := fun _ _ _ => by simp
  by_cases hk2 : k < ns.length
  · refine ⟨_, ?_, ⟨_, _, 0, get_new _ _, bz k, bz k, by omega, by omega⟩, Ext.app _ _, by simp⟩
    have e1 : decide ((k : Int) < (ns.length : Int)) = true := decide_eq_true (by omega)
    have e2 := atI_map (i := (k : Int)) rfl hk2
    clear hk hk2 h bz hb
    walk_at "run"
  · obtain ⟨v, e3, v0, v1⟩ := run_mixed c (a := ns.getD 0 0) (k := 1000 + (k : Int)) ih (bz 0) (B.lt (by omega) (by omega))
    refine ⟨_, ?_, ⟨v, v, 0, get_new _ _, (B.lt (n := 40) v0 (by omega)).mono (by decide), (B.lt (n := 40) v0 (by omega)).mono (by decide), by omega, by omega⟩, Ext.app _ _, by simp⟩
    have e1 : decide ((k : Int) < (ns.length : Int)) = false := decide_eq_false (by omega)
    have e4 : m_law_cell_at c [.ref 0, .int 0] ih = .ok (.int (ns.getD 0 0)) ih := run_cell_at (k := 0) c h
    clear hk hk2 h bz hb v0 v1
    walk_at "run"
end L3
/-! D1: the draws, backwards. -/
namespace L3
open PySem PySem.Spec PyProof.Rows L2
theorem ExtP.fr {p : Nat} {a b : IH} (h : ExtP p a b) : Fr p a b := fun n l ne => by
  rw [List.getElem?_eq_getElem l]
  exact h n _ ne (List.getElem?_eq_getElem l)
theorem Src0.lt {p m : Nat} {ih : IH} (h : Src0 p m ih) : p < ih.length := by
  obtain ⟨_, _, _, g, _⟩ := h
  exact lt_of_get g
theorem Src0.fx {p m : Nat} {a b : IH} (h : Src0 p m a) (e : Fx a b) : Src0 p m b := h.ext e.ext
theorem Src0.app {p m : Nat} {a : IH} {o : MO} (h : Src0 p m a) : Src0 p m (a ++ [o]) := h.fx Fx.app
theorem Src0.set {p m n : Nat} {a : IH} {o : MO} (h : Src0 p m a) (e : n ≠ p) : Src0 p m (a.set n o) := by
  obtain ⟨x, y, k, g, r⟩ := h
  exact ⟨x, y, k, by rw [g_sne e]; exact g, r⟩
theorem w_next (c : Cs) {p m : Nat} {many : Int} {ih : IH} {Q : PQ IV} {E : EQ} (h : Src0 p m ih) (h0 : 0 < many) (hb : B 8000 many) (hm : m ≤ 1000000)
    (k : ∀ v ih', 0 ≤ v → v < many → Src0 p (m + 1) ih' → Fr p ih ih' → ih'.length = ih.length → Q (.int v) ih') : wp (m_law_next c [.ref p, .int many] ih) Q E := by
  obtain ⟨v, ih', e, a, b, s, x, l⟩ := run_next c h hm h0 hb
  exact wp.of e (k v ih' a b s x.fr l)
theorem w_source (c : Cs) {ns : List Int} {k : Nat} {ih : IH} {Q : PQ IV} {E : EQ} (h : Scr ns ih) (hb : ∀ z ∈ ns, ibits z ≤ 1048576) (hk : k ≤ 1000000)
    (q : ∀ ih', Src0 ih.length 0 ih' → Fx ih ih' → ih'.length = ih.length + 1 → Q (.ref ih.length) ih') : wp (m_law_source c [.ref 0, .int (k : Int)] ih) Q E := by
  obtain ⟨ih', e, s, x, l⟩ := run_source c h hb hk
  exact wp.of e (q ih' s x.fx l)
end L3
/-! L9: comprehensions whose parts allocate or draw; rows of pairs. -/
namespace L3
open PySem PySem.Spec PyProof.Rows L2
section
variable {Q : PQ IV} {E : EQ} {env : Env} {ih : IH}
/-- a comprehension, with an invariant -/
theorem lc_gen {vs : List Nat} {g : IV → Env → IH → Option Env} {mt : Env → IH → Res Bool} {me : Env → IH → Res IV} {s : Src} (k : Nat) (P : Nat → List IV → IH → Prop) (hk : k ≤ s.size ih) (h0 : P 0 [] (ih ++ [.lst []]))
    (turn : ∀ i acc ih', i < k → P i acc ih' → ih'[ih.length]? = some (.lst acc) → ∃ v ih1 env1, s.turn i ih' = .item v ih1 ∧ g v (wipeI env vs) ih1 = some env1 ∧ wp (mt env1 ih1) (fun b ih2 => (b = false → ih2[ih.length]? = some (.lst acc) ∧ P (i + 1) acc ih2) ∧
      (b = true → wp (me env1 ih2) (fun y ih3 => ih3[ih.length]? = some (.lst acc) ∧ acc.length < 100000 ∧ P (i + 1) (acc ++ [y]) (ih3.set ih.length (.lst (acc ++ [y])))) E0)) E0)
    (stop : ∀ acc ih', P k acc ih' → ih'[ih.length]? = some (.lst acc) → s.turn k ih' = .stop)
    (fin : ∀ acc ih', P k acc ih' → ih'[ih.length]? = some (.lst acc) → Q (.ref ih.length) ih') : k_lc vs g mt me env Q E s ih := by
  obtain ⟨acc', ih', e1, e2, e3⟩ := lcGo_ind (s := s) (g := g) (n := mt) (me := me) (d := ih.length) (env := wipeI env vs) k P
    (fun i acc ih' hi hp hd => by
      obtain ⟨v, ih1, env1, t1, t2, t3⟩ := turn i acc ih' hi hp hd
      obtain ⟨b, ih2, e1, e2, e3⟩ := t3.out
      refine ⟨v, ih1, env1, b, ih2, t1, t2, e1, e2, fun hb => ?_⟩
      obtain ⟨y, ih3, f1, f2, f3, f4⟩ := (e3 hb).out
      exact ⟨y, ih3, f1, f2, f3, f4⟩)
    stop (s.size ih + 1) 0 [] (ih ++ [.lst []]) (Nat.zero_le _) (by omega) h0 (get_new _ _)
  exact wp.of e1 (fin acc' ih' e3 e2)
/-- over a range, with a test that allocates -/
theorem lc_rngA {vs : List Nat} {i : Nat} {mt : Env → IH → Res Bool} {me : Env → IH → Res IV} {j : Nat} {lo : Int} (T : Nat → Bool) (F : Nat → IV) (hz : j < 100000)
    (ht : ∀ k, k < j → ∀ ih', Fx ih ih' → ih.length ≤ ih'.length → wp (mt ((wipeI env vs).set i (some (.int (lo + (k : Int))))) ih') (fun v ih'' => v = T k ∧ Fx ih' ih'' ∧ ih'.length ≤ ih''.length) E0)
    (he : ∀ k, k < j → T k = true → ∀ ih', Fx ih ih' → ih.length ≤ ih'.length → wp (me ((wipeI env vs).set i (some (.int (lo + (k : Int))))) ih') (fun v ih'' => v = F k ∧ Fx ih' ih'' ∧ ih'.length ≤ ih''.length) E0)
    (q : ∀ ih', Fx ih ih' → ih.length < ih'.length → ih'[ih.length]? = some (.lst (((List.range j).filter T).map F)) → Q (.ref ih.length) ih') : k_lc vs (g_nm i) mt me env Q E (.rng lo 1 j) ih := by
  refine lc_gen j (fun k acc ih' => acc = ((List.range k).filter T).map F ∧ Fx ih ih' ∧ ih.length < ih'.length) (Nat.le_refl _) ⟨by simp, Fx.app, by simp⟩ (fun k acc ih' hk ⟨ha, fx, lx⟩ hd => ?_) (fun acc ih' _ _ => stop_rng) fun acc ih' ⟨ha, fx, lx⟩ hd => q ih' fx lx (by rw [← ha]; exact hd)
  have e0 : lo + (k : Int) * 1 = lo + (k : Int) := by omega
  refine ⟨.int (lo + (k : Int)), _, _, by rw [turn_rng hk, e0], rfl, (ht k hk ih' fx (by omega)).imp (fun v ih2 ⟨hv, f2, l2⟩ => ⟨fun hb => ⟨by rw [f2 _ lx]; exact hd, ?_, fx.trans f2 (by omega), by omega⟩, fun hb => (he k hk (by rw [← hv]; exact hb) ih2 (fx.trans f2 (by omega)) (by omega)).imp (fun y ih3 ⟨hy, f3, l3⟩ => ⟨by rw [f3 _ (by omega), f2 _ lx]; exact hd, ?_, ?_, ?_, ?_⟩) fun _ _ h => h⟩) fun _ _ h => h⟩
  · rw [List.range_succ, List.filter_append, ha, List.filter_cons, ← hv, hb]
    simp
  · rw [ha, List.length_map]
    exact Nat.lt_of_le_of_lt (List.length_filter_le _ _) (by rw [List.length_range]; omega)
  · rw [List.range_succ, List.filter_append, ha, List.filter_cons, ← hv, hb, hy]
    simp
  · exact ((fx.trans f2 (by omega)).trans f3 (by omega)).set (Nat.le_refl _)
  · rw [List.length_set]
    omega
end
/-- rows: references to pairs of ints -/
def PR (ih : IH) : List IV → List (Int × Int) → Prop
  | [], [] => True
  | .ref t :: xs, r :: rs => ih[t]? = some (.tup [.int r.1, .int r.2]) ∧ PR ih xs rs
  | _, _ => False
theorem PR.len {ih : IH} : ∀ {xs : List IV} {rs : List (Int × Int)}, PR ih xs rs → xs.length = rs.length
  | [], [], _ => rfl
  | .ref t :: xs, r :: rs, h => by
    rw [List.length_cons, List.length_cons, PR.len h.2]
theorem PR.mono {a b : IH} (f : ∀ (t : Nat) (i j : Int), a[t]? = some (.tup [.int i, .int j]) → b[t]? = some (.tup [.int i, .int j])) : ∀ {xs : List IV} {rs : List (Int × Int)}, PR a xs rs → PR b xs rs
  | [], [], _ => trivial
  | .ref t :: xs, r :: rs, h => ⟨f _ _ _ h.1, PR.mono f h.2⟩
theorem PR.fx {a b : IH} {xs : List IV} {rs : List (Int × Int)} (h : PR a xs rs) (f : Fx a b) : PR b xs rs := h.mono fun t i j e => by rw [f t (lt_of_get e)]; exact e
theorem PR.fr {a b : IH} {p : Nat} {o : List IV} {xs : List IV} {rs : List (Int × Int)} (h : PR a xs rs) (f : Fr p a b) (hp : a[p]? = some (.lst o)) : PR b xs rs := h.mono fun t i j e => by
  by_cases ht : t = p
  · subst ht
    rw [hp] at e
    cases e
  · rw [f t (lt_of_get e) ht]
    exact e
theorem PR.get {ih : IH} : ∀ {xs : List IV} {rs : List (Int × Int)} {i : Nat} {x : IV}, PR ih xs rs → xs[i]? = some x → ∃ t r, x = .ref t ∧ rs[i]? = some r ∧ ih[t]? = some (.tup [.int r.1, .int r.2])
  | .ref t :: xs, r :: rs, 0, x, h, e => ⟨t, r, (Option.some.inj e).symm, rfl, h.1⟩
  | .ref t :: xs, r :: rs, i + 1, x, h, e => PR.get (i := i) h.2 e
theorem PR.take {ih : IH} : ∀ {xs : List IV} {rs : List (Int × Int)} (n : Nat), PR ih xs rs → PR ih (xs.take n) (rs.take n)
  | _, _, 0, _ => trivial
  | [], [], n + 1, _ => trivial
  | .ref t :: xs, r :: rs, n + 1, h => ⟨h.1, PR.take n h.2⟩
theorem PR.app {ih : IH} {t : Nat} {r : Int × Int} (ht : ih[t]? = some (.tup [.int r.1, .int r.2])) : ∀ {xs : List IV} {rs : List (Int × Int)}, PR ih xs rs → PR ih (xs ++ [.ref t]) (rs ++ [r])
  | [], [], _ => ⟨ht, trivial⟩
  | .ref _ :: xs, _ :: rs, h => ⟨h.1, PR.app ht h.2⟩
theorem PR.append {ih : IH} : ∀ {xs ys : List IV} {rs ss : List (Int × Int)}, PR ih xs rs → PR ih ys ss → PR ih (xs ++ ys) (rs ++ ss)
  | [], _, [], _, _, k => k
  | .ref _ :: xs, _, _ :: rs, _, h, k => ⟨h.1, PR.append h.2 k⟩
theorem g_pairR {i j n : Nat} {v w : IV} {env : Env} {ih : IH} (h : ih[n]? = some (.tup [v, w])) : g_tup 2 (g_cons (g_nm i) (g_cons (g_nm j) g_nil)) (.ref n) env ih = some ((env.set i (some v)).set j (some w)) := by
  unfold g_tup
  dsimp only
  rw [h]
  rfl
/-- [me for a, b in rows], the element leaves the heap -/
theorem lc_rows {Q : PQ IV} {E : EQ} {env : Env} {ih : IH} {vs : List Nat} {i j n : Nat} {me : Env → IH → Res IV} {o : MO} {rs : List (Int × Int)} (F : Int × Int → IV) (ho : ih[n]? = some o) (hl : o.isL = true) (pr : PR ih o.xs rs) (hz : rs.length < 100000)
    (he : ∀ r ∈ rs, ∀ ih', Fx ih ih' → wp (me (((wipeI env vs).set i (some (.int r.1))).set j (some (.int r.2))) ih') (fun v ih'' => v = F r ∧ ih'' = ih') E0)
    (q : Q (.ref ih.length) (ih ++ [.lst (rs.map F)])) : k_lc vs (g_tup 2 (g_cons (g_nm i) (g_cons (g_nm j) g_nil))) n_yes me env Q E (.lst n) ih := by
  have hs : (Src.lst n).size ih = o.xs.length := by
    unfold Src.size
    dsimp only
    rw [ho]
  refine lc_gen o.xs.length (fun k acc ih' => acc = (rs.take k).map F ∧ ih' = ih ++ [.lst acc]) (by rw [hs]; exact Nat.le_refl _) ⟨by simp, rfl⟩ (fun k acc ih' hk ⟨ha, ei⟩ hd => ?_) (fun acc ih' ⟨_, ei⟩ _ => ?_) fun acc ih' ⟨ha, ei⟩ hd => ?_
  · subst ei
    have hx : o.xs[k]? = some o.xs[k] := List.getElem?_eq_getElem hk
    obtain ⟨t, r, e1, e2, e3⟩ := pr.get hx
    have ho' : (ih ++ [MO.lst acc])[n]? = some o := by rw [g_old (lt_of_get ho)]; exact ho
    have e3' : (ih ++ [MO.lst acc])[t]? = some (.tup [.int r.1, .int r.2]) := by rw [g_old (lt_of_get e3)]; exact e3
    have hr : r ∈ rs := List.mem_of_getElem? e2
    have hkr : k < rs.length := (List.getElem?_eq_some_iff.mp e2).1
    refine ⟨.ref t, _, _, by rw [turn_lst ho' hl hx, e1], g_pairR e3', ⟨(fun h => nomatch h), fun _ => wp.imp (he r hr _ Fx.app) (fun v ih2 hvi => ?_) fun _ _ h => h⟩⟩
    obtain ⟨hv, hi⟩ := hvi
    subst hi hv
    refine ⟨hd, ?_, ?_, ?_⟩
    · rw [ha, List.length_map, List.length_take]
      omega
    · rw [List.take_add_one, e2, ha, List.map_append]
      rfl
    · rw [set_append_last]
  · subst ei
    exact stop_lst (by rw [g_old (lt_of_get ho)]; exact ho) hl
  · rw [pr.len, List.take_length] at ha
    rw [ei, ha]
    exact q
/-- sorted of two rows -/
theorem wp_sortP2 {Q : PQ IV} {E : EQ} {ih : IH} {n s t : Nat} {a b x y : Int} (h : ih[n]? = some (.lst [.ref s, .ref t])) (hs : ih[s]? = some (.tup [.int a, .int b])) (ht : ih[t]? = some (.tup [.int x, .int y]))
    (q1 : (x < a ∨ (x = a ∧ y < b)) → Q (.ref ih.length) (ih ++ [.lst [.ref t, .ref s]])) (q2 : ¬ (x < a ∨ (x = a ∧ y < b)) → Q (.ref ih.length) (ih ++ [.lst [.ref s, .ref t]])) : wp (f_sortP [.ref n] ih) Q E := by
  have k1 : kI ih (.ref s) = (a, b) := by
    unfold kI
    dsimp only
    rw [hs]
  have k2 : kI ih (.ref t) = (x, y) := by
    unfold kI
    dsimp only
    rw [ht]
  have p1 : isPr ih (.ref s) = true := by
    unfold isPr
    dsimp only
    rw [hs]
  have p2 : isPr ih (.ref t) = true := by
    unfold isPr
    dsimp only
    rw [ht]
  have e : f_sortP [.ref n] ih = .ok (.ref ih.length) (ih ++ [.lst (isB (ltI ih) [] [.ref s, .ref t])]) := by
    unfold f_sortP
    dsimp only
    rw [h]
    dsimp only
    rw [if_pos ⟨rfl, by rw [xs_lst]; simp [p1, p2]⟩]
    rfl
  refine wp.of e ?_
  have e2 : isB (ltI ih) [] [.ref s, .ref t] = if SrtO.lexB (x, y) (a, b) = true then [.ref t, .ref s] else [.ref s, .ref t] := by
    show insB (ltI ih) (.ref t) [.ref s] = _
    unfold insB
    show (if SrtO.lexB (kI ih (.ref t)) (kI ih (.ref s)) = true then _ else _) = _
    rw [k1, k2]
    rfl
  rw [e2]
  by_cases hh : SrtO.lexB (x, y) (a, b) = true
  · rw [if_pos hh]
    exact q1 (by simpa using SrtO.lexB_iff.mp hh)
  · rw [if_neg hh]
    refine q2 fun hc => hh (SrtO.lexB_iff.mpr (by simpa using hc))
theorem wp_max1 {Q : PQ IV} {E : EQ} {ih : IH} {n : Nat} (ns : List Int) (h : ih[n]? = some (.lst (ns.map IV.int))) (hn : 0 < ns.length) (q : ∀ m, m ∈ ns → (∀ y ∈ ns, y ≤ m) → Q (.int m) ih) : wp (f_max1 [.ref n] ih) Q E := by
  have e : f_max1 [.ref n] ih = .ok (.int (maxI ns)) ih := by
    unfold f_max1 f_ints
    dsimp only
    rw [h]
    dsimp only
    rw [if_pos (isL_lst _), xs_lst, ints?_map]
    dsimp only
    rw [if_pos hn]
  exact wp.of e (q _ (maxI_spec hn).1 (maxI_spec hn).2)
theorem wp_min1 {Q : PQ IV} {E : EQ} {ih : IH} {n : Nat} (ns : List Int) (h : ih[n]? = some (.lst (ns.map IV.int))) (hn : 0 < ns.length) (q : ∀ m, m ∈ ns → (∀ y ∈ ns, m ≤ y) → Q (.int m) ih) : wp (f_min1 [.ref n] ih) Q E := by
  have e : f_min1 [.ref n] ih = .ok (.int (minI ns)) ih := by
    unfold f_min1 f_ints
    dsimp only
    rw [h]
    dsimp only
    rw [if_pos (isL_lst _), xs_lst, ints?_map]
    dsimp only
    rw [if_pos hn]
  exact wp.of e (q _ (minI_spec hn).1 (minI_spec hn).2)
/-! ### an int or None -/
def ofO : Option Int → IV
  | some i => .int i
  | none => .non
def oD : Option Int → PyData
  | some i => .int i
  | none => .none
theorem Is.ofO {ih : IH} : ∀ x : Option Int, Is ih (ofO x) (oD x)
  | some i => .int i
  | none => .non
theorem shaped_oD : ∀ x : Option Int, SeqAt.shaped (oD x) = true
  | some i => shaped_int i
  | none => by simp [oD, SeqAt.shaped, PyData.canLay0, PyData.depth]
theorem Is.fx {a b : IH} {d : PyData} {v : IV} (h : Is a v d) (f : Fx a b) : Is b v d := Is.ext f.ext d v h
theorem cutI_take {xs : List IV} {k : Nat} (h : k ≤ xs.length) : cutI xs none (some (k : Int)) = xs.take k := by
  unfold cutI
  rw [HT.sIx_none]
  have e : HT.sIx xs.length xs.length (some (k : Int)) = k := by
    have h2 := HT.clip_eq (k : Int) xs.length xs.length
    rw [if_neg (by omega)] at h2
    omega
  rw [e, List.drop_zero, Nat.sub_zero]
def prD (r : Int × Int) : PyData := .tuple [.int r.1, .int r.2]
theorem canLay_prs : ∀ rs : List (Int × Int), PyData.canLayAll0 (rs.map prD) = true
  | [] => by simp [PyData.canLayAll0]
  | r :: rs => by simp [prD, PyData.canLayAll0, PyData.canLay0, canLay_prs rs]
theorem depth_prs : ∀ rs : List (Int × Int), PyData.depthAll (rs.map prD) ≤ 3
  | [] => by simp [PyData.depthAll]
  | r :: rs => by
    have := depth_prs rs
    simp only [List.map_cons, PyData.depthAll, prD, PyData.depth]
    omega
theorem PR.is {ih : IH} : ∀ {xs : List IV} {rs : List (Int × Int)}, PR ih xs rs → IsAll ih xs (rs.map prD)
  | [], [], _ => .nil
  | .ref t :: xs, r :: rs, h => .cons (.tup h.1 rfl (.cons (.int r.1) (.cons (.int r.2) .nil))) (PR.is h.2)
end L3
/-! L10: more comprehensions. -/
namespace L3
open PySem PySem.Spec PyProof.Rows L2
/-- [me for a, b in rows], the element allocates -/
theorem lc_rowsB {Q : PQ IV} {E : EQ} {env : Env} {ih : IH} {vs : List Nat} {i j n : Nat} {me : Env → IH → Res IV} {xs : List IV} {rs : List (Int × Int)} (F : Int × Int → IV) (ho : ih[n]? = some (.lst xs)) (pr : PR ih xs rs) (hz : rs.length < 100000)
    (he : ∀ r ∈ rs, ∀ ih', Fx ih ih' → ih.length ≤ ih'.length → wp (me (((wipeI env vs).set i (some (.int r.1))).set j (some (.int r.2))) ih') (fun v ih'' => v = F r ∧ Fx ih' ih'' ∧ ih'.length ≤ ih''.length) E0)
    (q : ∀ ih', Fx ih ih' → ih.length < ih'.length → ih'[ih.length]? = some (.lst (rs.map F)) → Q (.ref ih.length) ih') : k_lc vs (g_tup 2 (g_cons (g_nm i) (g_cons (g_nm j) g_nil))) n_yes me env Q E (.lst n) ih := by
  have hs : (Src.lst n).size ih = xs.length := by
    unfold Src.size
    dsimp only
    rw [ho]
    rfl
  refine lc_gen xs.length (fun k acc ih' => acc = (rs.take k).map F ∧ Fx ih ih' ∧ ih.length < ih'.length) (by rw [hs]; exact Nat.le_refl _) ⟨by simp, Fx.app, by simp⟩ (fun k acc ih' hk ⟨ha, fx, lx⟩ hd => ?_) (fun acc ih' ⟨_, fx, _⟩ _ => ?_) fun acc ih' ⟨ha, fx, lx⟩ hd => ?_
  · have hx : xs[k]? = some xs[k] := List.getElem?_eq_getElem hk
    obtain ⟨t, r, e1, e2, e3⟩ := pr.get hx
    have ho' : ih'[n]? = some (.lst xs) := by rw [fx n (lt_of_get ho)]; exact ho
    have e3' : ih'[t]? = some (.tup [.int r.1, .int r.2]) := by rw [fx t (lt_of_get e3)]; exact e3
    have hr : r ∈ rs := List.mem_of_getElem? e2
    have hkr : k < rs.length := (List.getElem?_eq_some_iff.mp e2).1
    refine ⟨.ref t, _, _, by rw [turn_lst ho' rfl (show (MO.lst xs).xs[k]? = some xs[k] from hx), e1], g_pairR e3', ⟨(fun h => nomatch h), fun _ => wp.imp (he r hr _ fx (by omega)) (fun v ih2 hvi => ?_) fun _ _ h => h⟩⟩
    obtain ⟨hv, f2, l2⟩ := hvi
    subst hv
    refine ⟨by rw [f2 _ lx]; exact hd, ?_, ?_, (fx.trans f2 (by omega)).set (Nat.le_refl _), by rw [List.length_set]; omega⟩
    · rw [ha, List.length_map, List.length_take]
      omega
    · rw [List.take_add_one, e2, ha, List.map_append]
      rfl
  · exact stop_lst (o := .lst xs) (by rw [fx n (lt_of_get ho)]; exact ho) rfl
  · rw [pr.len, List.take_length] at ha
    rw [ha] at hd
    exact q ih' fx lx hd
theorem PR.setA {a : IH} {q : Nat} {l : List IV} {o : MO} {xs : List IV} {rs : List (Int × Int)} (h : PR a xs rs) (g : a[q]? = some (.lst l)) : PR (a.set q o) xs rs := h.mono fun t i j e => by
  rw [g_sne (fun e2 => by rw [e2] at g; rw [g] at e; cases e)]
  exact e
/-- [(a, b) for a, b in rows if test], the test allocates nothing -/
theorem lc_rowsF {Q : PQ IV} {E : EQ} {env : Env} {ih : IH} {vs : List Nat} {i j n : Nat} {mt : Env → IH → Res Bool} {me : Env → IH → Res IV} {xs : List IV} {rs : List (Int × Int)} (T : Int × Int → Bool) (ho : ih[n]? = some (.lst xs)) (pr : PR ih xs rs) (hz : rs.length < 100000)
    (ht : ∀ r ∈ rs, ∀ ih', Fx ih ih' → wp (mt (((wipeI env vs).set i (some (.int r.1))).set j (some (.int r.2))) ih') (fun v ih'' => v = T r ∧ ih'' = ih') E0)
    (he : ∀ r ∈ rs, T r = true → ∀ ih', Fx ih ih' → wp (me (((wipeI env vs).set i (some (.int r.1))).set j (some (.int r.2))) ih') (fun v ih'' => (∃ t, v = .ref t ∧ ih''[t]? = some (.tup [.int r.1, .int r.2])) ∧ Fx ih' ih'' ∧ ih'.length ≤ ih''.length) E0)
    (q : ∀ ih' ys, Fx ih ih' → ih.length < ih'.length → ih'[ih.length]? = some (.lst ys) → PR ih' ys (rs.filter T) → Q (.ref ih.length) ih') : k_lc vs (g_tup 2 (g_cons (g_nm i) (g_cons (g_nm j) g_nil))) mt me env Q E (.lst n) ih := by
  have hs : (Src.lst n).size ih = xs.length := by
    unfold Src.size
    dsimp only
    rw [ho]
    rfl
  refine lc_gen xs.length (fun k acc ih' => PR ih' acc ((rs.take k).filter T) ∧ Fx ih ih' ∧ ih.length < ih'.length) (by rw [hs]; exact Nat.le_refl _) ⟨by simp [PR], Fx.app, by simp⟩ (fun k acc ih' hk ⟨pa, fx, lx⟩ hd => ?_) (fun acc ih' ⟨_, fx, _⟩ _ => ?_) fun acc ih' ⟨pa, fx, lx⟩ hd => ?_
  · have hx : xs[k]? = some xs[k] := List.getElem?_eq_getElem hk
    obtain ⟨t, r, e1, e2, e3⟩ := pr.get hx
    have ho' : ih'[n]? = some (.lst xs) := by rw [fx n (lt_of_get ho)]; exact ho
    have e3' : ih'[t]? = some (.tup [.int r.1, .int r.2]) := by rw [fx t (lt_of_get e3)]; exact e3
    have hr : r ∈ rs := List.mem_of_getElem? e2
    have hkr : k < rs.length := (List.getElem?_eq_some_iff.mp e2).1
    have et : rs.take (k + 1) = rs.take k ++ [r] := by rw [List.take_add_one, e2]; rfl
    refine ⟨.ref t, _, _, by rw [turn_lst ho' rfl (show (MO.lst xs).xs[k]? = some xs[k] from hx), e1], g_pairR e3', wp.imp (ht r hr _ fx) (fun v ih2 hv => ?_) fun _ _ h => h⟩
    obtain ⟨hv, hi⟩ := hv
    subst hi
    refine ⟨fun hb => ⟨hd, ?_, fx, lx⟩, fun hb => wp.imp (he r hr (by rw [← hv]; exact hb) _ fx) (fun y ih3 hy => ?_) fun _ _ h => h⟩
    · rw [et, List.filter_append, List.filter_cons, ← hv, hb]
      simpa using pa
    · obtain ⟨⟨u, rfl, gu⟩, f3, l3⟩ := hy
      have hd3 : ih3[ih.length]? = some (.lst acc) := by rw [f3 _ lx]; exact hd
      have pl := pa.len
      refine ⟨hd3, ?_, ?_, (fx.trans f3 (by omega)).set (Nat.le_refl _), by rw [List.length_set]; omega⟩
      · rw [pl]
        exact Nat.lt_of_le_of_lt (List.length_filter_le _ _) (by rw [List.length_take]; omega)
      · rw [et, List.filter_append, List.filter_cons, ← hv, hb]
        refine ((pa.fx f3).setA hd3).app ?_
        rw [g_sne (fun e => by rw [e] at hd3; rw [hd3] at gu; cases gu)]
        exact gu
  · exact stop_lst (o := .lst xs) (by rw [fx n (lt_of_get ho)]; exact ho) rfl
  · rw [pr.len, List.take_length] at pa
    exact q ih' acc fx lx hd pa
/-- [F x y for x, y in zip(xs, ys)], ints -/
theorem lc_zipB {Q : PQ IV} {E : EQ} {env : Env} {ih : IH} {vs : List Nat} {i j n m : Nat} {me : Env → IH → Res IV} (A B : List Int) (F : Int → Int → Bool) (ho : ih[n]? = some (.lst (A.map IV.int))) (hu : ih[m]? = some (.lst (B.map IV.int))) (hz : A.length < 100000)
    (he : ∀ (x y : Int) ih', Fx ih ih' → wp (me (((wipeI env vs).set i (some (.int x))).set j (some (.int y))) ih') (fun v ih'' => v = .bl (F x y) ∧ ih'' = ih') E0)
    (q : ∀ ih', Fx ih ih' → ih.length < ih'.length → ih'[ih.length]? = some (.lst ((List.zipWith F A B).map IV.bl)) → Q (.ref ih.length) ih') : k_lc vs (g_tup 2 (g_cons (g_nm i) (g_cons (g_nm j) g_nil))) n_yes me env Q E (.zip n m) ih := by
  refine lc_zipW (o := .lst (A.map IV.int)) (u := .lst (B.map IV.int)) (fun x y => match x, y with | .int a, .int b => .bl (F a b) | _, _ => .non) ho rfl hu rfl (by rw [xs_lst, List.length_map]; exact hz) (fun k x y hx hy ih' f => ?_) fun ih' f l g => q ih' f l ?_
  · rw [xs_lst, List.getElem?_map] at hx hy
    obtain ⟨a, _, ea⟩ := Option.map_eq_some_iff.mp hx
    obtain ⟨b, _, eb⟩ := Option.map_eq_some_iff.mp hy
    subst ea eb
    exact he a b ih' f
  · rw [g, xs_lst, xs_lst, List.zipWith_map, List.map_zipWith]
end L3
/-! N32: the greedy looks are the fewest ones, and of these the latest. -/
namespace L3
open PySem PySem.Spec PyProof.Rows L2
/-- the ends of the windows that begin later and end ahead of e -/
def ends (W : List (Int × Int)) (x e : Int) : List Int := (W.filter fun r => decide (x < r.1) && decide (r.2 < e)).map (·.2)
theorem ends_mem {W : List (Int × Int)} {x e z : Int} : z ∈ ends W x e ↔ ∃ r ∈ W, x < r.1 ∧ r.2 < e ∧ r.2 = z := by
  unfold ends
  rw [List.mem_map]
  constructor
  · rintro ⟨r, h, rfl⟩
    obtain ⟨h1, h2⟩ := List.mem_filter.mp h
    rw [Bool.and_eq_true, decide_eq_true_eq, decide_eq_true_eq] at h2
    exact ⟨r, h1, h2.1, h2.2, rfl⟩
  · rintro ⟨r, h1, h2, h3, rfl⟩
    exact ⟨r, List.mem_filter.mpr ⟨h1, by rw [Bool.and_eq_true, decide_eq_true_eq, decide_eq_true_eq]; exact ⟨h2, h3⟩⟩, rfl⟩
def GapsOk (s : Int) : Int → List Int → Prop
  | _, [] => True
  | b, x :: r => x - b ≤ s ∧ GapsOk s x r
def Enough (s : Int) (W : List (Int × Int)) (b e : Int) (L : List Int) : Prop := GapsOk s b (L ++ [e]) ∧ ∀ r ∈ W, b ≤ r.2 → r.2 < e → ∃ x ∈ b :: L, r.1 ≤ x ∧ x ≤ r.2
/-- the greedy looks behind x -/
inductive Gr (s : Int) (W : List (Int × Int)) (e : Int) : Int → List Int → Prop
  | done {x : Int} : ends W x e = [] → e - x ≤ s → Gr s W e x []
  | step {x y : Int} {g : List Int} : ¬ (ends W x e = [] ∧ e - x ≤ s) → y ∈ ends W x e ++ [x + s] → (∀ z ∈ ends W x e ++ [x + s], y ≤ z) → Gr s W e y g → Gr s W e x (y :: g)
section
variable {s e : Int} {W : List (Int × Int)}
abbrev Win (W : List (Int × Int)) : Prop := ∀ r ∈ W, 0 ≤ r.1 ∧ r.1 ≤ r.2
theorem step_in {x y : Int} (s1 : 1 ≤ s) (hW : Win W) (h : ¬ (ends W x e = [] ∧ e - x ≤ s)) (hy : y ∈ ends W x e ++ [x + s]) (hm : ∀ z ∈ ends W x e ++ [x + s], y ≤ z) : x < y ∧ y < e := by
  constructor
  · rcases List.mem_append.mp hy with hy | hy
    · obtain ⟨r, h1, h2, h3, rfl⟩ := ends_mem.mp hy
      have := (hW r h1).2
      omega
    · rw [List.mem_singleton] at hy
      omega
  · by_cases he : ends W x e = []
    · have h2 : ¬ e - x ≤ s := fun h2 => h ⟨he, h2⟩
      have := hm (x + s) (List.mem_append_right _ (by simp))
      omega
    · obtain ⟨z, hz⟩ := List.exists_mem_of_ne_nil _ he
      have h1 := hm z (List.mem_append_left _ hz)
      obtain ⟨r, _, _, h3, rfl⟩ := ends_mem.mp hz
      omega
theorem Gr.inc (s1 : 1 ≤ s) (hW : Win W) {x : Int} {g : List Int} (h : Gr s W e x g) : (x :: g).Pairwise (· < ·) ∧ ∀ y ∈ g, x < y ∧ y < e := by
  induction h with
  | done _ _ => exact ⟨List.pairwise_singleton _ _, fun y hy => nomatch hy⟩
  | step h1 h2 h3 _ ih =>
    obtain ⟨k1, k2⟩ := step_in s1 hW h1 h2 h3
    have all : ∀ z ∈ (_ :: _ : List Int), _ < z ∧ z < e := fun z hz => by
      rcases List.mem_cons.mp hz with hz | hz
      · rw [hz]; exact ⟨k1, k2⟩
      · have := ih.2 z hz
        exact ⟨by omega, this.2⟩
    exact ⟨List.pairwise_cons.mpr ⟨fun z hz => (all z hz).1, ih.1⟩, all⟩
theorem Gr.served {x : Int} {g : List Int} (h : Gr s W e x g) : ∀ r ∈ W, x < r.1 → r.2 < e → ∃ y ∈ g, r.1 ≤ y ∧ y ≤ r.2 := by
  induction h with
  | done h1 _ =>
    intro r hr a1 a2
    have := ends_mem.mpr ⟨r, hr, a1, a2, rfl⟩
    rw [h1] at this
    cases this
  | @step x y g h1 h2 h3 _ ih =>
    intro r hr a1 a2
    have hy := h3 r.2 (List.mem_append_left _ (ends_mem.mpr ⟨r, hr, a1, a2, rfl⟩))
    by_cases hc : r.1 ≤ y
    · exact ⟨y, List.mem_cons_self, hc, hy⟩
    · obtain ⟨z, z1, z2⟩ := ih r hr (by omega) a2
      exact ⟨z, List.mem_cons_of_mem _ z1, z2⟩
theorem Gr.gaps {x : Int} {g : List Int} (h : Gr s W e x g) : GapsOk s x (g ++ [e]) := by
  induction h with
  | done _ h2 => exact ⟨h2, trivial⟩
  | step h1 h2 h3 _ ih =>
    have := h3 _ (List.mem_append_right _ (List.mem_singleton.mpr rfl))
    exact ⟨by omega, ih⟩
theorem Gr.enough {x : Int} {g : List Int} (h : Gr s W e x g) : Enough s W x e g := by
  refine ⟨h.gaps, fun r hr a1 a2 => ?_⟩
  by_cases hc : r.1 ≤ x
  · exact ⟨x, List.mem_cons_self, hc, a1⟩
  · obtain ⟨y, y1, y2⟩ := h.served r hr (by omega) a2
    exact ⟨y, List.mem_cons_of_mem _ y1, y2⟩
/-- any other looks that are enough are no fewer, and no later -/
def Ahead : List Int → List Int → Prop
  | [], _ => True
  | _ :: _, [] => False
  | y :: g, z :: L => z ≤ y ∧ Ahead g L
theorem Gr.best (hW : Win W) {x : Int} {g : List Int} (h : Gr s W e x g) : ∀ (b : Int) (L : List Int), b ≤ x → L.Pairwise (· < ·) → GapsOk s b (L ++ [e]) → (∀ r ∈ W, x < r.1 → r.2 < e → ∃ w ∈ L, r.1 ≤ w ∧ w ≤ r.2) → Ahead g L := by
  induction h with
  | done _ _ => intros; trivial
  | @step x y g h1 h2 h3 _ ih =>
    intro b L hb hp hg hs
    cases L with
    | nil =>
      exfalso
      have hg1 : e - b ≤ s := hg.1
      have he : ends W x e ≠ [] := fun he => h1 ⟨he, by omega⟩
      obtain ⟨z, hz⟩ := List.exists_mem_of_ne_nil _ he
      obtain ⟨r, r1, r2, r3, _⟩ := ends_mem.mp hz
      obtain ⟨w, hw, _⟩ := hs r r1 r2 r3
      cases hw
    | cons z L =>
      have hz : z - b ≤ s := hg.1
      have hzy : z ≤ y := by
        rcases List.mem_append.mp h2 with hy | hy
        · obtain ⟨r, r1, r2, r3, rfl⟩ := ends_mem.mp hy
          obtain ⟨w, hw, w1, w2⟩ := hs r r1 r2 r3
          rcases List.mem_cons.mp hw with hw | hw
          · omega
          · have := (List.pairwise_cons.mp hp).1 w hw
            omega
        · rw [List.mem_singleton] at hy
          omega
      refine ⟨hzy, ih z L hzy (List.pairwise_cons.mp hp).2 hg.2 fun r r1 r2 r3 => ?_⟩
      have hxy : x < y ∨ y ≤ x := by omega
      have r2' : x < r.1 := by
        rcases List.mem_append.mp h2 with hy | hy
        · obtain ⟨r', q1, q2, q3, q4⟩ := ends_mem.mp hy
          have := (hW r' q1).2
          omega
        · rw [List.mem_singleton] at hy
          have := h3 (x + s) (List.mem_append_right _ (by simp))
          by_cases hs0 : 0 ≤ s
          · omega
          · exfalso
            -- a span below 0 leaves no gap
            have k1 : ∀ (L : List Int) (z : Int), GapsOk s z (L ++ [e]) → e ≤ z := fun L => by
              induction L with
              | nil => intro z h; have := h.1; omega
              | cons a L ihL => intro z h; have := ihL a h.2; have := h.1; omega
            have := k1 L z hg.2
            have q := (hW r r1).2
            omega
      obtain ⟨w, hw, w1, w2⟩ := hs r r1 r2' r3
      rcases List.mem_cons.mp hw with hw | hw
      · omega
      · exact ⟨w, hw, w1, w2⟩
end
/-! ### lists in their order -/
def ilt : List Int → List Int → Bool
  | [], [] => false
  | [], _ :: _ => true
  | _ :: _, [] => false
  | x :: xs, y :: ys => if x = y then ilt xs ys else decide (x < y)
theorem ilt_trans : ∀ {a b c : List Int}, ilt a b = true → ilt b c = true → ilt a c = true
  | [], [], _, h, _ => nomatch h
  | [], _ :: _, [], _, h => nomatch h
  | [], _ :: _, _ :: _, _, _ => rfl
  | _ :: _, [], _, h, _ => nomatch h
  | _ :: _, _ :: _, [], _, h => nomatch h
  | x :: xs, y :: ys, z :: zs, h, k => by
    unfold ilt at h k ⊢
    by_cases e1 : x = y
    · subst e1
      rw [if_pos rfl] at h
      by_cases e2 : x = z
      · subst e2
        rw [if_pos rfl] at k ⊢
        exact ilt_trans h k
      · rw [if_neg e2] at k ⊢
        exact k
    · rw [if_neg e1] at h
      have h' := of_decide_eq_true h
      by_cases e2 : y = z
      · subst e2
        rw [if_neg e1]
        exact h
      · rw [if_neg e2] at k
        have k' := of_decide_eq_true k
        rw [if_neg (by omega)]
        exact decide_eq_true (by omega)
theorem ahead_len : ∀ {g L : List Int}, Ahead g L → g.length ≤ L.length
  | [], _, _ => Nat.zero_le _
  | _ :: _, [], h => h.elim
  | _ :: g, _ :: L, h => by
    have := ahead_len h.2
    simp only [List.length_cons]
    omega
theorem ahead_lt : ∀ {g L : List Int}, Ahead g L → g.length = L.length → g ≠ L → ilt L g = true
  | [], [], _, _, h => absurd rfl h
  | [], _ :: _, _, h, _ => nomatch h
  | _ :: _, [], h, _, _ => h.elim
  | y :: g, z :: L, h, hl, hne => by
    unfold ilt
    by_cases e : z = y
    · subst e
      rw [if_pos rfl]
      exact ahead_lt h.2 (by simpa using hl) fun hh => hne (by rw [hh])
    · rw [if_neg e]
      have := h.1
      exact decide_eq_true (by omega)
theorem dataLt_ints : ∀ (xs ys : List Int), PySem.W.dataLt (.list (xs.map .int)) (.list (ys.map .int)) = ilt xs ys := by
  intro xs ys
  rw [PySem.W.dataLt_list]
  induction xs generalizing ys with
  | nil =>
    cases ys with
    | nil => rfl
    | cons y ys => rfl
  | cons x xs ih =>
    cases ys with
    | nil => rfl
    | cons y ys =>
      simp only [List.map_cons]
      have al : PySem.W.alike (.int x) (.int y) = true := by simp [PySem.W.alike]
      unfold ilt
      by_cases e : x = y
      · subst e
        rw [if_pos rfl, PySem.W.dataLt_all_yes al (by simp [PyData.eqv]), ih]
      · rw [if_neg e, PySem.W.dataLt_all_no al (by simp [PyData.eqv, e]), PySem.W.dataLt_int]
theorem alike_ints : ∀ (xs ys : List Int), PySem.W.alike (.list (xs.map .int)) (.list (ys.map .int)) = true := by
  intro xs ys
  rw [PySem.W.alike]
  induction xs generalizing ys with
  | nil => cases ys <;> simp [PySem.W.alikeAll]
  | cons x xs ih =>
    cases ys with
    | nil => simp [PySem.W.alikeAll]
    | cons y ys =>
      simp only [List.map_cons, PySem.W.alikeAll, PySem.W.alike, ih, Bool.and_self]
/-! ### parts of a range, by the digits of a number -/
def bit (n i : Nat) : Bool := decide (n / 2 ^ i % 2 = 1)
/-- the looks that a number stands for -/
def cand (b : Int) (m n : Nat) : List Int := ((List.range m).filter (bit n)).map fun i : Nat => b + 1 + (i : Int)
theorem cand_inc (b : Int) (m n : Nat) : (cand b m n).Pairwise (· < ·) := by
  unfold cand
  refine List.pairwise_map.mpr ((List.Pairwise.filter _ List.pairwise_lt_range).imp fun h => ?_)
  omega
theorem cand_len (b : Int) (m n : Nat) : (cand b m n).length ≤ m := by
  unfold cand
  rw [List.length_map]
  exact Nat.le_trans (List.length_filter_le _ _) (by rw [List.length_range]; exact Nat.le_refl _)
theorem cand_mem {b : Int} {m n : Nat} {x : Int} (h : x ∈ cand b m n) : b < x ∧ x ≤ b + (m : Int) := by
  unfold cand at h
  obtain ⟨i, hi, rfl⟩ := List.mem_map.mp h
  have := List.mem_range.mp (List.mem_filter.mp hi).1
  omega
theorem bits_of (p : Nat → Bool) : ∀ m : Nat, ∃ n, n < 2 ^ m ∧ ∀ i, i < m → bit n i = p i
  | 0 => ⟨0, by decide, fun i h => by omega⟩
  | m + 1 => by
    obtain ⟨n, h1, h2⟩ := bits_of p m
    have e2 : 2 ^ (m + 1) = 2 * 2 ^ m := by rw [Nat.pow_succ, Nat.mul_comm]
    refine ⟨n + (if p m = true then 2 ^ m else 0), by split <;> omega, fun i hi => ?_⟩
    have pp : 0 < 2 ^ m := Nat.pow_pos (by decide)
    by_cases hm : i = m
    · subst hm
      unfold bit
      split
      · rename_i h
        rw [h, Nat.add_div_right _ pp, Nat.div_eq_of_lt h1]
        rfl
      · rename_i h
        rw [Nat.add_zero, Nat.div_eq_of_lt h1]
        simpa using h
    · rw [← h2 i (by omega)]
      unfold bit
      split
      · obtain ⟨d, hd⟩ : ∃ d, m = i + 1 + d := ⟨m - (i + 1), by omega⟩
        have e3 : 2 ^ m = 2 ^ i * (2 * 2 ^ d) := by
          rw [hd, Nat.pow_add, Nat.pow_succ, Nat.mul_assoc]
        rw [e3, Nat.add_mul_div_left _ _ (Nat.pow_pos (by decide)), Nat.add_mul_mod_self_left]
      · rfl
theorem inc_ext : ∀ {l m : List Int}, l.Pairwise (· < ·) → m.Pairwise (· < ·) → (∀ a, a ∈ l ↔ a ∈ m) → l = m
  | [], [], _, _, _ => rfl
  | [], y :: m, _, _, h => absurd ((h y).mpr List.mem_cons_self) (by simp)
  | x :: l, [], _, _, h => absurd ((h x).mp List.mem_cons_self) (by simp)
  | x :: l, y :: m, hl, hm, h => by
    obtain ⟨l1, l2⟩ := List.pairwise_cons.mp hl
    obtain ⟨m1, m2⟩ := List.pairwise_cons.mp hm
    have e : x = y := by
      rcases List.mem_cons.mp ((h x).mp List.mem_cons_self) with e | e
      · exact e
      · rcases List.mem_cons.mp ((h y).mpr List.mem_cons_self) with e2 | e2
        · exact e2.symm
        · have := l1 y e2
          have := m1 x e
          omega
    subst e
    rw [inc_ext l2 m2 fun a => ?_]
    constructor
    · intro ha
      rcases List.mem_cons.mp ((h a).mp (List.mem_cons_of_mem _ ha)) with e | e
      · have := l1 a ha
        omega
      · exact e
    · intro ha
      rcases List.mem_cons.mp ((h a).mpr (List.mem_cons_of_mem _ ha)) with e | e
      · have := m1 a ha
        omega
      · exact e
theorem cand_of {b : Int} {m : Nat} {g : List Int} (hg : g.Pairwise (· < ·)) (hr : ∀ y ∈ g, b < y ∧ y ≤ b + (m : Int)) : ∃ n, n < 2 ^ m ∧ cand b m n = g := by
  obtain ⟨n, h1, h2⟩ := bits_of (fun i => decide (b + 1 + (i : Int) ∈ g)) m
  refine ⟨n, h1, inc_ext (cand_inc _ _ _) hg fun a => ?_⟩
  unfold cand
  rw [List.mem_map]
  constructor
  · rintro ⟨i, hi, rfl⟩
    obtain ⟨h3, h4⟩ := List.mem_filter.mp hi
    rw [h2 i (List.mem_range.mp h3)] at h4
    exact of_decide_eq_true h4
  · intro ha
    obtain ⟨k1, k2⟩ := hr a ha
    obtain ⟨i, hi⟩ := Int.eq_ofNat_of_zero_le (show 0 ≤ a - b - 1 by omega)
    have e : b + 1 + (i : Int) = a := by omega
    refine ⟨i, List.mem_filter.mpr ⟨List.mem_range.mpr (by omega), ?_⟩, e⟩
    rw [h2 i (by omega)]
    exact decide_eq_true (by rw [e]; exact ha)
/-- what has been found among the numbers below n -/
def Bst (s : Int) (W : List (Int × Int)) (b e : Int) (m n : Nat) : Option (List Int) → Prop
  | none => ∀ i, i < n → ¬ Enough s W b e (cand b m i)
  | some B => (∃ i, i < n ∧ B = cand b m i) ∧ Enough s W b e B ∧ ∀ i, i < n → Enough s W b e (cand b m i) → B.length < (cand b m i).length ∨ (B.length = (cand b m i).length ∧ ilt B (cand b m i) = false)
theorem Bst.is {s e b : Int} {W : List (Int × Int)} {m : Nat} {o : Option (List Int)} {g : List Int} (s1 : 1 ≤ s) (hW : Win W) (h : Bst s W b e m (2 ^ m) o) (hg : Gr s W e b g) (hm : e ≤ b + 1 + (m : Int)) : o = some g := by
  obtain ⟨g1, g2⟩ := hg.inc s1 hW
  obtain ⟨n, n1, n2⟩ := cand_of (b := b) (m := m) (List.pairwise_cons.mp g1).2 fun y hy => ⟨(g2 y hy).1, by have := (g2 y hy).2; omega⟩
  have ge := hg.enough
  cases o with
  | none => exact absurd (by rw [n2]; exact ge) (h n n1)
  | some B =>
    obtain ⟨⟨i, i1, i2⟩, h2, h3⟩ := h
    have h4 := h3 n n1 (by rw [n2]; exact ge)
    rw [n2] at h4
    have ah := hg.best hW b B (Int.le_refl _) (by rw [i2]; exact cand_inc _ _ _) h2.1 fun r hr a1 a2 => by
      obtain ⟨w, w1, w2⟩ := h2.2 r hr (by have := (hW r hr).2; omega) a2
      rcases List.mem_cons.mp w1 with e | e
      · omega
      · exact ⟨w, e, w2⟩
    have hl := ahead_len ah
    rcases h4 with h4 | ⟨h4, h5⟩
    · omega
    · by_cases e : g = B
      · rw [e]
      · rw [ahead_lt ah h4.symm e] at h5
        cases h5
end L3
/-! N35: the looks that are needed: of the parts of a list that are enough, the fewest, and of these the latest. -/
namespace L3
open PySem PySem.Spec PyProof.Rows L2
/-- the greedy looks behind x, out of L -/
inductive GrL (s : Int) (W : List (Int × Int)) (e : Int) (L : List Int) : Int → List Int → Prop
  | done {x : Int} : ends W x e = [] → e - x ≤ s → GrL s W e L x []
  | step {x t y : Int} {g : List Int} : ¬ (ends W x e = [] ∧ e - x ≤ s) → t ∈ ends W x e ++ [x + s] → (∀ z ∈ ends W x e ++ [x + s], t ≤ z) → y ∈ L → x < y → y ≤ t → (∀ w ∈ L, w ≤ t → w ≤ y) → GrL s W e L y g → GrL s W e L x (y :: g)
section
variable {s e : Int} {W : List (Int × Int)} {L : List Int}
theorem GrL.inc {x : Int} {g : List Int} (h : GrL s W e L x g) : (x :: g).Pairwise (· < ·) ∧ ∀ y ∈ g, y ∈ L := by
  induction h with
  | done _ _ => exact ⟨List.pairwise_singleton _ _, fun y hy => nomatch hy⟩
  | @step x t y g h1 h2 h3 h4 h5 h6 h7 _ ih =>
    refine ⟨List.pairwise_cons.mpr ⟨fun z hz => ?_, ih.1⟩, fun z hz => ?_⟩
    · rcases List.mem_cons.mp hz with hz | hz
      · omega
      · have := (List.pairwise_cons.mp ih.1).1 z hz
        omega
    · rcases List.mem_cons.mp hz with hz | hz
      · rw [hz]; exact h4
      · exact ih.2 z hz
theorem GrL.served {x : Int} {g : List Int} (h : GrL s W e L x g) : ∀ r ∈ W, x < r.1 → r.2 < e → ∃ y ∈ g, r.1 ≤ y ∧ y ≤ r.2 := by
  induction h with
  | done h1 _ =>
    intro r hr a1 a2
    have := ends_mem.mpr ⟨r, hr, a1, a2, rfl⟩
    rw [h1] at this
    cases this
  | @step x t y g h1 h2 h3 h4 h5 h6 h7 _ ih =>
    intro r hr a1 a2
    have hy := h3 r.2 (List.mem_append_left _ (ends_mem.mpr ⟨r, hr, a1, a2, rfl⟩))
    by_cases hc : r.1 ≤ y
    · exact ⟨y, List.mem_cons_self, hc, by omega⟩
    · obtain ⟨z, z1, z2⟩ := ih r hr (by omega) a2
      exact ⟨z, List.mem_cons_of_mem _ z1, z2⟩
theorem GrL.gaps {x : Int} {g : List Int} (h : GrL s W e L x g) : GapsOk s x (g ++ [e]) := by
  induction h with
  | done _ h2 => exact ⟨h2, trivial⟩
  | step h1 h2 h3 h4 h5 h6 h7 _ ih =>
    have := h3 _ (List.mem_append_right _ (List.mem_singleton.mpr rfl))
    exact ⟨by omega, ih⟩
theorem GrL.enough {x : Int} {g : List Int} (h : GrL s W e L x g) : Enough s W x e g := by
  refine ⟨h.gaps, fun r hr a1 a2 => ?_⟩
  by_cases hc : r.1 ≤ x
  · exact ⟨x, List.mem_cons_self, hc, a1⟩
  · obtain ⟨y, y1, y2⟩ := h.served r hr (by omega) a2
    exact ⟨y, List.mem_cons_of_mem _ y1, y2⟩
theorem GrL.best {x : Int} {g : List Int} (h : GrL s W e L x g) : ∀ (b : Int) (M : List Int), b ≤ x → M.Pairwise (· < ·) → (∀ w ∈ M, w ∈ L) → GapsOk s b (M ++ [e]) → (∀ r ∈ W, x < r.1 → r.2 < e → ∃ w ∈ M, r.1 ≤ w ∧ w ≤ r.2) → Ahead g M := by
  induction h with
  | done _ _ => intros; trivial
  | @step x t y g h1 h2 h3 h4 h5 h6 h7 _ ih =>
    intro b M hb hp hm hg hs
    cases M with
    | nil =>
      exfalso
      have hg1 : e - b ≤ s := hg.1
      have he : ends W x e ≠ [] := fun he => h1 ⟨he, by omega⟩
      obtain ⟨z, hz⟩ := List.exists_mem_of_ne_nil _ he
      obtain ⟨r, r1, r2, r3, _⟩ := ends_mem.mp hz
      obtain ⟨w, hw, _⟩ := hs r r1 r2 r3
      cases hw
    | cons z M =>
      have hz : z - b ≤ s := hg.1
      have hzt : z ≤ t := by
        rcases List.mem_append.mp h2 with hy | hy
        · obtain ⟨r, r1, r2, r3, rfl⟩ := ends_mem.mp hy
          obtain ⟨w, hw, w1, w2⟩ := hs r r1 r2 r3
          rcases List.mem_cons.mp hw with hw | hw
          · omega
          · have := (List.pairwise_cons.mp hp).1 w hw
            omega
        · rw [List.mem_singleton] at hy
          omega
      have hzy := h7 z (hm z List.mem_cons_self) hzt
      refine ⟨hzy, ih z M hzy (List.pairwise_cons.mp hp).2 (fun w hw => hm w (List.mem_cons_of_mem _ hw)) hg.2 fun r r1 r2 r3 => ?_⟩
      obtain ⟨w, hw, w1, w2⟩ := hs r r1 (by omega) r3
      rcases List.mem_cons.mp hw with hw | hw
      · omega
      · exact ⟨w, hw, w1, w2⟩
/-- all cycles, or the greedy ones alone, are as good -/
theorem Gr.toL (s1 : 1 ≤ s) (hW : Win W) {x : Int} {g : List Int} (h : Gr s W e x g) (hL : ∀ y ∈ g, y ∈ L) : GrL s W e L x g := by
  induction h with
  | done h1 h2 => exact .done h1 h2
  | step h1 h2 h3 _ ih => exact .step h1 h2 h3 (hL _ List.mem_cons_self) (step_in s1 hW h1 h2 h3).1 (Int.le_refl _) (fun w _ h => h) (ih fun y hy => hL y (List.mem_cons_of_mem _ hy))
theorem gap_next : ∀ {L : List Int} {b x : Int}, GapsOk s b (L ++ [e]) → (b :: L).Pairwise (· < ·) → x ∈ b :: L → (∃ w ∈ L, x < w ∧ w ≤ x + s) ∨ ((∀ w ∈ L, w ≤ x) ∧ e ≤ x + s)
  | [], b, x, h, _, hx => by
    have h1 : e - b ≤ s := h.1
    rw [List.mem_singleton] at hx
    exact .inr ⟨(fun w hw => nomatch hw), by omega⟩
  | a :: L, b, x, h, hp, hx => by
    obtain ⟨p1, p2⟩ := List.pairwise_cons.mp hp
    have h1 : a - b ≤ s := h.1
    rcases List.mem_cons.mp hx with hx | hx
    · exact .inl ⟨a, List.mem_cons_self, by have := p1 a List.mem_cons_self; omega, by omega⟩
    · rcases gap_next h.2 p2 hx with ⟨w, w1, w2⟩ | ⟨k1, k2⟩
      · exact .inl ⟨w, List.mem_cons_of_mem _ w1, w2⟩
      · refine .inr ⟨fun w hw => ?_, k2⟩
        rcases List.mem_cons.mp hw with hw | hw
        · rcases List.mem_cons.mp hx with hx | hx
          · omega
          · have := (List.pairwise_cons.mp p2).1 x hx
            omega
        · exact k1 w hw
theorem next_in {b x t : Int} (hE : Enough s W b e L) (hp : (b :: L).Pairwise (· < ·)) (hW : Win W) (hx : x ∈ b :: L) (h1 : ¬ (ends W x e = [] ∧ e - x ≤ s)) (h2 : t ∈ ends W x e ++ [x + s]) (h3 : ∀ z ∈ ends W x e ++ [x + s], t ≤ z) : ∃ w ∈ L, x < w ∧ w ≤ t := by
  have bx : b ≤ x := by
    rcases List.mem_cons.mp hx with hx | hx
    · omega
    · have := (List.pairwise_cons.mp hp).1 x hx
      omega
  have sv : ∀ r ∈ W, x < r.1 → r.2 < e → ∃ w ∈ L, r.1 ≤ w ∧ w ≤ r.2 := fun r hr a1 a2 => by
    have := (hW r hr).2
    obtain ⟨w, hw, w1, w2⟩ := hE.2 r hr (by omega) a2
    rcases List.mem_cons.mp hw with hw | hw
    · omega
    · exact ⟨w, hw, w1, w2⟩
  rcases List.mem_append.mp h2 with ht | ht
  · obtain ⟨r, r1, r2, r3, rfl⟩ := ends_mem.mp ht
    obtain ⟨w, w1, w2, w3⟩ := sv r r1 r2 r3
    exact ⟨w, w1, by omega, w3⟩
  · rw [List.mem_singleton] at ht
    rcases gap_next hE.1 hp hx with ⟨w, w1, w2, w3⟩ | ⟨k1, k2⟩
    · exact ⟨w, w1, w2, by omega⟩
    · exfalso
      have he : ends W x e ≠ [] := fun he => h1 ⟨he, by omega⟩
      obtain ⟨z, hz⟩ := List.exists_mem_of_ne_nil _ he
      obtain ⟨r, r1, r2, r3, _⟩ := ends_mem.mp hz
      obtain ⟨w, w1, w2, w3⟩ := sv r r1 r2 r3
      have := k1 w w1
      omega
/-! ### more looks are no less enough -/
theorem gaps_sup {M L : List Int} (h : M.Sublist L) : ∀ {b : Int}, (b :: L).Pairwise (· < ·) → (∀ y ∈ L, y < e) → GapsOk s b (M ++ [e]) → GapsOk s b (L ++ [e]) := by
  induction h with
  | slnil => intro b _ _ h; exact h
  | @cons M L a hs ih =>
    intro b hp he hg
    obtain ⟨p1, p2⟩ := List.pairwise_cons.mp hp
    have ab := p1 a List.mem_cons_self
    have k : a - b ≤ s ∧ GapsOk s a (M ++ [e]) := by
      cases M with
      | nil =>
        have h1 : e - b ≤ s := hg.1
        have := he a List.mem_cons_self
        exact ⟨by omega, ⟨by omega, trivial⟩⟩
      | cons y M =>
        have h1 : y - b ≤ s := hg.1
        have := (List.pairwise_cons.mp p2).1 y (hs.subset List.mem_cons_self)
        exact ⟨by omega, ⟨by omega, hg.2⟩⟩
    exact ⟨k.1, ih p2 (fun y hy => he y (List.mem_cons_of_mem _ hy)) k.2⟩
  | @cons_cons M L a hs ih =>
    intro b hp he hg
    exact ⟨hg.1, ih (List.pairwise_cons.mp hp).2 (fun y hy => he y (List.mem_cons_of_mem _ hy)) hg.2⟩
theorem Enough.sup {M L : List Int} {b : Int} (hs : M.Sublist L) (hp : (b :: L).Pairwise (· < ·)) (he : ∀ y ∈ L, y < e) (h : Enough s W b e M) : Enough s W b e L :=
  ⟨gaps_sup hs hp he h.1, fun r hr a1 a2 => by
    obtain ⟨x, x1, x2⟩ := h.2 r hr a1 a2
    refine ⟨x, ?_, x2⟩
    rcases List.mem_cons.mp x1 with hx | hx
    · rw [hx]; exact List.mem_cons_self
    · exact List.mem_cons_of_mem _ (hs.subset hx)⟩
end
/-! ### parts of a list, by the digits of a number -/
def pick (L : List Int) (n : Nat) : List Int := ((List.range L.length).filter (bit n)).map fun i => L.getD i 0
theorem range_get (L : List Int) : (List.range L.length).map (fun i => L.getD i 0) = L := by
  apply List.ext_getElem
  · simp
  · intro i h1 h2
    simp [List.getD_eq_getElem?_getD, h2]
theorem pick_sub (L : List Int) (n : Nat) : (pick L n).Sublist L := by
  have h : (pick L n).Sublist ((List.range L.length).map fun i => L.getD i 0) := List.Sublist.map _ List.filter_sublist
  rw [range_get] at h
  exact h
theorem pick_of {L M : List Int} (hL : L.Pairwise (· < ·)) (hM : M.Pairwise (· < ·)) (hs : ∀ w ∈ M, w ∈ L) : ∃ n, n < 2 ^ L.length ∧ pick L n = M := by
  obtain ⟨n, h1, h2⟩ := bits_of (fun i => decide (L.getD i 0 ∈ M)) L.length
  refine ⟨n, h1, inc_ext (hL.sublist (pick_sub L n)) hM fun a => ?_⟩
  unfold pick
  rw [List.mem_map]
  constructor
  · rintro ⟨i, hi, rfl⟩
    obtain ⟨h3, h4⟩ := List.mem_filter.mp hi
    rw [h2 i (List.mem_range.mp h3)] at h4
    exact of_decide_eq_true h4
  · intro ha
    obtain ⟨i, hi, e⟩ := List.getElem_of_mem (hs a ha)
    have eg : L.getD i 0 = a := by rw [List.getD_eq_getElem?_getD, List.getElem?_eq_getElem hi, ← e]; rfl
    refine ⟨i, List.mem_filter.mpr ⟨List.mem_range.mpr hi, ?_⟩, eg⟩
    rw [h2 i hi]
    exact decide_eq_true (by rw [eg]; exact ha)
/-- what has been found among the numbers below n -/
def Bs (E : List Int → Prop) (c : Nat → List Int) (n : Nat) : Option (List Int) → Prop
  | none => ∀ i, i < n → ¬ E (c i)
  | some B => (∃ i, i < n ∧ B = c i) ∧ E B ∧ ∀ i, i < n → E (c i) → B.length < (c i).length ∨ (B.length = (c i).length ∧ ilt B (c i) = false)
section
variable {E : List Int → Prop} {c : Nat → List Int} {n : Nat} {o : Option (List Int)} {B : List Int}
theorem ilt_irr' : ∀ l : List Int, ilt l l = false
  | [] => rfl
  | x :: l => by
    unfold ilt
    rw [if_pos rfl]
    exact ilt_irr' l
theorem lt_succ' {i n : Nat} (h : i < n + 1) : i < n ∨ i = n := by omega
theorem Bs.skipN (h : Bs E c n o) (hn : ¬ E (c n)) : Bs E c (n + 1) o := by
  cases o with
  | none =>
    intro i hi
    rcases lt_succ' hi with hi | hi
    · exact h i hi
    · rw [hi]; exact hn
  | some B =>
    obtain ⟨⟨j, j1, j2⟩, h2, h3⟩ := h
    refine ⟨⟨j, by omega, j2⟩, h2, fun i hi he => ?_⟩
    rcases lt_succ' hi with hi | hi
    · exact h3 i hi he
    · rw [hi] at he; exact absurd he hn
theorem Bs.skip (h : Bs E c n (some B)) (hn : B.length < (c n).length ∨ (B.length = (c n).length ∧ ilt B (c n) = false)) : Bs E c (n + 1) (some B) := by
  obtain ⟨⟨j, j1, j2⟩, h2, h3⟩ := h
  refine ⟨⟨j, by omega, j2⟩, h2, fun i hi he => ?_⟩
  rcases lt_succ' hi with hi | hi
  · exact h3 i hi he
  · rw [hi]; exact hn
theorem Bs.take0 (h : Bs E c n none) (hn : E (c n)) : Bs E c (n + 1) (some (c n)) := by
  refine ⟨⟨n, by omega, rfl⟩, hn, fun i hi he => ?_⟩
  rcases lt_succ' hi with hi | hi
  · exact absurd he (h i hi)
  · rw [hi]; exact .inr ⟨rfl, ilt_irr' _⟩
theorem Bs.take (h : Bs E c n (some B)) (hn : E (c n)) (hl : (c n).length < B.length ∨ ((c n).length = B.length ∧ ilt B (c n) = true)) : Bs E c (n + 1) (some (c n)) := by
  obtain ⟨_, _, h3⟩ := h
  refine ⟨⟨n, by omega, rfl⟩, hn, fun i hi he => ?_⟩
  rcases lt_succ' hi with hi | hi
  · rcases h3 i hi he with q | ⟨q1, q2⟩
    · rcases hl with l | ⟨l1, l2⟩
      · exact .inl (by omega)
      · exact .inl (by omega)
    · rcases hl with l | ⟨l1, l2⟩
      · exact .inl (by omega)
      · refine .inr ⟨by omega, ?_⟩
        cases hc : ilt (c n) (c i) with
        | false => rfl
        | true => rw [ilt_trans l2 hc] at q2; cases q2
  · rw [hi]; exact .inr ⟨rfl, ilt_irr' _⟩
end
theorem Bs.is {s e b : Int} {W : List (Int × Int)} {L : List Int} {o : Option (List Int)} {g : List Int} (hL : L.Pairwise (· < ·)) (h : Bs (Enough s W b e) (pick L) (2 ^ L.length) o) (hW : Win W) (hg : GrL s W e L b g) : o = some g := by
  obtain ⟨g1, g2⟩ := hg.inc
  obtain ⟨n, n1, n2⟩ := pick_of hL (List.pairwise_cons.mp g1).2 g2
  have ge := hg.enough
  cases o with
  | none => exact absurd (by rw [n2]; exact ge) (h n n1)
  | some B =>
    obtain ⟨⟨i, i1, i2⟩, h2, h3⟩ := h
    have h4 := h3 n n1 (by rw [n2]; exact ge)
    rw [n2] at h4
    have ah := hg.best b B (Int.le_refl _) (by rw [i2]; exact hL.sublist (pick_sub L i)) (fun w hw => (pick_sub L i).subset (by rw [← i2]; exact hw)) h2.1 fun r hr a1 a2 => by
      obtain ⟨w, w1, w2⟩ := h2.2 r hr (by have := (hW r hr).2; omega) a2
      rcases List.mem_cons.mp w1 with e | e
      · omega
      · exact ⟨w, e, w2⟩
    have hl := ahead_len ah
    rcases h4 with h4 | ⟨h4, h5⟩
    · omega
    · by_cases e : g = B
      · rw [e]
      · rw [ahead_lt ah h4.symm e] at h5
        cases h5
theorem Bs.isN {s e b : Int} {W : List (Int × Int)} {L : List Int} {o : Option (List Int)} (hL : (b :: L).Pairwise (· < ·)) (he : ∀ y ∈ L, y < e) (h : Bs (Enough s W b e) (pick L) (2 ^ L.length) o) (hn : ¬ Enough s W b e L) : o = none := by
  cases o with
  | none => rfl
  | some B =>
    obtain ⟨⟨i, _, i2⟩, h2, _⟩ := h
    rw [i2] at h2
    exact absurd (h2.sup (pick_sub L i) hL he) hn
end L3
/-! L11: chains of three and `in`, backwards; rows. -/
namespace L3
open PySem PySem.Spec PyProof.Rows L2
section
variable {ma mb mc md : Env → IH → Res IV} {env : Env} {ih : IH} {Q : PQ IV} {E : EQ} {f g h : IV → IV → IH → Res IV} {x y : IV}
def k_d3 (g h : IV → IV → IH → Res IV) (y : IV) (mc md : Env → IH → Res IV) (env : Env) (Q : PQ IV) (E : EQ) : PQ Bool := fun k ih => if k = true then wp (mc env ih) (k_ch2 g h y md env Q E) E else Q (.bl false) ih
def k_d2 (f g h : IV → IV → IH → Res IV) (x : IV) (mc md : Env → IH → Res IV) (env : Env) (Q : PQ IV) (E : EQ) : PQ IV := fun y ih => wp (f x y ih) (k_tb (k_d3 g h y mc md env Q E)) E
def k_d1 (f g h : IV → IV → IH → Res IV) (mb mc md : Env → IH → Res IV) (env : Env) (Q : PQ IV) (E : EQ) : PQ IV := fun x ih => wp (mb env ih) (k_d2 f g h x mc md env Q E) E
theorem wp_chain3 : wp (m_chain3 f g h ma mb mc md env ih) Q E = wp (ma env ih) (k_d1 f g h mb mc md env Q E) E := by
  unfold m_chain3
  rw [wp_bind]
  congr 1
  funext x ih
  rw [wp_bind]
  unfold k_d1
  congr 1
  funext y ih
  rw [wp_bind]
  unfold k_d2
  congr 1
  funext z ih
  cases z with
  | bl k =>
    cases k with
    | true =>
      show wp (if true = true then (mc env ih).bind _ else _) Q E = _
      rw [if_pos rfl, wp_bind]
      show _ = wp (mc env ih) (k_ch2 g h y md env Q E) E
      congr 1
      funext u ih
      rw [wp_bind]
      unfold k_ch2
      congr 1
      funext z ih
      cases z with
      | bl k =>
        cases k with
        | true =>
          show wp (if true = true then (md env ih).bind _ else _) Q E = _
          rw [if_pos rfl, wp_bind]
          rfl
        | false => rfl
      | _ => rfl
    | false => rfl
  | _ => rfl
theorem kk_d1 : k_d1 f g h mb mc md env Q E x ih = wp (mb env ih) (k_d2 f g h x mc md env Q E) E := rfl
theorem kk_d2 : k_d2 f g h x mc md env Q E y ih = wp (f x y ih) (k_tb (k_d3 g h y mc md env Q E)) E := rfl
theorem kk_d31 : k_d3 g h y mc md env Q E true ih = wp (mc env ih) (k_ch2 g h y md env Q E) E := rfl
theorem kk_d30 : k_d3 g h y mc md env Q E false ih = Q (.bl false) ih := rfl
end
/-! ### rows -/
theorem eqv_prD (a b : Int × Int) : PyData.eqv (prD a) (prD b) = decide (a = b) := by
  unfold prD
  rw [Bool.eq_iff_iff, decide_eq_true_iff]
  simp [PyData.eqv, PyData.eqvAll, Prod.ext_iff]
theorem any_prD (W : List (Int × Int)) (r : Int × Int) : ((W.map prD).any fun z => PyData.eqv z (prD r)) = decide (r ∈ W) := by
  rw [Bool.eq_iff_iff, decide_eq_true_iff, List.any_eq_true]
  constructor
  · rintro ⟨z, hz, h⟩
    obtain ⟨q, hq, rfl⟩ := List.mem_map.mp hz
    rw [eqv_prD, decide_eq_true_iff] at h
    rw [← h]
    exact hq
  · intro h
    exact ⟨prD r, List.mem_map.mpr ⟨r, h, rfl⟩, by rw [eqv_prD, decide_eq_true_iff]⟩
theorem eqv_prs0 (W : List (Int × Int)) : PyData.eqv (.list (W.map prD)) (.list []) = decide (W = []) := by
  cases W with
  | nil => simp [PyData.eqv, PyData.eqvAll]
  | cons r W => simp [PyData.eqv, PyData.eqvAll]
theorem shaped_rows (rs : List (Int × Int)) : SeqAt.shaped (.list (rs.map prD)) = true := by
  have := depth_prs rs
  unfold SeqAt.shaped
  rw [Bool.and_eq_true]
  exact ⟨by simp [PyData.canLay0, canLay_prs], decide_eq_true (by simp only [PyData.depth]; omega)⟩
theorem shaped_row (r : Int × Int) : SeqAt.shaped (prD r) = true := by
  unfold SeqAt.shaped prD
  rw [Bool.and_eq_true]
  exact ⟨by simp [PyData.canLay0, PyData.canLayAll0], decide_eq_true (by simp [PyData.depth, PyData.depthAll])⟩
section
variable {Q : PQ IV} {E : EQ} {ih : IH} {t q : Nat} {i j : Int} {xs : List IV} {W : List (Int × Int)}
theorem Is.row (gt : ih[t]? = some (.tup [.int i, .int j])) : Is ih (.ref t) (prD (i, j)) := .tup gt rfl (.cons (.int i) (.cons (.int j) .nil))
theorem wp_inP (gt : ih[t]? = some (.tup [.int i, .int j])) (gq : ih[q]? = some (.lst xs)) (pr : PR ih xs W) (k : Q (.bl (decide ((i, j) ∈ W))) ih) : wp (f_in (.ref t) (.ref q) ih) Q E := by
  have e := f_inn_of (neg := false) (Is.row gt) (.lst gq rfl pr.is) (shaped_row _) (shaped_rows W)
  rw [any_prD] at e
  exact wp.of e k
theorem wp_ninP (gt : ih[t]? = some (.tup [.int i, .int j])) (gq : ih[q]? = some (.lst xs)) (pr : PR ih xs W) (k : Q (.bl (!decide ((i, j) ∈ W))) ih) : wp (f_nin (.ref t) (.ref q) ih) Q E := by
  have e := f_inn_of (neg := true) (Is.row gt) (.lst gq rfl pr.is) (shaped_row _) (shaped_rows W)
  rw [any_prD] at e
  exact wp.of e k
end
theorem PR.kI {ih : IH} : ∀ {xs : List IV} {rs : List (Int × Int)}, PR ih xs rs → xs.map (kI ih) = rs
  | [], [], _ => rfl
  | .ref t :: xs, r :: rs, h => by
    rw [List.map_cons, PR.kI h.2]
    congr 1
    unfold L3.kI
    dsimp only
    rw [h.1]
theorem kI_of {ih : IH} {t : Nat} {i j : Int} (h : ih[t]? = some (.tup [.int i, .int j])) : kI ih (.ref t) = (i, j) := by
  unfold kI
  dsimp only
  rw [h]
/-- [part for part in (x, y) if test], nothing allocated -/
theorem lc_tup2 {Q : PQ IV} {E : EQ} {env : Env} {ih : IH} {vs : List Nat} {i n : Nat} {mt : Env → IH → Res Bool} {me : Env → IH → Res IV} {x y : IV} (T : IV → Bool) (ho : ih[n]? = some (.tup [x, y]))
    (ht : ∀ z, z = x ∨ z = y → ∀ ih', Fx ih ih' → wp (mt ((wipeI env vs).set i (some z)) ih') (fun v ih'' => v = T z ∧ ih'' = ih') E0)
    (he : ∀ z ih', Fx ih ih' → wp (me ((wipeI env vs).set i (some z)) ih') (fun v ih'' => v = z ∧ ih'' = ih') E0)
    (q : Q (.ref ih.length) (ih ++ [.lst ([x, y].filter T)])) : k_lc vs (g_nm i) mt me env Q E (.tup n) ih := by
  have hs : (Src.tup n).size ih = 2 := by
    unfold Src.size
    dsimp only
    rw [ho]
    rfl
  refine lc_gen 2 (fun k acc ih' => acc = (([x, y].take k).filter T) ∧ ih' = ih ++ [.lst acc]) (by rw [hs]; exact Nat.le_refl _) ⟨rfl, rfl⟩ (fun k acc ih' hk ⟨ha, ei⟩ hd => ?_) (fun acc ih' ⟨_, ei⟩ _ => ?_) fun acc ih' ⟨ha, ei⟩ hd => ?_
  · subst ei
    have ho' : (ih ++ [MO.lst acc])[n]? = some (.tup [x, y]) := by rw [g_old (lt_of_get ho)]; exact ho
    have la : lAt (ih ++ [MO.lst acc]) n false = some [x, y] := by
      unfold lAt
      rw [ho']
      rfl
    have hx : [x, y][k]? = some ([x, y][k]) := List.getElem?_eq_getElem hk
    obtain ⟨z, ez⟩ : ∃ z, [x, y][k] = z := ⟨_, rfl⟩
    rw [ez] at hx
    have hz : z = x ∨ z = y := by
      have := List.mem_of_getElem? hx
      simpa using this
    have et : [x, y].take (k + 1) = [x, y].take k ++ [z] := by rw [List.take_add_one, hx]; rfl
    refine ⟨z, _, _, by unfold Src.turn; dsimp only; rw [la]; dsimp only; rw [hx], rfl, wp.imp (ht z hz _ Fx.app) (fun v ih2 hv => ?_) fun _ _ h => h⟩
    obtain ⟨hv, hi⟩ := hv
    subst hi
    refine ⟨fun hb => ⟨hd, ?_, rfl⟩, fun hb => wp.imp (he z _ Fx.app) (fun w ih3 hw => ?_) fun _ _ h => h⟩
    · rw [et, List.filter_append, ha, List.filter_cons, ← hv, hb]
      simp
    · obtain ⟨hw, hi3⟩ := hw
      subst hi3
      refine ⟨hd, ?_, ?_, ?_⟩
      · rw [ha]
        exact Nat.lt_of_le_of_lt (List.length_filter_le _ _) (Nat.lt_of_le_of_lt (List.length_take_le _ _) (by omega))
      · rw [et, List.filter_append, ha, List.filter_cons, ← hv, hb, hw]
        simp
      · rw [set_append_last]
  · subst ei
    have ho' : (ih ++ [MO.lst acc])[n]? = some (.tup [x, y]) := by rw [g_old (lt_of_get ho)]; exact ho
    have la : lAt (ih ++ [MO.lst acc]) n false = some [x, y] := by
      unfold lAt
      rw [ho']
      rfl
    unfold Src.turn
    dsimp only
    rw [la]
    rfl
  · rw [ei, ha]
    exact q
end L3
/-! L13: dicts, backwards. -/
namespace L3
open PySem PySem.Spec PyProof.Rows L2
section
variable {Q : PQ IV} {E : EQ} {ih : IH} {n : Nat} {kvs : List (Key × IV)}
theorem wp_dnew {env : Env} (q : Q (.ref ih.length) (ih ++ [.dk []])) : wp (m_dnew env ih) Q E := q
theorem wp_dgetI {i : Int} {v : IV} (h : ih[n]? = some (.dk kvs)) (e : getM kvs (.inl i) = some v) (q : Q v ih) : wp (f_dget (.ref n) (.int i) ih) Q E := by
  have : f_dget (.ref n) (.int i) ih = .ok v ih := by
    unfold f_dget
    dsimp only [keyM]
    rw [h]
    dsimp only
    rw [e]
  exact wp.of this q
theorem wp_sortedD {ks : List Int} (h : ih[n]? = some (.dk kvs)) (e : keysI kvs = some ks) (hl : ks.length < 64) (q : Q (.ref ih.length) (ih ++ [.lst ((isI ks).map IV.int)])) : wp (f_sortedD [.ref n] ih) Q E := by
  have : f_sortedD [.ref n] ih = .ok (.ref ih.length) (ih ++ [.lst ((isI ks).map IV.int)]) := by
    unfold f_sortedD
    dsimp only
    rw [h]
    dsimp only
    rw [e]
    dsimp only
    rw [if_pos hl]
  exact wp.of this q
theorem wp_sumV {ns : List Int} (h : ih[n]? = some (.dk kvs)) (e : valsI kvs = some ns) (hl : okSum ns = true) (q : Q (.int ns.sum) ih) : wp (f_sumV (.ref n) ih) Q E := by
  have : f_sumV (.ref n) ih = .ok (.int ns.sum) ih := by
    unfold f_sumV
    dsimp only
    rw [h]
    dsimp only
    rw [e]
    dsimp only
    rw [if_pos hl]
  exact wp.of this q
/-- d.get(i, z), names and a constant -/
theorem wp_dget2V {a b : Nat} {i z : Int} {env : Env} (ea : env[a]? = some (some (.ref n))) (eb : env[b]? = some (some (.int i))) (h : ih[n]? = some (.dk kvs)) (q : Q ((getM kvs (.inl i)).getD (.int z)) ih) : wp (m_dget2 (m_var a) (m_var b) (m_c (.int z)) env ih) Q E := by
  have : m_dget2 (m_var a) (m_var b) (m_c (.int z)) env ih = .ok ((getM kvs (.inl i)).getD (.int z)) ih := by
    unfold m_dget2 m_var m_c
    rw [ea, eb]
    dsimp only [Res.bind]
    rw [h]
    dsimp only [keyM]
  exact wp.of this q
/-- {i: z} -/
theorem wp_disp1 {i z : Int} {env : Env} (q : Q (.ref ih.length) (ih ++ [.dk [(.inl i, .int z)]])) : wp (m_disp1 (m_c (.int i)) (m_c (.int z)) env ih) Q E := by
  have : m_disp1 (m_c (.int i)) (m_c (.int z)) env ih = .ok (.ref ih.length) (ih ++ [.dk [(.inl i, .int z)]]) := by
    unfold m_disp1 m_c
    dsimp only [Res.bind, keyM]
    rw [g_new]
    dsimp only
    rw [List.set_append_right _ _ (Nat.le_refl _), Nat.sub_self]
    rfl
  exact wp.of this q
end
/-! ### a dict with keys a step apart -/
def dkS (h s : Int) (g : Nat → Int) (m : Nat) : List (Key × IV) := (List.range m).map fun j : Nat => (.inl (h + s * j), .int (g j))
section
variable {h s : Int} {g : Nat → Int} {m : Nat}
theorem dkS_len : (dkS h s g m).length = m := by
  unfold dkS
  rw [List.length_map, List.length_range]
theorem dkS_succ : dkS h s g (m + 1) = dkS h s g m ++ [(.inl (h + s * m), .int (g m))] := by
  unfold dkS
  rw [List.range_succ, List.map_append]
  rfl
theorem key_ne (hs : 0 < s) {j k : Nat} (e : j ≠ k) : (Sum.inl (h + s * (j : Int)) : Key) ≠ Sum.inl (h + s * (k : Int)) := fun z => by
  have z1 : h + s * (j : Int) = h + s * (k : Int) := Sum.inl.inj z
  have z2 : s * (j : Int) = s * (k : Int) := by omega
  have := Int.eq_of_mul_eq_mul_left (by omega) z2
  omega
theorem dkS_get (hs : 0 < s) : ∀ (m k : Nat), getM (dkS h s g m) (.inl (h + s * k)) = if k < m then some (.int (g k)) else none
  | 0, k => by
    rw [if_neg (by omega)]
    rfl
  | m + 1, k => by
    rw [dkS_succ]
    have e : ∀ (a b : List (Key × IV)) (x : Key), getM (a ++ b) x = (getM a x).or (getM b x) := fun a b x => by
      unfold getM
      rw [List.find?_append]
      cases List.find? _ a <;> rfl
    rw [e, dkS_get hs m k]
    by_cases z : k < m
    · rw [if_pos z, if_pos (by omega)]
      rfl
    · rw [if_neg z]
      by_cases z2 : k = m
      · subst z2
        rw [if_pos (by omega)]
        unfold getM
        simp
      · rw [if_neg (by omega)]
        unfold getM
        rw [List.find?_cons, decide_eq_false (key_ne hs (fun y => z2 y.symm))]
        rfl
theorem dkS_any (hs : 0 < s) (m k : Nat) : ((dkS h s g m).any fun kv => decide (kv.1 = .inl (h + s * k))) = decide (k < m) := by
  rw [Bool.eq_iff_iff, List.any_eq_true, decide_eq_true_eq]
  unfold dkS
  constructor
  · rintro ⟨x, hx, e⟩
    obtain ⟨j, hj, rfl⟩ := List.mem_map.mp hx
    rw [List.mem_range] at hj
    have : j = k := by
      by_cases z : j = k
      · exact z
      · exact absurd (of_decide_eq_true e) (key_ne hs z)
    omega
  · intro hk
    exact ⟨_, List.mem_map.mpr ⟨k, List.mem_range.mpr hk, rfl⟩, decide_eq_true rfl⟩
theorem dkS_put (hs : 0 < s) {k : Nat} {v : Int} (hk : k ≤ m) : putM (dkS h s g m) (.inl (h + s * k)) (.int v) = dkS h s (fun j => if j = k then v else g j) (if k < m then m else m + 1) := by
  unfold putM
  rw [dkS_any hs]
  by_cases z : k < m
  · rw [decide_eq_true z, if_pos rfl, if_pos z]
    unfold dkS
    rw [List.map_map]
    refine List.map_congr_left fun j _ => ?_
    show (if (Sum.inl (h + s * (j : Int)) : Key) = Sum.inl (h + s * (k : Int)) then _ else _) = _
    by_cases y : j = k
    · subst y
      rw [if_pos rfl]
      simp
    · rw [if_neg (key_ne hs y)]
      simp [y]
  · have : k = m := by omega
    subst this
    rw [decide_eq_false z, if_neg (by decide), if_neg z, dkS_succ, if_pos rfl]
    congr 1
    unfold dkS
    refine List.map_congr_left fun j hj => ?_
    rw [List.mem_range] at hj
    simp [show ¬ j = k by omega]
theorem dkS_keys : keysI (dkS h s g m) = some ((List.range m).map fun j : Nat => h + s * (j : Int)) := by
  unfold dkS
  generalize List.range m = l
  induction l with
  | nil => rfl
  | cons j l ih =>
    rw [List.map_cons, List.map_cons]
    unfold keysI
    rw [ih]
    rfl
theorem dkS_vals : valsI (dkS h s g m) = some ((List.range m).map g) := by
  unfold dkS
  generalize List.range m = l
  induction l with
  | nil => rfl
  | cons j l ih =>
    rw [List.map_cons, List.map_cons]
    unfold valsI
    rw [ih]
    rfl
end
end L3
/-! PW: is_whole. -/
namespace L3
open PySem PySem.Spec PyProof.Rows L2
local macro_rules | `(tactic| walk_at "get") => `(tactic| simp (disch := first | assumption | omega | (simp only [List.length_append, List.length_set, List.length_cons, List.length_nil, List.length_map] <;> omega) | fail) only [g_new, g_nw, g_old, g_set, g_sne, List.length_append, List.length_set, List.length_cons, List.length_nil, List.length_map, List.map_map, Function.comp_def, xs_lst, xs_tup, isL_lst, isL_tup, ↓reduceIte, *])
local macro_rules | `(tactic| walk_at "fr") => `(tactic| first | (intro _ _ _; simp (disch := first | assumption | omega | (simp only [List.length_append, List.length_set, List.length_cons, List.length_nil, List.length_map] <;> omega) | fail) only [g_new, g_nw, g_old, g_set, g_sne, List.length_append, List.length_set, List.length_cons, List.length_nil, List.length_map, List.map_map, Function.comp_def, xs_lst, xs_tup, isL_lst, isL_tup, ↓reduceIte, *]) | (intro _ _; simp (disch := first | assumption | omega | (simp only [List.length_append, List.length_set, List.length_cons, List.length_nil, List.length_map] <;> omega) | fail) only [g_new, g_nw, g_old, g_set, g_sne, List.length_append, List.length_set, List.length_cons, List.length_nil, List.length_map, List.map_map, Function.comp_def, xs_lst, xs_tup, isL_lst, isL_tup, ↓reduceIte, *]))
local macro_rules | `(tactic| walk_at "run") => `(tactic| simp -implicitDefEqProofs (disch := first | assumption | omega | (simp only [List.length_append, List.length_set, List.length_cons, List.length_nil, List.length_map] <;> omega) | fail) only [wp_ok, wp_exc, wp_stuck, ws_ok, ws_exc, ws_stuck, wp_op, kk_op, kk_un, wp_un, wp_cons, kk_cons, kk_cons2, wp_nil, wp_c, wp_app, wp_if, kk_if1, kk_if0, wp_and, kk_and1, kk_and0, wp_or, kk_or1, kk_or0, wp_not, kk_not, wp_tb, kk_tb, wp_andV, kk_andV1, kk_andV0, wp_orV, kk_orV1, kk_orV0, wp_notV, kk_notV, wp_noneS, wp_some, kk_some, wp_sl, kk_sl, kk_sl2, kk_sl3, wp_mL, kk_mL, kk_mL2, wp_mL0, kk_mL0, wp_chain, kk_ch, kk_ch2, kk_ch31, kk_ch30, ws_set, kks_nm, kks_g, kks_tup, kks_lst, ws_expr, kks_expr, ws_ret, kks_ret, ws_retN, ws_pass, ws_brk, ws_cont, ws_raise, ws_if, kks_if1, kks_if0, ws_seq, kks_next, kks_retS, kks_brk, kks_cont, kk_augE, ws_aug, kks_aug, kks_aug2, ws_par, kks_par, ws_setL, kks_sl, kks_sl2, kks_sl3, wp_def, kkd_ret, kkd_next, kkdE, kkE, ws_for, wp_lc, wp_r1, kk_r1, wp_r2, kk_r2, wp_il, wp_it, wp_ie, wp_iz, kk_il, kk_il2, kk_it, kk_it2, kk_ie, kk_ie2, kk_iz, kk_iz2, lAt_k, k_lAtL, k_lAtO, k_lAtT, wp_int, wp_add, wp_addI, wp_sub, wp_neg, wp_lt, wp_le, wp_gt, wp_ge, wp_max2, wp_min2, wp_abs, wp_mulI, wp_mul, wp_fdiv, wp_mod, wp_shl, wp_shr, wp_pow, wp_isN, wp_notN, wp_eqI, wp_neI, wp_ix, kk_ix, kk_ix2, wp_len, kk_lenL, kk_lenT, kk_lenO, kk_lenP, wp_appd, kk_app1, isL_k, kk_isL, startI_cons, startI_nil, rep_succ, rep_zero, List.getElem?_cons_zero, List.getElem?_cons_succ, List.set_cons_zero, List.set_cons_succ, f_call, m_var, List.append_nil, List.nil_append, List.cons_append, List.length_cons, List.length_nil, if_true, if_false, g_tup, g_lst, g_cons, g_nil, g_nm, Option.bind_some, kks_g, atI_0, atI_1, atI_2, atI_3, atI_4, atI_5, atI_6, atI_7, atI_8, atI_9, atI_10, atI_11, atI_12, atI_last, cutI_1, ixN_30, ixN_31, ixN_32, Int.toNat_zero, Int.reduceToNat, Int.reduceNeg, xs_lst, xs_tup, xs_ro, xs_rot, isL_lst, isL_tup, isL_ro, isL_rot, isT_tup, isT_rot, Bool.false_eq_true, Bool.true_eq_false, Bool.not_true, Bool.not_false, decide_true, decide_false, Int.reduceLT, Int.reduceLE, Nat.reduceLT, Nat.reduceLeDiff, Nat.reduceAdd, Nat.reduceEqDiff, Bool.not_eq_true, true_and, and_true, and_self, eq_self, g_new, g_nw, g_old, g_set, g_sne, List.length_set, List.length_append, wp_r3, kk_r3, Int.cast_ofNat_Int, Int.reduceEq, Int.natCast_zero, Int.natCast_one, ws_whileA, wp_isiII, wp_isiIB, wp_isiR, tyO_l, tyO_t, kk_isi, kk_isi2, kit_ll, kit_tt, kit_lt, kit_tl, wp_isiN, wp_isiBl, wp_isiS, tyO_d, kit2_NoneType_int, kit2_NoneType_bool, kit2_NoneType_list, kit2_NoneType_tuple, kit2_NoneType_str, kit2_bool_int, kit2_bool_bool, kit2_bool_list, kit2_bool_tuple, kit2_bool_str, kit2_str_int, kit2_str_bool, kit2_str_list, kit2_str_tuple, kit2_str_str, kit2_dict_int, kit2_dict_bool, kit2_dict_list, kit2_dict_tuple, kit2_dict_str, kit2_list_int, kit2_list_bool, kit2_list_str, kit2_tuple_int, kit2_tuple_bool, kit2_tuple_str, kit2_int_list, kit2_int_tuple, kit2_int_str, kf_next, kf_cont, kf_brk, kf_ret, wipeI, ↓reduceIte, *])
theorem q_whole (c : Cs) (i l : Int) (ih : IH) (Q : PQ IV) (E : EQ) : wp (m_is_whole c [.int i, .int l] ih) Q E = Q (.bl (decide (l ≤ i))) ih := by
  have a3 : decide (IV.int l = IV.non) = false := rfl
  unfold m_is_whole b_is_whole
  walk_at "run"
theorem q_whole0 (c : Cs) (i : Int) (ih : IH) (Q : PQ IV) (E : EQ) : wp (m_is_whole c [.int i, .non] ih) Q E = Q (.bl true) ih := by
  have a3 : decide (IV.non = IV.non) = true := rfl
  unfold m_is_whole b_is_whole
  walk_at "run"
end L3
/-! L15: a caught exception by its name, count and index, texts, values of all kinds; backwards. -/
namespace L3
open PySem PySem.Spec PyProof.Rows L2
open Classical in
noncomputable def tryH (i : Nat) (exm : Addr → Option Bool) (ms : Addr → Addr → Env → IH → RS) (c : Addr) (env1 : Env) (ih1 : IH) : RS := match exm c with
  | some true => if ∀ a, (ms a c (env1.set i (some (.gl a))) ih1).unset i = (ms 0 c (env1.set i (some (.gl 0))) ih1).unset i then (ms 0 c (env1.set i (some (.gl 0))) ih1).unset i else .stuck
  | some false => .exc c env1 ih1
  | none => .stuck
def k_try (i : Nat) (exm : Addr → Option Bool) (ms : Addr → Addr → Env → IH → RS) (S : SQ) (F : ES) : ES := fun c env ih => ws (tryH i exm ms c env ih) S F
section
variable {i : Nat} {exm : Addr → Option Bool} {ms : Addr → Addr → Env → IH → RS} {mb : Env → IH → RS} {S : SQ} {F : ES} {Q : PQ IV} {E : EQ} {env : Env} {ih ih' : IH} {c a d : Addr} {v x y : IV} {K : PySem.W.Frag} {T : String} {b : Bool} {n p : Nat} {xs : List IV}
theorem ws_try : ws (ms_try i exm mb ms env ih) S F = ws (mb env ih) S (k_try i exm ms S F) := by
  unfold ms_try
  cases mb env ih <;> rfl
theorem kk_try (he : exm c = some true) (h : ∀ a, ms a c (env.set i (some (.gl a))) ih = .ok (.ret v) ih') (q : S (.ret v) ih') : k_try i exm ms S F c env ih := by
  unfold k_try tryH
  rw [he]
  dsimp only
  rw [if_pos (fun a => by rw [h a, h 0]), h 0]
  exact q
theorem kk_tryF (he : exm c = some false) (q : F c env ih) : k_try i exm ms S F c env ih := by
  unfold k_try tryH
  rw [he]
  exact q
def k_isE (Q : PQ IV) (ih : IH) : Option Bool → Prop
  | some b => Q (.bl b) ih
  | none => False
theorem kk_isE : k_isE Q ih (some b) = Q (.bl b) ih := rfl
theorem wp_isEg (h : ExcC K c) : wp (f_isE K a c [.gl a, .gl d] ih) Q E = k_isE Q ih (PySem.W.kitOne K (.ref c) (.ref d)) := by
  unfold f_isE
  dsimp only
  rw [if_pos ⟨rfl, h⟩]
  dsimp only [clsOf]
  cases PySem.W.kitOne K (.ref c) (.ref d) <;> rfl
theorem wp_isEt (h : ExcC K c) : wp (f_isE K a c [.gl a, .ty T] ih) Q E = k_isE Q ih (PySem.W.kitOne K (.ref c) (.type T)) := by
  unfold f_isE
  dsimp only
  rw [if_pos ⟨rfl, h⟩]
  dsimp only [clsOf]
  cases PySem.W.kitOne K (.ref c) (.type T) <;> rfl
theorem wp_count {k : Int} (h : ih[n]? = some (.lst xs)) (f : (flatI y && xs.all flatI) = true) (e : ((xs.countP (eqI y) : Nat) : Int) = k) (q : Q (.int k) ih) : wp (f_count (.ref n) [y] ih) Q E := by
  rw [Bool.and_eq_true] at f
  have : f_count (.ref n) [y] ih = .ok (.int k) ih := by
    unfold f_count
    dsimp only
    rw [h]
    dsimp only
    rw [if_pos ⟨rfl, f.1, f.2⟩]
    show Res.ok (IV.int ((xs.countP (eqI y) : Nat) : Int)) ih = _
    rw [e]
  exact wp.of this q
theorem wp_index {j : Nat} (h : ih[n]? = some (.lst xs)) (f : (flatI y && xs.all flatI) = true) (e : xs.findIdx? (eqI y) = some j) (q : Q (.int (j : Int)) ih) : wp (f_index (.ref n) [y] ih) Q E := by
  rw [Bool.and_eq_true] at f
  have : f_index (.ref n) [y] ih = .ok (.int (j : Int)) ih := by
    unfold f_index
    dsimp only
    rw [h]
    dsimp only
    rw [if_pos ⟨rfl, f.1, f.2⟩]
    show (match xs.findIdx? (eqI y) with
      | some j => Res.ok (IV.int (j : Nat)) ih
      | none => .stuck) = _
    rw [e]
  exact wp.of this q
def b2i (b : Bool) : Int := if b = true then 1 else 0
theorem wp_int2 : wp (f_int [.bl b] ih) Q E = Q (.int (b2i b)) ih := rfl
theorem pick2 : atI [x, y] (b2i b) = some (if b = true then y else x) := by cases b <;> rfl
theorem wp_dct (q : Q (.ref ih.length) (ih ++ [.dct])) : wp (m_dct env ih) Q E := q
theorem wp_mulL {k : Int} (h : ih[n]? = some (.lst xs)) (h0 : 0 ≤ k) (h1 : k ≤ 100000) (h2 : xs.length * k.toNat ≤ 100000) (q : Q (.ref ih.length) (ih ++ [.lst (List.replicate k.toNat xs).flatten])) : wp (f_mulA (.ref n) (.int k) ih) Q E := by
  have : f_mulA (.ref n) (.int k) ih = .ok (.ref ih.length) (ih ++ [.lst (List.replicate k.toNat xs).flatten]) := by
    unfold f_mulA
    dsimp only
    rw [h]
    dsimp only
    rw [if_pos ⟨h0, h1, h2⟩]
  exact wp.of this q
theorem wp_tupleL (h : ih[n]? = some (.lst xs)) (q : Q (.ref ih.length) (ih ++ [.tup xs])) : wp (f_tuple [.ref n] ih) Q E := by
  have : f_tuple [.ref n] ih = .ok (.ref ih.length) (ih ++ [.tup xs]) := by
    unfold f_tuple
    dsimp only
    rw [h]
    rfl
  exact wp.of this q
theorem wp_eqLen {m : Nat} {ys : List IV} (h1 : ih[n]? = some (.lst xs)) (h2 : ih[m]? = some (.lst ys)) (hl : xs.length ≠ ys.length) (q : Q (.bl false) ih) : wp (f_eq (.ref n) (.ref m) ih) Q E :=
  wp.of (f_eqn_len h1 h2 rfl rfl hl) q
end
/-! ### values of all kinds -/
def KV (p : Nat) (ih : IH) : IV → Prop
  | .ref k => k ≠ p ∧ ∃ t, tyO ih[k]? = some t
  | .gl _ => False
  | .ty _ => False
  | _ => True
def whl (l : Int) : IV → Bool
  | .int i => decide (l ≤ i)
  | _ => false
theorem tyO_lt {ih : IH} {k : Nat} {t : String} (h : tyO ih[k]? = some t) : k < ih.length := by
  rcases Nat.lt_or_ge k ih.length with l | l
  · exact l
  · rw [List.getElem?_eq_none l] at h
    cases h
theorem KV.fr {p : Nat} {ih ih' : IH} {v : IV} (h : KV p ih v) (f : Fr p ih ih') : KV p ih' v := by
  cases v with
  | ref k =>
    obtain ⟨h1, t, h2⟩ := h
    exact ⟨h1, t, by rw [f k (tyO_lt h2) h1]; exact h2⟩
  | _ => exact h
theorem KV.fx {p : Nat} {ih ih' : IH} {v : IV} (h : KV p ih v) (f : Fx ih ih') : KV p ih' v := h.fr f.fr
theorem tyO_cases {ih : IH} {k : Nat} {t : String} (h : tyO ih[k]? = some t) : (t = "list" ∧ ∃ xs, ih[k]? = some (.lst xs)) ∨ t = "tuple" ∨ t = "dict" := by
  unfold tyO at h
  split at h
  · rename_i xs e
    cases h
    exact .inl ⟨rfl, xs, e⟩
  · cases h; exact .inr (.inl rfl)
  · cases h; exact .inr (.inr rfl)
  · cases h; exact .inr (.inr rfl)
  · cases h
/-- what is no good list; T: the good ones -/
def Bad (T : List IV → Bool) (p : Nat) (ih : IH) : IV → Prop
  | .ref k => k ≠ p ∧ ((∃ xs, ih[k]? = some (.lst xs) ∧ xs.length < 1000 ∧ (∀ x ∈ xs, KV p ih x) ∧ T xs = false) ∨ ∃ t, tyO ih[k]? = some t ∧ t ≠ "list")
  | .gl _ => False
  | .ty _ => False
  | _ => True
theorem Bad.fr {T : List IV → Bool} {p : Nat} {ih ih' : IH} {v : IV} (h : Bad T p ih v) (f : Fr p ih ih') : Bad T p ih' v := by
  cases v with
  | ref k =>
    obtain ⟨h1, h2⟩ := h
    refine ⟨h1, ?_⟩
    rcases h2 with ⟨xs, g, a, b, d⟩ | ⟨t, g, b⟩
    · exact .inl ⟨xs, by rw [f k (lt_of_get g) h1]; exact g, a, fun x hx => (b x hx).fr f, d⟩
    · exact .inr ⟨t, by rw [f k (tyO_lt g) h1]; exact g, b⟩
  | _ => exact h
theorem whl_int {xs : List IV} {l : Int} (h : xs.all (whl l) = true) : ∃ ns : List Int, xs = ns.map IV.int ∧ ∀ n ∈ ns, l ≤ n := by
  induction xs with
  | nil => exact ⟨[], rfl, fun _ h => nomatch h⟩
  | cons x r ih =>
    rw [List.all_cons, Bool.and_eq_true] at h
    obtain ⟨ns, e, hn⟩ := ih h.2
    cases x with
    | int i => exact ⟨i :: ns, by rw [e]; rfl, fun n hm => by
        rcases List.mem_cons.mp hm with e2 | e2
        · rw [e2]; exact of_decide_eq_true h.1
        · exact hn n e2⟩
    | _ => cases h.1
theorem strOk_sh (x : Str) (hx : PyData.strOk x = true) : SeqAt.shaped (.str x) = true := by
  simp [hx, SeqAt.shaped, PyData.canLay0, PyData.canLayAll0, PyData.depth, PyData.depthAll]
section
variable {Q : PQ IV} {E : EQ} {ih : IH} {x y : Str}
theorem wp_neS (hx : PyData.strOk x = true) (hy : PyData.strOk y = true) : wp (f_ne (.str x) (.str y) ih) Q E = Q (.bl (!decide (x = y))) ih := by
  rw [f_ne_of (.str x) (.str y) (strOk_sh x hx) (strOk_sh y hy)]
  show Q (.bl (!PyData.eqv (.str x) (.str y))) ih = _
  have : PyData.eqv (.str x) (.str y) = decide (x = y) := by
    unfold PyData.eqv
    by_cases h : x = y
    · subst h; simp
    · simp [h]
  rw [this]
end
/-! ### several objects that stay -/
/-- objects, none of them the source -/
structure Kp (p : Nat) (ih : IH) (L : List (Nat × MO)) : Prop where
  all : ∀ x ∈ L, ih[x.1]? = some x.2 ∧ x.1 ≠ p
theorem Kp.nil {p : Nat} {ih : IH} : Kp p ih [] := ⟨fun _ h => nomatch h⟩
theorem Kp.fr {p : Nat} {ih ih' : IH} {L : List (Nat × MO)} (h : Kp p ih L) (f : Fr p ih ih') : Kp p ih' L := ⟨fun x hx => by
  obtain ⟨a, b⟩ := h.all x hx
  exact ⟨(f x.1 (lt_of_get a) b).trans a, b⟩⟩
theorem Kp.fx {p : Nat} {ih ih' : IH} {L : List (Nat × MO)} (h : Kp p ih L) (f : Fx ih ih') : Kp p ih' L := h.fr f.fr
theorem Kp.put {p q : Nat} {ih : IH} {o : MO} {L : List (Nat × MO)} (h : Kp p ih L) (g : ih[q]? = some o) (e : q ≠ p) : Kp p ih ((q, o) :: L) := ⟨fun x hx => by
  rcases List.mem_cons.mp hx with rfl | hx
  · exact ⟨g, e⟩
  · exact h.all x hx⟩
theorem Kp.add {p q : Nat} {ih ih' : IH} {o : MO} {L : List (Nat × MO)} (h : Kp p ih L) (f : Fx ih ih') (g : ih'[q]? = some o) (l : ih.length ≤ q) (lp : p < ih.length) : Kp p ih' ((q, o) :: L) := (h.fx f).put g (by omega)
theorem Kp.get {p q : Nat} {ih : IH} {o : MO} {L : List (Nat × MO)} (h : Kp p ih L) (i : Nat) (e : L[i]? = some (q, o) := by rfl) : ih[q]? = some o := (h.all _ (List.mem_of_getElem? e)).1
theorem Kp.ne {p q : Nat} {ih : IH} {o : MO} {L : List (Nat × MO)} (h : Kp p ih L) (i : Nat) (e : L[i]? = some (q, o) := by rfl) : q ≠ p := (h.all _ (List.mem_of_getElem? e)).2
end L3
/-! PV0: is_whole of values of all kinds. -/
namespace L3
open PySem PySem.Spec PyProof.Rows L2
local macro_rules | `(tactic| walk_at "get") => `(tactic| simp (disch := first | assumption | omega | (simp only [List.length_append, List.length_set, List.length_cons, List.length_nil, List.length_map] <;> omega) | fail) only [g_new, g_nw, g_old, g_set, g_sne, List.length_append, List.length_set, List.length_cons, List.length_nil, List.length_map, List.map_map, Function.comp_def, xs_lst, xs_tup, isL_lst, isL_tup, ↓reduceIte, *])
local macro_rules | `(tactic| walk_at "fr") => `(tactic| first | (intro _ _ _; simp (disch := first | assumption | omega | (simp only [List.length_append, List.length_set, List.length_cons, List.length_nil, List.length_map] <;> omega) | fail) only [g_new, g_nw, g_old, g_set, g_sne, List.length_append, List.length_set, List.length_cons, List.length_nil, List.length_map, List.map_map, Function.comp_def, xs_lst, xs_tup, isL_lst, isL_tup, ↓reduceIte, *]) | (intro _ _; simp (disch := first | assumption | omega | (simp only [List.length_append, List.length_set, List.length_cons, List.length_nil, List.length_map] <;> omega) | fail) only [g_new, g_nw, g_old, g_set, g_sne, List.length_append, List.length_set, List.length_cons, List.length_nil, List.length_map, List.map_map, Function.comp_def, xs_lst, xs_tup, isL_lst, isL_tup, ↓reduceIte, *]))
local macro_rules | `(tactic| walk_at "run") => `(tactic| simp -implicitDefEqProofs (disch := first | assumption | omega | (simp only [List.length_append, List.length_set, List.length_cons, List.length_nil, List.length_map] <;> omega) | fail) only [wp_ok, wp_exc, wp_stuck, ws_ok, ws_exc, ws_stuck, wp_op, kk_op, kk_un, wp_un, wp_cons, kk_cons, kk_cons2, wp_nil, wp_c, wp_app, wp_if, kk_if1, kk_if0, wp_and, kk_and1, kk_and0, wp_or, kk_or1, kk_or0, wp_not, kk_not, wp_tb, kk_tb, wp_andV, kk_andV1, kk_andV0, wp_orV, kk_orV1, kk_orV0, wp_notV, kk_notV, wp_noneS, wp_some, kk_some, wp_sl, kk_sl, kk_sl2, kk_sl3, wp_mL, kk_mL, kk_mL2, wp_mL0, kk_mL0, wp_chain, kk_ch, kk_ch2, kk_ch31, kk_ch30, ws_set, kks_nm, kks_g, kks_tup, kks_lst, ws_expr, kks_expr, ws_ret, kks_ret, ws_retN, ws_pass, ws_brk, ws_cont, ws_raise, ws_if, kks_if1, kks_if0, ws_seq, kks_next, kks_retS, kks_brk, kks_cont, kk_augE, ws_aug, kks_aug, kks_aug2, ws_par, kks_par, ws_setL, kks_sl, kks_sl2, kks_sl3, wp_def, kkd_ret, kkd_next, kkdE, kkE, ws_for, wp_lc, wp_r1, kk_r1, wp_r2, kk_r2, wp_il, wp_it, wp_ie, wp_iz, kk_il, kk_il2, kk_it, kk_it2, kk_ie, kk_ie2, kk_iz, kk_iz2, lAt_k, k_lAtL, k_lAtO, k_lAtT, wp_int, wp_add, wp_addI, wp_sub, wp_neg, wp_lt, wp_le, wp_gt, wp_ge, wp_max2, wp_min2, wp_abs, wp_mulI, wp_mul, wp_fdiv, wp_mod, wp_shl, wp_shr, wp_pow, wp_isN, wp_notN, wp_eqI, wp_neI, wp_ix, kk_ix, kk_ix2, wp_len, kk_lenL, kk_lenT, kk_lenO, kk_lenP, wp_appd, kk_app1, isL_k, kk_isL, startI_cons, startI_nil, rep_succ, rep_zero, List.getElem?_cons_zero, List.getElem?_cons_succ, List.set_cons_zero, List.set_cons_succ, f_call, m_var, List.append_nil, List.nil_append, List.cons_append, List.length_cons, List.length_nil, if_true, if_false, g_tup, g_lst, g_cons, g_nil, g_nm, Option.bind_some, kks_g, atI_0, atI_1, atI_2, atI_3, atI_4, atI_5, atI_6, atI_7, atI_8, atI_9, atI_10, atI_11, atI_12, atI_last, cutI_1, ixN_30, ixN_31, ixN_32, Int.toNat_zero, Int.reduceToNat, Int.reduceNeg, xs_lst, xs_tup, xs_ro, xs_rot, isL_lst, isL_tup, isL_ro, isL_rot, isT_tup, isT_rot, Bool.false_eq_true, Bool.true_eq_false, Bool.not_true, Bool.not_false, decide_true, decide_false, Int.reduceLT, Int.reduceLE, Nat.reduceLT, Nat.reduceLeDiff, Nat.reduceAdd, Nat.reduceEqDiff, Bool.not_eq_true, true_and, and_true, and_self, eq_self, g_new, g_nw, g_old, g_set, g_sne, List.length_set, List.length_append, wp_r3, kk_r3, Int.cast_ofNat_Int, Int.reduceEq, Int.natCast_zero, Int.natCast_one, ws_whileA, wp_isiII, wp_isiIB, wp_isiR, tyO_l, tyO_t, kk_isi, kk_isi2, kit_ll, kit_tt, kit_lt, kit_tl, wp_isiN, wp_isiBl, wp_isiS, tyO_d, kit2_NoneType_int, kit2_NoneType_bool, kit2_NoneType_list, kit2_NoneType_tuple, kit2_NoneType_str, kit2_bool_int, kit2_bool_bool, kit2_bool_list, kit2_bool_tuple, kit2_bool_str, kit2_str_int, kit2_str_bool, kit2_str_list, kit2_str_tuple, kit2_str_str, kit2_dict_int, kit2_dict_bool, kit2_dict_list, kit2_dict_tuple, kit2_dict_str, kit2_list_int, kit2_list_bool, kit2_list_str, kit2_tuple_int, kit2_tuple_bool, kit2_tuple_str, kit2_int_list, kit2_int_tuple, kit2_int_str, kf_next, kf_cont, kf_brk, kf_ret, wipeI, ↓reduceIte, *])
theorem w_wholeV (c : Cs) {p : Nat} {ih : IH} {v : IV} {Q : PQ IV} {E : EQ} (h : KV p ih v) (l : Int) (q : Q (.bl (whl l v)) ih) : wp (m_is_whole c [v, .int l] ih) Q E := by
  have a3 : decide (IV.int l = IV.non) = false := rfl
  unfold m_is_whole b_is_whole
  cases v with
  | int i =>
    unfold whl at q
    walk_at "run"
    all_goals exact q
  | non => walk_at "run"; all_goals exact q
  | bl b => walk_at "run"; all_goals exact q
  | str x => walk_at "run"; all_goals exact q
  | gl a => exact h.elim
  | ty a => exact h.elim
  | ref k =>
    obtain ⟨_, t, ht⟩ := h
    unfold whl at q
    rcases tyO_cases ht with ⟨e, _⟩ | e | e <;> (subst e; walk_at "run"; all_goals exact q)
/-- None stands for no least one -/
def whl0 : IV → Bool
  | .int _ => true
  | _ => false
theorem w_wholeV0 (c : Cs) {p : Nat} {ih : IH} {v : IV} {Q : PQ IV} {E : EQ} (h : KV p ih v) (q : Q (.bl (whl0 v)) ih) : wp (m_is_whole c [v, .non] ih) Q E := by
  have a3 : decide (IV.non = IV.non) = true := rfl
  unfold m_is_whole b_is_whole
  cases v with
  | int i =>
    unfold whl0 at q
    walk_at "run"
    all_goals exact q
  | non => walk_at "run"; all_goals exact q
  | bl b => walk_at "run"; all_goals exact q
  | str x => walk_at "run"; all_goals exact q
  | gl a => exact h.elim
  | ty a => exact h.elim
  | ref k =>
    obtain ⟨_, t, ht⟩ := h
    unfold whl0 at q
    rcases tyO_cases ht with ⟨e, _⟩ | e | e <;> (subst e; walk_at "run"; all_goals exact q)
end L3
/-! K32: fewest looks: the parts. -/
namespace L3
open PySem PySem.Spec PyProof.Rows L2
local macro_rules | `(tactic| walk_at "get") => `(tactic| simp (disch := first | assumption | omega | (simp only [List.length_append, List.length_set, List.length_cons, List.length_nil, List.length_map] <;> omega) | fail) only [g_new, g_nw, g_old, g_set, g_sne, List.length_append, List.length_set, List.length_cons, List.length_nil, List.length_map, List.map_map, Function.comp_def, xs_lst, xs_tup, isL_lst, isL_tup, ↓reduceIte, *])
local macro_rules | `(tactic| walk_at "fr") => `(tactic| first | (intro _ _ _; simp (disch := first | assumption | omega | (simp only [List.length_append, List.length_set, List.length_cons, List.length_nil, List.length_map] <;> omega) | fail) only [g_new, g_nw, g_old, g_set, g_sne, List.length_append, List.length_set, List.length_cons, List.length_nil, List.length_map, List.map_map, Function.comp_def, xs_lst, xs_tup, isL_lst, isL_tup, ↓reduceIte, *]) | (intro _ _; simp (disch := first | assumption | omega | (simp only [List.length_append, List.length_set, List.length_cons, List.length_nil, List.length_map] <;> omega) | fail) only [g_new, g_nw, g_old, g_set, g_sne, List.length_append, List.length_set, List.length_cons, List.length_nil, List.length_map, List.map_map, Function.comp_def, xs_lst, xs_tup, isL_lst, isL_tup, ↓reduceIte, *]))
local macro_rules | `(tactic| walk_at "run") => `(tactic| simp -implicitDefEqProofs (disch := first | assumption | omega | (simp only [List.length_append, List.length_set, List.length_cons, List.length_nil, List.length_map] <;> omega) | fail) only [wp_ok, wp_exc, wp_stuck, ws_ok, ws_exc, ws_stuck, wp_op, kk_op, kk_un, wp_un, wp_cons, kk_cons, kk_cons2, wp_nil, wp_c, wp_app, wp_if, kk_if1, kk_if0, wp_and, kk_and1, kk_and0, wp_or, kk_or1, kk_or0, wp_not, kk_not, wp_tb, kk_tb, wp_andV, kk_andV1, kk_andV0, wp_orV, kk_orV1, kk_orV0, wp_notV, kk_notV, wp_noneS, wp_some, kk_some, wp_sl, kk_sl, kk_sl2, kk_sl3, wp_mL, kk_mL, kk_mL2, wp_mL0, kk_mL0, wp_chain, kk_ch, kk_ch2, kk_ch31, kk_ch30, ws_set, kks_nm, kks_g, kks_tup, kks_lst, ws_expr, kks_expr, ws_ret, kks_ret, ws_retN, ws_pass, ws_brk, ws_cont, ws_raise, ws_if, kks_if1, kks_if0, ws_seq, kks_next, kks_retS, kks_brk, kks_cont, kk_augE, ws_aug, kks_aug, kks_aug2, ws_par, kks_par, ws_setL, kks_sl, kks_sl2, kks_sl3, wp_def, kkd_ret, kkd_next, kkdE, kkE, ws_for, wp_lc, wp_r1, kk_r1, wp_r2, kk_r2, wp_il, wp_it, wp_ie, wp_iz, kk_il, kk_il2, kk_it, kk_it2, kk_ie, kk_ie2, kk_iz, kk_iz2, lAt_k, k_lAtL, k_lAtO, k_lAtT, wp_int, wp_add, wp_addI, wp_sub, wp_neg, wp_lt, wp_le, wp_gt, wp_ge, wp_max2, wp_min2, wp_abs, wp_mulI, wp_mul, wp_fdiv, wp_mod, wp_shl, wp_shr, wp_pow, wp_isN, wp_notN, wp_eqI, wp_neI, wp_ix, kk_ix, kk_ix2, wp_len, kk_lenL, kk_lenT, kk_lenO, kk_lenP, wp_appd, kk_app1, isL_k, kk_isL, startI_cons, startI_nil, rep_succ, rep_zero, List.getElem?_cons_zero, List.getElem?_cons_succ, List.set_cons_zero, List.set_cons_succ, f_call, m_var, List.append_nil, List.nil_append, List.cons_append, List.length_cons, List.length_nil, if_true, if_false, g_tup, g_lst, g_cons, g_nil, g_nm, Option.bind_some, kks_g, atI_0, atI_1, atI_2, atI_3, atI_4, atI_5, atI_6, atI_7, atI_8, atI_9, atI_10, atI_11, atI_12, atI_last, cutI_1, ixN_30, ixN_31, ixN_32, Int.toNat_zero, Int.reduceToNat, Int.reduceNeg, xs_lst, xs_tup, xs_ro, xs_rot, isL_lst, isL_tup, isL_ro, isL_rot, isT_tup, isT_rot, Bool.false_eq_true, Bool.true_eq_false, Bool.not_true, Bool.not_false, decide_true, decide_false, Int.reduceLT, Int.reduceLE, Nat.reduceLT, Nat.reduceLeDiff, Nat.reduceAdd, Nat.reduceEqDiff, Bool.not_eq_true, true_and, and_true, and_self, eq_self, g_new, g_nw, g_old, g_set, g_sne, List.length_set, List.length_append, wp_r3, kk_r3, Int.cast_ofNat_Int, Int.reduceEq, Int.natCast_zero, Int.natCast_one, ws_whileA, wp_isiII, wp_isiIB, wp_isiR, tyO_l, tyO_t, kk_isi, kk_isi2, kit_ll, kit_tt, kit_lt, kit_tl, wp_isiN, wp_isiBl, wp_isiS, tyO_d, kit2_NoneType_int, kit2_NoneType_bool, kit2_NoneType_list, kit2_NoneType_tuple, kit2_NoneType_str, kit2_bool_int, kit2_bool_bool, kit2_bool_list, kit2_bool_tuple, kit2_bool_str, kit2_str_int, kit2_str_bool, kit2_str_list, kit2_str_tuple, kit2_str_str, kit2_dict_int, kit2_dict_bool, kit2_dict_list, kit2_dict_tuple, kit2_dict_str, kit2_list_int, kit2_list_bool, kit2_list_str, kit2_tuple_int, kit2_tuple_bool, kit2_tuple_str, kit2_int_list, kit2_int_tuple, kit2_int_str, kf_next, kf_cont, kf_brk, kf_ret, wipeI, ↓reduceIte, *])
theorem k_andD {nb : Env → IH → Res Bool} {env : Env} {QB : PQ Bool} {E : EQ} {b v : Bool} {ih : IH} (h : wp (nb env ih) (fun x ih' => x = v ∧ ih' = ih) E0) (q : QB (b && v) ih) : k_and nb env QB E b ih := by
  cases b with
  | true => exact wp.of h.eq q
  | false => exact q
/-- [me for a, b in rows if test], nothing allocated -/
theorem lc_rowsT {Q : PQ IV} {E : EQ} {env : Env} {ih : IH} {vs : List Nat} {i j n : Nat} {mt : Env → IH → Res Bool} {me : Env → IH → Res IV} {xs : List IV} {rs : List (Int × Int)} (T : Int × Int → Bool) (F : Int × Int → IV) (ho : ih[n]? = some (.lst xs)) (pr : PR ih xs rs) (hz : rs.length < 100000)
    (ht : ∀ r ∈ rs, ∀ ih', Fx ih ih' → wp (mt (((wipeI env vs).set i (some (.int r.1))).set j (some (.int r.2))) ih') (fun v ih'' => v = T r ∧ ih'' = ih') E0)
    (he : ∀ r ∈ rs, T r = true → ∀ ih', Fx ih ih' → wp (me (((wipeI env vs).set i (some (.int r.1))).set j (some (.int r.2))) ih') (fun v ih'' => v = F r ∧ ih'' = ih') E0)
    (q : Q (.ref ih.length) (ih ++ [.lst ((rs.filter T).map F)])) : k_lc vs (g_tup 2 (g_cons (g_nm i) (g_cons (g_nm j) g_nil))) mt me env Q E (.lst n) ih := by
  have hs : (Src.lst n).size ih = xs.length := by
    unfold Src.size
    dsimp only
    rw [ho]
    rfl
  refine lc_gen xs.length (fun k acc ih' => acc = ((rs.take k).filter T).map F ∧ ih' = ih ++ [.lst acc]) (by rw [hs]; exact Nat.le_refl _) ⟨by simp, rfl⟩ (fun k acc ih' hk ⟨ha, ei⟩ hd => ?_) (fun acc ih' ⟨_, ei⟩ _ => ?_) fun acc ih' ⟨ha, ei⟩ hd => ?_
  · subst ei
    have hx : xs[k]? = some xs[k] := List.getElem?_eq_getElem hk
    obtain ⟨t, r, e1, e2, e3⟩ := pr.get hx
    have ho' : (ih ++ [MO.lst acc])[n]? = some (.lst xs) := by rw [g_old (lt_of_get ho)]; exact ho
    have e3' : (ih ++ [MO.lst acc])[t]? = some (.tup [.int r.1, .int r.2]) := by rw [g_old (lt_of_get e3)]; exact e3
    have hr : r ∈ rs := List.mem_of_getElem? e2
    have hkr : k < rs.length := (List.getElem?_eq_some_iff.mp e2).1
    refine ⟨.ref t, _, _, by rw [turn_lst ho' rfl (show (MO.lst xs).xs[k]? = some xs[k] from hx), e1], g_pairR e3', wp.imp (ht r hr _ Fx.app) (fun v ih2 hv => ?_) fun _ _ h => h⟩
    obtain ⟨hv, hi⟩ := hv
    subst hi
    have et : rs.take (k + 1) = rs.take k ++ [r] := by rw [List.take_add_one, e2]; rfl
    refine ⟨fun hb => ⟨hd, ?_, rfl⟩, fun hb => wp.imp (he r hr (by rw [← hv]; exact hb) _ Fx.app) (fun y ih3 hy => ?_) fun _ _ h => h⟩
    · rw [et, List.filter_append, ha, List.filter_cons, ← hv, hb]
      simp
    · obtain ⟨hy, hi3⟩ := hy
      subst hi3
      refine ⟨hd, ?_, ?_, ?_⟩
      · rw [ha, List.length_map]
        exact Nat.lt_of_le_of_lt (List.length_filter_le _ _) (by rw [List.length_take]; omega)
      · rw [et, List.filter_append, ha, List.filter_cons, ← hv, hb, hy]
        simp
      · rw [set_append_last]
  · subst ei
    exact stop_lst (o := .lst xs) (by rw [g_old (lt_of_get ho)]; exact ho) rfl
  · rw [pr.len, List.take_length] at ha
    rw [ei, ha]
    exact q
/-- [me for i, x in enumerate(xs) if test], nothing but the pairs allocated -/
theorem lc_enmT {Q : PQ IV} {E : EQ} {env : Env} {ih : IH} {vs : List Nat} {i j n : Nat} {mt : Env → IH → Res Bool} {me : Env → IH → Res IV} {xs : List IV} (T : Nat → Bool) (F : Nat → IV) (ho : ih[n]? = some (.lst xs)) (hz : xs.length < 100000)
    (ht : ∀ (k : Nat) x, xs[k]? = some x → ∀ ih', Fx ih ih' → wp (mt (((wipeI env vs).set i (some (.int (k : Int)))).set j (some x)) ih') (fun v ih'' => v = T k ∧ ih'' = ih') E0)
    (he : ∀ (k : Nat) x, xs[k]? = some x → T k = true → ∀ ih', Fx ih ih' → wp (me (((wipeI env vs).set i (some (.int (k : Int)))).set j (some x)) ih') (fun v ih'' => v = F k ∧ ih'' = ih') E0)
    (q : ∀ ih', Fx ih ih' → ih.length < ih'.length → ih'[ih.length]? = some (.lst (((List.range xs.length).filter T).map F)) → Q (.ref ih.length) ih') : k_lc vs (g_tup 2 (g_cons (g_nm i) (g_cons (g_nm j) g_nil))) mt me env Q E (.enm n) ih := by
  have hs : (Src.enm n).size ih = xs.length := by
    unfold Src.size
    dsimp only
    rw [ho]
    rfl
  refine lc_gen xs.length (fun k acc ih' => acc = ((List.range k).filter T).map F ∧ Fx ih ih' ∧ ih.length < ih'.length) (by rw [hs]; exact Nat.le_refl _) ⟨by simp, Fx.app, by simp⟩ (fun k acc ih' hk ⟨ha, fx, lx⟩ hd => ?_) (fun acc ih' ⟨_, fx, _⟩ _ => ?_) fun acc ih' ⟨ha, fx, lx⟩ hd => ?_
  · have hx : xs[k]? = some xs[k] := List.getElem?_eq_getElem hk
    have ho' : ih'[n]? = some (.lst xs) := by rw [fx n (lt_of_get ho)]; exact ho
    have f1 : Fx ih' (ih' ++ [.tup [.int (k : Int), xs[k]]]) := Fx.app
    refine ⟨.ref ih'.length, _, _, turn_enm ho' rfl (show (MO.lst xs).xs[k]? = some xs[k] from hx), g_pair, wp.imp (ht k _ hx _ (fx.trans f1 (by omega))) (fun v ih2 hv => ?_) fun _ _ h => h⟩
    obtain ⟨hv, hi⟩ := hv
    subst hi
    have hd2 : (ih' ++ [MO.tup [.int (k : Int), xs[k]]])[ih.length]? = some (.lst acc) := by rw [g_old lx]; exact hd
    refine ⟨fun hb => ⟨hd2, ?_, fx.trans f1 (by omega), by rw [List.length_append]; omega⟩, fun hb => wp.imp (he k _ hx (by rw [← hv]; exact hb) _ (fx.trans f1 (by omega))) (fun y ih3 hy => ?_) fun _ _ h => h⟩
    · rw [List.range_succ, List.filter_append, ha, List.filter_cons, ← hv, hb]
      simp
    · obtain ⟨hy, hi3⟩ := hy
      subst hi3
      refine ⟨hd2, ?_, ?_, (fx.trans f1 (by omega)).set (Nat.le_refl _), by rw [List.length_set, List.length_append]; omega⟩
      · rw [ha, List.length_map]
        exact Nat.lt_of_le_of_lt (List.length_filter_le _ _) (by rw [List.length_range]; omega)
      · rw [List.range_succ, List.filter_append, ha, List.filter_cons, ← hv, hb, hy]
        simp
  · exact stop_enm (o := .lst xs) (by rw [fx n (lt_of_get ho)]; exact ho) rfl
  · rw [ha] at hd
    exact q ih' fx lx hd
/-! ### the program -/
theorem q_stretch (c : Cs) {t : Nat} {a b : Int} {ih : IH} (g : ih[t]? = some (.tup [.int a, .int b])) (h : 0 ≤ a) (hab : a ≤ b) (Q : PQ IV) (E : EQ) : wp (m_is_stretch c [.ref t] ih) Q E = Q (.bl true) ih := by
  have a1 := q_whole c a 0
  have a2 := q_whole c b a
  have d1 : decide (a ≤ b) = true := decide_eq_true hab
  have e : decide (((0 : Nat) : Int) + 1 + 1 = 2) = true := rfl
  unfold m_is_stretch b_is_stretch
  walk_at "run"
theorem w_frame (c : Cs) {s b e : Int} {q : Nat} {xs : List IV} {W : List (Int × Int)} {ih : IH} {Q : PQ IV} {E : EQ} (s1 : 1 ≤ s) (b0 : 0 ≤ b) (be : b ≤ e) (gq : ih[q]? = some (.lst xs)) (pr : PR ih xs W) (hW : Win W) (hl : W.length ≤ 1000)
    (k : ∀ ih', Fx ih ih' → ih.length ≤ ih'.length → Q .non ih') : wp (m_check_frame c [.int s, .ref q, .int b, .int e] ih) Q E := by
  have a1 := q_whole c s 1
  have a2 := q_whole c b 0
  have a3 := q_whole c e b
  have d3 : decide (b ≤ e) = true := decide_eq_true be
  have ql := lt_of_get gq
  have cy1 : ∀ ih Q E, wp (m_check_cycle c [.int b, .int 0] ih) Q E = Q .non ih := fun ih Q E => by
    unfold m_check_cycle b_check_cycle
    clear k
    walk_at "run"
  have cy2 : ∀ ih Q E, wp (m_check_cycle c [.int e, .int b] ih) Q E = Q .non ih := fun ih Q E => by
    unfold m_check_cycle b_check_cycle
    clear k cy1
    walk_at "run"
  unfold m_check_frame b_check_frame
  walk_at "run"
  unfold lc_check_frame_1
  walk_at "run"
  refine lc_all (fun _ => .bl true) gq rfl (by rw [xs_lst, pr.len]; omega) (fun x hx ih2 f2 => ?_) (newN fun w ih2 w1 w2 l2 f2 n2 => ?_)
  · obtain ⟨j, hj⟩ := List.mem_iff_getElem?.mp hx
    obtain ⟨t, r, rfl, hr, gt⟩ := pr.get (show xs[j]? = some x from hj)
    obtain ⟨r0, r1⟩ := hW r (List.mem_of_getElem? hr)
    have q := fun Q E => q_stretch c (ih := ih2) (by rw [f2 t (lt_of_get gt)]; exact gt) r0 r1 Q E
    unfold le_check_frame_1
    clear k
    walk_at "run"
  have n2' : ih2[w]? = some (.lst ((xs.map fun _ => true).map IV.bl)) := by rw [n2, List.map_map]; rfl
  walk_at "run"
  refine wp_allL (xs.map fun _ => true) n2' ?_
  have al : (xs.map fun _ => true).all id = true := by simp
  rw [al]
  have kz := k ih2 f2 (by omega)
  clear k f2 n2 n2' gq
  walk_at "run"
  all_goals exact kz
theorem w_open (c : Cs) {x e : Int} {q : Nat} {xs : List IV} {W : List (Int × Int)} {ih : IH} {Q : PQ IV} {E : EQ} (gq : ih[q]? = some (.lst xs)) (pr : PR ih xs W) (hl : W.length ≤ 1000)
    (k : ∀ u ih', ih.length ≤ u → u < ih'.length → Fx ih ih' → ih.length ≤ ih'.length → ih'[u]? = some (.lst ((ends W x e).map IV.int)) → Q (.ref u) ih') : wp (m_open_ends c [.ref q, .int x, .int e] ih) Q E := by
  unfold m_open_ends b_open_ends
  walk_at "run"
  unfold lc_open_ends_1
  walk_at "run"
  refine lc_rowsT (fun r => decide (x < r.1) && decide (r.2 < e)) (fun r => .int r.2) gq pr (by omega) (fun r hr ih1 f1 => ?_) (fun r hr _ ih1 f1 => ?_) (newN fun u ih1 u1 u2 l1 f1 n1 => ?_)
  · unfold ln_open_ends_1
    clear k
    by_cases h : x < r.1
    · have d1 := decide_eq_true h
      clear h
      walk_at "run"
      simp
    · have d1 := decide_eq_false h
      clear h
      walk_at "run"
      simp
  · unfold le_open_ends_1
    clear k
    walk_at "run"
  have kz := k u ih1 u1 u2 f1 (by omega) (by rw [n1]; unfold ends; rw [List.map_map]; rfl)
  exact kz
end L3
/-! K32b: fewest, and what is enough. -/
namespace L3
open PySem PySem.Spec PyProof.Rows L2
local macro_rules | `(tactic| walk_at "get") => `(tactic| simp (disch := first | assumption | omega | (simp only [List.length_append, List.length_set, List.length_cons, List.length_nil, List.length_map] <;> omega) | fail) only [g_new, g_nw, g_old, g_set, g_sne, List.length_append, List.length_set, List.length_cons, List.length_nil, List.length_map, List.map_map, Function.comp_def, xs_lst, xs_tup, isL_lst, isL_tup, ↓reduceIte, *])
local macro_rules | `(tactic| walk_at "fr") => `(tactic| first | (intro _ _ _; simp (disch := first | assumption | omega | (simp only [List.length_append, List.length_set, List.length_cons, List.length_nil, List.length_map] <;> omega) | fail) only [g_new, g_nw, g_old, g_set, g_sne, List.length_append, List.length_set, List.length_cons, List.length_nil, List.length_map, List.map_map, Function.comp_def, xs_lst, xs_tup, isL_lst, isL_tup, ↓reduceIte, *]) | (intro _ _; simp (disch := first | assumption | omega | (simp only [List.length_append, List.length_set, List.length_cons, List.length_nil, List.length_map] <;> omega) | fail) only [g_new, g_nw, g_old, g_set, g_sne, List.length_append, List.length_set, List.length_cons, List.length_nil, List.length_map, List.map_map, Function.comp_def, xs_lst, xs_tup, isL_lst, isL_tup, ↓reduceIte, *]))
local macro_rules | `(tactic| walk_at "run") => `(tactic| simp -implicitDefEqProofs (disch := first | assumption | omega | (simp only [List.length_append, List.length_set, List.length_cons, List.length_nil, List.length_map] <;> omega) | fail) only [wp_ok, wp_exc, wp_stuck, ws_ok, ws_exc, ws_stuck, wp_op, kk_op, kk_un, wp_un, wp_cons, kk_cons, kk_cons2, wp_nil, wp_c, wp_app, wp_if, kk_if1, kk_if0, wp_and, kk_and1, kk_and0, wp_or, kk_or1, kk_or0, wp_not, kk_not, wp_tb, kk_tb, wp_andV, kk_andV1, kk_andV0, wp_orV, kk_orV1, kk_orV0, wp_notV, kk_notV, wp_noneS, wp_some, kk_some, wp_sl, kk_sl, kk_sl2, kk_sl3, wp_mL, kk_mL, kk_mL2, wp_mL0, kk_mL0, wp_chain, kk_ch, kk_ch2, kk_ch31, kk_ch30, ws_set, kks_nm, kks_g, kks_tup, kks_lst, ws_expr, kks_expr, ws_ret, kks_ret, ws_retN, ws_pass, ws_brk, ws_cont, ws_raise, ws_if, kks_if1, kks_if0, ws_seq, kks_next, kks_retS, kks_brk, kks_cont, kk_augE, ws_aug, kks_aug, kks_aug2, ws_par, kks_par, ws_setL, kks_sl, kks_sl2, kks_sl3, wp_def, kkd_ret, kkd_next, kkdE, kkE, ws_for, wp_lc, wp_r1, kk_r1, wp_r2, kk_r2, wp_il, wp_it, wp_ie, wp_iz, kk_il, kk_il2, kk_it, kk_it2, kk_ie, kk_ie2, kk_iz, kk_iz2, lAt_k, k_lAtL, k_lAtO, k_lAtT, wp_int, wp_add, wp_addI, wp_sub, wp_neg, wp_lt, wp_le, wp_gt, wp_ge, wp_max2, wp_min2, wp_abs, wp_mulI, wp_mul, wp_fdiv, wp_mod, wp_shl, wp_shr, wp_pow, wp_isN, wp_notN, wp_eqI, wp_neI, wp_ix, kk_ix, kk_ix2, wp_len, kk_lenL, kk_lenT, kk_lenO, kk_lenP, wp_appd, kk_app1, isL_k, kk_isL, startI_cons, startI_nil, rep_succ, rep_zero, List.getElem?_cons_zero, List.getElem?_cons_succ, List.set_cons_zero, List.set_cons_succ, f_call, m_var, List.append_nil, List.nil_append, List.cons_append, List.length_cons, List.length_nil, if_true, if_false, g_tup, g_lst, g_cons, g_nil, g_nm, Option.bind_some, kks_g, atI_0, atI_1, atI_2, atI_3, atI_4, atI_5, atI_6, atI_7, atI_8, atI_9, atI_10, atI_11, atI_12, atI_last, cutI_1, ixN_30, ixN_31, ixN_32, Int.toNat_zero, Int.reduceToNat, Int.reduceNeg, xs_lst, xs_tup, xs_ro, xs_rot, isL_lst, isL_tup, isL_ro, isL_rot, isT_tup, isT_rot, Bool.false_eq_true, Bool.true_eq_false, Bool.not_true, Bool.not_false, decide_true, decide_false, Int.reduceLT, Int.reduceLE, Nat.reduceLT, Nat.reduceLeDiff, Nat.reduceAdd, Nat.reduceEqDiff, Bool.not_eq_true, true_and, and_true, and_self, eq_self, g_new, g_nw, g_old, g_set, g_sne, List.length_set, List.length_append, wp_r3, kk_r3, Int.cast_ofNat_Int, Int.reduceEq, Int.natCast_zero, Int.natCast_one, ws_whileA, wp_isiII, wp_isiIB, wp_isiR, tyO_l, tyO_t, kk_isi, kk_isi2, kit_ll, kit_tt, kit_lt, kit_tl, wp_isiN, wp_isiBl, wp_isiS, tyO_d, kit2_NoneType_int, kit2_NoneType_bool, kit2_NoneType_list, kit2_NoneType_tuple, kit2_NoneType_str, kit2_bool_int, kit2_bool_bool, kit2_bool_list, kit2_bool_tuple, kit2_bool_str, kit2_str_int, kit2_str_bool, kit2_str_list, kit2_str_tuple, kit2_str_str, kit2_dict_int, kit2_dict_bool, kit2_dict_list, kit2_dict_tuple, kit2_dict_str, kit2_list_int, kit2_list_bool, kit2_list_str, kit2_tuple_int, kit2_tuple_bool, kit2_tuple_str, kit2_int_list, kit2_int_tuple, kit2_int_str, kf_next, kf_cont, kf_brk, kf_ret, wipeI, ↓reduceIte, *])
theorem w_few (c : Cs) {fu q f : Nat} {s b e : Int} {xs : List IV} {W : List (Int × Int)} {ih : IH} {a6 : Option IV} {S : SQ} {F : ES} (hf : 2000 < fu) (s1 : 1 ≤ s) (be : b ≤ e) (eb : e - b ≤ 1000) (gq : ih[q]? = some (.lst xs)) (pr : PR ih xs W) (hW : Win W) (hl : W.length ≤ 1000)
    (gf : ih[f]? = some (.lst [])) (fq : f ≠ q)
    (fin : ∀ g ih', Gr s W e b g → ih'[f]? = some (.lst (g.map IV.int)) → Fr f ih ih' → ih.length ≤ ih'.length → S (.ret (.ref f)) ih') :
    ws (whileGo (wt_fewest_1 c) (wb_fewest_1 c) fu [some (.int s), some (.ref q), some (.int b), some (.int e), some (.ref f), some (.int b), a6] ih) S F := by
  have fl := lt_of_get gf
  have ql := lt_of_get gq
  refine while_ind (fun _ _ => True) (fun env ih' k => ∃ F look a6, env = [some (.int s), some (.ref q), some (.int b), some (.int e), some (.ref f), some (.int look), a6] ∧ ih'[f]? = some (.lst (F.map IV.int)) ∧ (∀ g, Gr s W e look g → Gr s W e b (F ++ g)) ∧ b ≤ look ∧ look ≤ e ∧ (F.length : Int) ≤ look - b ∧ (e - look).toNat ≤ k ∧ Fr f ih ih' ∧ ih.length ≤ ih'.length) (fun k env ih' _ hP => ?_) fu 1000 _ ih trivial ⟨[], b, a6, rfl, gf, fun g h => h, Int.le_refl _, be, by simp, by omega, Fr.refl, Nat.le_refl _⟩ (by omega)
  obtain ⟨F, look, a6, ee, gf', hG, bl, le', hF, hk, fr, lx⟩ := hP
  subst ee
  have gq' : ih'[q]? = some (.lst xs) := by rw [fr q ql (Ne.symm fq)]; exact gq
  have pr' : PR ih' xs W := pr.fr fr gf
  have fl' := lt_of_get gf'
  have ql' := lt_of_get gq'
  unfold wt_fewest_1
  clear gq gf fl ql
  walk_at "run"
  unfold wb_fewest_1
  walk_at "run"
  refine w_open c gq' pr' hl fun u ih1 u1 u2 f1 l1 g1 => ?_
  have g1f : ih1[f]? = some (.lst (F.map IV.int)) := by rw [f1 f fl']; exact gf'
  have fr1 := fr.trans f1.fr lx
  have uf : u ≠ f := by omega
  clear gq' pr' pr gf' f1 fr
  walk_at "run"
  refine wp_lst (by simp) (newN fun v ih2 v1 v2 l2 f2 g2 => ?_)
  have g2u : ih2[u]? = some (.lst ((ends W look e).map IV.int)) := by rw [f2 u u2]; exact g1
  have g2f : ih2[f]? = some (.lst (F.map IV.int)) := by rw [f2 f (by omega)]; exact g1f
  have fr2 := fr1.trans f2.fr (by omega)
  clear f2 g1 g1f fr1
  walk_at "run"
  refine wp_eq (Is.ints g2u rfl rfl) (Is.ints (o := .lst []) (ns := []) g2 rfl rfl) (shaped_ints _) (shaped_ints _) ?_
  rw [eqv_list]
  walk_at "run"
  refine k_andD (v := decide (e - look ≤ s)) (by walk_at "run") ?_
  rw [← Bool.decide_and]
  by_cases hd : ends W look e = [] ∧ e - look ≤ s
  · have d1 := decide_eq_true hd
    have kz := fin F ih2 (by have := hG [] (.done hd.1 hd.2); rwa [List.append_nil] at this) g2f fr2 (by omega)
    clear fin hG hd g2u g2f fr2
    walk_at "run"
    all_goals exact kz
  · have d1 := decide_eq_false hd
    clear fin
    walk_at "run"
    refine wp_lst (by simp) (newN fun w ih3 w1 w2 l3 f3 g3 => ?_)
    have g3u : ih3[u]? = some (.lst ((ends W look e).map IV.int)) := by rw [f3 u (by omega)]; exact g2u
    have g3f : ih3[f]? = some (.lst (F.map IV.int)) := by rw [f3 f (by omega)]; exact g2f
    have fr3 := fr2.trans f3.fr (by omega)
    have le3 : (ends W look e).length ≤ 1000 := by
      unfold ends
      rw [List.length_map]
      exact Nat.le_trans (List.length_filter_le _ _) hl
    clear f3 g2u g2f fr2 g2
    walk_at "run"
    refine wp_cat g3u g3 (by rw [List.length_map]; simp; omega) (newN fun z ih4 z1 z2 l4 f4 g4 => ?_)
    have g4f : ih4[f]? = some (.lst (F.map IV.int)) := by rw [f4 f (by omega)]; exact g3f
    have fr4 := fr3.trans f4.fr (by omega)
    have g4' : ih4[z]? = some (.lst ((ends W look e ++ [look + s]).map IV.int)) := by rw [g4, List.map_append]; rfl
    clear f4 g3u g3f fr3 g3 g4
    walk_at "run"
    refine wp_min1 (ends W look e ++ [look + s]) g4' (by simp) fun y y1 y2 => ?_
    obtain ⟨k1, k2⟩ := step_in s1 hW hd y1 y2
    have hG' : ∀ g, Gr s W e y g → Gr s W e b (F ++ [y] ++ g) := fun g hg => by
      rw [List.append_assoc]
      exact hG _ (.step hd y1 y2 hg)
    have Fl : (F.map IV.int).length = F.length := List.length_map _
    have ap : F.map IV.int ++ [.int y] = (F ++ [y]).map IV.int := by rw [List.map_append]; rfl
    have d2 : decide ((2000 : Int) < ((F.length : Nat) : Int) + 1) = false := decide_eq_false (by omega)
    have d3 : decide ((2000 : Int) < ((F.length + 1 : Nat) : Int)) = false := decide_eq_false (by omega)
    have nx : ∃ j, j < k ∧ ∃ G look' a6', [some (IV.int s), some (.ref q), some (.int b), some (.int e), some (.ref f), some (.int y), some (.ref u)] = [some (.int s), some (.ref q), some (.int b), some (.int e), some (.ref f), some (.int look'), a6'] ∧ (ih4.set f (.lst (F.map IV.int ++ [.int y])))[f]? = some (.lst (G.map IV.int)) ∧ (∀ g, Gr s W e look' g → Gr s W e b (G ++ g)) ∧ b ≤ look' ∧ look' ≤ e ∧ (G.length : Int) ≤ look' - b ∧ (e - look').toNat ≤ j ∧ Fr f ih (ih4.set f (.lst (F.map IV.int ++ [.int y]))) ∧ ih.length ≤ (ih4.set f (.lst (F.map IV.int ++ [.int y]))).length :=
      ⟨k - 1, by omega, F ++ [y], y, _, rfl, by rw [g_set (by omega), ap], hG', by omega, by omega, by rw [List.length_append, List.length_singleton]; omega, by omega, fr4.setp, by rw [List.length_set]; omega⟩
    clear hG hG' y1 y2 hd fr4 g4' ap
    walk_at "run"
    first | exact Inv.mk nx | (refine ⟨by omega, ?_⟩; exact Inv.mk nx) | skip
theorem w_fewest (c : Cs) {q : Nat} {s b e : Int} {xs : List IV} {W : List (Int × Int)} {ih : IH} {Q : PQ IV} {E : EQ} (s1 : 1 ≤ s) (b0 : 0 ≤ b) (be : b ≤ e) (eb : e - b ≤ 1000) (gq : ih[q]? = some (.lst xs)) (pr : PR ih xs W) (hW : Win W) (hl : W.length ≤ 1000)
    (k : ∀ f g ih', Gr s W e b g → ih'[f]? = some (.lst (g.map IV.int)) → ih.length ≤ f → Fx ih ih' → ih.length ≤ ih'.length → Q (.ref f) ih') : wp (m_fewest c [.int s, .ref q, .int b, .int e] ih) Q E := by
  have ql := lt_of_get gq
  unfold m_fewest b_fewest
  walk_at "run"
  refine w_frame c s1 b0 be gq pr hW hl fun ih1 f1 l1 => ?_
  have gq1 : ih1[q]? = some (.lst xs) := by rw [f1 q ql]; exact gq
  have pr1 := pr.fx f1
  walk_at "run"
  refine wp_lst (by simp) (newN fun f ih2 f21 f22 l2 f2 g2 => ?_)
  have gq2 : ih2[q]? = some (.lst xs) := by rw [f2 q (by omega)]; exact gq1
  have pr2 := pr1.fx f2
  have fx2 := f1.trans f2 l1
  clear f1 f2 gq1 pr1 pr gq
  walk_at "run"
  intro fu hfu
  refine w_few c (by omega) s1 be eb gq2 pr2 hW hl g2 (by omega) fun g ih3 hg g3 fr3 l3 => ?_
  have fx3 : Fx ih ih3 := fun n hn => by rw [fr3 n (by omega) (by omega)]; exact fx2 n hn
  have kz := k f g ih3 hg g3 (by omega) fx3 (by omega)
  clear k
  walk_at "run"
  all_goals exact kz
end L3
/-! K32c: what is enough, as the law says. -/
namespace L3
open PySem PySem.Spec PyProof.Rows L2
local macro_rules | `(tactic| walk_at "get") => `(tactic| simp (disch := first | assumption | omega | (simp only [List.length_append, List.length_set, List.length_cons, List.length_nil, List.length_map] <;> omega) | fail) only [g_new, g_nw, g_old, g_set, g_sne, List.length_append, List.length_set, List.length_cons, List.length_nil, List.length_map, List.map_map, Function.comp_def, xs_lst, xs_tup, isL_lst, isL_tup, ↓reduceIte, *])
local macro_rules | `(tactic| walk_at "fr") => `(tactic| first | (intro _ _ _; simp (disch := first | assumption | omega | (simp only [List.length_append, List.length_set, List.length_cons, List.length_nil, List.length_map] <;> omega) | fail) only [g_new, g_nw, g_old, g_set, g_sne, List.length_append, List.length_set, List.length_cons, List.length_nil, List.length_map, List.map_map, Function.comp_def, xs_lst, xs_tup, isL_lst, isL_tup, ↓reduceIte, *]) | (intro _ _; simp (disch := first | assumption | omega | (simp only [List.length_append, List.length_set, List.length_cons, List.length_nil, List.length_map] <;> omega) | fail) only [g_new, g_nw, g_old, g_set, g_sne, List.length_append, List.length_set, List.length_cons, List.length_nil, List.length_map, List.map_map, Function.comp_def, xs_lst, xs_tup, isL_lst, isL_tup, ↓reduceIte, *]))
local macro_rules | `(tactic| walk_at "run") => `(tactic| simp -implicitDefEqProofs (disch := first | assumption | omega | (simp only [List.length_append, List.length_set, List.length_cons, List.length_nil, List.length_map] <;> omega) | fail) only [wp_ok, wp_exc, wp_stuck, ws_ok, ws_exc, ws_stuck, wp_op, kk_op, kk_un, wp_un, wp_cons, kk_cons, kk_cons2, wp_nil, wp_c, wp_app, wp_if, kk_if1, kk_if0, wp_and, kk_and1, kk_and0, wp_or, kk_or1, kk_or0, wp_not, kk_not, wp_tb, kk_tb, wp_andV, kk_andV1, kk_andV0, wp_orV, kk_orV1, kk_orV0, wp_notV, kk_notV, wp_noneS, wp_some, kk_some, wp_sl, kk_sl, kk_sl2, kk_sl3, wp_mL, kk_mL, kk_mL2, wp_mL0, kk_mL0, wp_chain, kk_ch, kk_ch2, kk_ch31, kk_ch30, ws_set, kks_nm, kks_g, kks_tup, kks_lst, ws_expr, kks_expr, ws_ret, kks_ret, ws_retN, ws_pass, ws_brk, ws_cont, ws_raise, ws_if, kks_if1, kks_if0, ws_seq, kks_next, kks_retS, kks_brk, kks_cont, kk_augE, ws_aug, kks_aug, kks_aug2, ws_par, kks_par, ws_setL, kks_sl, kks_sl2, kks_sl3, wp_def, kkd_ret, kkd_next, kkdE, kkE, ws_for, wp_lc, wp_r1, kk_r1, wp_r2, kk_r2, wp_il, wp_it, wp_ie, wp_iz, kk_il, kk_il2, kk_it, kk_it2, kk_ie, kk_ie2, kk_iz, kk_iz2, lAt_k, k_lAtL, k_lAtO, k_lAtT, wp_int, wp_add, wp_addI, wp_sub, wp_neg, wp_lt, wp_le, wp_gt, wp_ge, wp_max2, wp_min2, wp_abs, wp_mulI, wp_mul, wp_fdiv, wp_mod, wp_shl, wp_shr, wp_pow, wp_isN, wp_notN, wp_eqI, wp_neI, wp_ix, kk_ix, kk_ix2, wp_len, kk_lenL, kk_lenT, kk_lenO, kk_lenP, wp_appd, kk_app1, isL_k, kk_isL, startI_cons, startI_nil, rep_succ, rep_zero, List.getElem?_cons_zero, List.getElem?_cons_succ, List.set_cons_zero, List.set_cons_succ, f_call, m_var, List.append_nil, List.nil_append, List.cons_append, List.length_cons, List.length_nil, if_true, if_false, g_tup, g_lst, g_cons, g_nil, g_nm, Option.bind_some, kks_g, atI_0, atI_1, atI_2, atI_3, atI_4, atI_5, atI_6, atI_7, atI_8, atI_9, atI_10, atI_11, atI_12, atI_last, cutI_1, ixN_30, ixN_31, ixN_32, Int.toNat_zero, Int.reduceToNat, Int.reduceNeg, xs_lst, xs_tup, xs_ro, xs_rot, isL_lst, isL_tup, isL_ro, isL_rot, isT_tup, isT_rot, Bool.false_eq_true, Bool.true_eq_false, Bool.not_true, Bool.not_false, decide_true, decide_false, Int.reduceLT, Int.reduceLE, Nat.reduceLT, Nat.reduceLeDiff, Nat.reduceAdd, Nat.reduceEqDiff, Bool.not_eq_true, true_and, and_true, and_self, eq_self, g_new, g_nw, g_old, g_set, g_sne, List.length_set, List.length_append, wp_r3, kk_r3, Int.cast_ofNat_Int, Int.reduceEq, Int.natCast_zero, Int.natCast_one, ws_whileA, wp_isiII, wp_isiIB, wp_isiR, tyO_l, tyO_t, kk_isi, kk_isi2, kit_ll, kit_tt, kit_lt, kit_tl, wp_isiN, wp_isiBl, wp_isiS, tyO_d, kit2_NoneType_int, kit2_NoneType_bool, kit2_NoneType_list, kit2_NoneType_tuple, kit2_NoneType_str, kit2_bool_int, kit2_bool_bool, kit2_bool_list, kit2_bool_tuple, kit2_bool_str, kit2_str_int, kit2_str_bool, kit2_str_list, kit2_str_tuple, kit2_str_str, kit2_dict_int, kit2_dict_bool, kit2_dict_list, kit2_dict_tuple, kit2_dict_str, kit2_list_int, kit2_list_bool, kit2_list_str, kit2_tuple_int, kit2_tuple_bool, kit2_tuple_str, kit2_int_list, kit2_int_tuple, kit2_int_str, kf_next, kf_cont, kf_brk, kf_ret, wipeI, ↓reduceIte, *])
theorem w_gaps (c : Cs) {u l : Nat} {s b : Int} {v1 v2 v3 : IV} {M : List Int} {ih : IH} {a6 a7 a8 a9 : Option IV} {S : SQ} {F : ES} (g : ih[u]? = some (.lst (M.map IV.int)))
    (kn : ¬ GapsOk s b M → S (.ret (.bl false)) ih) (kr : ∀ a5 a6, GapsOk s b M → S (.next [some (.int s), some v1, some v2, some v3, some (.ref l), some a5, a6, a7, a8, a9]) ih) :
    ks_for (g_nm 6) (lb_law_enough_1 c) [some (.int s), some v1, some v2, some v3, some (.ref l), some (.int b), a6, a7, a8, a9] S F (.lst u) ih := by
  refine for_lst1 (fun (i : Nat) (env : Env) (ih' : IH) => (∃ z a6, env = [some (.int s), some v1, some v2, some v3, some (.ref l), some (.int z), a6, a7, a8, a9] ∧ (GapsOk s b M ↔ GapsOk s z (M.drop i))) ∧ ih' = ih) g rfl ⟨⟨b, _, rfl, by simp⟩, rfl⟩ (fun i env ih' hP => by rw [hP.2]; exact g) (fun i x env ih' hx hP => ?_) fun env ih' hP => ?_
  · obtain ⟨⟨z, a6, ee, hz⟩, ei⟩ := hP
    subst ee ei
    have hx' : (M.map IV.int)[i]? = some x := hx
    obtain ⟨n, hn, rfl⟩ : ∃ n, M[i]? = some n ∧ IV.int n = x := by
      rw [List.getElem?_map] at hx'
      cases ea : M[i]? with
      | none => rw [ea] at hx'; cases hx'
      | some n => rw [ea] at hx'; exact ⟨n, rfl, Option.some.inj hx'⟩
    have hd : M.drop i = n :: M.drop (i + 1) := by
      obtain ⟨h1, h2⟩ := List.getElem?_eq_some_iff.mp hn
      rw [List.drop_eq_getElem_cons h1, h2]
    rw [hd] at hz
    have hz' : GapsOk s b M ↔ n - z ≤ s ∧ GapsOk s n (M.drop (i + 1)) := hz
    by_cases h : s < n - z
    · have d1 := decide_eq_true h
      have kz := kn fun hg => by have := (hz'.mp hg).1; omega
      clear kn kr hz hz' h hd hx hx' hn
      unfold lb_law_enough_1
      walk_at "run"
      all_goals exact kz
    · have d1 := decide_eq_false h
      have nx : ∃ z' a6', [some (IV.int s), some v1, some v2, some v3, some (.ref l), some (.int n), some (.int n), a7, a8, a9] = [some (.int s), some v1, some v2, some v3, some (.ref l), some (.int z'), a6', a7, a8, a9] ∧ (GapsOk s b M ↔ GapsOk s z' (M.drop (i + 1))) := ⟨n, _, rfl, hz'.trans ⟨fun h => h.2, fun h => ⟨by omega, h⟩⟩⟩
      clear kn kr hz hz' h hd hx hx' hn
      unfold lb_law_enough_1
      walk_at "run"
      exact Inv.mk ⟨nx, rfl⟩
  · obtain ⟨⟨z, a6, ee, hz⟩, ei⟩ := hP
    subst ee ei
    have e1 : M.drop (MO.lst (M.map IV.int)).xs.length = [] := by rw [xs_lst, List.length_map, List.drop_length]
    rw [e1] at hz
    exact kr _ _ (hz.mpr trivial)
/-- a window served, or not asked for -/
def Srv (b e : Int) (L : List Int) (r : Int × Int) : Prop := b ≤ r.2 → r.2 < e → ∃ x ∈ b :: L, r.1 ≤ x ∧ x ≤ r.2
theorem w_serve (c : Cs) {q l : Nat} {s b e : Int} {L : List Int} {xs : List IV} {W : List (Int × Int)} {ih : IH} {a5 a6 a7 a8 a9 : Option IV} {S : SQ} {F : ES} (gq : ih[q]? = some (.lst xs)) (pr : PR ih xs W) (gl : ih[l]? = some (.lst (L.map IV.int))) (hL : L.length ≤ 1000)
    (kn : ∀ ih', (∃ r ∈ W, ¬ Srv b e L r) → Fx ih ih' → ih.length ≤ ih'.length → S (.ret (.bl false)) ih') (kr : ∀ a6 a7 a8 a9 ih', (∀ r ∈ W, Srv b e L r) → Fx ih ih' → ih.length ≤ ih'.length → S (.next [some (.int s), some (.ref q), some (.int b), some (.int e), some (.ref l), a5, a6, a7, a8, a9]) ih') :
    ks_for (g_tup 2 (g_cons (g_nm 7) (g_cons (g_nm 8) g_nil))) (lb_law_enough_2 c) [some (.int s), some (.ref q), some (.int b), some (.int e), some (.ref l), a5, a6, a7, a8, a9] S F (.lst q) ih := by
  have ql := lt_of_get gq
  have ll := lt_of_get gl
  refine for_lstG (o := .lst xs) (fun (i : Nat) (env : Env) (ih' : IH) => (∃ a6 a7 a8 a9, env = [some (.int s), some (.ref q), some (.int b), some (.int e), some (.ref l), a5, a6, a7, a8, a9]) ∧ (∀ r ∈ W.take i, Srv b e L r) ∧ Fx ih ih' ∧ ih.length ≤ ih'.length) gq rfl ⟨⟨_, _, _, _, rfl⟩, fun r hr => by simp at hr, Fx.refl, Nat.le_refl _⟩ (fun i env ih' hP => by rw [hP.2.2.1 q ql]; exact gq) (fun i x env ih1 hx hP => ?_) fun env ih' hP => ?_
  · obtain ⟨⟨b6, b7, b8, b9, ee⟩, hs, fx, lx⟩ := hP
    subst ee
    obtain ⟨t, r, rfl, hr, gt⟩ := pr.get (show xs[i]? = some x from hx)
    have gt1 : ih1[t]? = some (.tup [.int r.1, .int r.2]) := by rw [fx t (lt_of_get gt)]; exact gt
    have gl1 : ih1[l]? = some (.lst (L.map IV.int)) := by rw [fx l ll]; exact gl
    refine ⟨_, g_pairR gt1, ?_⟩
    have et : W.take (i + 1) = W.take i ++ [r] := by rw [List.take_add_one, hr]; rfl
    have rW := List.mem_of_getElem? hr
    have nx : ∀ ih2, Srv b e L r → Fx ih1 ih2 → ih1.length ≤ ih2.length → (∀ r ∈ W.take (i + 1), Srv b e L r) ∧ Fx ih ih2 ∧ ih.length ≤ ih2.length := fun ih2 h f2 l2 => ⟨fun z hz => by
      rw [et] at hz
      rcases List.mem_append.mp hz with hz | hz
      · exact hs z hz
      · rw [List.mem_singleton] at hz
        rw [hz]
        exact h, fx.trans f2 lx, by omega⟩
    have kn' := fun ih2 (h : ¬ Srv b e L r) (f2 : Fx ih1 ih2) (l2 : ih1.length ≤ ih2.length) => kn ih2 ⟨r, rW, h⟩ (fx.trans f2 lx) (by omega)
    clear kn kr hs et gt gq hx pr hr fx
    obtain ⟨r1, r2⟩ := r
    dsimp only at *
    unfold lb_law_enough_2
    walk_at "run"
    unfold lc_law_enough_1
    walk_at "run"
    refine wp_lst (by simp) (newN fun u ih2 u1 u2 l2 f2 g2 => ?_)
    have gl2 : ih2[l]? = some (.lst (L.map IV.int)) := by rw [f2 l (by omega)]; exact gl1
    have f12 := f2
    clear f2 gl1
    walk_at "run"
    refine wp_cat g2 gl2 (by rw [List.length_map]; simp; omega) (newN fun v ih3 v1 v2 l3 f3 g3 => ?_)
    have g3' : ih3[v]? = some (.lst ((b :: L).map IV.int)) := g3
    have f13 := f12.trans f3 (by omega)
    clear g3 f3 f12 g2 gl2
    walk_at "run"
    refine lc_intT (b :: L) (fun x => decide (r1 ≤ x ∧ x ≤ r2)) (fun x => .int x) g3' (by rw [List.length_cons]; omega) (fun x hx ih4 f4 => ?_) (fun x hx _ ih4 f4 => ?_) (newN fun w ih4 w1 w2 l4 f4 g4 => ?_)
    · unfold ln_law_enough_1
      clear nx kn' f4
      by_cases h1 : r1 ≤ x
      · have d1 := decide_eq_true h1
        have e2 : decide (r1 ≤ x ∧ x ≤ r2) = decide (x ≤ r2) := by simp [h1]
        clear h1
        walk_at "run"
      · have d1 := decide_eq_false h1
        have e2 : decide (r1 ≤ x ∧ x ≤ r2) = false := by simp [h1]
        clear h1
        walk_at "run"
    · unfold le_law_enough_1
      clear nx kn' f4
      walk_at "run"
    have f14 := f13.trans f4 (by omega)
    have l14 : ih1.length ≤ ih4.length := by omega
    obtain ⟨N, eN⟩ : ∃ N, (b :: L).filter (fun x => decide (r1 ≤ x ∧ x ≤ r2)) = N := ⟨_, rfl⟩
    rw [eN] at g4
    clear f4 f13 g3'
    walk_at "run"
    by_cases h1 : b ≤ r2
    · have d1 := decide_eq_true h1
      by_cases h2 : r2 < e
      · have d2 := decide_eq_true h2
        walk_at "run"
        refine wp_lst (by simp) (newN fun y ih5 y1 y2 l5 f5 g5 => ?_)
        have g4' : ih5[w]? = some (.lst (N.map IV.int)) := by rw [f5 w w2]; exact g4
        have f15 := f14.trans f5 (by omega)
        have l15 : ih1.length ≤ ih5.length := by omega
        clear f5 f14 g4
        walk_at "run"
        refine wp_eq (Is.ints g4' rfl rfl) (Is.ints (o := .lst []) (ns := []) g5 rfl rfl) (shaped_ints _) (shaped_ints _) ?_
        rw [eqv_list]
        by_cases h3 : N = []
        · have d3 := decide_eq_true h3
          have kz := kn' ih5 (fun hs => by
            obtain ⟨x, x1, x2⟩ := hs h1 h2
            have := (List.mem_filter (p := fun x => decide (r1 ≤ x ∧ x ≤ r2))).mpr ⟨x1, decide_eq_true x2⟩
            rw [eN, h3] at this
            cases this) f15 l15
          clear nx kn' h1 h2 h3 eN g4' f15
          walk_at "run"
          all_goals exact kz
        · have d3 := decide_eq_false h3
          have iv := nx ih5 (fun _ _ => by
            obtain ⟨x, hx⟩ := List.exists_mem_of_ne_nil _ h3
            rw [← eN] at hx
            obtain ⟨x1, x2⟩ := List.mem_filter.mp hx
            exact ⟨x, x1, of_decide_eq_true x2⟩) f15 l15
          clear nx kn' h1 h2 h3 eN g4' f15
          walk_at "run"
          exact Inv.mk ⟨⟨_, _, _, _, rfl⟩, iv⟩
      · have d2 := decide_eq_false h2
        have iv := nx ih4 (fun _ h => absurd h h2) f14 l14
        clear nx kn' h1 h2 eN g4 f14
        walk_at "run"
        exact Inv.mk ⟨⟨_, _, _, _, rfl⟩, iv⟩
    · have d1 := decide_eq_false h1
      have iv := nx ih4 (fun h _ => absurd h h1) f14 l14
      clear nx kn' h1 eN g4 f14
      walk_at "run"
      exact Inv.mk ⟨⟨_, _, _, _, rfl⟩, iv⟩
  · obtain ⟨⟨b6, b7, b8, b9, ee⟩, hs, fx, lx⟩ := hP
    subst ee
    have e1 : W.take (MO.lst xs).xs.length = W := by rw [xs_lst, pr.len, List.take_length]
    rw [e1] at hs
    exact kr _ _ _ _ ih' hs fx lx
theorem w_enough (c : Cs) {q l : Nat} {s b e : Int} {L : List Int} {xs : List IV} {W : List (Int × Int)} {ih : IH} {Q : PQ IV} {E : EQ} (gq : ih[q]? = some (.lst xs)) (pr : PR ih xs W) (gl : ih[l]? = some (.lst (L.map IV.int))) (hL : L.length ≤ 900)
    (k : ∀ v ih', (v = true ↔ Enough s W b e L) → Fx ih ih' → ih.length ≤ ih'.length → Q (.bl v) ih') : wp (m_law_enough c [.int s, .ref q, .int b, .int e, .ref l] ih) Q E := by
  have ql := lt_of_get gq
  have ll := lt_of_get gl
  unfold m_law_enough b_law_enough
  walk_at "run"
  refine wp_lst (by simp) (newN fun u ih1 u1 u2 l1 f1 g1 => ?_)
  have gl1 : ih1[l]? = some (.lst (L.map IV.int)) := by rw [f1 l ll]; exact gl
  have f01 := f1
  clear f1
  walk_at "run"
  refine wp_cat gl1 g1 (by rw [List.length_map]; simp; omega) (newN fun v ih2 v1 v2 l2 f2 g2 => ?_)
  have g2' : ih2[v]? = some (.lst ((L ++ [e]).map IV.int)) := by rw [g2, List.map_append]; rfl
  have f02 := f01.trans f2 (by omega)
  have gq2 : ih2[q]? = some (.lst xs) := by rw [f02 q ql]; exact gq
  have gl2 : ih2[l]? = some (.lst (L.map IV.int)) := by rw [f2 l (by omega)]; exact gl1
  have pr2 := pr.fx f02
  clear f2 f01 g2 gl1 g1 gq gl pr
  have kz := fun v ih' h (f : Fx ih2 ih') (l : ih2.length ≤ ih'.length) => k v ih' h (f02.trans f (by omega)) (by omega)
  clear k f02
  walk_at "run"
  refine w_gaps c g2' (fun hn => ?_) fun a5 a6 hg => ?_
  · have ky := kz false ih2 ⟨(fun h => nomatch h), fun h => absurd h.1 hn⟩ Fx.refl (Nat.le_refl _)
    clear kz g2' gq2 gl2
    walk_at "run"
    all_goals exact ky
  · walk_at "run"
    refine w_serve c gq2 pr2 gl2 (by omega) (fun ih3 hn f3 l3 => ?_) fun c6 c7 c8 c9 ih3 hs f3 l3 => ?_
    · have ky := kz false ih3 ⟨(fun h => nomatch h), fun h => by
        obtain ⟨r, hr, hn⟩ := hn
        exact absurd (fun a1 a2 => h.2 r hr a1 a2) hn⟩ f3 l3
      clear kz g2' gq2 gl2 f3
      walk_at "run"
      all_goals exact ky
    · have ky := kz true ih3 ⟨fun _ => ⟨hg, fun r hr a1 a2 => hs r hr a1 a2⟩, fun _ => rfl⟩ f3 l3
      clear kz g2' gq2 gl2 f3
      walk_at "run"
      all_goals exact ky
end L3
/-! K35: looks that are looks, looks that are enough. -/
namespace L3
open PySem PySem.Spec PyProof.Rows L2
local macro_rules | `(tactic| walk_at "get") => `(tactic| simp (disch := first | assumption | omega | (simp only [List.length_append, List.length_set, List.length_cons, List.length_nil, List.length_map] <;> omega) | fail) only [g_new, g_nw, g_old, g_set, g_sne, List.length_append, List.length_set, List.length_cons, List.length_nil, List.length_map, List.map_map, Function.comp_def, xs_lst, xs_tup, isL_lst, isL_tup, ↓reduceIte, *])
local macro_rules | `(tactic| walk_at "fr") => `(tactic| first | (intro _ _ _; simp (disch := first | assumption | omega | (simp only [List.length_append, List.length_set, List.length_cons, List.length_nil, List.length_map] <;> omega) | fail) only [g_new, g_nw, g_old, g_set, g_sne, List.length_append, List.length_set, List.length_cons, List.length_nil, List.length_map, List.map_map, Function.comp_def, xs_lst, xs_tup, isL_lst, isL_tup, ↓reduceIte, *]) | (intro _ _; simp (disch := first | assumption | omega | (simp only [List.length_append, List.length_set, List.length_cons, List.length_nil, List.length_map] <;> omega) | fail) only [g_new, g_nw, g_old, g_set, g_sne, List.length_append, List.length_set, List.length_cons, List.length_nil, List.length_map, List.map_map, Function.comp_def, xs_lst, xs_tup, isL_lst, isL_tup, ↓reduceIte, *]))
local macro_rules | `(tactic| walk_at "run") => `(tactic| simp -implicitDefEqProofs (disch := first | assumption | omega | (simp only [List.length_append, List.length_set, List.length_cons, List.length_nil, List.length_map] <;> omega) | fail) only [wp_ok, wp_exc, wp_stuck, ws_ok, ws_exc, ws_stuck, wp_op, kk_op, kk_un, wp_un, wp_cons, kk_cons, kk_cons2, wp_nil, wp_c, wp_app, wp_if, kk_if1, kk_if0, wp_and, kk_and1, kk_and0, wp_or, kk_or1, kk_or0, wp_not, kk_not, wp_tb, kk_tb, wp_andV, kk_andV1, kk_andV0, wp_orV, kk_orV1, kk_orV0, wp_notV, kk_notV, wp_noneS, wp_some, kk_some, wp_sl, kk_sl, kk_sl2, kk_sl3, wp_mL, kk_mL, kk_mL2, wp_mL0, kk_mL0, wp_chain, kk_ch, kk_ch2, kk_ch31, kk_ch30, ws_set, kks_nm, kks_g, kks_tup, kks_lst, ws_expr, kks_expr, ws_ret, kks_ret, ws_retN, ws_pass, ws_brk, ws_cont, ws_raise, ws_if, kks_if1, kks_if0, ws_seq, kks_next, kks_retS, kks_brk, kks_cont, kk_augE, ws_aug, kks_aug, kks_aug2, ws_par, kks_par, ws_setL, kks_sl, kks_sl2, kks_sl3, wp_def, kkd_ret, kkd_next, kkdE, kkE, ws_for, wp_lc, wp_r1, kk_r1, wp_r2, kk_r2, wp_il, wp_it, wp_ie, wp_iz, kk_il, kk_il2, kk_it, kk_it2, kk_ie, kk_ie2, kk_iz, kk_iz2, lAt_k, k_lAtL, k_lAtO, k_lAtT, wp_int, wp_add, wp_addI, wp_sub, wp_neg, wp_lt, wp_le, wp_gt, wp_ge, wp_max2, wp_min2, wp_abs, wp_mulI, wp_mul, wp_fdiv, wp_mod, wp_shl, wp_shr, wp_pow, wp_isN, wp_notN, wp_eqI, wp_neI, wp_ix, kk_ix, kk_ix2, wp_len, kk_lenL, kk_lenT, kk_lenO, kk_lenP, wp_appd, kk_app1, isL_k, kk_isL, startI_cons, startI_nil, rep_succ, rep_zero, List.getElem?_cons_zero, List.getElem?_cons_succ, List.set_cons_zero, List.set_cons_succ, f_call, m_var, List.append_nil, List.nil_append, List.cons_append, List.length_cons, List.length_nil, if_true, if_false, g_tup, g_lst, g_cons, g_nil, g_nm, Option.bind_some, kks_g, atI_0, atI_1, atI_2, atI_3, atI_4, atI_5, atI_6, atI_7, atI_8, atI_9, atI_10, atI_11, atI_12, atI_last, cutI_1, ixN_30, ixN_31, ixN_32, Int.toNat_zero, Int.reduceToNat, Int.reduceNeg, xs_lst, xs_tup, xs_ro, xs_rot, isL_lst, isL_tup, isL_ro, isL_rot, isT_tup, isT_rot, Bool.false_eq_true, Bool.true_eq_false, Bool.not_true, Bool.not_false, decide_true, decide_false, Int.reduceLT, Int.reduceLE, Nat.reduceLT, Nat.reduceLeDiff, Nat.reduceAdd, Nat.reduceEqDiff, Bool.not_eq_true, true_and, and_true, and_self, eq_self, g_new, g_nw, g_old, g_set, g_sne, List.length_set, List.length_append, wp_r3, kk_r3, Int.cast_ofNat_Int, Int.reduceEq, Int.natCast_zero, Int.natCast_one, ws_whileA, wp_isiII, wp_isiIB, wp_isiR, tyO_l, tyO_t, kk_isi, kk_isi2, kit_ll, kit_tt, kit_lt, kit_tl, wp_isiN, wp_isiBl, wp_isiS, tyO_d, kit2_NoneType_int, kit2_NoneType_bool, kit2_NoneType_list, kit2_NoneType_tuple, kit2_NoneType_str, kit2_bool_int, kit2_bool_bool, kit2_bool_list, kit2_bool_tuple, kit2_bool_str, kit2_str_int, kit2_str_bool, kit2_str_list, kit2_str_tuple, kit2_str_str, kit2_dict_int, kit2_dict_bool, kit2_dict_list, kit2_dict_tuple, kit2_dict_str, kit2_list_int, kit2_list_bool, kit2_list_str, kit2_tuple_int, kit2_tuple_bool, kit2_tuple_str, kit2_int_list, kit2_int_tuple, kit2_int_str, kf_next, kf_cont, kf_brk, kf_ret, wipeI, ↓reduceIte, *])
theorem zip_lt : ∀ {L : List Int}, L.Pairwise (· < ·) → (List.zipWith (fun a b => decide (a < b)) L (L.drop 1)).all id = true
  | [], _ => rfl
  | [_], _ => rfl
  | a :: b :: L, h => by
    have h1 := (List.pairwise_cons.mp h).1 b List.mem_cons_self
    have k := zip_lt (List.pairwise_cons.mp h).2
    show (decide (a < b) && _) = true
    rw [decide_eq_true h1, Bool.true_and]
    exact k
theorem zip_gaps {s : Int} : ∀ {M : List Int} {b : Int}, (List.zipWith (fun a b => decide (b - a ≤ s)) (b :: M) M).all id = true ↔ GapsOk s b M
  | [], b => ⟨fun _ => trivial, fun _ => rfl⟩
  | a :: M, b => by
    show (decide (a - b ≤ s) && _) = true ↔ a - b ≤ s ∧ GapsOk s a M
    rw [Bool.and_eq_true, decide_eq_true_iff]
    exact and_congr Iff.rfl zip_gaps
theorem w_islooks (c : Cs) {l : Nat} {b e : Int} {L : List Int} {ih : IH} {Q : PQ IV} {E : EQ} (gl : ih[l]? = some (.lst (L.map IV.int))) (hp : (b :: L).Pairwise (· < ·)) (he : ∀ y ∈ L, y < e) (hl : L.length ≤ 1000)
    (k : ∀ ih', Fx ih ih' → ih.length ≤ ih'.length → Q (.bl true) ih') : wp (m_is_looks c [.ref l, .int b, .int e] ih) Q E := by
  have ll := lt_of_get gl
  unfold m_is_looks b_is_looks
  walk_at "run"
  unfold lc_is_looks_1
  walk_at "run"
  refine lc_intL L (fun _ => .bl true) gl (by omega) (fun x hx ih1 f1 => ?_) (newN fun u ih1 u1 u2 l1 f1 g1 => ?_)
  · have a1 := q_whole c x (b + 1)
    have h1 := (List.pairwise_cons.mp hp).1 x hx
    have d1 : decide (b + 1 ≤ x) = true := decide_eq_true (by omega)
    have d2 : decide (x < e) = true := decide_eq_true (he x hx)
    unfold le_is_looks_1
    clear k
    walk_at "run"
  have g1' : ih1[u]? = some (.lst ((L.map fun _ => true).map IV.bl)) := by rw [g1, List.map_map]; rfl
  have gl1 : ih1[l]? = some (.lst (L.map IV.int)) := by rw [f1 l ll]; exact gl
  walk_at "run"
  refine wp_allL (L.map fun _ => true) g1' ?_
  have al : (L.map fun _ => true).all id = true := by simp
  rw [al]
  have kz := fun ih' (f : Fx ih1 ih') (l : ih1.length ≤ ih'.length) => k ih' (f1.trans f (by omega)) (by omega)
  clear k f1 g1 g1' gl al
  walk_at "run"
  unfold lc_is_looks_2
  walk_at "run"
  refine wp_slL gl1 (newN fun v ih2 v1 v2 l2 f2 g2 => ?_)
  have gl2 : ih2[l]? = some (.lst (L.map IV.int)) := by rw [f2 l (by omega)]; exact gl1
  have g2' : ih2[v]? = some (.lst ((L.drop 1).map IV.int)) := by rw [g2, cutI_1, List.map_drop]
  have ky := fun ih' (f : Fx ih2 ih') (l : ih2.length ≤ ih'.length) => kz ih' (f2.trans f (by omega)) (by omega)
  clear kz f2 g2 gl1
  walk_at "run"
  refine lc_zipB L (L.drop 1) (fun a b => decide (a < b)) gl2 g2' (by omega) (fun x y ih3 f3 => ?_) fun ih3 f3 l3 g3 => ?_
  · unfold le_is_looks_2
    clear ky
    walk_at "run"
  obtain ⟨w, ew⟩ : ∃ w, ih2.length = w := ⟨_, rfl⟩
  have kx := ky ih3 f3 (by omega)
  rw [ew] at g3 ⊢
  clear ky f3 gl2 g2'
  walk_at "run"
  refine wp_allL _ g3 ?_
  rw [zip_lt (List.pairwise_cons.mp hp).2]
  walk_at "run"
  all_goals exact kx
def srvB (b : Int) (L : List Int) (r : Int × Int) : Bool := ((b :: L).map fun x => decide (r.1 ≤ x) && decide (x ≤ r.2)).any id
theorem srvB_iff {b : Int} {L : List Int} {r : Int × Int} : srvB b L r = true ↔ ∃ x ∈ b :: L, r.1 ≤ x ∧ x ≤ r.2 := by
  unfold srvB
  rw [List.any_map, List.any_eq_true]
  constructor
  · rintro ⟨x, hx, h⟩
    rw [Function.comp_apply, id, Bool.and_eq_true, decide_eq_true_iff, decide_eq_true_iff] at h
    exact ⟨x, hx, h⟩
  · rintro ⟨x, hx, h⟩
    exact ⟨x, hx, by rw [Function.comp_apply, id, Bool.and_eq_true, decide_eq_true_iff, decide_eq_true_iff]; exact h⟩
theorem w_suffices (c : Cs) {q l : Nat} {s b e : Int} {L : List Int} {xs : List IV} {W : List (Int × Int)} {ih : IH} {Q : PQ IV} {E : EQ} (gq : ih[q]? = some (.lst xs)) (pr : PR ih xs W) (hl : W.length ≤ 1000) (gl : ih[l]? = some (.lst (L.map IV.int))) (hL : L.length ≤ 1000)
    (k : ∀ v ih', (v = true ↔ Enough s W b e L) → Fx ih ih' → ih.length ≤ ih'.length → Q (.bl v) ih') : wp (m_suffices c [.int s, .ref q, .int b, .int e, .ref l] ih) Q E := by
  have ql := lt_of_get gq
  have ll := lt_of_get gl
  unfold m_suffices b_suffices
  walk_at "run"
  refine wp_lst (by simp) (newN fun u ih1 u1 u2 l1 f1 g1 => ?_)
  have gl1 : ih1[l]? = some (.lst (L.map IV.int)) := by rw [f1 l ll]; exact gl
  have f01 := f1
  clear f1
  walk_at "run"
  refine wp_cat g1 gl1 (by rw [List.length_map]; simp; omega) (newN fun v ih2 v1 v2 l2 f2 g2 => ?_)
  have f02 := f01.trans f2 (by omega)
  clear f2 f01 g1 gl1
  walk_at "run"
  refine wp_lst (by simp) (newN fun u' ih3 u3 u4 l3 f3 g3 => ?_)
  have g2' : ih3[v]? = some (.lst ((b :: L).map IV.int)) := by rw [f3 v v2]; exact g2
  have f03 := f02.trans f3 (by omega)
  clear f3 f02 g2
  walk_at "run"
  refine wp_cat g2' g3 (by rw [List.length_map]; simp; omega) (newN fun w ih4 w1 w2 l4 f4 g4 => ?_)
  have g4' : ih4[w]? = some (.lst ((b :: (L ++ [e])).map IV.int)) := by rw [g4]; simp
  have f04 := f03.trans f4 (by omega)
  clear f4 f03 g2' g3 g4
  walk_at "run"
  unfold lc_suffices_1
  walk_at "run"
  refine wp_slL g4' (newN fun x ih5 x1 x2 l5 f5 g5 => ?_)
  have g5w : ih5[w]? = some (.lst ((b :: (L ++ [e])).map IV.int)) := by rw [f5 w w2]; exact g4'
  have g5' : ih5[x]? = some (.lst ((L ++ [e]).map IV.int)) := by rw [g5, cutI_1]; rfl
  have f05 := f04.trans f5 (by omega)
  clear f5 f04 g4' g5
  walk_at "run"
  refine lc_zipB (b :: (L ++ [e])) (L ++ [e]) (fun a b => decide (b - a ≤ s)) g5w g5' (by simp; omega) (fun x y ih6 f6 => ?_) fun ih6 f6 l6 g6 => ?_
  · unfold le_suffices_1
    clear k
    walk_at "run"
  obtain ⟨y, ey⟩ : ∃ y, ih5.length = y := ⟨_, rfl⟩
  rw [ey] at g6 ⊢
  have f06 := f05.trans f6 (by omega)
  clear f6 f05 g5w g5'
  walk_at "run"
  refine wp_allL _ g6 ?_
  obtain ⟨G, eG⟩ : ∃ G, (List.zipWith (fun a b => decide (b - a ≤ s)) (b :: (L ++ [e])) (L ++ [e])).all id = G := ⟨_, rfl⟩
  have hG : G = true ↔ GapsOk s b (L ++ [e]) := by rw [← eG]; exact zip_gaps
  rw [eG]
  clear eG g6
  cases G with
  | false =>
    have kz := k false ih6 ⟨(fun h => nomatch h), fun h => hG.mpr h.1⟩ f06 (by omega)
    clear k f06 gq gl pr
    walk_at "run"
    all_goals exact kz
  | true =>
    have gaps := hG.mp rfl
    have gq6 : ih6[q]? = some (.lst xs) := by rw [f06 q ql]; exact gq
    have gl6 : ih6[l]? = some (.lst (L.map IV.int)) := by rw [f06 l ll]; exact gl
    have pr6 := pr.fx f06
    have kz := fun v ih' h (f : Fx ih6 ih') (l : ih6.length ≤ ih'.length) => k v ih' h (f06.trans f (by omega)) (by omega)
    clear k f06 gq gl pr hG
    walk_at "run"
    refine wp_lst (by simp) (newN fun u ih7 u5 u6 l7 f7 g7 => ?_)
    have gl7 : ih7[l]? = some (.lst (L.map IV.int)) := by rw [f7 l (by omega)]; exact gl6
    have f67 := f7
    clear f7
    walk_at "run"
    refine wp_cat g7 gl7 (by rw [List.length_map]; simp; omega) (newN fun sv ih8 v5 v6 l8 f8 g8 => ?_)
    have g8' : ih8[sv]? = some (.lst ((b :: L).map IV.int)) := g8
    have f68 := f67.trans f8 (by omega)
    have gq8 : ih8[q]? = some (.lst xs) := by rw [f68 q (by omega)]; exact gq6
    have pr8 := pr6.fx f68
    clear f67 f8 g7 gl7 g8 pr6
    walk_at "run"
    unfold lc_suffices_2
    walk_at "run"
    refine lc_rowsF (fun r => decide (b ≤ r.2) && decide (r.2 < e)) gq8 pr8 (by omega) (fun r hr ih9 f9 => ?_) (fun r hr _ ih9 f9 => ?_) fun ih9 ys f9 l9 g9 pr9 => ?_
    · unfold ln_suffices_1
      clear kz
      by_cases h1 : b ≤ r.2
      · have d1 := decide_eq_true h1
        clear h1
        walk_at "run"
        simp
      · have d1 := decide_eq_false h1
        clear h1
        walk_at "run"
        simp
    · unfold le_suffices_2
      clear kz
      walk_at "run"
      exact wp_tup (by simp) ⟨⟨_, rfl, g_new⟩, Fx.app, by simp⟩
    obtain ⟨d, ed⟩ : ∃ d, ih8.length = d := ⟨_, rfl⟩
    rw [ed] at g9 ⊢
    have g9s : ih9[sv]? = some (.lst ((b :: L).map IV.int)) := by rw [f9 sv v6]; exact g8'
    have f69 := f68.trans f9 (by omega)
    have fl : (W.filter fun r => decide (b ≤ r.2) && decide (r.2 < e)).length ≤ W.length := List.length_filter_le _ _
    clear f9 f68 g8' gq8 pr8
    walk_at "run"
    unfold lc_suffices_4
    walk_at "run"
    refine lc_rowsB (fun r => .bl (srvB b L r)) g9 pr9 (by omega) (fun r hr iha fa la => ?_) fun iha fa la ga => ?_
    · have gas : iha[sv]? = some (.lst ((b :: L).map IV.int)) := by rw [fa sv (by omega)]; exact g9s
      have sl := lt_of_get gas
      unfold le_suffices_4
      clear kz fa g9s
      walk_at "run"
      unfold lc_suffices_3
      walk_at "run"
      refine lc_intL (b :: L) (fun x => .bl (decide (r.1 ≤ x) && decide (x ≤ r.2))) gas (by simp; omega) (fun x hx ihb fb => ?_) (newN fun z ihb z1 z2 lb fb gb => ?_)
      · unfold le_suffices_3
        by_cases h1 : r.1 ≤ x
        · have d1 := decide_eq_true h1
          clear h1
          walk_at "run"
          try simp
        · have d1 := decide_eq_false h1
          clear h1
          walk_at "run"
          try simp
      have gb' : ihb[z]? = some (.lst (((b :: L).map fun x => decide (r.1 ≤ x) && decide (x ≤ r.2)).map IV.bl)) := by rw [gb, List.map_map]; rfl
      clear gas
      walk_at "run"
      refine wp_anyL _ gb' ?_
      exact ⟨rfl, fb, by omega⟩
    obtain ⟨z, ez⟩ : ∃ z, ih9.length = z := ⟨_, rfl⟩
    have hv : (((W.filter fun r => decide (b ≤ r.2) && decide (r.2 < e)).map (srvB b L)).all id = true) ↔ Enough s W b e L := by
      rw [List.all_map, List.all_eq_true]
      constructor
      · intro h
        refine ⟨gaps, fun r hr a1 a2 => srvB_iff.mp (h r (List.mem_filter.mpr ⟨hr, ?_⟩))⟩
        rw [decide_eq_true a1, decide_eq_true a2]
        rfl
      · intro h r hr
        obtain ⟨h1, h2⟩ := List.mem_filter.mp hr
        rw [Bool.and_eq_true, decide_eq_true_iff, decide_eq_true_iff] at h2
        exact srvB_iff.mpr (h.2 r h1 h2.1 h2.2)
    have kx := kz _ iha hv (f69.trans fa (by omega)) (by omega)
    have ga' : iha[z]? = some (.lst (((W.filter fun r => decide (b ≤ r.2) && decide (r.2 < e)).map (srvB b L)).map IV.bl)) := by rw [← ez, ga, List.map_map]; rfl
    rw [ez]
    obtain ⟨V, eV⟩ : ∃ V, (W.filter fun r => decide (b ≤ r.2) && decide (r.2 < e)).map (srvB b L) = V := ⟨_, rfl⟩
    rw [eV] at ga' kx
    clear kz hv fa ga f69 g9s pr9 g9 fl
    walk_at "run"
    refine wp_allL _ ga' ?_
    walk_at "run"
    all_goals exact kx
end L3
/-! K34: objects that may be lists of looks. (L15) -/
namespace L3
open PySem PySem.Spec PyProof.Rows L2
local macro_rules | `(tactic| walk_at "get") => `(tactic| simp (disch := first | assumption | omega | (simp only [List.length_append, List.length_set, List.length_cons, List.length_nil, List.length_map] <;> omega) | fail) only [g_new, g_nw, g_old, g_set, g_sne, List.length_append, List.length_set, List.length_cons, List.length_nil, List.length_map, List.map_map, Function.comp_def, xs_lst, xs_tup, isL_lst, isL_tup, ↓reduceIte, *])
local macro_rules | `(tactic| walk_at "fr") => `(tactic| first | (intro _ _ _; simp (disch := first | assumption | omega | (simp only [List.length_append, List.length_set, List.length_cons, List.length_nil, List.length_map] <;> omega) | fail) only [g_new, g_nw, g_old, g_set, g_sne, List.length_append, List.length_set, List.length_cons, List.length_nil, List.length_map, List.map_map, Function.comp_def, xs_lst, xs_tup, isL_lst, isL_tup, ↓reduceIte, *]) | (intro _ _; simp (disch := first | assumption | omega | (simp only [List.length_append, List.length_set, List.length_cons, List.length_nil, List.length_map] <;> omega) | fail) only [g_new, g_nw, g_old, g_set, g_sne, List.length_append, List.length_set, List.length_cons, List.length_nil, List.length_map, List.map_map, Function.comp_def, xs_lst, xs_tup, isL_lst, isL_tup, ↓reduceIte, *]))
local macro_rules | `(tactic| walk_at "run") => `(tactic| simp -implicitDefEqProofs (disch := first | assumption | omega | (simp only [List.length_append, List.length_set, List.length_cons, List.length_nil, List.length_map] <;> omega) | fail) only [wp_ok, wp_exc, wp_stuck, ws_ok, ws_exc, ws_stuck, wp_op, kk_op, kk_un, wp_un, wp_cons, kk_cons, kk_cons2, wp_nil, wp_c, wp_app, wp_if, kk_if1, kk_if0, wp_and, kk_and1, kk_and0, wp_or, kk_or1, kk_or0, wp_not, kk_not, wp_tb, kk_tb, wp_andV, kk_andV1, kk_andV0, wp_orV, kk_orV1, kk_orV0, wp_notV, kk_notV, wp_noneS, wp_some, kk_some, wp_sl, kk_sl, kk_sl2, kk_sl3, wp_mL, kk_mL, kk_mL2, wp_mL0, kk_mL0, wp_chain, kk_ch, kk_ch2, kk_ch31, kk_ch30, ws_set, kks_nm, kks_g, kks_tup, kks_lst, ws_expr, kks_expr, ws_ret, kks_ret, ws_retN, ws_pass, ws_brk, ws_cont, ws_raise, ws_if, kks_if1, kks_if0, ws_seq, kks_next, kks_retS, kks_brk, kks_cont, kk_augE, ws_aug, kks_aug, kks_aug2, ws_par, kks_par, ws_setL, kks_sl, kks_sl2, kks_sl3, wp_def, kkd_ret, kkd_next, kkdE, kkE, ws_for, wp_lc, wp_r1, kk_r1, wp_r2, kk_r2, wp_il, wp_it, wp_ie, wp_iz, kk_il, kk_il2, kk_it, kk_it2, kk_ie, kk_ie2, kk_iz, kk_iz2, lAt_k, k_lAtL, k_lAtO, k_lAtT, wp_int, wp_add, wp_addI, wp_sub, wp_neg, wp_lt, wp_le, wp_gt, wp_ge, wp_max2, wp_min2, wp_abs, wp_mulI, wp_mul, wp_fdiv, wp_mod, wp_shl, wp_shr, wp_pow, wp_isN, wp_notN, wp_eqI, wp_neI, wp_ix, kk_ix, kk_ix2, wp_len, kk_lenL, kk_lenT, kk_lenO, kk_lenP, wp_appd, kk_app1, isL_k, kk_isL, startI_cons, startI_nil, rep_succ, rep_zero, List.getElem?_cons_zero, List.getElem?_cons_succ, List.set_cons_zero, List.set_cons_succ, f_call, m_var, List.append_nil, List.nil_append, List.cons_append, List.length_cons, List.length_nil, if_true, if_false, g_tup, g_lst, g_cons, g_nil, g_nm, Option.bind_some, kks_g, atI_0, atI_1, atI_2, atI_3, atI_4, atI_5, atI_6, atI_7, atI_8, atI_9, atI_10, atI_11, atI_12, atI_last, cutI_1, ixN_30, ixN_31, ixN_32, Int.toNat_zero, Int.reduceToNat, Int.reduceNeg, xs_lst, xs_tup, xs_ro, xs_rot, isL_lst, isL_tup, isL_ro, isL_rot, isT_tup, isT_rot, Bool.false_eq_true, Bool.true_eq_false, Bool.not_true, Bool.not_false, decide_true, decide_false, Int.reduceLT, Int.reduceLE, Nat.reduceLT, Nat.reduceLeDiff, Nat.reduceAdd, Nat.reduceEqDiff, Bool.not_eq_true, true_and, and_true, and_self, eq_self, g_new, g_nw, g_old, g_set, g_sne, List.length_set, List.length_append, wp_r3, kk_r3, Int.cast_ofNat_Int, Int.reduceEq, Int.natCast_zero, Int.natCast_one, ws_whileA, wp_isiII, wp_isiIB, wp_isiR, tyO_l, tyO_t, kk_isi, kk_isi2, kit_ll, kit_tt, kit_lt, kit_tl, wp_isiN, wp_isiBl, wp_isiS, tyO_d, kit2_NoneType_int, kit2_NoneType_bool, kit2_NoneType_list, kit2_NoneType_tuple, kit2_NoneType_str, kit2_bool_int, kit2_bool_bool, kit2_bool_list, kit2_bool_tuple, kit2_bool_str, kit2_str_int, kit2_str_bool, kit2_str_list, kit2_str_tuple, kit2_str_str, kit2_dict_int, kit2_dict_bool, kit2_dict_list, kit2_dict_tuple, kit2_dict_str, kit2_list_int, kit2_list_bool, kit2_list_str, kit2_tuple_int, kit2_tuple_bool, kit2_tuple_str, kit2_int_list, kit2_int_tuple, kit2_int_str, kf_next, kf_cont, kf_brk, kf_ret, wipeI, ws_try, wp_isEg, wp_isEt, kk_isE, wp_neS, wp_int2, ↓reduceIte, *])
/-- a small value of no parts -/
def SV : IV → Prop
  | .non => True
  | .bl _ => True
  | .int i => -2000 < i ∧ i < 2000
  | .str x => x.cps.toList.all (fun c => decide (c < 16 ^ 8)) = true ∧ x.length ≤ 4
  | _ => False
def sdV : IV → PyData
  | .bl b => .bool b
  | .int i => .int i
  | .str x => .str x
  | _ => .none
theorem SV.is {ih : IH} {v : IV} (h : SV v) : Is ih v (sdV v) := by
  cases v with
  | non => exact .non
  | bl b => exact .bl b
  | int i => exact .int i
  | str x => exact .str x
  | _ => exact h.elim
theorem SV.kv {p : Nat} {ih : IH} {v : IV} (h : SV v) : KV p ih v := by
  cases v with
  | ref k => exact h.elim
  | gl k => exact h.elim
  | ty k => exact h.elim
  | _ => trivial
/-- how small a datum is -/
structure Sm (n k : Nat) (d : PyData) : Prop where
  sh : d.showable = true
  lf : d.leavesShort 13 = true
  wt : d.weight ≤ n
  dp : d.depth ≤ k
theorem Sm.mono {n k n' k' : Nat} {d : PyData} (h : Sm n k d) (e1 : n ≤ n') (e2 : k ≤ k') : Sm n' k' d := ⟨h.sh, h.lf, Nat.le_trans h.wt e1, Nat.le_trans h.dp e2⟩
theorem SV.sm {v : IV} (h : SV v) : Sm 16 0 (sdV v) := by
  cases v with
  | non => exact ⟨rfl, rfl, by simp [sdV, PyData.weight], by simp [sdV, PyData.depth]⟩
  | bl b => exact ⟨rfl, rfl, by simp [sdV, PyData.weight], by simp [sdV, PyData.depth]⟩
  | int i =>
    obtain ⟨h1, h2⟩ := h
    have hl : i.natAbs.log2 < 12 := by
      rcases Nat.eq_zero_or_pos i.natAbs with e | e
      · rw [e]; decide
      · exact (Nat.log2_lt (by omega)).mpr (by omega)
    refine ⟨?_, ?_, ?_, by simp [sdV, PyData.depth]⟩
    rotate_left 2
    · simp [sdV, PyData.weight]
      split <;> omega
    · simp only [sdV, PyData.showable, decide_eq_true_eq]
      omega
    · have := int_text_length_le (a := i) (k := 12) (by decide) hl
      have e : (PyData.int i).shown.length = (toString i).length := by
        show (Str.ofString (toString i)).length = _
        exact PySem.ofString_length _
      show PyData.leavesShort 13 (.int i) = true
      unfold PyData.leavesShort
      exact decide_eq_true (by omega)
  | str x =>
    obtain ⟨h1, h2⟩ := h
    refine ⟨rfl, by simpa [sdV, PyData.leavesShort] using h1, ?_, by simp [sdV, PyData.depth]⟩
    have e : x.length = x.cps.size := rfl
    simp only [sdV, PyData.weight]
    omega
  | _ => exact h.elim
theorem sm_all {n k : Nat} : ∀ {ds : List PyData}, (∀ d ∈ ds, Sm n k d) → PyData.showableAll ds = true ∧ PyData.leavesShortAll 13 ds = true ∧ PyData.weightAll ds ≤ ds.length * (n + 1) ∧ PyData.depthAll ds ≤ k
  | [], _ => by simp [PyData.showableAll, PyData.leavesShortAll, PyData.weightAll, PyData.depthAll]
  | d :: ds, h => by
    obtain ⟨a, b, c, e⟩ := sm_all (ds := ds) fun d hd => h d (List.mem_cons_of_mem _ hd)
    have z := h d List.mem_cons_self
    refine ⟨by simp [PyData.showableAll, z.sh, a], by simp [PyData.leavesShortAll, z.lf, b], ?_, ?_⟩
    · simp only [PyData.weightAll, List.length_cons, Nat.succ_mul]
      have := z.wt
      omega
    · simp only [PyData.depthAll]
      have := z.dp
      omega
theorem Sm.list {n k : Nat} {ds : List PyData} (h : ∀ d ∈ ds, Sm n k d) : Sm (ds.length * (n + 1)) (k + 1) (.list ds) := by
  obtain ⟨a, b, c, e⟩ := sm_all h
  exact ⟨by simpa [PyData.showable] using a, by simpa [PyData.leavesShort] using b, by simpa [PyData.weight] using c, by simp only [PyData.depth]; omega⟩
theorem Sm.tup {n k : Nat} {ds : List PyData} (h : ∀ d ∈ ds, Sm n k d) : Sm (ds.length * (n + 1)) (k + 1) (.tuple ds) := by
  obtain ⟨a, b, c, e⟩ := sm_all h
  exact ⟨by simpa [PyData.showable] using a, by simpa [PyData.leavesShort] using b, by simpa [PyData.weight] using c, by simp only [PyData.depth]; omega⟩
theorem Sm.ok {n k : Nat} {d : PyData} (h : Sm n k d) (e1 : n ≤ 1000000) (e2 : k ≤ 50) : okR d := ⟨h.sh, PyData.shown_fits (B := 13) (by decide) (by decide) h.lf (by have := h.wt; omega), Nat.le_trans h.dp e2⟩
/-- an element of a list: a small value, or a short list of small values -/
def El (p : Nat) (ih : IH) (x : IV) : Prop := SV x ∨ ∃ k ys, x = .ref k ∧ k ≠ p ∧ ih[k]? = some (.lst ys) ∧ ys.length ≤ 3 ∧ ∀ y ∈ ys, SV y
theorem El.fr {p : Nat} {ih ih' : IH} {x : IV} (h : El p ih x) (f : Fr p ih ih') : El p ih' x := by
  rcases h with h | ⟨k, ys, e, n, g, l, a⟩
  · exact .inl h
  · exact .inr ⟨k, ys, e, n, by rw [f k (lt_of_get g) n]; exact g, l, a⟩
theorem El.kv {p : Nat} {ih : IH} {x : IV} (h : El p ih x) : KV p ih x := by
  rcases h with h | ⟨k, ys, rfl, n, g, _, _⟩
  · exact h.kv
  · exact ⟨n, "list", by rw [g]; rfl⟩
theorem is_svs {ih : IH} : ∀ {ys : List IV}, (∀ y ∈ ys, SV y) → IsAll ih ys (ys.map sdV)
  | [], _ => .nil
  | y :: ys, h => .cons (h y List.mem_cons_self).is (is_svs fun z hz => h z (List.mem_cons_of_mem _ hz))
theorem El.is {p : Nat} {ih : IH} {x : IV} (h : El p ih x) : ∃ d, Sm 60 1 d ∧ ∀ ih', Fx ih ih' → Is ih' x d := by
  rcases h with h | ⟨k, ys, rfl, n, g, l, a⟩
  · exact ⟨_, h.sm.mono (by omega) (by omega), fun ih' _ => h.is⟩
  · refine ⟨.list (ys.map sdV), (Sm.list (n := 16) (k := 0) fun d hd => ?_).mono ?_ (by omega), fun ih' f => .lst (by rw [f k (lt_of_get g)]; exact g) rfl (is_svs a)⟩
    · obtain ⟨y, hy, rfl⟩ := List.mem_map.mp hd
      exact (a y hy).sm
    · rw [List.length_map]
      omega
/-- what may be handed in -/
def Ob (p : Nat) (ih : IH) (v : IV) : Prop :=
  (∃ k xs, v = .ref k ∧ k ≠ p ∧ (ih[k]? = some (.lst xs) ∨ ih[k]? = some (.tup xs)) ∧ xs.length ≤ 100 ∧ ∀ x ∈ xs, El p ih x) ∨ (∃ k, v = .ref k ∧ k ≠ p ∧ ih[k]? = some (.dk [])) ∨ SV v
theorem Ob.fr {p : Nat} {ih ih' : IH} {v : IV} (h : Ob p ih v) (f : Fr p ih ih') : Ob p ih' v := by
  rcases h with ⟨k, xs, e, n, g, l, a⟩ | ⟨k, e, n, g⟩ | h
  · refine .inl ⟨k, xs, e, n, ?_, l, fun x hx => (a x hx).fr f⟩
    rcases g with g | g
    · exact .inl (by rw [f k (lt_of_get g) n]; exact g)
    · exact .inr (by rw [f k (lt_of_get g) n]; exact g)
  · exact .inr (.inl ⟨k, e, n, by rw [f k (lt_of_get g) n]; exact g⟩)
  · exact .inr (.inr h)
theorem els_is {p : Nat} {ih : IH} : ∀ {xs : List IV}, (∀ x ∈ xs, El p ih x) → ∃ ds, ds.length = xs.length ∧ (∀ d ∈ ds, Sm 60 1 d) ∧ ∀ ih', Fx ih ih' → IsAll ih' xs ds
  | [], _ => ⟨[], rfl, (fun _ h => nomatch h), fun _ _ => .nil⟩
  | x :: xs, h => by
    obtain ⟨d, a, b⟩ := (h x List.mem_cons_self).is
    obtain ⟨ds, e, s, i⟩ := els_is (xs := xs) fun y hy => h y (List.mem_cons_of_mem _ hy)
    refine ⟨d :: ds, by simp [e], fun z hz => ?_, fun ih' f => .cons (b ih' f) (i ih' f)⟩
    rcases List.mem_cons.mp hz with rfl | hz
    · exact a
    · exact s z hz
/-- the pair of the windows and the object, and what repr tells of it -/
theorem Ob.rep {p : Nat} {ih : IH} {v : IV} (h : Ob p ih v) {q : Nat} {wd : PyData} (hw : ∀ ih', Fx ih ih' → Is ih' (.ref q) wd) (sw : Sm 10000 3 wd) :
    ∃ d, okR d ∧ ∀ ih' t, Fx ih ih' → ih'[t]? = some (.tup [.ref q, v]) → IsR ih' (.ref t) d := by
  have two : ∀ {dv : PyData}, Sm 10000 3 dv → Sm 30000 10 (.tuple [wd, dv]) := fun {dv} s => (Sm.tup (n := 10000) (k := 3) fun d hd => by
    rcases List.mem_cons.mp hd with rfl | hd
    · exact sw
    · rw [List.mem_singleton.mp hd]; exact s).mono (by simp) (by omega)
  rcases h with ⟨k, xs, rfl, n, g, l, a⟩ | ⟨k, rfl, n, g⟩ | h
  · obtain ⟨ds, e, s, i⟩ := els_is a
    have hl : ds.length * 61 ≤ 10000 := by rw [e]; omega
    rcases g with g | g
    · refine ⟨_, (two ((Sm.list s).mono hl (by omega))).ok (by omega) (by omega), fun ih' t f gt => .inl (.tup gt rfl (.cons (hw ih' f) (.cons (.lst (o := .lst xs) (by rw [f k (lt_of_get g)]; exact g) rfl (i ih' f)) .nil)))⟩
    · refine ⟨_, (two ((Sm.tup s).mono hl (by omega))).ok (by omega) (by omega), fun ih' t f gt => .inl (.tup gt rfl (.cons (hw ih' f) (.cons (.tup (o := .tup xs) (by rw [f k (lt_of_get g)]; exact g) rfl (i ih' f)) .nil)))⟩
  · refine ⟨.tuple [wd, .dict []], (two (dv := .dict []) ⟨rfl, rfl, by simp [PyData.weight, PyData.weightKv], by simp [PyData.depth, PyData.depthKv]⟩).ok (by omega) (by omega), fun ih' t f gt => .inr ⟨t, k, .ref q, wd, rfl, gt, hw ih' f, by rw [f k (lt_of_get g)]; exact g, rfl⟩⟩
  · exact ⟨_, (two (h.sm.mono (by omega) (by omega))).ok (by omega) (by omega), fun ih' t f gt => .inl (.tup gt rfl (.cons (hw ih' f) (.cons h.is .nil)))⟩
/-! ### is it a list of looks? -/
def inB (b e : Int) : IV → Bool
  | .int z => decide (b + 1 ≤ z) && decide (z < e)
  | _ => false
/-- a list of looks -/
def IsL (b e : Int) (xs : List IV) : Prop := ∃ L : List Int, xs = L.map .int ∧ (b :: L).Pairwise (· < ·) ∧ ∀ y ∈ L, y < e
theorem inB_int {b e : Int} {xs : List IV} (h : xs.all (inB b e) = true) : ∃ L : List Int, xs = L.map .int ∧ ∀ y ∈ L, b < y ∧ y < e := by
  induction xs with
  | nil => exact ⟨[], rfl, fun _ h => nomatch h⟩
  | cons x r ih =>
    rw [List.all_cons, Bool.and_eq_true] at h
    obtain ⟨L, e1, hn⟩ := ih h.2
    cases x with
    | int i =>
      have h1 := h.1
      simp only [inB, Bool.and_eq_true, decide_eq_true_eq] at h1
      exact ⟨i :: L, by rw [e1]; rfl, fun n hm => by
        rcases List.mem_cons.mp hm with e2 | e2
        · rw [e2]; omega
        · exact hn n e2⟩
    | _ => cases h.1
theorem pw_zip : ∀ {L : List Int}, (List.zipWith (fun a b => decide (a < b)) L (L.drop 1)).all id = true → L.Pairwise (· < ·)
  | [], _ => .nil
  | [_], _ => by simp
  | a :: b :: r, h => by
    have h2 : decide (a < b) = true ∧ (List.zipWith (fun a b => decide (a < b)) (b :: r) ((b :: r).drop 1)).all id = true := by
      simpa using h
    have p := pw_zip h2.2
    have ab := of_decide_eq_true h2.1
    refine .cons (fun z hz => ?_) p
    rcases List.mem_cons.mp hz with e | e
    · omega
    · have := (List.pairwise_cons.mp p).1 z e
      omega
theorem zip_pw : ∀ {L : List Int}, L.Pairwise (· < ·) → (List.zipWith (fun a b => decide (a < b)) L (L.drop 1)).all id = true
  | [], _ => rfl
  | [_], _ => rfl
  | a :: b :: r, h => by
    have p := List.pairwise_cons.mp h
    have ih := zip_pw p.2
    have ab := p.1 b List.mem_cons_self
    simpa [ab] using ih
section
variable {p : Nat} {ih : IH} {v : IV} {Q : PQ IV} {E : EQ}
theorem w_lookV (c : Cs) {l : Nat} {b e : Int} {xs : List IV} (gl : ih[l]? = some (.lst xs)) (hk : ∀ x ∈ xs, KV p ih x) (hl : xs.length ≤ 1000)
    (k : ∀ v ih', (v = true ↔ IsL b e xs) → Fx ih ih' → ih.length ≤ ih'.length → Q (.bl v) ih') : wp (m_is_looks c [.ref l, .int b, .int e] ih) Q E := by
  have ll := lt_of_get gl
  replace k := Hide.mk k
  unfold m_is_looks b_is_looks
  walk_at "run"
  unfold lc_is_looks_1
  walk_at "run"
  refine lc_all (o := .lst xs) (fun x => .bl (inB b e x)) gl rfl (by show xs.length < _; omega) (fun x hx ih1 f1 => ?_) ?_
  · have h1 := (hk x hx).fx f1
    unfold le_is_looks_1
    walk_at "run"
    refine w_wholeV c h1 (b + 1) ?_
    cases x with
    | int z =>
      unfold whl inB
      cases hd : decide (b + 1 ≤ z) with
      | true =>
        walk_at "run"
        rfl
      | false =>
        walk_at "run"
        rfl
    | _ => unfold whl inB; walk_at "run"
  rw [show (MO.lst xs).xs.map (fun x => IV.bl (inB b e x)) = (xs.map (inB b e)).map IV.bl by rw [List.map_map]; rfl]
  refine newN fun u ih1 u1 u2 l1 f1 g1 => ?_
  walk_at "run"
  refine wp_allL (xs.map (inB b e)) g1 ?_
  rw [show ((xs.map (inB b e)).all id) = xs.all (inB b e) by rw [List.all_map]; rfl]
  cases ha : xs.all (inB b e) with
  | false =>
    have kz := k.get false ih1 ⟨(fun h => nomatch h), fun ⟨L, h1, h2, h3⟩ => by
      have hn : xs.all (inB b e) = true := List.all_eq_true.mpr fun x hx => by
        rw [h1] at hx
        obtain ⟨z, hz, rfl⟩ := List.mem_map.mp hx
        have a1 := (List.pairwise_cons.mp h2).1 z hz
        have a2 := h3 z hz
        simp only [inB, Bool.and_eq_true, decide_eq_true_eq]
        omega
      rw [hn] at ha
      cases ha⟩ f1 (by omega)
    clear g1
    walk_at "run"
    all_goals exact kz
  | true =>
    obtain ⟨L, eL, hL⟩ := inB_int ha
    subst eL
    rw [List.length_map] at hl
    have gl1 := (f1 l ll).trans gl
    have F1 := Hide.mk f1
    clear g1 f1 gl
    walk_at "run"
    unfold lc_is_looks_2
    walk_at "run"
    refine wp_slL gl1 (newN fun v ih2 v1 v2 l2 f2 g2 => ?_)
    have gl2 := (f2 l (by omega)).trans gl1
    have g2' : ih2[v]? = some (.lst ((L.drop 1).map IV.int)) := by rw [g2, cutI_1, List.map_drop]
    have F2 := Hide.mk (F1.get.trans f2 (by omega))
    clear f2 g2 gl1
    walk_at "run"
    refine lc_zipB L (L.drop 1) (fun a b => decide (a < b)) gl2 g2' (by omega) (fun x y ih3 f3 => ?_) fun ih3 f3 l3 g3 => ?_
    · unfold le_is_looks_2
      walk_at "run"
    obtain ⟨w, ew⟩ : ∃ w, ih2.length = w := ⟨_, rfl⟩
    rw [ew] at g3 ⊢
    have kz := k.get ((List.zipWith (fun a b => decide (a < b)) L (L.drop 1)).all id) ih3 ⟨fun h => ⟨L, rfl, .cons (fun y hy => (hL y hy).1) (pw_zip h), fun y hy => (hL y hy).2⟩, fun ⟨M, h1, h2, _⟩ => by
      have : L = M := (List.map_inj_right (fun a b h => by cases h; rfl)).mp h1
      rw [this]
      exact zip_pw (List.pairwise_cons.mp h2).2⟩ (F2.get.trans f3 (by omega)) (by omega)
    clear f3 gl2 g2'
    walk_at "run"
    refine wp_allL _ g3 ?_
    clear g3
    walk_at "run"
    all_goals exact kz
theorem IsL.mem {b e : Int} {xs : List IV} (h : IsL b e xs) {x : IV} (hx : x ∈ xs) : ∃ z, x = .int z ∧ b < z ∧ z < e := by
  obtain ⟨L, rfl, h2, h3⟩ := h
  obtain ⟨z, hz, rfl⟩ := List.mem_map.mp hx
  exact ⟨z, rfl, (List.pairwise_cons.mp h2).1 z hz, h3 z hz⟩
theorem IsL.lt {b e : Int} {xs : List IV} (h : IsL b e xs) {i : Nat} {y z : Int} (h1 : xs[i]? = some (.int y)) (h2 : xs[i + 1]? = some (.int z)) : y < z := by
  obtain ⟨L, rfl, g2, _⟩ := h
  rw [List.getElem?_map] at h1 h2
  obtain ⟨y', e1, e2⟩ := Option.map_eq_some_iff.mp h1
  obtain ⟨z', e3, e4⟩ := Option.map_eq_some_iff.mp h2
  cases e2
  cases e4
  obtain ⟨l1, e5⟩ := List.getElem?_eq_some_iff.mp e1
  obtain ⟨l2, e6⟩ := List.getElem?_eq_some_iff.mp e3
  have := List.pairwise_iff_getElem.mp (List.pairwise_cons.mp g2).2 i (i + 1) l1 l2 (by omega)
  rw [e5, e6] at this
  exact this
theorem IsL.snoc {b e : Int} {xs : List IV} {i : Nat} {z : Int} (h : IsL b e (xs.take i)) (hz : xs[i]? = some (.int z)) (h1 : b < z) (h2 : z < e) (h3 : 0 < i → ∃ y, xs[i - 1]? = some (.int y) ∧ y < z) : IsL b e (xs.take (i + 1)) := by
  obtain ⟨L, e1, g2, g3⟩ := h
  refine ⟨L ++ [z], by rw [List.take_add_one, hz, e1, List.map_append]; rfl, ?_, fun y hy => ?_⟩
  · rw [← List.cons_append, List.pairwise_append]
    refine ⟨g2, by simp, fun u hu w hw => ?_⟩
    rw [List.mem_singleton.mp hw]
    rcases List.mem_cons.mp hu with rfl | hu
    · exact h1
    · have il : L.length = i := by
        have := congrArg List.length e1
        rw [List.length_take, List.length_map] at this
        have := (List.getElem?_eq_some_iff.mp hz).1
        omega
      have ip : 0 < i := by
        cases L with
        | nil => cases hu
        | cons a r => simp at il; omega
      obtain ⟨y, hy, yz⟩ := h3 ip
      have ey : L[i - 1]? = some y := by
        have : (xs.take i)[i - 1]? = some (.int y) := by rw [List.getElem?_take_of_lt (by omega)]; exact hy
        rw [e1, List.getElem?_map] at this
        obtain ⟨y', a1, a2⟩ := Option.map_eq_some_iff.mp this
        cases a2
        exact a1
      obtain ⟨j, hj⟩ := List.mem_iff_getElem?.mp hu
      obtain ⟨lj, ej⟩ := List.getElem?_eq_some_iff.mp hj
      obtain ⟨li, ei⟩ := List.getElem?_eq_some_iff.mp ey
      by_cases hji : j = i - 1
      · subst hji
        rw [hj] at ey
        cases ey
        exact yz
      · have := List.pairwise_iff_getElem.mp (List.pairwise_cons.mp g2).2 j (i - 1) lj li (by omega)
        rw [ej, ei] at this
        omega
  · rcases List.mem_append.mp hy with hy | hy
    · exact g3 y hy
    · rw [List.mem_singleton.mp hy]; exact h2
theorem w_lawlook (c : Cs) {l : Nat} {b e : Int} {xs : List IV} (gl : ih[l]? = some (.lst xs)) (hk : ∀ x ∈ xs, KV p ih x) (hl : xs.length ≤ 1000)
    (k : ∀ v ih', (v = true ↔ IsL b e xs) → Fx ih ih' → ih.length ≤ ih'.length → Q (.bl v) ih') : wp (m_law_is_looks c [.ref l, .int b, .int e] ih) Q E := by
  have ll := lt_of_get gl
  replace k := Hide.mk k
  unfold m_law_is_looks b_law_is_looks
  walk_at "run"
  have no := Hide.mk fun ih' (h : ¬ IsL b e xs) f l => k.get false ih' ⟨(fun z => nomatch z), fun z => absurd z h⟩ f l
  refine for_enum (o := .lst xs) (fun i env ih' => (∃ a3 a4, env = [some (.ref l), some (.int b), some (.int e), a3, a4]) ∧ Fx ih ih' ∧ ih.length ≤ ih'.length ∧ IsL b e (xs.take i)) gl rfl ⟨⟨_, _, rfl⟩, Fx.refl, Nat.le_refl _, [], by simp, by simp, (fun _ h => nomatch h)⟩
    (fun i env ih' ⟨_, f, _, _⟩ => (f l ll).trans gl) (fun i v env ih1 hv hP => ⟨_, g_pair, ?_⟩) fun env ih1 hP => ?_
  · obtain ⟨⟨a3, a4, ee⟩, f1, l1, hI⟩ := hP
    subst ee
    have hv : xs[i]? = some v := hv
    have hm : v ∈ xs := List.mem_of_getElem? hv
    have il : i < xs.length := (List.getElem?_eq_some_iff.mp hv).1
    obtain ⟨ih2, e2⟩ : ∃ ih2, ih1 ++ [.tup [.int (i : Int), v]] = ih2 := ⟨_, rfl⟩
    have f12 : Fx ih1 ih2 := e2 ▸ Fx.app
    have l12 : ih1.length ≤ ih2.length := by rw [← e2]; simp
    rw [e2]
    have F := Hide.mk (f1.trans f12 l1)
    have kv := (hk v hm).fx F.get
    have gl2 := (F.get l ll).trans gl
    clear f12 e2 f1 gl
    simp only [List.set_cons_zero, List.set_cons_succ]
    unfold lb_law_is_looks_1
    cases v with
    | gl a => exact kv.elim
    | ty a => exact kv.elim
    | non =>
      have kz := no.get ih2 (fun h => by obtain ⟨z, hz, _⟩ := h.mem hm; cases hz) F.get (by omega)
      walk_at "run"
      all_goals exact kz
    | bl a =>
      have kz := no.get ih2 (fun h => by obtain ⟨z, hz, _⟩ := h.mem hm; cases hz) F.get (by omega)
      walk_at "run"
      all_goals exact kz
    | str a =>
      have kz := no.get ih2 (fun h => by obtain ⟨z, hz, _⟩ := h.mem hm; cases hz) F.get (by omega)
      walk_at "run"
      all_goals exact kz
    | ref a =>
      have kz := no.get ih2 (fun h => by obtain ⟨z, hz, _⟩ := h.mem hm; cases hz) F.get (by omega)
      obtain ⟨_, t, ht⟩ := kv
      rcases tyO_cases ht with ⟨et, _⟩ | et | et <;> (subst et; walk_at "run"; all_goals exact kz)
    | int z =>
      clear kv
      by_cases h1 : b < z ∧ z < e
      · obtain ⟨h1, h2⟩ := h1
        have d1 := decide_eq_true h1
        have d2 := decide_eq_true h2
        rcases Nat.eq_zero_or_pos i with hi | hi
        · subst hi
          have d3 : decide ((0 : Int) < ((0 : Nat) : Int)) = false := rfl
          have nx := Hide.mk (hI.snoc hv h1 h2 fun h => absurd h (Nat.lt_irrefl _))
          clear h1 h2 gl2 hI
          walk_at "run"
          exact Inv.mk ⟨⟨_, _, rfl⟩, F.get, by omega, nx.get⟩
        · have d3 : decide ((0 : Int) < (i : Int)) = true := decide_eq_true (by omega)
          obtain ⟨y, hy⟩ : ∃ y, xs[i - 1]? = some (.int y) := by
            obtain ⟨L, eL, _, _⟩ := hI
            have l1' : i - 1 < xs.length := by omega
            have : (xs.take i)[i - 1]? = some xs[i - 1] := by rw [List.getElem?_take_of_lt (by omega)]; exact List.getElem?_eq_getElem l1'
            rw [eL, List.getElem?_map] at this
            obtain ⟨y, a1, a2⟩ := Option.map_eq_some_iff.mp this
            exact ⟨y, by rw [List.getElem?_eq_getElem l1', ← a2]⟩
          have ea : atI xs ((i : Int) - 1) = some (.int y) := by
            rw [show (i : Int) - 1 = ((i - 1 : Nat) : Int) by omega, atI_nn]
            exact hy
          by_cases h3 : z ≤ y
          · have d4 := decide_eq_true h3
            have kz := no.get ih2 (fun h => by
              have := h.lt (i := i - 1) hy (by rw [Nat.sub_add_cancel hi]; exact hv)
              omega) F.get (by omega)
            clear h1 h2 hI h3
            walk_at "run"
            all_goals exact kz
          · have d4 := decide_eq_false h3
            have nx := Hide.mk (hI.snoc hv h1 h2 fun _ => ⟨y, hy, by omega⟩)
            clear h1 h2 hI h3
            walk_at "run"
            exact Inv.mk ⟨⟨_, _, rfl⟩, F.get, by omega, nx.get⟩
      · have kz := no.get ih2 (fun h => by obtain ⟨w, hw, a1, a2⟩ := h.mem hm; cases hw; exact h1 ⟨a1, a2⟩) F.get (by omega)
        by_cases h2 : b < z
        · have d1 := decide_eq_true h2
          have d2 : decide (z < e) = false := decide_eq_false fun h => h1 ⟨h2, h⟩
          clear h1 h2 hI
          walk_at "run"
          all_goals exact kz
        · have d1 := decide_eq_false h2
          clear h1 h2 hI
          walk_at "run"
          all_goals exact kz
  · obtain ⟨⟨a3, a4, ee⟩, f1, l1, hI⟩ := hP
    subst ee
    rw [show (MO.lst xs).xs.length = xs.length from rfl, List.take_length] at hI
    have kz := k.get true ih1 ⟨fun _ => hI, fun _ => rfl⟩ f1 l1
    clear f1 hI no
    walk_at "run"
    all_goals exact kz
end
end L3
/-! K34b: windows drawn, looks bent. (L15) -/
namespace L3
open PySem PySem.Spec PyProof.Rows L2
local macro_rules | `(tactic| walk_at "get") => `(tactic| simp (disch := first | assumption | omega | (simp only [List.length_append, List.length_set, List.length_cons, List.length_nil, List.length_map] <;> omega) | fail) only [g_new, g_nw, g_old, g_set, g_sne, List.length_append, List.length_set, List.length_cons, List.length_nil, List.length_map, List.map_map, Function.comp_def, xs_lst, xs_tup, isL_lst, isL_tup, ↓reduceIte, *])
local macro_rules | `(tactic| walk_at "fr") => `(tactic| first | (intro _ _ _; simp (disch := first | assumption | omega | (simp only [List.length_append, List.length_set, List.length_cons, List.length_nil, List.length_map] <;> omega) | fail) only [g_new, g_nw, g_old, g_set, g_sne, List.length_append, List.length_set, List.length_cons, List.length_nil, List.length_map, List.map_map, Function.comp_def, xs_lst, xs_tup, isL_lst, isL_tup, ↓reduceIte, *]) | (intro _ _; simp (disch := first | assumption | omega | (simp only [List.length_append, List.length_set, List.length_cons, List.length_nil, List.length_map] <;> omega) | fail) only [g_new, g_nw, g_old, g_set, g_sne, List.length_append, List.length_set, List.length_cons, List.length_nil, List.length_map, List.map_map, Function.comp_def, xs_lst, xs_tup, isL_lst, isL_tup, ↓reduceIte, *]))
local macro_rules | `(tactic| walk_at "run") => `(tactic| simp -implicitDefEqProofs (disch := first | assumption | omega | (simp only [List.length_append, List.length_set, List.length_cons, List.length_nil, List.length_map] <;> omega) | fail) only [wp_ok, wp_exc, wp_stuck, ws_ok, ws_exc, ws_stuck, wp_op, kk_op, kk_un, wp_un, wp_cons, kk_cons, kk_cons2, wp_nil, wp_c, wp_app, wp_if, kk_if1, kk_if0, wp_and, kk_and1, kk_and0, wp_or, kk_or1, kk_or0, wp_not, kk_not, wp_tb, kk_tb, wp_andV, kk_andV1, kk_andV0, wp_orV, kk_orV1, kk_orV0, wp_notV, kk_notV, wp_noneS, wp_some, kk_some, wp_sl, kk_sl, kk_sl2, kk_sl3, wp_mL, kk_mL, kk_mL2, wp_mL0, kk_mL0, wp_chain, kk_ch, kk_ch2, kk_ch31, kk_ch30, ws_set, kks_nm, kks_g, kks_tup, kks_lst, ws_expr, kks_expr, ws_ret, kks_ret, ws_retN, ws_pass, ws_brk, ws_cont, ws_raise, ws_if, kks_if1, kks_if0, ws_seq, kks_next, kks_retS, kks_brk, kks_cont, kk_augE, ws_aug, kks_aug, kks_aug2, ws_par, kks_par, ws_setL, kks_sl, kks_sl2, kks_sl3, wp_def, kkd_ret, kkd_next, kkdE, kkE, ws_for, wp_lc, wp_r1, kk_r1, wp_r2, kk_r2, wp_il, wp_it, wp_ie, wp_iz, kk_il, kk_il2, kk_it, kk_it2, kk_ie, kk_ie2, kk_iz, kk_iz2, lAt_k, k_lAtL, k_lAtO, k_lAtT, wp_int, wp_add, wp_addI, wp_sub, wp_neg, wp_lt, wp_le, wp_gt, wp_ge, wp_max2, wp_min2, wp_abs, wp_mulI, wp_mul, wp_fdiv, wp_mod, wp_shl, wp_shr, wp_pow, wp_isN, wp_notN, wp_eqI, wp_neI, wp_ix, kk_ix, kk_ix2, wp_len, kk_lenL, kk_lenT, kk_lenO, kk_lenP, wp_appd, kk_app1, isL_k, kk_isL, startI_cons, startI_nil, rep_succ, rep_zero, List.getElem?_cons_zero, List.getElem?_cons_succ, List.set_cons_zero, List.set_cons_succ, f_call, m_var, List.append_nil, List.nil_append, List.cons_append, List.length_cons, List.length_nil, if_true, if_false, g_tup, g_lst, g_cons, g_nil, g_nm, Option.bind_some, kks_g, atI_0, atI_1, atI_2, atI_3, atI_4, atI_5, atI_6, atI_7, atI_8, atI_9, atI_10, atI_11, atI_12, atI_last, cutI_1, ixN_30, ixN_31, ixN_32, Int.toNat_zero, Int.reduceToNat, Int.reduceNeg, xs_lst, xs_tup, xs_ro, xs_rot, isL_lst, isL_tup, isL_ro, isL_rot, isT_tup, isT_rot, Bool.false_eq_true, Bool.true_eq_false, Bool.not_true, Bool.not_false, decide_true, decide_false, Int.reduceLT, Int.reduceLE, Nat.reduceLT, Nat.reduceLeDiff, Nat.reduceAdd, Nat.reduceEqDiff, Bool.not_eq_true, true_and, and_true, and_self, eq_self, g_new, g_nw, g_old, g_set, g_sne, List.length_set, List.length_append, wp_r3, kk_r3, Int.cast_ofNat_Int, Int.reduceEq, Int.natCast_zero, Int.natCast_one, ws_whileA, wp_isiII, wp_isiIB, wp_isiR, tyO_l, tyO_t, kk_isi, kk_isi2, kit_ll, kit_tt, kit_lt, kit_tl, wp_isiN, wp_isiBl, wp_isiS, tyO_d, kit2_NoneType_int, kit2_NoneType_bool, kit2_NoneType_list, kit2_NoneType_tuple, kit2_NoneType_str, kit2_bool_int, kit2_bool_bool, kit2_bool_list, kit2_bool_tuple, kit2_bool_str, kit2_str_int, kit2_str_bool, kit2_str_list, kit2_str_tuple, kit2_str_str, kit2_dict_int, kit2_dict_bool, kit2_dict_list, kit2_dict_tuple, kit2_dict_str, kit2_list_int, kit2_list_bool, kit2_list_str, kit2_tuple_int, kit2_tuple_bool, kit2_tuple_str, kit2_int_list, kit2_int_tuple, kit2_int_str, kf_next, kf_cont, kf_brk, kf_ret, wipeI, ws_try, wp_isEg, wp_isEt, kk_isE, wp_neS, wp_int2, ↓reduceIte, *])
theorem PR.srcD {a b : IH} {p m : Nat} {xs : List IV} {rs : List (Int × Int)} (h : PR a xs rs) (s : Src0 p m a) (f : Fr p a b) : PR b xs rs := by
  obtain ⟨_, _, _, g, _⟩ := s
  exact h.fr f g
theorem PR.setD {a : IH} {q : Nat} {l : List IV} {o : MO} {xs : List IV} {rs : List (Int × Int)} (h : PR a xs rs) (g : a[q]? = some (.lst l)) : PR (a.set q o) xs rs := h.mono fun t i j e => by
  by_cases ht : q = t
  · subst ht
    rw [g] at e
    cases e
  · rw [g_sne ht]
    exact e
def WinB (hi : Int) (W : List (Int × Int)) : Prop := ∀ r ∈ W, 0 ≤ r.1 ∧ r.1 ≤ r.2 ∧ r.2 < 2 * hi + 10
theorem w_windows (c : Cs) {p m : Nat} {hi : Int} {ih : IH} {Q : PQ IV} {E : EQ} (s : Src0 p m ih) (hm : m + 60 ≤ 1000000) (h0 : 0 < hi) (h1 : hi ≤ 1000)
    (k : ∀ q xs W ih', WinB hi W → ih'[q]? = some (.lst xs) → PR ih' xs W → W.length ≤ 20 → ih.length ≤ q → Src0 p (m + 60) ih' → Fr p ih ih' → ih.length ≤ ih'.length → Q (.ref q) ih') : wp (m_law_windows c [.ref p, .int hi] ih) Q E := by
  have lp := s.lt
  have hB : B 8000 hi := (show B 20 hi by unfold B; omega).mono (by decide)
  unfold m_law_windows b_law_windows
  walk_at "run"
  refine wp_lst (by simp) (newN fun q ih1 q1 q2 l1 f1 n1 => ?_)
  have s1 := s.fx f1
  have qp : q ≠ p := by omega
  have F1 : Fr p ih ih1 := f1.fr
  clear f1 s
  walk_at "run"
  refine w_next c s1 (by decide) ((lit 10 : B 10 7).mono (by decide)) (by omega) fun w ih2 w0 w1 s2 f2 l2 => ?_
  have n2 : ih2[q]? = some (.lst []) := by rw [f2 q q2 qp]; exact n1
  have F2 := F1.trans f2 (by omega)
  clear f2 F1 n1 s1
  walk_at "run"
  refine ⟨smallI_mk (by omega) (by omega), ?_⟩
  refine for_rng0 (fun (i : Nat) (env : Env) (ih' : IH) => (∃ a3 a4 a5, env = [some (.ref p), some (.int hi), some (.ref q), a3, a4, a5]) ∧ (∃ xs rs, ih'[q]? = some (.lst xs) ∧ PR ih' xs rs ∧ rs.length = i ∧ WinB hi rs) ∧ Src0 p (m + 1 + 4 * i) ih' ∧ Fr p ih ih' ∧ ih.length ≤ ih'.length) ⟨⟨_, _, _, rfl⟩, ⟨[], [], n2, trivial, rfl, fun r hr => nomatch hr⟩, s2.mono (by omega), F2, by omega⟩ (fun i env ih3 hi' hP => ?_) fun env ih3 hP => ?_
  · obtain ⟨⟨a3, a4, a5, ee⟩, ⟨xs, rs, n3, pr, lr, ok⟩, s3, F3, L3'⟩ := hP
    subst ee
    have xl : xs.length = i := pr.len.trans lr
    have ql3 := lt_of_get n3
    have pl3 := s3.lt
    clear n2 F2 s2
    unfold lb_law_windows_1
    walk_at "run"
    refine w_next c s3 h0 hB (by omega) fun a ih4 a0 a1 s4 f4 l4 => ?_
    walk_at "run"
    refine w_next c s4 (by decide) ((lit 10 : B 10 6).mono (by decide)) (by omega) fun b ih5 b0 b1 s5 f5 l5 => ?_
    walk_at "run"
    refine w_next c s5 h0 hB (by omega) fun d ih6 d0 d1 s6 f6 l6 => ?_
    walk_at "run"
    refine wp_lst (by simp) (newN fun v ih7 v1 v2 l7 f7 n7 => ?_)
    walk_at "run"
    refine w_next c (s6.fx f7) (by decide) ((lit 10 : B 10 4).mono (by decide)) (by omega) fun y ih8 y0 y1 s8 f8 l8 => ?_
    walk_at "run"
    refine k_pickI (fun z => 0 ≤ z ∧ z < hi + 6) y0 (by simpa using y1) (by simp only [allI, and_true]; omega) fun z hz => ?_
    have f7' : Fr p ih6 ih7 := f7.fr
    have fr : Fr p ih3 ih8 := (((f4.trans f5 (by omega)).trans f6 (by omega)).trans f7' (by omega)).trans f8 (by omega)
    have n8 : ih8[q]? = some (.lst xs) := by rw [fr q ql3 qp]; exact n3
    have pr8 := pr.srcD s3 fr
    have F8 := F3.trans fr L3'
    have l38 : ih3.length ≤ ih8.length := by omega
    clear f4 f5 f6 f7 f8 f7' fr n3 n7 F3 s3 s4 s5 s6 pr
    walk_at "run"
    refine wp_tup (by simp) (newN fun t ih9 t1 t2 l9 f9 n9 => ?_)
    have n9' : ih9[q]? = some (.lst xs) := by rw [f9 q (by omega)]; exact n8
    have pr9 := pr8.fx f9
    have s9 := s8.fx f9
    have F9 := F8.trans f9.fr (by omega)
    clear f9 n8 s8 F8 pr8
    walk_at "run"
    refine ⟨by omega, ?_⟩
    refine Inv.mk ⟨⟨_, _, _, rfl⟩, ⟨xs ++ [.ref t], rs ++ [(a, a + z)], g_set (by omega), (pr9.setD n9').app (by rw [g_sne (by omega)]; exact n9), by simp [lr], fun r hr => ?_⟩, (s9.set qp).mono (by omega), F9.set (by omega), by rw [List.length_set]; omega⟩
    rcases List.mem_append.mp hr with hr | hr
    · exact ok r hr
    · rw [List.mem_singleton] at hr
      subst hr
      exact ⟨a0, by dsimp only; omega, by dsimp only; omega⟩
  · obtain ⟨⟨a3, a4, a5, ee⟩, ⟨xs, rs, n3, pr, lr, ok⟩, s3, F3, L3'⟩ := hP
    subst ee
    have ql3 := lt_of_get n3
    have pl3 := s3.lt
    have xl := pr.len
    clear n2 F2 s2
    walk_at "run"
    refine w_next c s3 (by decide) ((lit 10 : B 10 2).mono (by decide)) (by omega) fun a ih4 a0 a1 s4 f4 l4 => ?_
    have n4 : ih4[q]? = some (.lst xs) := by rw [f4 q ql3 qp]; exact n3
    have pr4 := pr.srcD s3 f4
    have F4 := F3.trans f4 L3'
    clear f4 F3 s3 n3 pr
    walk_at "run"
    refine wp_slL n4 (newN fun u ih5 u1 u2 l5 f5 n5 => ?_)
    obtain ⟨j, rfl⟩ := Int.eq_ofNat_of_zero_le a0
    have ct : cutI xs none (some (j : Int)) = xs.take j := by
      by_cases hj : j ≤ xs.length
      · exact cutI_take hj
      · rw [List.take_of_length_le (by omega)]
        unfold cutI
        rw [HT.sIx_none]
        have e : HT.sIx xs.length xs.length (some (j : Int)) = xs.length := by
          have h2 := HT.clip_eq (j : Int) xs.length xs.length
          rw [if_neg (by omega)] at h2
          omega
        rw [e, List.drop_zero, Nat.sub_zero, List.take_length]
    rw [ct] at n5
    have n5' : ih5[q]? = some (.lst xs) := by rw [f5 q (by omega)]; exact n4
    have pr5 := pr4.fx f5
    have s5 := s4.fx f5
    have F5 := F4.trans f5.fr (by omega)
    have tl : (xs.take j).length ≤ xs.length := by rw [List.length_take]; omega
    clear f5 F4 s4 n4 pr4
    walk_at "run"
    refine wp_cat n5' n5 (by omega) (newN fun z ih6 z1 z2 l6 f6 n6 => ?_)
    have kz := k z _ _ ih6 (fun r hr => by
      rcases List.mem_append.mp hr with hr | hr
      · exact ok r hr
      · exact ok r (List.mem_of_mem_take hr)) n6 ((pr5.fx f6).append ((pr5.take j).fx f6)) (by rw [List.length_append, List.length_take]; omega) (by omega) ((s5.fx f6).mono (by omega)) (F5.trans f6.fr (by omega)) (by omega)
    clear k
    walk_at "run"
    all_goals exact kz
theorem cutI_dropB {xs : List IV} {k : Nat} (h : k ≤ xs.length) : cutI xs (some (k : Int)) none = xs.drop k := by
  unfold cutI
  rw [HT.sIx_none]
  have e : HT.sIx xs.length 0 (some (k : Int)) = k := by
    have h2 := HT.clip_eq (k : Int) xs.length 0
    rw [if_neg (by omega)] at h2
    omega
  rw [e, List.take_of_length_le (by rw [List.length_drop]; exact Nat.le_refl _)]
theorem wp_revL {Q : PQ IV} {E : EQ} {ih : IH} {n : Nat} {xs : List IV} (h : ih[n]? = some (.lst xs)) (q : Q (.ref ih.length) (ih ++ [.lst xs.reverse])) : wp (f_rev (.ref n) ih) Q E := by
  have e : f_rev (.ref n) ih = .ok (.ref ih.length) (ih ++ [.lst xs.reverse]) := by
    unfold f_rev
    dsimp only
    rw [h]
    dsimp only
    rw [if_pos (isL_lst _), xs_lst]
  exact wp.of e q
theorem sv_lit {x : Str} (h : (x.cps.toList.all (fun c => decide (c < 16 ^ 8)) && decide (x.length ≤ 4)) = true) : SV (.str x) := by
  rw [Bool.and_eq_true] at h
  exact ⟨h.1, of_decide_eq_true h.2⟩
theorem sv_e : SV (.str "") := sv_lit (by decide +kernel)
theorem sv_5 : SV (.str "5") := sv_lit (by decide +kernel)
section
variable {p m : Nat} {ih : IH} {Q : PQ IV} {E : EQ}
theorem ob_lst {k : Nat} {xs : List IV} (n : k ≠ p) (g : ih[k]? = some (.lst xs)) (l : xs.length ≤ 100) (a : ∀ x ∈ xs, El p ih x) : Ob p ih (.ref k) := .inl ⟨k, xs, rfl, n, .inl g, l, a⟩
theorem ob_tup {k : Nat} {xs : List IV} (n : k ≠ p) (g : ih[k]? = some (.tup xs)) (l : xs.length ≤ 100) (a : ∀ x ∈ xs, El p ih x) : Ob p ih (.ref k) := .inl ⟨k, xs, rfl, n, .inr g, l, a⟩
/-- nothing to bend -/
theorem w_bent0 (c : Cs) {g : Nat} {e : Int} (s : Src0 p m ih) (hm : m + 3 ≤ 1000000) (hg : ih[g]? = some (.lst [])) (gp : g ≠ p) (e0 : 0 ≤ e) (e1 : e ≤ 100)
    (k : ∀ v ih', Src0 p (m + 2) ih' → Fr p ih ih' → ih.length ≤ ih'.length → Ob p ih' v → (∀ k, v = .ref k → ih.length ≤ k) → Q v ih') : wp (m_law_bent c [.ref p, .ref g, .int e] ih) Q E := by
  have lp := s.lt
  have lg := lt_of_get hg
  replace k := Hide.mk k
  unfold m_law_bent b_law_bent
  walk_at "run"
  refine wp_lst (by simp) (newN fun a1 ih1 a2 a3 l1 f1 g1 => ?_)
  have s1 := s.fx f1
  have hg1 := (f1 g lg).trans hg
  have F := Hide.mk f1.fr (p := Fr p ih ih1)
  clear f1 s hg
  walk_at "run"
  refine wp_eq (Is.ints (ns := []) hg1 rfl rfl) (Is.ints (ns := []) g1 rfl rfl) (shaped_ints _) (shaped_ints _) ?_
  rw [eqv_list, decide_eq_true rfl]
  clear g1 hg1
  have K : Kp p ih1 [] := Kp.nil
  walk_at "run"
  refine wp_tup (by simp) (newN fun t1 ih2 t2 t3 l2 f2 g2 => ?_)
  have s2 := s1.fx f2
  replace K := K.add f2 g2 t2 (by omega)
  replace F := Hide.mk (F.get.trans f2.fr (by omega))
  clear f2 s1 g2
  walk_at "run"
  refine wp_dnew (newN fun d1 ih3 d2 d3 l3 f3 g3 => ?_)
  have s3 := s2.fx f3
  replace K := K.add f3 g3 d2 (by omega)
  replace F := Hide.mk (F.get.trans f3.fr (by omega))
  clear f3 s2 g3
  walk_at "run"
  refine wp_lst (by simp) (newN fun u1 ih4 u2 u3 l4 f4 g4 => ?_)
  have s4 := s3.fx f4
  replace K := K.add f4 g4 u2 (by omega)
  replace F := Hide.mk (F.get.trans f4.fr (by omega))
  clear f4 s3 g4
  walk_at "run"
  refine wp_lst (by simp) (newN fun v1 ih5 v2 v3 l5 f5 g5 => ?_)
  have s5 := s4.fx f5
  replace K := K.add f5 g5 v2 (by omega)
  replace F := Hide.mk (F.get.trans f5.fr (by omega))
  clear f5 s4 g5
  walk_at "run"
  refine wp_lst (by simp) (newN fun w1 ih6 w2 w3 l6 f6 g6 => ?_)
  have s6 := s5.fx f6
  replace K := K.add f6 g6 w2 (by omega)
  replace F := Hide.mk (F.get.trans f6.fr (by omega))
  clear f6 s5 g6
  walk_at "run"
  refine wp_lst (by simp) (newN fun x1 ih7 x2 x3 l7 f7 g7 => ?_)
  have s7 := s6.fx f7
  replace K := K.add f7 g7 x2 (by omega)
  replace F := Hide.mk (F.get.trans f7.fr (by omega))
  clear f7 s6 g7
  walk_at "run"
  refine wp_lst (by simp) (newN fun y1 ih8 y2 y3 l8 f8 g8 => ?_)
  have s8 := s7.fx f8
  replace K := K.add f8 g8 y2 (by omega)
  replace F := Hide.mk (F.get.trans f8.fr (by omega))
  clear f8 s7 g8
  walk_at "run"
  refine wp_lst (by simp) (newN fun z1 ih9 z2 z3 l9 f9 g9 => ?_)
  have s9 := s8.fx f9
  replace K := K.add f9 g9 z2 (by omega)
  replace F := Hide.mk (F.get.trans f9.fr (by omega))
  clear f9 s8 g9
  walk_at "run"
  refine wp_lst (by simp) (newN fun o1 iha o2 o3 la fa ga => ?_)
  have sa := s9.fx fa
  replace K := K.add fa ga o2 (by omega)
  replace F := Hide.mk (F.get.trans fa.fr (by omega))
  clear fa s9 ga
  walk_at "run"
  refine w_next c sa (by decide) ((lit 7 : B 7 10).mono (by decide)) (by omega) fun n ihb n0 n1 sb fb lb => ?_
  replace K := K.fr fb
  replace F := Hide.mk (F.get.trans fb (by omega))
  have gb := K.get 0
  clear fb sa
  walk_at "run"
  refine k_pick n0 (by simpa using n1) fun v hv => ?_
  have one : ∀ {q : Nat} {x : IV}, ihb[q]? = some (.lst [x]) → q ≠ p → El p ihb x → Ob p ihb (.ref q) := fun h n a => ob_lst n h (by simp) fun y hy => by rw [List.mem_singleton.mp hy]; exact a
  have key : Ob p ihb v ∧ ∀ k, v = .ref k → ih.length ≤ k := by
    simp only [List.mem_cons, List.not_mem_nil, or_false] at hv
    rcases hv with h | h | h | h | h | h | h | h | h | h <;> subst h
    · exact ⟨.inr (.inr trivial), fun k h => nomatch h⟩
    · exact ⟨ob_tup (K.ne 8) (K.get 8) (by simp) (fun x h => absurd h List.not_mem_nil), fun k h => by cases h; omega⟩
    · exact ⟨.inr (.inl ⟨_, rfl, K.ne 7, K.get 7⟩), fun k h => by cases h; omega⟩
    · exact ⟨.inr (.inr sv_e), fun k h => nomatch h⟩
    · exact ⟨one (x := .non) (K.get 6) (K.ne 6) (.inl trivial), fun k h => by cases h; omega⟩
    · exact ⟨one (x := .bl true) (K.get 5) (K.ne 5) (.inl trivial), fun k h => by cases h; omega⟩
    · exact ⟨one (x := .int _) (K.get 4) (K.ne 4) (.inl ⟨by omega, by omega⟩), fun k h => by cases h; omega⟩
    · exact ⟨one (x := .int 0) (K.get 3) (K.ne 3) (.inl ⟨by omega, by omega⟩), fun k h => by cases h; omega⟩
    · exact ⟨one (K.get 1) (K.ne 1) (.inr ⟨_, [.int 1], rfl, K.ne 2, K.get 2, by simp, fun y hy => by rw [List.mem_singleton.mp hy]; exact ⟨by omega, by omega⟩⟩), fun k h => by cases h; omega⟩
    · exact ⟨.inr (.inr ⟨by omega, by omega⟩), fun k h => nomatch h⟩
  exact k.get v ihb (sb.mono (by omega)) F.get (by omega) key.1 key.2
/-- something to bend -/
theorem w_bent1 (c : Cs) {g : Nat} {e : Int} {L : List Int} (s : Src0 p m ih) (hm : m + 3 ≤ 1000000) (hg : ih[g]? = some (.lst (L.map .int))) (gp : g ≠ p) (e0 : 0 ≤ e) (e1 : e ≤ 100) (hL : L ≠ []) (bL : ∀ y ∈ L, 0 ≤ y ∧ y ≤ 100) (lL : L.length ≤ 40)
    (k : ∀ v ih', Src0 p (m + 3) ih' → Fr p ih ih' → ih.length ≤ ih'.length → Ob p ih' v → (∀ k, v = .ref k → ih.length ≤ k) → Q v ih') : wp (m_law_bent c [.ref p, .ref g, .int e] ih) Q E := by
  have lp := s.lt
  have lg := lt_of_get hg
  replace k := Hide.mk k
  have l0 : 0 < L.length := List.length_pos_iff.mpr hL
  have svL : ∀ y ∈ L.map IV.int, SV y := fun y hy => by
    obtain ⟨z, hz, rfl⟩ := List.mem_map.mp hy
    have := bL z hz
    exact ⟨by omega, by omega⟩
  unfold m_law_bent b_law_bent
  walk_at "run"
  refine wp_lst (by simp) (newN fun a1 ih1 a2 a3 l1 f1 g1 => ?_)
  have s1 := s.fx f1
  have K := (Kp.nil.put hg gp).fx f1
  have hg1 := K.get 0
  have F := Hide.mk f1.fr (p := Fr p ih ih1)
  clear f1 s hg
  walk_at "run"
  refine wp_eq (Is.ints (ns := L) hg1 rfl rfl) (Is.ints (ns := []) g1 rfl rfl) (shaped_ints _) (shaped_ints _) ?_
  rw [eqv_list, decide_eq_false hL]
  clear g1
  walk_at "run"
  rw [List.length_map]
  refine w_next c s1 (by omega) ((show B 20 (L.length : Int) by unfold B; omega).mono (by decide)) (by omega) fun a ih2 a0 a1' s2 f2 l2 => ?_
  obtain ⟨j, rfl⟩ := Int.eq_ofNat_of_zero_le a0
  have hj : j < L.length := by omega
  have ej : atI (L.map IV.int) (j : Int) = some (.int L[j]) := by rw [atI_nn, List.getElem?_map, List.getElem?_eq_getElem hj]; rfl
  have e00 : atI (L.map IV.int) 0 = some (.int L[0]) := by rw [show (0 : Int) = ((0 : Nat) : Int) from rfl, atI_nn, List.getElem?_map, List.getElem?_eq_getElem l0]; rfl
  have bj := bL _ (List.getElem_mem hj)
  have b0 := bL _ (List.getElem_mem l0)
  obtain ⟨yj, eyj⟩ : ∃ yj, L[j] = yj := ⟨_, rfl⟩
  obtain ⟨y0, ey0⟩ : ∃ y0, L[0] = y0 := ⟨_, rfl⟩
  rw [eyj] at ej bj
  rw [ey0] at e00 b0
  replace K := K.fr f2
  replace F := Hide.mk (F.get.trans f2 (by omega))
  have hg2 := K.get 0
  clear f2 s1 hg1 eyj ey0
  walk_at "run"
  refine wp_lst (by simp) (newN fun b1 ih3 b2 b3 l3 f3 g3 => ?_)
  have s3 := s2.fx f3
  replace K := K.add f3 g3 b2 (by omega)
  replace F := Hide.mk (F.get.trans f3.fr (by omega))
  have hg3 := K.get 1
  clear f3 s2 g3 hg2
  walk_at "run"
  refine wp_lst (by simp) (newN fun c1 ih4 c2 c3 l4 f4 g4 => ?_)
  have s4 := s3.fx f4
  replace K := K.add f4 g4 c2 (by omega)
  replace F := Hide.mk (F.get.trans f4.fr (by omega))
  clear f4 s3 g4 hg3
  walk_at "run"
  refine w_next c s4 (by decide) ((lit 7 : B 7 10).mono (by decide)) (by omega) fun n ih5 n0 n1 s5 f5 l5 => ?_
  replace K := K.fr f5
  replace F := Hide.mk (F.get.trans f5 (by omega))
  have g5 := K.get 0
  clear f5 s4 ej e00
  walk_at "run"
  refine k_pick n0 (by simpa using n1) fun o ho => ?_
  have oE : El p ih5 o := by
    simp only [List.mem_cons, List.not_mem_nil, or_false] at ho
    rcases ho with h | h | h | h | h | h | h | h | h | h <;> subst h
    · exact .inl trivial
    · exact .inl trivial
    · exact .inl sv_5
    · exact .inr ⟨_, [.int 5], rfl, K.ne 1, K.get 1, by simp, fun y hy => by rw [List.mem_singleton.mp hy]; exact ⟨by omega, by omega⟩⟩
    · exact .inl ⟨by omega, by omega⟩
    · exact .inl ⟨by omega, by omega⟩
    · exact .inl ⟨by omega, by omega⟩
    · exact .inl ⟨by omega, by omega⟩
    · exact .inl ⟨by omega, by omega⟩
    · exact .inl ⟨by omega, by omega⟩
  replace oE := Hide.mk oE
  have K : Kp p ih5 [(g, .lst (L.map .int))] := Kp.nil.put (K.get 2) gp
  have hg5 := K.get 0
  obtain ⟨X, eX⟩ : ∃ X, L.map IV.int = X := ⟨_, rfl⟩
  have lX : X.length = L.length := by rw [← eX, List.length_map]
  have ct : cutI X none (some (j : Int)) = X.take j := cutI_take (by omega)
  have cd : cutI X (some (j : Int)) none = X.drop j := cutI_dropB (by omega)
  have cd1 : cutI X (some ((j : Int) + 1)) none = X.drop (j + 1) := by
    have := cutI_dropB (xs := X) (k := j + 1) (by omega)
    rw [← this]
    push_cast
    rfl
  have c01 : cutI X none (some (1 : Int)) = X.take 1 := cutI_take (xs := X) (k := 1) (by omega)
  rw [eX] at hg5 K svL
  have hg := K.get 0
  clear ho g5 hL bL eX hg5
  walk_at "run"
  refine wp_slL (K.get 0) (newN fun A1 ih6 A12 A13 l6 f6 g6 => ?_)
  rw [ct] at g6
  have s6 := s5.fx f6
  replace K := K.add f6 g6 A12 (by omega)
  replace F := Hide.mk (F.get.trans f6.fr (by omega))
  replace oE := Hide.mk (oE.get.fr f6.fr)
  clear f6 s5 g6
  replace hg := K.get 1
  walk_at "run"
  refine wp_slL (K.get 1) (newN fun A2 ih7 A22 A23 l7 f7 g7 => ?_)
  rw [cd1] at g7
  have s7 := s6.fx f7
  replace K := K.add f7 g7 A22 (by omega)
  replace F := Hide.mk (F.get.trans f7.fr (by omega))
  replace oE := Hide.mk (oE.get.fr f7.fr)
  clear f7 s6 g7
  replace hg := K.get 2
  walk_at "run"
  refine wp_cat (K.get 1) (K.get 0) (by simp <;> omega) (newN fun A ih8 A2 A3 l8 f8 g8 => ?_)
  have s8 := s7.fx f8
  replace K := K.add f8 g8 A2 (by omega)
  replace F := Hide.mk (F.get.trans f8.fr (by omega))
  replace oE := Hide.mk (oE.get.fr f8.fr)
  clear f8 s7 g8
  replace hg := K.get 3
  walk_at "run"
  refine wp_slL (K.get 3) (newN fun B1 ih9 B12 B13 l9 f9 g9 => ?_)
  rw [ct] at g9
  have s9 := s8.fx f9
  replace K := K.add f9 g9 B12 (by omega)
  replace F := Hide.mk (F.get.trans f9.fr (by omega))
  replace oE := Hide.mk (oE.get.fr f9.fr)
  clear f9 s8 g9
  replace hg := K.get 4
  walk_at "run"
  refine wp_lst (by simp) (newN fun B2 ih10 B22 B23 l10 f10 g10 => ?_)
  have s10 := s9.fx f10
  replace K := K.add f10 g10 B22 (by omega)
  replace F := Hide.mk (F.get.trans f10.fr (by omega))
  replace oE := Hide.mk (oE.get.fr f10.fr)
  clear f10 s9 g10
  replace hg := K.get 5
  walk_at "run"
  refine wp_cat (K.get 1) (K.get 0) (by simp <;> omega) (newN fun B3 ih11 B32 B33 l11 f11 g11 => ?_)
  have s11 := s10.fx f11
  replace K := K.add f11 g11 B32 (by omega)
  replace F := Hide.mk (F.get.trans f11.fr (by omega))
  replace oE := Hide.mk (oE.get.fr f11.fr)
  clear f11 s10 g11
  replace hg := K.get 6
  walk_at "run"
  refine wp_slL (K.get 6) (newN fun B4 ih12 B42 B43 l12 f12 g12 => ?_)
  rw [cd1] at g12
  have s12 := s11.fx f12
  replace K := K.add f12 g12 B42 (by omega)
  replace F := Hide.mk (F.get.trans f12.fr (by omega))
  replace oE := Hide.mk (oE.get.fr f12.fr)
  clear f12 s11 g12
  replace hg := K.get 7
  walk_at "run"
  refine wp_cat (K.get 1) (K.get 0) (by simp <;> omega) (newN fun B ih13 B2 B3 l13 f13 g13 => ?_)
  have s13 := s12.fx f13
  replace K := K.add f13 g13 B2 (by omega)
  replace F := Hide.mk (F.get.trans f13.fr (by omega))
  replace oE := Hide.mk (oE.get.fr f13.fr)
  clear f13 s12 g13
  replace hg := K.get 8
  walk_at "run"
  refine wp_slL (K.get 8) (newN fun C1 ih14 C12 C13 l14 f14 g14 => ?_)
  rw [ct] at g14
  have s14 := s13.fx f14
  replace K := K.add f14 g14 C12 (by omega)
  replace F := Hide.mk (F.get.trans f14.fr (by omega))
  replace oE := Hide.mk (oE.get.fr f14.fr)
  clear f14 s13 g14
  replace hg := K.get 9
  walk_at "run"
  refine wp_lst (by simp) (newN fun C2 ih15 C22 C23 l15 f15 g15 => ?_)
  have s15 := s14.fx f15
  replace K := K.add f15 g15 C22 (by omega)
  replace F := Hide.mk (F.get.trans f15.fr (by omega))
  replace oE := Hide.mk (oE.get.fr f15.fr)
  clear f15 s14 g15
  replace hg := K.get 10
  walk_at "run"
  refine wp_cat (K.get 1) (K.get 0) (by simp <;> omega) (newN fun C3 ih16 C32 C33 l16 f16 g16 => ?_)
  have s16 := s15.fx f16
  replace K := K.add f16 g16 C32 (by omega)
  replace F := Hide.mk (F.get.trans f16.fr (by omega))
  replace oE := Hide.mk (oE.get.fr f16.fr)
  clear f16 s15 g16
  replace hg := K.get 11
  walk_at "run"
  refine wp_slL (K.get 11) (newN fun C4 ih17 C42 C43 l17 f17 g17 => ?_)
  rw [cd] at g17
  have s17 := s16.fx f17
  replace K := K.add f17 g17 C42 (by omega)
  replace F := Hide.mk (F.get.trans f17.fr (by omega))
  replace oE := Hide.mk (oE.get.fr f17.fr)
  clear f17 s16 g17
  replace hg := K.get 12
  walk_at "run"
  refine wp_cat (K.get 1) (K.get 0) (by simp <;> omega) (newN fun C ih18 C2 C3 l18 f18 g18 => ?_)
  have s18 := s17.fx f18
  replace K := K.add f18 g18 C2 (by omega)
  replace F := Hide.mk (F.get.trans f18.fr (by omega))
  replace oE := Hide.mk (oE.get.fr f18.fr)
  clear f18 s17 g18
  replace hg := K.get 13
  walk_at "run"
  refine wp_lst (by simp) (newN fun M ih19 M2 M3 l19 f19 g19 => ?_)
  have s19 := s18.fx f19
  replace K := K.add f19 g19 M2 (by omega)
  replace F := Hide.mk (F.get.trans f19.fr (by omega))
  replace oE := Hide.mk (oE.get.fr f19.fr)
  clear f19 s18 g19
  replace hg := K.get 14
  walk_at "run"
  refine wp_tupleL (K.get 14) (newN fun T ih20 T2 T3 l20 f20 g20 => ?_)
  have s20 := s19.fx f20
  replace K := K.add f20 g20 T2 (by omega)
  replace F := Hide.mk (F.get.trans f20.fr (by omega))
  replace oE := Hide.mk (oE.get.fr f20.fr)
  clear f20 s19 g20
  replace hg := K.get 15
  walk_at "run"
  refine wp_revL (K.get 15) (newN fun R ih21 R2 R3 l21 f21 g21 => ?_)
  have s21 := s20.fx f21
  replace K := K.add f21 g21 R2 (by omega)
  replace F := Hide.mk (F.get.trans f21.fr (by omega))
  replace oE := Hide.mk (oE.get.fr f21.fr)
  clear f21 s20 g21
  replace hg := K.get 16
  walk_at "run"
  refine wp_slL (K.get 16) (newN fun D1 ih22 D12 D13 l22 f22 g22 => ?_)
  rw [c01] at g22
  have s22 := s21.fx f22
  replace K := K.add f22 g22 D12 (by omega)
  replace F := Hide.mk (F.get.trans f22.fr (by omega))
  replace oE := Hide.mk (oE.get.fr f22.fr)
  clear f22 s21 g22
  replace hg := K.get 17
  walk_at "run"
  refine wp_cat (K.get 17) (K.get 0) (by simp <;> omega) (newN fun D ih23 D2 D3 l23 f23 g23 => ?_)
  have s23 := s22.fx f23
  replace K := K.add f23 g23 D2 (by omega)
  replace F := Hide.mk (F.get.trans f23.fr (by omega))
  replace oE := Hide.mk (oE.get.fr f23.fr)
  clear f23 s22 g23
  replace hg := K.get 18
  walk_at "run"
  refine wp_lst (by simp) (newN fun N ih24 N2 N3 l24 f24 g24 => ?_)
  have s24 := s23.fx f24
  replace K := K.add f24 g24 N2 (by omega)
  replace F := Hide.mk (F.get.trans f24.fr (by omega))
  replace oE := Hide.mk (oE.get.fr f24.fr)
  clear f24 s23 g24
  replace hg := K.get 19
  walk_at "run"
  refine wp_cat (K.get 5) (K.get 0) (by simp <;> omega) (newN fun MN ih25 MN2 MN3 l25 f25 g25 => ?_)
  have s25 := s24.fx f25
  replace K := K.add f25 g25 MN2 (by omega)
  replace F := Hide.mk (F.get.trans f25.fr (by omega))
  replace oE := Hide.mk (oE.get.fr f25.fr)
  clear f25 s24 g25
  replace hg := K.get 20
  walk_at "run"
  refine wp_cat (K.get 0) (K.get 6) (by simp <;> omega) (newN fun Z ih26 Z2 Z3 l26 f26 g26 => ?_)
  have s26 := s25.fx f26
  replace K := K.add f26 g26 Z2 (by omega)
  replace F := Hide.mk (F.get.trans f26.fr (by omega))
  replace oE := Hide.mk (oE.get.fr f26.fr)
  clear f26 s25 g26
  replace hg := K.get 21
  walk_at "run"
  refine w_next c s26 (by decide) ((lit 7 : L3.B 7 9).mono (by decide)) (by omega) fun t ihz t0 t1 sz fz lz => ?_
  replace K := K.fr fz
  replace F := Hide.mk (F.get.trans fz (by omega))
  replace oE := Hide.mk (oE.get.fr fz)
  have gz := K.get 0
  clear fz s26
  walk_at "run"
  refine k_pick t0 (by simpa using t1) fun v hv => ?_
  have kz := k.get v ihz (sz.mono (by omega)) F.get (by omega) ?_ ?_
  · clear gz hg k
    walk_at "run"
    all_goals exact kz
  · have hq : v ∈ [IV.ref A, .ref B, .ref C, .ref T, .ref R, .ref D, .ref A, .ref B, .ref C] := hv
    have elX : ∀ y ∈ X, El p ihz y := fun y hy => .inl (svL y hy)
    have elT : ∀ y, y ∈ X.take j → El p ihz y := fun y hy => elX y (List.mem_of_mem_take hy)
    have elD : ∀ i y, y ∈ X.drop i → El p ihz y := fun i y hy => elX y (List.mem_of_mem_drop hy)
    have oA : Ob p ihz (.ref A) := ob_lst (K.ne 18) (K.get 18) (by simp; omega) fun y hy => by
      rcases List.mem_append.mp hy with h | h
      · exact elT y h
      · exact elD _ y h
    have oB : Ob p ihz (.ref B) := ob_lst (K.ne 13) (K.get 13) (by simp; omega) fun y hy => by
      rcases List.mem_append.mp hy with h | h
      · rcases List.mem_append.mp h with h | h
        · exact elT y h
        · rw [List.mem_singleton.mp h]; exact oE.get
      · exact elD _ y h
    have oC : Ob p ihz (.ref C) := ob_lst (K.ne 8) (K.get 8) (by simp; omega) fun y hy => by
      rcases List.mem_append.mp hy with h | h
      · rcases List.mem_append.mp h with h | h
        · exact elT y h
        · rw [List.mem_singleton.mp h]; exact oE.get
      · exact elD _ y h
    have oT : Ob p ihz (.ref T) := ob_tup (K.ne 6) (K.get 6) (by omega) elX
    have oR : Ob p ihz (.ref R) := ob_lst (K.ne 5) (K.get 5) (by simp; omega) fun y hy => elX y (List.mem_reverse.mp hy)
    have oD : Ob p ihz (.ref D) := ob_lst (K.ne 3) (K.get 3) (by simp; omega) fun y hy => by
      rcases List.mem_append.mp hy with h | h
      · exact elX y h
      · exact elX y (List.mem_of_mem_take h)
    simp only [List.mem_cons, List.not_mem_nil, or_false] at hq
    rcases hq with h | h | h | h | h | h | h | h | h <;> subst h <;> assumption
  · have hq : v ∈ [IV.ref A, .ref B, .ref C, .ref T, .ref R, .ref D, .ref A, .ref B, .ref C] := hv
    simp only [List.mem_cons, List.not_mem_nil, or_false] at hq
    intro kk hkk
    rcases hq with h | h | h | h | h | h | h | h | h <;> (subst h; cases hkk; omega)
end
end L3
/-! K34c: one object asked. (L15) -/
namespace L3
open PySem PySem.Spec PyProof.Rows L2
local macro_rules | `(tactic| walk_at "get") => `(tactic| simp (disch := first | assumption | omega | (simp only [List.length_append, List.length_set, List.length_cons, List.length_nil, List.length_map] <;> omega) | fail) only [g_new, g_nw, g_old, g_set, g_sne, List.length_append, List.length_set, List.length_cons, List.length_nil, List.length_map, List.map_map, Function.comp_def, xs_lst, xs_tup, isL_lst, isL_tup, ↓reduceIte, *])
local macro_rules | `(tactic| walk_at "fr") => `(tactic| first | (intro _ _ _; simp (disch := first | assumption | omega | (simp only [List.length_append, List.length_set, List.length_cons, List.length_nil, List.length_map] <;> omega) | fail) only [g_new, g_nw, g_old, g_set, g_sne, List.length_append, List.length_set, List.length_cons, List.length_nil, List.length_map, List.map_map, Function.comp_def, xs_lst, xs_tup, isL_lst, isL_tup, ↓reduceIte, *]) | (intro _ _; simp (disch := first | assumption | omega | (simp only [List.length_append, List.length_set, List.length_cons, List.length_nil, List.length_map] <;> omega) | fail) only [g_new, g_nw, g_old, g_set, g_sne, List.length_append, List.length_set, List.length_cons, List.length_nil, List.length_map, List.map_map, Function.comp_def, xs_lst, xs_tup, isL_lst, isL_tup, ↓reduceIte, *]))
local macro_rules | `(tactic| walk_at "run") => `(tactic| simp -implicitDefEqProofs (disch := first | assumption | omega | (simp only [List.length_append, List.length_set, List.length_cons, List.length_nil, List.length_map] <;> omega) | fail) only [wp_ok, wp_exc, wp_stuck, ws_ok, ws_exc, ws_stuck, wp_op, kk_op, kk_un, wp_un, wp_cons, kk_cons, kk_cons2, wp_nil, wp_c, wp_app, wp_if, kk_if1, kk_if0, wp_and, kk_and1, kk_and0, wp_or, kk_or1, kk_or0, wp_not, kk_not, wp_tb, kk_tb, wp_andV, kk_andV1, kk_andV0, wp_orV, kk_orV1, kk_orV0, wp_notV, kk_notV, wp_noneS, wp_some, kk_some, wp_sl, kk_sl, kk_sl2, kk_sl3, wp_mL, kk_mL, kk_mL2, wp_mL0, kk_mL0, wp_chain, kk_ch, kk_ch2, kk_ch31, kk_ch30, ws_set, kks_nm, kks_g, kks_tup, kks_lst, ws_expr, kks_expr, ws_ret, kks_ret, ws_retN, ws_pass, ws_brk, ws_cont, ws_raise, ws_if, kks_if1, kks_if0, ws_seq, kks_next, kks_retS, kks_brk, kks_cont, kk_augE, ws_aug, kks_aug, kks_aug2, ws_par, kks_par, ws_setL, kks_sl, kks_sl2, kks_sl3, wp_def, kkd_ret, kkd_next, kkdE, kkE, ws_for, wp_lc, wp_r1, kk_r1, wp_r2, kk_r2, wp_il, wp_it, wp_ie, wp_iz, kk_il, kk_il2, kk_it, kk_it2, kk_ie, kk_ie2, kk_iz, kk_iz2, lAt_k, k_lAtL, k_lAtO, k_lAtT, wp_int, wp_add, wp_addI, wp_sub, wp_neg, wp_lt, wp_le, wp_gt, wp_ge, wp_max2, wp_min2, wp_abs, wp_mulI, wp_mul, wp_fdiv, wp_mod, wp_shl, wp_shr, wp_pow, wp_isN, wp_notN, wp_eqI, wp_neI, wp_ix, kk_ix, kk_ix2, wp_len, kk_lenL, kk_lenT, kk_lenO, kk_lenP, wp_appd, kk_app1, isL_k, kk_isL, startI_cons, startI_nil, rep_succ, rep_zero, List.getElem?_cons_zero, List.getElem?_cons_succ, List.set_cons_zero, List.set_cons_succ, f_call, m_var, List.append_nil, List.nil_append, List.cons_append, List.length_cons, List.length_nil, if_true, if_false, g_tup, g_lst, g_cons, g_nil, g_nm, Option.bind_some, kks_g, atI_0, atI_1, atI_2, atI_3, atI_4, atI_5, atI_6, atI_7, atI_8, atI_9, atI_10, atI_11, atI_12, atI_last, cutI_1, ixN_30, ixN_31, ixN_32, Int.toNat_zero, Int.reduceToNat, Int.reduceNeg, xs_lst, xs_tup, xs_ro, xs_rot, isL_lst, isL_tup, isL_ro, isL_rot, isT_tup, isT_rot, Bool.false_eq_true, Bool.true_eq_false, Bool.not_true, Bool.not_false, decide_true, decide_false, Int.reduceLT, Int.reduceLE, Nat.reduceLT, Nat.reduceLeDiff, Nat.reduceAdd, Nat.reduceEqDiff, Bool.not_eq_true, true_and, and_true, and_self, eq_self, g_new, g_nw, g_old, g_set, g_sne, List.length_set, List.length_append, wp_r3, kk_r3, Int.cast_ofNat_Int, Int.reduceEq, Int.natCast_zero, Int.natCast_one, ws_whileA, wp_isiII, wp_isiIB, wp_isiR, tyO_l, tyO_t, kk_isi, kk_isi2, kit_ll, kit_tt, kit_lt, kit_tl, wp_isiN, wp_isiBl, wp_isiS, tyO_d, kit2_NoneType_int, kit2_NoneType_bool, kit2_NoneType_list, kit2_NoneType_tuple, kit2_NoneType_str, kit2_bool_int, kit2_bool_bool, kit2_bool_list, kit2_bool_tuple, kit2_bool_str, kit2_str_int, kit2_str_bool, kit2_str_list, kit2_str_tuple, kit2_str_str, kit2_dict_int, kit2_dict_bool, kit2_dict_list, kit2_dict_tuple, kit2_dict_str, kit2_list_int, kit2_list_bool, kit2_list_str, kit2_tuple_int, kit2_tuple_bool, kit2_tuple_str, kit2_int_list, kit2_int_tuple, kit2_int_str, kf_next, kf_cont, kf_brk, kf_ret, wipeI, ws_try, wp_isEg, wp_isEt, kk_isE, wp_neS, wp_int2, ↓reduceIte, *])
/-- the object is a list of looks -/
def IsO (b e : Int) (ih : IH) (v : IV) : Prop := ∃ k L, v = .ref k ∧ ih[k]? = some (.lst (L.map .int)) ∧ (b :: L).Pairwise (· < ·) ∧ (∀ y ∈ L, y < e) ∧ L.length ≤ 100
section
variable {p : Nat} {ih : IH} {v : IV} {Q : PQ IV} {E : EQ}
theorem Ob.lt {k : Nat} (h : Ob p ih (.ref k)) : k < ih.length := by
  rcases h with ⟨k, xs, e, n, g, _⟩ | ⟨k, e, n, g⟩ | h
  · cases e
    rcases g with g | g <;> exact lt_of_get g
  · cases e
    exact lt_of_get g
  · exact h.elim
theorem IsO.fx {b e : Int} {ih' : IH} (h : Ob p ih v) (f : Fx ih ih') : IsO b e ih' v ↔ IsO b e ih v := by
  constructor
  · rintro ⟨k, L, rfl, g, r⟩
    exact ⟨k, L, rfl, (f k h.lt).symm.trans g, r⟩
  · rintro ⟨k, L, rfl, g, r⟩
    exact ⟨k, L, rfl, (f k h.lt).trans g, r⟩
theorem isO_of {b e : Int} {k : Nat} {xs : List IV} (g : ih[k]? = some (.lst xs)) (l : xs.length ≤ 100) : IsO b e ih (.ref k) ↔ IsL b e xs := by
  constructor
  · rintro ⟨k', L, e, g', r, s, _⟩
    cases e
    rw [g] at g'
    cases g'
    exact ⟨L, rfl, r, s⟩
  · rintro ⟨L, rfl, r, s⟩
    exact ⟨k, L, rfl, g, r, s, by simpa using l⟩
theorem isO_no {b e : Int} {k : Nat} {t : String} (h : tyO ih[k]? = some t) (n : t ≠ "list") : ¬ IsO b e ih (.ref k) := by
  rintro ⟨k', L, e, g', _⟩
  cases e
  rw [g'] at h
  cases h
  exact n rfl
/-- as the law asks -/
theorem w_lawO (c : Cs) {b e : Int} (ob : Ob p ih v) (k : ∀ r ih', (r = true ↔ IsO b e ih v) → Fx ih ih' → ih.length ≤ ih'.length → Q (.bl r) ih') : wp (m_law_is_looks c [v, .int b, .int e] ih) Q E := by
  rcases ob with ⟨l, xs, rfl, n, g, hl, a⟩ | ⟨l, rfl, n, g⟩ | h
  · rcases g with g | g
    · exact w_lawlook (p := p) c g (fun x hx => (a x hx).kv) (by omega) fun r ih' hr f lx => k r ih' (hr.trans (isO_of g hl).symm) f lx
    · have kz := k false ih ⟨(fun z => nomatch z), fun z => absurd z (isO_no (t := "tuple") (by rw [g]; rfl) (by decide))⟩ Fx.refl (Nat.le_refl _)
      clear k
      unfold m_law_is_looks b_law_is_looks
      walk_at "run"
      all_goals exact kz
  · have kz := k false ih ⟨(fun z => nomatch z), fun z => absurd z (isO_no (t := "dict") (by rw [g]; rfl) (by decide))⟩ Fx.refl (Nat.le_refl _)
    have ty : tyO (some (.dk [])) = some "dict" := rfl
    clear k
    unfold m_law_is_looks b_law_is_looks
    walk_at "run"
    all_goals exact kz
  · have kz := k false ih ⟨(fun z => nomatch z), fun ⟨_, _, z, _⟩ => by rw [z] at h; exact h.elim⟩ Fx.refl (Nat.le_refl _)
    clear k
    unfold m_law_is_looks b_law_is_looks
    cases v with
    | ref k => exact h.elim
    | gl k => exact h.elim
    | ty k => exact h.elim
    | non => walk_at "run"; all_goals exact kz
    | bl b => walk_at "run"; all_goals exact kz
    | int b => walk_at "run"; all_goals exact kz
    | str b => walk_at "run"; all_goals exact kz
/-- as the program asks -/
theorem w_progO (c : Cs) {b e : Int} (ob : Ob p ih v) (k : ∀ r ih', (r = true ↔ IsO b e ih v) → Fx ih ih' → ih.length ≤ ih'.length → Q (.bl r) ih') : wp (m_is_looks c [v, .int b, .int e] ih) Q E := by
  rcases ob with ⟨l, xs, rfl, n, g, hl, a⟩ | ⟨l, rfl, n, g⟩ | h
  · rcases g with g | g
    · exact w_lookV (p := p) c g (fun x hx => (a x hx).kv) (by omega) fun r ih' hr f lx => k r ih' (hr.trans (isO_of g hl).symm) f lx
    · have kz := k false ih ⟨(fun z => nomatch z), fun z => absurd z (isO_no (t := "tuple") (by rw [g]; rfl) (by decide))⟩ Fx.refl (Nat.le_refl _)
      clear k
      unfold m_is_looks b_is_looks
      walk_at "run"
      all_goals exact kz
  · have kz := k false ih ⟨(fun z => nomatch z), fun z => absurd z (isO_no (t := "dict") (by rw [g]; rfl) (by decide))⟩ Fx.refl (Nat.le_refl _)
    have ty : tyO (some (.dk [])) = some "dict" := rfl
    clear k
    unfold m_is_looks b_is_looks
    walk_at "run"
    all_goals exact kz
  · have kz := k false ih ⟨(fun z => nomatch z), fun ⟨_, _, z, _⟩ => by rw [z] at h; exact h.elim⟩ Fx.refl (Nat.le_refl _)
    clear k
    unfold m_is_looks b_is_looks
    cases v with
    | ref k => exact h.elim
    | gl k => exact h.elim
    | ty k => exact h.elim
    | non => walk_at "run"; all_goals exact kz
    | bl b => walk_at "run"; all_goals exact kz
    | int b => walk_at "run"; all_goals exact kz
    | str b => walk_at "run"; all_goals exact kz
theorem wp_repr {n : Nat} {d : PyData} (h : IsR ih (.ref n) d) (ok : okR d) (q : Q (.str d.shown) ih) : wp (f_repr [.ref n] ih) Q E := wp.of (f_repr_of h ok) q
theorem wp_neStr {x y : Str} : wp (f_ne (.str x) (.str y) ih) Q E = Q (.bl (!decide (x = y))) ih := by
  rw [show f_ne (.str x) (.str y) ih = .ok (.bl (!decide (x = y))) ih from f_eqn_str]
  rfl
theorem shaped_bl (b : Bool) : SeqAt.shaped (.bool b) = true := by simp [SeqAt.shaped, PyData.canLay0, PyData.depth]
theorem wp_neBl {a b : Bool} (q : Q (.bl (!decide (a = b))) ih) : wp (f_ne (.bl a) (.bl b) ih) Q E := by
  refine wp_ne (.bl a) (.bl b) (shaped_bl a) (shaped_bl b) ?_
  have : PyData.eqv (.bool a) (.bool b) = decide (a = b) := by cases a <;> cases b <;> decide
  rw [this]
  exact q
/-- the windows' data -/
theorem win_data {q : Nat} {xs : List IV} {W : List (Int × Int)} (gq : ih[q]? = some (.lst xs)) (pr : PR ih xs W) (hW : WinB 45 W) (lW : W.length ≤ 20) : (∀ ih', Fx ih ih' → Is ih' (.ref q) (.list (W.map prD))) ∧ Sm 10000 3 (.list (W.map prD)) := by
  refine ⟨fun ih' f => .lst (o := .lst xs) (by rw [f q (lt_of_get gq)]; exact gq) rfl (pr.fx f).is, (Sm.list (n := 34) (k := 1) fun d hd => ?_).mono (by rw [List.length_map]; omega) (by omega)⟩
  obtain ⟨r, hr, rfl⟩ := List.mem_map.mp hd
  obtain ⟨h1, h2, h3⟩ := hW r hr
  have a : SV (.int r.1) := ⟨by omega, by omega⟩
  have b : SV (.int r.2) := ⟨by omega, by omega⟩
  exact (Sm.tup (ds := [.int r.1, .int r.2]) (n := 16) (k := 0) fun d hd => by
    rcases List.mem_cons.mp hd with rfl | hd
    · exact a.sm
    · rw [List.mem_singleton.mp hd]; exact b.sm).mono (by simp) (by omega)
end
end L3
/-! K34d: the law. (L15) -/
namespace L3
open PySem PySem.Spec PyProof.Rows L2
local macro_rules | `(tactic| walk_at "get") => `(tactic| simp (disch := first | assumption | omega | (simp only [List.length_append, List.length_set, List.length_cons, List.length_nil, List.length_map] <;> omega) | fail) only [g_new, g_nw, g_old, g_set, g_sne, List.length_append, List.length_set, List.length_cons, List.length_nil, List.length_map, List.map_map, Function.comp_def, xs_lst, xs_tup, isL_lst, isL_tup, ↓reduceIte, *])
local macro_rules | `(tactic| walk_at "fr") => `(tactic| first | (intro _ _ _; simp (disch := first | assumption | omega | (simp only [List.length_append, List.length_set, List.length_cons, List.length_nil, List.length_map] <;> omega) | fail) only [g_new, g_nw, g_old, g_set, g_sne, List.length_append, List.length_set, List.length_cons, List.length_nil, List.length_map, List.map_map, Function.comp_def, xs_lst, xs_tup, isL_lst, isL_tup, ↓reduceIte, *]) | (intro _ _; simp (disch := first | assumption | omega | (simp only [List.length_append, List.length_set, List.length_cons, List.length_nil, List.length_map] <;> omega) | fail) only [g_new, g_nw, g_old, g_set, g_sne, List.length_append, List.length_set, List.length_cons, List.length_nil, List.length_map, List.map_map, Function.comp_def, xs_lst, xs_tup, isL_lst, isL_tup, ↓reduceIte, *]))
local macro_rules | `(tactic| walk_at "run") => `(tactic| simp -implicitDefEqProofs (disch := first | assumption | omega | (simp only [List.length_append, List.length_set, List.length_cons, List.length_nil, List.length_map] <;> omega) | fail) only [wp_ok, wp_exc, wp_stuck, ws_ok, ws_exc, ws_stuck, wp_op, kk_op, kk_un, wp_un, wp_cons, kk_cons, kk_cons2, wp_nil, wp_c, wp_app, wp_if, kk_if1, kk_if0, wp_and, kk_and1, kk_and0, wp_or, kk_or1, kk_or0, wp_not, kk_not, wp_tb, kk_tb, wp_andV, kk_andV1, kk_andV0, wp_orV, kk_orV1, kk_orV0, wp_notV, kk_notV, wp_noneS, wp_some, kk_some, wp_sl, kk_sl, kk_sl2, kk_sl3, wp_mL, kk_mL, kk_mL2, wp_mL0, kk_mL0, wp_chain, kk_ch, kk_ch2, kk_ch31, kk_ch30, ws_set, kks_nm, kks_g, kks_tup, kks_lst, ws_expr, kks_expr, ws_ret, kks_ret, ws_retN, ws_pass, ws_brk, ws_cont, ws_raise, ws_if, kks_if1, kks_if0, ws_seq, kks_next, kks_retS, kks_brk, kks_cont, kk_augE, ws_aug, kks_aug, kks_aug2, ws_par, kks_par, ws_setL, kks_sl, kks_sl2, kks_sl3, wp_def, kkd_ret, kkd_next, kkdE, kkE, ws_for, wp_lc, wp_r1, kk_r1, wp_r2, kk_r2, wp_il, wp_it, wp_ie, wp_iz, kk_il, kk_il2, kk_it, kk_it2, kk_ie, kk_ie2, kk_iz, kk_iz2, lAt_k, k_lAtL, k_lAtO, k_lAtT, wp_int, wp_add, wp_addI, wp_sub, wp_neg, wp_lt, wp_le, wp_gt, wp_ge, wp_max2, wp_min2, wp_abs, wp_mulI, wp_mul, wp_fdiv, wp_mod, wp_shl, wp_shr, wp_pow, wp_isN, wp_notN, wp_eqI, wp_neI, wp_ix, kk_ix, kk_ix2, wp_len, kk_lenL, kk_lenT, kk_lenO, kk_lenP, wp_appd, kk_app1, isL_k, kk_isL, startI_cons, startI_nil, rep_succ, rep_zero, List.getElem?_cons_zero, List.getElem?_cons_succ, List.set_cons_zero, List.set_cons_succ, f_call, m_var, List.append_nil, List.nil_append, List.cons_append, List.length_cons, List.length_nil, if_true, if_false, g_tup, g_lst, g_cons, g_nil, g_nm, Option.bind_some, kks_g, atI_0, atI_1, atI_2, atI_3, atI_4, atI_5, atI_6, atI_7, atI_8, atI_9, atI_10, atI_11, atI_12, atI_last, cutI_1, ixN_30, ixN_31, ixN_32, Int.toNat_zero, Int.reduceToNat, Int.reduceNeg, xs_lst, xs_tup, xs_ro, xs_rot, isL_lst, isL_tup, isL_ro, isL_rot, isT_tup, isT_rot, Bool.false_eq_true, Bool.true_eq_false, Bool.not_true, Bool.not_false, decide_true, decide_false, Int.reduceLT, Int.reduceLE, Nat.reduceLT, Nat.reduceLeDiff, Nat.reduceAdd, Nat.reduceEqDiff, Bool.not_eq_true, true_and, and_true, and_self, eq_self, g_new, g_nw, g_old, g_set, g_sne, List.length_set, List.length_append, wp_r3, kk_r3, Int.cast_ofNat_Int, Int.reduceEq, Int.natCast_zero, Int.natCast_one, ws_whileA, wp_isiII, wp_isiIB, wp_isiR, tyO_l, tyO_t, kk_isi, kk_isi2, kit_ll, kit_tt, kit_lt, kit_tl, wp_isiN, wp_isiBl, wp_isiS, tyO_d, kit2_NoneType_int, kit2_NoneType_bool, kit2_NoneType_list, kit2_NoneType_tuple, kit2_NoneType_str, kit2_bool_int, kit2_bool_bool, kit2_bool_list, kit2_bool_tuple, kit2_bool_str, kit2_str_int, kit2_str_bool, kit2_str_list, kit2_str_tuple, kit2_str_str, kit2_dict_int, kit2_dict_bool, kit2_dict_list, kit2_dict_tuple, kit2_dict_str, kit2_list_int, kit2_list_bool, kit2_list_str, kit2_tuple_int, kit2_tuple_bool, kit2_tuple_str, kit2_int_list, kit2_int_tuple, kit2_int_str, kf_next, kf_cont, kf_brk, kf_ret, wipeI, ws_try, wp_isEg, wp_isEt, kk_isE, wp_neS, wp_int2, ↓reduceIte, *])
section
variable {p : Nat} {ih : IH} {Q : PQ IV} {E : EQ}
theorem w_told (c : Cs) {q : Nat} {s b e : Int} {xs : List IV} {W : List (Int × Int)} {v : IV} (s1 : 1 ≤ s) (b0 : 0 ≤ b) (be : b ≤ e) (gq : ih[q]? = some (.lst xs)) (pr : PR ih xs W) (hW : WinB 45 W) (lW : W.length ≤ 20) (ob : Ob p ih v) (qp : q ≠ p)
    (k : ∀ r ih', (r = true ↔ ∃ l L, v = .ref l ∧ ih[l]? = some (.lst (L.map .int)) ∧ IsO b e ih v ∧ Enough s W b e L) → Fx ih ih' → ih.length ≤ ih'.length → Q (.bl r) ih') : wp (m_is_enough c [.int s, .ref q, .int b, .int e, v] ih) Q E := by
  replace k := Hide.mk k
  unfold m_is_enough b_is_enough
  walk_at "run"
  refine w_frame c s1 b0 be gq pr (fun r hr => ⟨(hW r hr).1, (hW r hr).2.1⟩) (by omega) fun ih1 f1 l1 => ?_
  have ob1 := ob.fr f1.fr
  have gq1 := (f1 q (lt_of_get gq)).trans gq
  have pr1 := pr.fx f1
  have F := Hide.mk f1
  clear f1
  walk_at "run"
  refine w_progO c ob1 fun r ih2 hr f2 l2 => ?_
  replace hr := hr.trans (IsO.fx ob F.get)
  have gq2 := (f2 q (lt_of_get gq1)).trans gq1
  have pr2 := pr1.fx f2
  replace F := Hide.mk (F.get.trans f2 l1)
  clear f2 ob1 gq1 pr1
  cases r with
  | false =>
    have kz := k.get false ih2 ⟨(fun z => nomatch z), fun ⟨_, _, _, _, z, _⟩ => hr.mpr z⟩ F.get (by omega)
    clear hr gq2
    walk_at "run"
    all_goals exact kz
  | true =>
    have isO := hr.mp rfl
    obtain ⟨l, L, rfl, gl, h1, h2, hl⟩ := id isO
    have gl2 := (F.get l (lt_of_get gl)).trans gl
    replace hr := Hide.mk hr
    walk_at "run"
    refine w_suffices c gq2 pr2 (by omega) gl2 (by omega) fun r ih3 h3 f3 l3 => ?_
    have kz := k.get r ih3 ⟨fun z => ⟨l, L, rfl, gl, isO, h3.mp z⟩, fun ⟨l', L', e1, g', _, z⟩ => by
      cases e1
      rw [gl] at g'
      have : L.map IV.int = L'.map IV.int := MO.lst.inj (Option.some.inj g')
      have : L = L' := (List.map_inj_right (fun a b h => by cases h; rfl)).mp this
      subst this
      exact h3.mpr z⟩ (F.get.trans f3 (by omega)) (by omega)
    clear h3 f3 gl2 gq2
    walk_at "run"
    all_goals exact kz
theorem w_one (c : Cs) {q : Nat} {s b e : Int} {xs : List IV} {W : List (Int × Int)} {v : IV} (s1 : 1 ≤ s) (b0 : 0 ≤ b) (be : b ≤ e) (gq : ih[q]? = some (.lst xs)) (pr : PR ih xs W) (hW : WinB 45 W) (lW : W.length ≤ 20) (ob : Ob p ih v) (qp : q ≠ p)
    {a0 a1 a2 a7 a8 a9 a10 a12 a13 a14 a15 : Option IV} (P : Env → IH → Prop) {S : SQ} {F : ES}
    (kk : ∀ b12 b13 b14 ih', Fx ih ih' → ih.length ≤ ih'.length → P [a0, a1, a2, some (.int b), some (.int e), some (.int s), some (.ref q), a7, a8, a9, a10, some v, b12, b13, b14, a15] ih') :
    ws (lb_law_2 c [a0, a1, a2, some (.int b), some (.int e), some (.int s), some (.ref q), a7, a8, a9, a10, some v, a12, a13, a14, a15] ih) (kf P S) F := by
  replace kk := Hide.mk kk
  obtain ⟨hw, sw⟩ := win_data gq pr hW lW
  obtain ⟨d, okd, hd⟩ := ob.rep hw sw
  have hd := Hide.mk hd
  unfold lb_law_2
  walk_at "run"
  refine wp_tup (by simp) (newN fun t1 ih1 t2 t3 l1 f1 g1 => ?_)
  have G := Hide.mk f1
  have ob1 := ob.fr f1.fr
  have gq1 := (f1 q (lt_of_get gq)).trans gq
  have pr1 := pr.fx f1
  clear f1
  walk_at "run"
  refine wp_repr (hd.get ih1 t1 G.get g1) okd ?_
  clear g1
  walk_at "run"
  refine w_lawO c ob1 fun r ih2 hr f2 l2 => ?_
  replace hr := hr.trans (IsO.fx ob G.get)
  have ob2 := ob1.fr f2.fr
  have gq2 := (f2 q (lt_of_get gq1)).trans gq1
  have pr2 := pr1.fx f2
  replace G := Hide.mk (G.get.trans f2 (by omega))
  clear f2 ob1 gq1 pr1 hw sw
  have tail : ∀ (r : Bool) (ih3 : IH) (b13 : Option IV), b13 = some (.bl r) → Fx ih ih3 → ih.length ≤ ih3.length → ws (ms_if (m_or (m_tb (m_op f_ne (m_var 14) (m_var 13))) (m_or (m_not (m_tb (m_app f_isi (m_cons (m_var 14) (m_cons (m_c (.ty "bool")) m_nil))))) (m_tb (m_op f_ne (m_app f_repr (m_cons (m_app f_tup (m_cons (m_var 6) (m_cons (m_var 11) m_nil))) m_nil)) (m_var 12)))))
      (ms_ret (m_c (.bl false))) ms_pass [a0, a1, a2, some (.int b), some (.int e), some (.int s), some (.ref q), a7, a8, a9, a10, some v, some (.str d.shown), b13, some (.bl r), a15] ih3) (kf P S) F := by
    intro r ih3 b13 e13 f3 l3
    subst e13
    replace f3 := Hide.mk f3
    walk_at "run"
    refine wp_neBl ?_
    walk_at "run"
    refine wp_tup (by simp) (newN fun u1 ih4 u2 u3 l4 f4 g4 => ?_)
    have G4 := Hide.mk (f3.get.trans f4 l3)
    clear f4
    walk_at "run"
    refine wp_repr (hd.get ih4 u1 G4.get g4) okd ?_
    clear g4
    rw [kk_op]
    simp only [m_var, List.getElem?_cons_zero, List.getElem?_cons_succ, wp_ok, kk_un]
    rw [wp_neStr]
    have kz := kk.get (some (.str d.shown)) (some (.bl r)) (some (.bl r)) ih4 G4.get (by omega)
    walk_at "run"
    exact Inv.mk kz
  cases r with
  | false =>
    have T := Hide.mk tail
    clear tail
    rw [kks_nm, kks_next, ws_seq]
    walk_at "run"
    refine w_told c s1 b0 be gq2 pr2 hW lW ob2 qp fun r2 ih3 h3 f3 l3 => ?_
    have e2 : r2 = false := by
      cases r2 with
      | false => rfl
      | true =>
        obtain ⟨_, _, _, _, z, _⟩ := h3.mp rfl
        exact absurd (hr.mpr ((IsO.fx ob G.get).mp z)) (by simp)
    subst e2
    have kz := T.get false ih3 _ rfl (G.get.trans f3 (by omega)) (by omega)
    clear h3 f3 hr
    rw [kks_nm, kks_next]
    exact kz
  | true =>
    have isO := hr.mp rfl
    obtain ⟨l, L, rfl, gl, h1, h2, hl⟩ := id isO
    have gl2 := (G.get l (lt_of_get gl)).trans gl
    have T := Hide.mk tail
    replace hr := Hide.mk hr
    clear tail
    rw [kks_nm, kks_next, ws_seq]
    walk_at "run"
    refine w_enough c gq2 pr2 gl2 (by omega) fun r1 ih3 h3 f3 l3 => ?_
    have ob3 := ob2.fr f3.fr
    have gq3 := (f3 q (lt_of_get gq2)).trans gq2
    have gl3 := (f3 l (lt_of_get gl2)).trans gl2
    have pr3 := pr2.fx f3
    replace G := Hide.mk (G.get.trans f3 (by omega))
    replace h3 := Hide.mk h3
    clear f3 ob2 gq2 pr2 gl2
    walk_at "run"
    refine w_told c s1 b0 be gq3 pr3 hW lW ob3 qp fun r2 ih4 h4 f4 l4 => ?_
    have e2 : r2 = r1 := by
      rw [Bool.eq_iff_iff, h4, h3.get]
      constructor
      · rintro ⟨l', L', e1, g', _, z⟩
        cases e1
        rw [gl3] at g'
        have : L.map IV.int = L'.map IV.int := MO.lst.inj (Option.some.inj g')
        have : L = L' := (List.map_inj_right (fun a b h => by cases h; rfl)).mp this
        rw [this]
        exact z
      · exact fun z => ⟨l, L, rfl, gl3, (IsO.fx ob G.get).mpr isO, z⟩
    subst e2
    have kz := T.get r2 ih4 _ rfl (G.get.trans f4 (by omega)) (by omega)
    clear h4 f4
    rw [kks_nm, kks_next]
    exact kz
end
end L3
/-! K34e: the law's turns. (L15) -/
namespace L3
open PySem PySem.Spec PyProof.Rows L2
local macro_rules | `(tactic| walk_at "get") => `(tactic| simp (disch := first | assumption | omega | (simp only [List.length_append, List.length_set, List.length_cons, List.length_nil, List.length_map] <;> omega) | fail) only [g_new, g_nw, g_old, g_set, g_sne, List.length_append, List.length_set, List.length_cons, List.length_nil, List.length_map, List.map_map, Function.comp_def, xs_lst, xs_tup, isL_lst, isL_tup, ↓reduceIte, *])
local macro_rules | `(tactic| walk_at "fr") => `(tactic| first | (intro _ _ _; simp (disch := first | assumption | omega | (simp only [List.length_append, List.length_set, List.length_cons, List.length_nil, List.length_map] <;> omega) | fail) only [g_new, g_nw, g_old, g_set, g_sne, List.length_append, List.length_set, List.length_cons, List.length_nil, List.length_map, List.map_map, Function.comp_def, xs_lst, xs_tup, isL_lst, isL_tup, ↓reduceIte, *]) | (intro _ _; simp (disch := first | assumption | omega | (simp only [List.length_append, List.length_set, List.length_cons, List.length_nil, List.length_map] <;> omega) | fail) only [g_new, g_nw, g_old, g_set, g_sne, List.length_append, List.length_set, List.length_cons, List.length_nil, List.length_map, List.map_map, Function.comp_def, xs_lst, xs_tup, isL_lst, isL_tup, ↓reduceIte, *]))
local macro_rules | `(tactic| walk_at "run") => `(tactic| simp -implicitDefEqProofs (disch := first | assumption | omega | (simp only [List.length_append, List.length_set, List.length_cons, List.length_nil, List.length_map] <;> omega) | fail) only [wp_ok, wp_exc, wp_stuck, ws_ok, ws_exc, ws_stuck, wp_op, kk_op, kk_un, wp_un, wp_cons, kk_cons, kk_cons2, wp_nil, wp_c, wp_app, wp_if, kk_if1, kk_if0, wp_and, kk_and1, kk_and0, wp_or, kk_or1, kk_or0, wp_not, kk_not, wp_tb, kk_tb, wp_andV, kk_andV1, kk_andV0, wp_orV, kk_orV1, kk_orV0, wp_notV, kk_notV, wp_noneS, wp_some, kk_some, wp_sl, kk_sl, kk_sl2, kk_sl3, wp_mL, kk_mL, kk_mL2, wp_mL0, kk_mL0, wp_chain, kk_ch, kk_ch2, kk_ch31, kk_ch30, ws_set, kks_nm, kks_g, kks_tup, kks_lst, ws_expr, kks_expr, ws_ret, kks_ret, ws_retN, ws_pass, ws_brk, ws_cont, ws_raise, ws_if, kks_if1, kks_if0, ws_seq, kks_next, kks_retS, kks_brk, kks_cont, kk_augE, ws_aug, kks_aug, kks_aug2, ws_par, kks_par, ws_setL, kks_sl, kks_sl2, kks_sl3, wp_def, kkd_ret, kkd_next, kkdE, kkE, ws_for, wp_lc, wp_r1, kk_r1, wp_r2, kk_r2, wp_il, wp_it, wp_ie, wp_iz, kk_il, kk_il2, kk_it, kk_it2, kk_ie, kk_ie2, kk_iz, kk_iz2, lAt_k, k_lAtL, k_lAtO, k_lAtT, wp_int, wp_add, wp_addI, wp_sub, wp_neg, wp_lt, wp_le, wp_gt, wp_ge, wp_max2, wp_min2, wp_abs, wp_mulI, wp_mul, wp_fdiv, wp_mod, wp_shl, wp_shr, wp_pow, wp_isN, wp_notN, wp_eqI, wp_neI, wp_ix, kk_ix, kk_ix2, wp_len, kk_lenL, kk_lenT, kk_lenO, kk_lenP, wp_appd, kk_app1, isL_k, kk_isL, startI_cons, startI_nil, rep_succ, rep_zero, List.getElem?_cons_zero, List.getElem?_cons_succ, List.set_cons_zero, List.set_cons_succ, f_call, m_var, List.append_nil, List.nil_append, List.cons_append, List.length_cons, List.length_nil, if_true, if_false, g_tup, g_lst, g_cons, g_nil, g_nm, Option.bind_some, kks_g, atI_0, atI_1, atI_2, atI_3, atI_4, atI_5, atI_6, atI_7, atI_8, atI_9, atI_10, atI_11, atI_12, atI_last, cutI_1, ixN_30, ixN_31, ixN_32, Int.toNat_zero, Int.reduceToNat, Int.reduceNeg, xs_lst, xs_tup, xs_ro, xs_rot, isL_lst, isL_tup, isL_ro, isL_rot, isT_tup, isT_rot, Bool.false_eq_true, Bool.true_eq_false, Bool.not_true, Bool.not_false, decide_true, decide_false, Int.reduceLT, Int.reduceLE, Nat.reduceLT, Nat.reduceLeDiff, Nat.reduceAdd, Nat.reduceEqDiff, Bool.not_eq_true, true_and, and_true, and_self, eq_self, g_new, g_nw, g_old, g_set, g_sne, List.length_set, List.length_append, wp_r3, kk_r3, Int.cast_ofNat_Int, Int.reduceEq, Int.natCast_zero, Int.natCast_one, ws_whileA, wp_isiII, wp_isiIB, wp_isiR, tyO_l, tyO_t, kk_isi, kk_isi2, kit_ll, kit_tt, kit_lt, kit_tl, wp_isiN, wp_isiBl, wp_isiS, tyO_d, kit2_NoneType_int, kit2_NoneType_bool, kit2_NoneType_list, kit2_NoneType_tuple, kit2_NoneType_str, kit2_bool_int, kit2_bool_bool, kit2_bool_list, kit2_bool_tuple, kit2_bool_str, kit2_str_int, kit2_str_bool, kit2_str_list, kit2_str_tuple, kit2_str_str, kit2_dict_int, kit2_dict_bool, kit2_dict_list, kit2_dict_tuple, kit2_dict_str, kit2_list_int, kit2_list_bool, kit2_list_str, kit2_tuple_int, kit2_tuple_bool, kit2_tuple_str, kit2_int_list, kit2_int_tuple, kit2_int_str, kf_next, kf_cont, kf_brk, kf_ret, wipeI, ws_try, wp_isEg, wp_isEt, kk_isE, wp_neS, wp_int2, ↓reduceIte, *])
theorem inc_len : ∀ {L : List Int} {b e : Int}, (b :: L).Pairwise (· < ·) → (∀ y ∈ L, y < e) → b ≤ e → (L.length : Int) ≤ e - b
  | [], b, e, _, _, h => by simp; omega
  | a :: r, b, e, h, he, hb => by
    have p := List.pairwise_cons.mp h
    have ab := p.1 a List.mem_cons_self
    have ae := he a List.mem_cons_self
    have := inc_len (L := r) (b := a) (e := e) p.2 (fun y hy => he y (List.mem_cons_of_mem _ hy)) (by omega)
    simp only [List.length_cons]
    push_cast
    omega
section
variable {p m : Nat} {ih : IH} {Q : PQ IV} {E : EQ}
theorem Ob.setZ {v : IV} {Z : Nat} {zs : List IV} {o : MO} (h : Ob p ih v) (n : v ≠ .ref Z) (hz : ih[Z]? = some (.lst zs)) (l : 4 ≤ zs.length) : Ob p (ih.set Z o) v := by
  have el : ∀ {x : IV}, El p ih x → El p (ih.set Z o) x := fun {x} h => by
    rcases h with h | ⟨k, ys, e, n, g, l', a⟩
    · exact .inl h
    · exact .inr ⟨k, ys, e, n, by rw [g_sne (fun e2 => by rw [← e2, hz] at g; cases g; omega)]; exact g, l', a⟩
  rcases h with ⟨k, xs, rfl, n', g, l', a⟩ | ⟨k, rfl, n', g⟩ | h
  · refine .inl ⟨k, xs, rfl, n', ?_, l', fun x hx => el (a x hx)⟩
    rcases g with g | g
    · exact .inl (by rw [g_sne (fun e2 => n (by rw [e2]))]; exact g)
    · exact .inr (by rw [g_sne (fun e2 => n (by rw [e2]))]; exact g)
  · exact .inr (.inl ⟨k, rfl, n', by rw [g_sne (fun e2 => n (by rw [e2]))]; exact g⟩)
  · exact .inr (.inr h)
/-- [x for x in ns if a draw] -/
theorem lc_sift {ns : List Int} {vs : List Nat} {v n : Nat} {mt : Env → IH → Res Bool} {me : Env → IH → Res IV} {env : Env} (s : Src0 p m ih) (ho : ih[n]? = some (.lst (ns.map .int))) (np : n ≠ p) (hz : ns.length < 1000)
    (ht : ∀ i x ih', i < ns.length → Src0 p (m + i) ih' → wp (mt ((wipeI env vs).set v (some (.int x))) ih') (fun _ ih'' => Src0 p (m + i + 1) ih'' ∧ Fr p ih' ih'' ∧ ih''.length = ih'.length) E0)
    (he : ∀ x ih', wp (me ((wipeI env vs).set v (some (.int x))) ih') (fun y ih'' => y = .int x ∧ ih'' = ih') E0)
    (q : ∀ ih' (A : List Int), (∀ a ∈ A, a ∈ ns) → A.length ≤ ns.length → Src0 p (m + ns.length) ih' → Fr p ih ih' → ih.length < ih'.length → ih'[ih.length]? = some (.lst (A.map IV.int)) → Q (.ref ih.length) ih') : k_lc vs (g_nm v) mt me env Q E (.lst n) ih := by
  have pl := s.lt
  have hs : (Src.lst n).size ih = ns.length := by
    unfold Src.size
    dsimp only
    rw [ho]
    simp [MO.xs]
  refine lc_gen ns.length (fun i acc ih' => (∃ A : List Int, acc = A.map IV.int ∧ (∀ a ∈ A, a ∈ ns) ∧ A.length ≤ i) ∧ Src0 p (m + i) ih' ∧ Fr p ih ih' ∧ ih.length < ih'.length) (by rw [hs]; exact Nat.le_refl _) ⟨⟨[], rfl, (fun _ h => nomatch h), Nat.le_refl _⟩, s.fx Fx.app, Fx.app.fr, by simp⟩ (fun i acc ih' hi ⟨⟨A, ha, hm, hl⟩, s', fr, lx⟩ hd => ?_) (fun acc ih' ⟨_, _, fr, _⟩ _ => by
    have h := stop_lst (o := .lst (ns.map .int)) (show ih'[n]? = _ by rw [fr n (lt_of_get ho) np]; exact ho) rfl
    rwa [show (MO.lst (ns.map IV.int)).xs.length = ns.length by simp [MO.xs]] at h) fun acc ih' ⟨⟨A, ha, hm, hl⟩, s', fr, lx⟩ hd => q ih' A hm hl s' fr lx (by rw [← ha]; exact hd)
  have ho' : ih'[n]? = some (.lst (ns.map .int)) := by rw [fr n (lt_of_get ho) np]; exact ho
  have hx : (MO.lst (ns.map IV.int)).xs[i]? = some (.int ns[i]) := by
    show (ns.map IV.int)[i]? = _
    rw [List.getElem?_map, List.getElem?_eq_getElem hi]
    rfl
  refine ⟨.int ns[i], _, _, turn_lst ho' rfl hx, rfl, wp.imp (ht i ns[i] ih' hi s') (fun bb ih2 ⟨s2, f2, l2⟩ => ?_) fun _ _ h => h⟩
  have hd2 : ih2[ih.length]? = some (.lst acc) := by rw [f2 _ lx (by omega)]; exact hd
  have F2 := fr.trans f2 (by omega)
  refine ⟨fun _ => ⟨hd2, ⟨A, ha, hm, by omega⟩, s2, F2, by omega⟩, fun _ => wp.imp (he ns[i] ih2) (fun y ih3 hy => ?_) fun _ _ h => h⟩
  obtain ⟨rfl, rfl⟩ := hy
  refine ⟨hd2, by rw [ha, List.length_map]; omega, ⟨A ++ [ns[i]], by rw [ha, List.map_append]; rfl, fun a h => ?_, by simp; omega⟩, s2.set (by omega), F2.set (Nat.le_refl _), by rw [List.length_set]; omega⟩
  rcases List.mem_append.mp h with h | h
  · exact hm a h
  · rw [List.mem_singleton.mp h]; exact List.getElem_mem hi
end
end L3
/-! K34f: the law. (L15) -/
namespace L3
open PySem PySem.Spec PyProof.Rows L2
local macro_rules | `(tactic| walk_at "get") => `(tactic| simp (disch := first | assumption | omega | (simp only [List.length_append, List.length_set, List.length_cons, List.length_nil, List.length_map] <;> omega) | fail) only [g_new, g_nw, g_old, g_set, g_sne, List.length_append, List.length_set, List.length_cons, List.length_nil, List.length_map, List.map_map, Function.comp_def, xs_lst, xs_tup, isL_lst, isL_tup, ↓reduceIte, *])
local macro_rules | `(tactic| walk_at "fr") => `(tactic| first | (intro _ _ _; simp (disch := first | assumption | omega | (simp only [List.length_append, List.length_set, List.length_cons, List.length_nil, List.length_map] <;> omega) | fail) only [g_new, g_nw, g_old, g_set, g_sne, List.length_append, List.length_set, List.length_cons, List.length_nil, List.length_map, List.map_map, Function.comp_def, xs_lst, xs_tup, isL_lst, isL_tup, ↓reduceIte, *]) | (intro _ _; simp (disch := first | assumption | omega | (simp only [List.length_append, List.length_set, List.length_cons, List.length_nil, List.length_map] <;> omega) | fail) only [g_new, g_nw, g_old, g_set, g_sne, List.length_append, List.length_set, List.length_cons, List.length_nil, List.length_map, List.map_map, Function.comp_def, xs_lst, xs_tup, isL_lst, isL_tup, ↓reduceIte, *]))
local macro_rules | `(tactic| walk_at "run") => `(tactic| simp -implicitDefEqProofs (disch := first | assumption | omega | (simp only [List.length_append, List.length_set, List.length_cons, List.length_nil, List.length_map] <;> omega) | fail) only [wp_ok, wp_exc, wp_stuck, ws_ok, ws_exc, ws_stuck, wp_op, kk_op, kk_un, wp_un, wp_cons, kk_cons, kk_cons2, wp_nil, wp_c, wp_app, wp_if, kk_if1, kk_if0, wp_and, kk_and1, kk_and0, wp_or, kk_or1, kk_or0, wp_not, kk_not, wp_tb, kk_tb, wp_andV, kk_andV1, kk_andV0, wp_orV, kk_orV1, kk_orV0, wp_notV, kk_notV, wp_noneS, wp_some, kk_some, wp_sl, kk_sl, kk_sl2, kk_sl3, wp_mL, kk_mL, kk_mL2, wp_mL0, kk_mL0, wp_chain, kk_ch, kk_ch2, kk_ch31, kk_ch30, ws_set, kks_nm, kks_g, kks_tup, kks_lst, ws_expr, kks_expr, ws_ret, kks_ret, ws_retN, ws_pass, ws_brk, ws_cont, ws_raise, ws_if, kks_if1, kks_if0, ws_seq, kks_next, kks_retS, kks_brk, kks_cont, kk_augE, ws_aug, kks_aug, kks_aug2, ws_par, kks_par, ws_setL, kks_sl, kks_sl2, kks_sl3, wp_def, kkd_ret, kkd_next, kkdE, kkE, ws_for, wp_lc, wp_r1, kk_r1, wp_r2, kk_r2, wp_il, wp_it, wp_ie, wp_iz, kk_il, kk_il2, kk_it, kk_it2, kk_ie, kk_ie2, kk_iz, kk_iz2, lAt_k, k_lAtL, k_lAtO, k_lAtT, wp_int, wp_add, wp_addI, wp_sub, wp_neg, wp_lt, wp_le, wp_gt, wp_ge, wp_max2, wp_min2, wp_abs, wp_mulI, wp_mul, wp_fdiv, wp_mod, wp_shl, wp_shr, wp_pow, wp_isN, wp_notN, wp_eqI, wp_neI, wp_ix, kk_ix, kk_ix2, wp_len, kk_lenL, kk_lenT, kk_lenO, kk_lenP, wp_appd, kk_app1, isL_k, kk_isL, startI_cons, startI_nil, rep_succ, rep_zero, List.getElem?_cons_zero, List.getElem?_cons_succ, List.set_cons_zero, List.set_cons_succ, f_call, m_var, List.append_nil, List.nil_append, List.cons_append, List.length_cons, List.length_nil, if_true, if_false, g_tup, g_lst, g_cons, g_nil, g_nm, Option.bind_some, kks_g, atI_0, atI_1, atI_2, atI_3, atI_4, atI_5, atI_6, atI_7, atI_8, atI_9, atI_10, atI_11, atI_12, atI_last, cutI_1, ixN_30, ixN_31, ixN_32, Int.toNat_zero, Int.reduceToNat, Int.reduceNeg, xs_lst, xs_tup, xs_ro, xs_rot, isL_lst, isL_tup, isL_ro, isL_rot, isT_tup, isT_rot, Bool.false_eq_true, Bool.true_eq_false, Bool.not_true, Bool.not_false, decide_true, decide_false, Int.reduceLT, Int.reduceLE, Nat.reduceLT, Nat.reduceLeDiff, Nat.reduceAdd, Nat.reduceEqDiff, Bool.not_eq_true, true_and, and_true, and_self, eq_self, g_new, g_nw, g_old, g_set, g_sne, List.length_set, List.length_append, wp_r3, kk_r3, Int.cast_ofNat_Int, Int.reduceEq, Int.natCast_zero, Int.natCast_one, ws_whileA, wp_isiII, wp_isiIB, wp_isiR, tyO_l, tyO_t, kk_isi, kk_isi2, kit_ll, kit_tt, kit_lt, kit_tl, wp_isiN, wp_isiBl, wp_isiS, tyO_d, kit2_NoneType_int, kit2_NoneType_bool, kit2_NoneType_list, kit2_NoneType_tuple, kit2_NoneType_str, kit2_bool_int, kit2_bool_bool, kit2_bool_list, kit2_bool_tuple, kit2_bool_str, kit2_str_int, kit2_str_bool, kit2_str_list, kit2_str_tuple, kit2_str_str, kit2_dict_int, kit2_dict_bool, kit2_dict_list, kit2_dict_tuple, kit2_dict_str, kit2_list_int, kit2_list_bool, kit2_list_str, kit2_tuple_int, kit2_tuple_bool, kit2_tuple_str, kit2_int_list, kit2_int_tuple, kit2_int_str, kf_next, kf_cont, kf_brk, kf_ret, wipeI, ws_try, wp_isEg, wp_isEt, kk_isE, wp_neS, wp_int2, ↓reduceIte, *])
/-- the lists that are asked -/
def LI (p Z n : Nat) (xs : List IV) (ih : IH) : Prop := ih[Z]? = some (.lst xs) ∧ xs.length = n ∧ (∀ v ∈ xs, Ob p ih v ∧ v ≠ .ref Z) ∧
  ∀ j, j < 4 → ∃ (g : Nat) (L : List Int), xs[j]? = some (.ref g) ∧ g ≠ p ∧ g ≠ Z ∧ ih[g]? = some (.lst (L.map .int)) ∧ (∀ y ∈ L, (0 : Int) ≤ y ∧ y ≤ 100) ∧ L.length ≤ 40
theorem LI.fr {p Z n : Nat} {xs : List IV} {ih ih' : IH} (h : LI p Z n xs ih) (f : Fr p ih ih') (zp : Z ≠ p) : LI p Z n xs ih' := by
  obtain ⟨g, l, o, f4⟩ := h
  refine ⟨by rw [f Z (lt_of_get g) zp]; exact g, l, fun v hv => ⟨(o v hv).1.fr f, (o v hv).2⟩, fun j hj => ?_⟩
  obtain ⟨g1, L, a, b, c, d, e⟩ := f4 j hj
  exact ⟨g1, L, a, b, c, by rw [f g1 (lt_of_get d) b]; exact d, e⟩
theorem LI.add {p Z n : Nat} {xs : List IV} {ih : IH} {v : IV} (h : LI p Z n xs ih) (hn : 4 ≤ n) (ov : Ob p ih v) (nv : v ≠ .ref Z) : LI p Z (n + 1) (xs ++ [v]) (ih.set Z (.lst (xs ++ [v]))) := by
  obtain ⟨g, l, o, f4⟩ := h
  have zl := lt_of_get g
  refine ⟨g_set zl, by simp [l], fun w hw => ?_, fun j hj => ?_⟩
  · rcases List.mem_append.mp hw with hw | hw
    · exact ⟨(o w hw).1.setZ (o w hw).2 g (by omega), (o w hw).2⟩
    · rw [List.mem_singleton.mp hw]
      exact ⟨ov.setZ nv g (by omega), nv⟩
  · obtain ⟨g1, L, a, b, c, d, e⟩ := f4 j hj
    exact ⟨g1, L, by rw [List.getElem?_append_left (by omega)]; exact a, b, c, by rw [g_sne (Ne.symm c)]; exact d, e⟩
section
variable {p m : Nat} {ih : IH} {Q : PQ IV} {E : EQ}
theorem w_bentG (c : Cs) {g : Nat} {e : Int} {L : List Int} (s : Src0 p m ih) (hm : m + 3 ≤ 1000000) (hg : ih[g]? = some (.lst (L.map .int))) (gp : g ≠ p) (e0 : 0 ≤ e) (e1 : e ≤ 100) (bL : ∀ y ∈ L, 0 ≤ y ∧ y ≤ 100) (lL : L.length ≤ 40)
    (k : ∀ v ih', Src0 p (m + 3) ih' → Fr p ih ih' → ih.length ≤ ih'.length → Ob p ih' v → (∀ k, v = .ref k → ih.length ≤ k) → Q v ih') : wp (m_law_bent c [.ref p, .ref g, .int e] ih) Q E := by
  by_cases h : L = []
  · subst h
    exact w_bent0 c s hm hg gp e0 e1 fun v ih' s' f l o n => k v ih' (s'.mono (by omega)) f l o n
  · exact w_bent1 c s hm hg gp e0 e1 h bL lL k
theorem w_turn (c : Cs) {Z n : Nat} {e : Int} {xs : List IV} (s : Src0 p m ih) (hm : m + 5 ≤ 1000000) (zp : Z ≠ p) (h : LI p Z n xs ih) (hn : 4 ≤ n) (hn2 : n ≤ 50) (e0 : 0 ≤ e) (e1 : e ≤ 100)
    {a0 a1 a3 a5 a6 a7 a8 a10 a11 a12 a13 a14 a15 : Option IV} (P : Env → IH → Prop) {S : SQ} {F : ES}
    (kk : ∀ v ih', Src0 p (m + 5) ih' → LI p Z (n + 1) (xs ++ [v]) ih' → (∀ i, i < ih.length → i ≠ p → i ≠ Z → ih'[i]? = ih[i]?) → ih.length ≤ ih'.length → P [a0, a1, some (.ref p), a3, some (.int e), a5, a6, a7, a8, some (.ref Z), a10, a11, a12, a13, a14, a15] ih') :
    ws (lb_law_1 c [a0, a1, some (.ref p), a3, some (.int e), a5, a6, a7, a8, some (.ref Z), a10, a11, a12, a13, a14, a15] ih) (kf P S) F := by
  replace kk := Hide.mk kk
  have gZ := h.1
  have zl := lt_of_get gZ
  have hl := h.2.1
  have h := Hide.mk h
  unfold lb_law_1
  walk_at "run"
  refine w_next c s (by decide) ((lit 7 : B 7 4).mono (by decide)) (by omega) fun t ih1 t0 t1 s1 f1 l1 => ?_
  replace h := Hide.mk (h.get.fr f1 zp)
  have G := Hide.mk f1
  obtain ⟨j, rfl⟩ := Int.eq_ofNat_of_zero_le t0
  obtain ⟨g, L, hx, gp, gz, gg, bL, lL⟩ := h.get.2.2.2 j (by omega)
  have ex : atI xs (j : Int) = some (.ref g) := by rw [atI_nn]; exact hx
  have gZ1 := h.get.1
  clear f1 s gZ
  walk_at "run"
  refine w_bentG c s1 (by omega) gg gp e0 e1 bL lL fun v ih2 s2 f2 l2 ov nv => ?_
  have h2 := h.get.fr f2 zp
  have nz : v ≠ .ref Z := fun e2 => by
    have := nv Z e2
    omega
  have gZ2 := h2.1
  have nx := kk.get v (ih2.set Z (.lst (xs ++ [v]))) ((s2.set zp).mono (by omega)) (h2.add hn ov nz) (fun i hi hp hZ => by rw [g_sne (Ne.symm hZ), f2 i (by omega) hp, G.get i hi hp]) (by rw [List.length_set]; omega)
  clear f2 bL gZ1 h2 ex hx gg
  walk_at "run"
  exact ⟨by omega, Inv.mk nx⟩
end
theorem wp_lrg {Q : PQ IV} {E : EQ} {ih : IH} {i j : Int} (h : RgOk i j) (q : Q (.ref ih.length) (ih ++ [.lst (rgI i j)])) : wp (f_lrg [.int i, .int j] ih) Q E := by
  unfold f_lrg
  dsimp only
  rw [if_pos h]
  exact q
theorem rgI_eq (a b : Int) : rgI a b = ((List.range (b - a).toNat).map fun i : Nat => a + (i : Int)).map IV.int := by
  unfold rgI
  rw [List.map_map]
  rfl
theorem w_body (c : Cs) {ns : List Int} {k : Nat} {ih : IH} {a2 a3 a4 a5 a6 a7 a8 a9 a10 a11 a12 a13 a14 a15 : Option IV} {S : SQ} {F : ES} (h : Scr ns ih) (hb : ∀ z ∈ ns, ibits z ≤ 1048576) (hk : k ≤ 1000) (P : Env → IH → Prop)
    (kk : ∀ b2 b3 b4 b5 b6 b7 b8 b9 b10 b11 b12 b13 b14 b15 ih', Scr ns ih' → P [some (.ref 0), some (.int (k : Int)), b2, b3, b4, b5, b6, b7, b8, b9, b10, b11, b12, b13, b14, b15] ih') : ws (lb_law_3 c [some (.ref 0), some (.int (k : Int)), a2, a3, a4, a5, a6, a7, a8, a9, a10, a11, a12, a13, a14, a15] ih) (kf P S) F := by
  have hl : 0 < ih.length := lt_of_get h
  have hs : ih[0]? = some (.ro (ns.map IV.int)) := h
  replace kk := Hide.mk kk
  unfold lb_law_3
  walk_at "run"
  refine w_source c h hb (by omega) fun ih1 s1 f1 l1 => ?_
  obtain ⟨p, ep⟩ : ∃ p, ih.length = p := ⟨_, rfl⟩
  rw [ep] at s1 l1 hl ⊢
  have hs1 := Hide.mk (show ih1[0]? = some (.ro (ns.map IV.int)) by rw [f1 0 (by omega)]; exact hs)
  clear hs f1 h ep
  have lp := s1.lt
  have c50 : cPow 10 50 = true := by decide
  walk_at "run"
  refine w_next c s1 (by decide) ((lit 7 : B 7 9).mono (by decide)) (by omega) fun b ih2 b0 b1 s2 f2 l2 => ?_
  have FF := Hide.mk f2
  clear f2 s1
  walk_at "run"
  refine w_next c s2 (by decide) ((lit 7 : B 7 30).mono (by decide)) (by omega) fun z ih3 z0 z1 s3 f3 l3 => ?_
  replace FF := Hide.mk (FF.get.trans f3 (by omega))
  clear f3 s2
  obtain ⟨e, ee⟩ : ∃ e, b + z = e := ⟨_, rfl⟩
  walk_at "run"
  refine w_next c s3 (by decide) ((lit 7 : B 7 5).mono (by decide)) (by omega) fun x ih4 x0 x1 s4 f4 l4 => ?_
  replace FF := Hide.mk (FF.get.trans f4 (by omega))
  clear f4 s3
  walk_at "run"
  refine w_next c s4 (by decide) ((lit 7 : B 7 30).mono (by decide)) (by omega) fun y ih5 y0 y1 s5 f5 l5 => ?_
  replace FF := Hide.mk (FF.get.trans f5 (by omega))
  clear f5 s4
  walk_at "run"
  refine wp_lst (by simp) (newN fun q1 ih6 q2 q3 l6 f6 g6 => ?_)
  have s6 := s5.fx f6
  replace FF := Hide.mk (FF.get.trans f6.fr (by omega))
  clear f6 s5
  walk_at "run"
  refine w_next c s6 (by decide) ((lit 7 : B 7 3).mono (by decide)) (by omega) fun t ih7 t0 t1 s7 f7 l7 => ?_
  have g7 := (f7 q1 (by omega) (by omega)).trans g6
  replace FF := Hide.mk (FF.get.trans f7 (by omega))
  clear f7 s6 g6
  walk_at "run"
  refine k_pickI (fun z => 1 ≤ z) t0 (by simpa using t1) (by simp only [allI, and_true]; omega) fun s sp => ?_
  clear g7
  walk_at "run"
  refine w_windows c (hi := e + 2) s7 (by omega) (by omega) (by omega) fun q wx W ih8 hW gq pr lW qn s8 f8 l8 => ?_
  replace FF := Hide.mk (FF.get.trans f8 (by omega))
  have hWB : WinB 45 W := fun r hr => by
    obtain ⟨h1, h2, h3⟩ := hW r hr
    exact ⟨h1, h2, by omega⟩
  have hWW : Win W := fun r hr => ⟨(hW r hr).1, (hW r hr).2.1⟩
  clear f8 s7 hW
  replace pr := Hide.mk pr
  replace hWB := Hide.mk hWB
  walk_at "run"
  refine w_fewest c sp b0 (by omega) (by omega) gq pr.get hWW (by omega) fun f g ih9 hg gf fn f9 l9 => ?_
  have fl9 := lt_of_get gf
  have ql8 := lt_of_get gq
  have K := (Kp.nil.put ((f9 q (lt_of_get gq)).trans gq) (by omega : q ≠ p)).put gf (by omega)
  replace pr := Hide.mk (pr.get.fx f9)
  have s9 := s8.fx f9
  replace FF := Hide.mk (FF.get.trans f9.fr (by omega))
  obtain ⟨gi, gb⟩ := hg.inc sp hWW
  have gl := inc_len gi (fun y hy => (gb y hy).2) (by omega)
  have bg : ∀ y ∈ g, (0 : Int) ≤ y ∧ y ≤ 100 := fun y hy => by
    have := gb y hy
    omega
  replace bg := Hide.mk bg
  clear f9 s8 gq gf hg gi gb hWW
  walk_at "run"
  refine wp_lrg (RgOk.of_le (by omega) (by omega) (by omega) (by omega)) ?_
  rw [rgI_eq]
  obtain ⟨R, eR⟩ : ∃ R, ((List.range (e - (b + 1)).toNat).map fun i : Nat => b + 1 + (i : Int)) = R := ⟨_, rfl⟩
  have bR : (∀ y ∈ R, (0 : Int) ≤ y ∧ y ≤ 100) ∧ R.length ≤ 40 := by
    rw [← eR]
    refine ⟨fun y hy => ?_, by simp; omega⟩
    obtain ⟨i, hi, rfl⟩ := List.mem_map.mp hy
    have := List.mem_range.mp hi
    omega
  obtain ⟨bR, lR⟩ := bR
  replace bR := Hide.mk bR
  rw [eR]
  clear eR
  refine newN fun r iha r2 r3 la fa ga => ?_
  have sa := s9.fx fa
  replace K := K.add fa ga r2 (by omega)
  replace pr := Hide.mk (pr.get.fx fa)
  replace FF := Hide.mk (FF.get.trans fa.fr (by omega))
  clear fa s9
  walk_at "run"
  refine wp_lst (by simp) (newN fun o ihb o2 o3 lb fb gb => ?_)
  have sb := sa.fx fb
  replace K := K.add fb gb o2 (by omega)
  replace pr := Hide.mk (pr.get.fx fb)
  replace FF := Hide.mk (FF.get.trans fb.fr (by omega))
  have gr := K.get 1
  clear fb sa ga gb
  walk_at "run"
  unfold lc_law_1
  walk_at "run"
  refine lc_sift sb gr (K.ne 1) (by omega) (fun i x ih' hi si => ?_) (fun x ih' => ?_) fun ihc A mA lA sc fc lc gc => ?_
  · unfold ln_law_1
    walk_at "run"
    refine w_next c si (by decide) ((lit 7 : B 7 3).mono (by decide)) (by omega) fun u ih'' u0 u1 s' f' l' => ?_
    walk_at "run"
    exact f'
  · unfold le_law_1
    walk_at "run"
  obtain ⟨d, ed⟩ : ∃ d, ihb.length = d := ⟨_, rfl⟩
  rw [ed] at gc ⊢
  replace K := (K.fr fc).put gc (by omega)
  replace pr := Hide.mk (pr.get.srcD sb fc)
  replace FF := Hide.mk (FF.get.trans fc (by omega))
  have bA : ∀ y ∈ A, (0 : Int) ≤ y ∧ y ≤ 100 := fun y hy => bR.get y (mA y hy)
  replace bA := Hide.mk bA
  clear fc gr gc mA
  walk_at "run"
  refine wp_lst (by simp) (newN fun Z ihd Z2 Z3 ld fd gd => ?_)
  have sd := sc.fx fd
  replace K := K.fx fd
  replace pr := Hide.mk (pr.get.fx fd)
  replace FF := Hide.mk (FF.get.trans fd.fr (by omega))
  have gq := K.get 4
  have q8 := lt_of_get gq
  have lst4 : ∀ {g : Nat} {L : List Int}, ihd[g]? = some (.lst (L.map .int)) → g ≠ p → L.length ≤ 40 → (∀ y ∈ L, (0 : Int) ≤ y ∧ y ≤ 100) → Ob p ihd (.ref g) := fun {g L} h n l bb => ob_lst n h (by rw [List.length_map]; omega) fun x hx => by
    obtain ⟨y, hy, rfl⟩ := List.mem_map.mp hx
    have := bb y hy
    exact .inl ⟨by omega, by omega⟩
  have fZ : f < Z := by
    omega
  have LI0 : LI p Z 4 [.ref f, .ref r, .ref o, .ref d] ihd := by
    have n3 : f ≠ Z := by omega
    have n2 : r ≠ Z := by omega
    have n1 : o ≠ Z := by omega
    have n0 : d ≠ Z := by omega
    refine ⟨gd, rfl, fun v hv => ?_, fun j hj => ?_⟩
    · simp only [List.mem_cons, List.not_mem_nil, or_false] at hv
      rcases hv with h | h | h | h <;> subst h
      · exact ⟨lst4 (K.get 3) (K.ne 3) (by omega) bg.get, fun h => n3 (by cases h; rfl)⟩
      · exact ⟨lst4 (K.get 2) (K.ne 2) lR bR.get, fun h => n2 (by cases h; rfl)⟩
      · exact ⟨lst4 (L := []) (K.get 1) (K.ne 1) (by simp) (fun _ h => nomatch h), fun h => n1 (by cases h; rfl)⟩
      · exact ⟨lst4 (K.get 0) (K.ne 0) (by omega) bA.get, fun h => n0 (by cases h; rfl)⟩
    · rcases (show j = 0 ∨ j = 1 ∨ j = 2 ∨ j = 3 by omega) with h | h | h | h <;> subst h
      · exact ⟨f, g, rfl, K.ne 3, n3, K.get 3, bg.get, by omega⟩
      · exact ⟨r, R, rfl, K.ne 2, n2, K.get 2, bR.get, lR⟩
      · exact ⟨o, [], rfl, K.ne 1, n1, K.get 1, (fun _ h => nomatch h), by simp⟩
      · exact ⟨d, A, rfl, K.ne 0, n0, K.get 0, bA.get, by omega⟩
  have zp : Z ≠ p := by omega
  have qZ : q ≠ Z := by omega
  have qp := K.ne 4
  replace LI0 := Hide.mk LI0
  replace K := Hide.mk K
  clear fd sc gd
  walk_at "run"
  refine ⟨by decide, ?_⟩
  refine for_rng0 (fun i env ih' => (∃ b10, env = [some (.ref 0), some (.int (k : Int)), some (.ref p), some (.int b), some (.int e), some (.int s), some (.ref q), some (.ref f), some (.ref r), some (.ref Z), b10, a11, a12, a13, a14, a15]) ∧ (∃ xs, LI p Z (4 + i) xs ih') ∧ Src0 p (5000 + 5 * i) ih' ∧ (∀ i, i < ihd.length → i ≠ p → i ≠ Z → ih'[i]? = ihd[i]?) ∧ ihd.length ≤ ih'.length)
    ⟨⟨_, rfl⟩, ⟨_, LI0.get⟩, sd.mono (by omega), fun _ _ _ _ => rfl, Nat.le_refl _⟩ (fun i env ih' hi hP => ?_) fun env ihe hP => ?_
  · obtain ⟨⟨b10, eE⟩, ⟨xs, hx⟩, si, fi, li⟩ := hP
    subst eE
    exact w_turn c si (by omega) zp hx (by omega) (by omega) (by omega) (by omega) _ fun v ih'' s' h' f' l' => ⟨⟨_, rfl⟩, ⟨_, h'⟩, s', fun i h1 h2 h3 => (f' i (by omega) h2 h3).trans (fi i h1 h2 h3), by omega⟩
  · obtain ⟨⟨b10, eE⟩, ⟨xs, hx⟩, se, fe, le⟩ := hP
    subst eE
    obtain ⟨gZ, lZ, oZ, _⟩ := hx
    have gq' := (fe q q8 qp qZ).trans gq
    have pr' : PR ihe wx W := pr.get.mono fun t i j et => by
      rw [fe t (lt_of_get et) (fun h => by
        obtain ⟨_, _, _, h2, _⟩ := sd
        rw [h, h2] at et
        cases et) (fun h => by
        rw [h, LI0.get.1] at et
        cases et)]
      exact et
    have h0 : ihe[0]? = some (.ro (ns.map IV.int)) := by
      rw [fe 0 (by omega) (by omega) (by omega), FF.get 0 (by omega) (by omega)]
      exact hs1.get
    have oZ := Hide.mk oZ
    have fe := Hide.mk fe
    replace pr' := Hide.mk pr'
    clear gq sd hs1
    walk_at "run"
    refine for_lst1 (o := .lst xs) (fun i env ih' => (∃ b10 b11 b12 b13 b14, env = [some (.ref 0), some (.int (k : Int)), some (.ref p), some (.int b), some (.int e), some (.int s), some (.ref q), some (.ref f), some (.ref r), some (.ref Z), b10, b11, b12, b13, b14, a15]) ∧ Fx ihe ih' ∧ ihe.length ≤ ih'.length)
      gZ rfl ⟨⟨_, _, _, _, _, rfl⟩, Fx.refl, Nat.le_refl _⟩ (fun i env ih' hP => (hP.2.1 Z (lt_of_get gZ)).trans gZ) (fun i v env ih' hv hP => ?_) fun env ih' hP => ?_
    · obtain ⟨⟨b10, b11, b12, b13, b14, eE⟩, fi, li⟩ := hP
      subst eE
      have hv : xs[i]? = some v := hv
      have ov := (oZ.get v (List.mem_of_getElem? hv)).1
      exact w_one (p := p) c sp b0 (by omega) ((fi q (lt_of_get gq')).trans gq') (pr'.get.fx fi) hWB.get lW (ov.fr fi.fr) qp _ fun b12 b13 b14 ih'' f' l' => ⟨⟨_, _, _, _, _, rfl⟩, fi.trans f' li, by omega⟩
    · obtain ⟨⟨b10, b11, b12, b13, b14, eE⟩, fi, li⟩ := hP
      subst eE
      exact Inv.mk (kk.get _ _ _ _ _ _ _ _ _ _ _ _ _ _ ih' ((fi 0 (by omega)).trans h0))
theorem w_law (c : Cs) {ns : List Int} {ih : IH} {Q : PQ IV} {E : EQ} (h : Scr ns ih) (hb : ∀ z ∈ ns, ibits z ≤ 1048576) (hl : ns.length ≤ 63) (q : ∀ ih', Q (.bl true) ih') : wp (m_law c [.ref 0] ih) Q E := by
  have h' : ih[0]? = some (.ro (ns.map IV.int)) := h
  unfold m_law b_law
  walk_at "run"
  rw [List.length_map]
  obtain ⟨j, ej⟩ : ∃ j : Int, (if (if (ns.length : Int) < 8 then (ns.length : Int) else 8) > 1 then (if (ns.length : Int) < 8 then (ns.length : Int) else 8) else 1) = j := ⟨_, rfl⟩
  have hj : 1 ≤ j ∧ j ≤ 8 := by rw [← ej]; split <;> split at * <;> omega
  rw [ej]
  refine ⟨smallI_mk (by omega) (by omega), ?_⟩
  refine for_rng0 (fun i env ih' => (∃ a1 a2 a3 a4 a5 a6 a7 a8 a9 a10 a11 a12 a13 a14 a15, env = [some (.ref 0), a1, a2, a3, a4, a5, a6, a7, a8, a9, a10, a11, a12, a13, a14, a15]) ∧ Scr ns ih') ⟨⟨_, _, _, _, _, _, _, _, _, _, _, _, _, _, _, rfl⟩, h⟩ (fun i env ih' hi hP => ?_) fun env ih' hP => ?_
  · obtain ⟨⟨a1, a2, a3, a4, a5, a6, a7, a8, a9, a10, a11, a12, a13, a14, a15, ee⟩, h2⟩ := hP
    subst ee
    exact w_body c h2 hb (by omega) _ fun b2 b3 b4 b5 b6 b7 b8 b9 b10 b11 b12 b13 b14 b15 ih3 h3 => ⟨⟨_, _, _, _, _, _, _, _, _, _, _, _, _, _, _, rfl⟩, h3⟩
  · obtain ⟨⟨a1, a2, a3, a4, a5, a6, a7, a8, a9, a10, a11, a12, a13, a14, a15, ee⟩, h2⟩ := hP
    subst ee
    walk_at "run"
    all_goals exact q _
theorem run_law (c : Cs) (ns : List Int) (h : ns.length ≤ 63) (hb : ∀ z ∈ ns, ibits z ≤ 1048576) : ∃ ih, m_law c [.ref 0] [.ro (ns.map IV.int)] = .ok (.bl true) ih := by
  obtain ⟨v, ih, e, rfl⟩ := (w_law c (ns := ns) (ih := [.ro (ns.map IV.int)]) (Q := fun v _ => v = .bl true) (E := E0) rfl hb h fun _ => rfl).out
  exact ⟨ih, e⟩
end L3
namespace L3
open PySem PySem.Spec PyProof.Rows L2

abbrev topS (i : Nat) : Stmt := PySem.Challenge.pw_timekernel_k34_looks_that_are_enough.main.body.getD i (.Pass ⟨0, 0, 0, 0⟩)
structure Txt (K : PySem.W.Frag) (mg : Str → Option Value) (c : Cs) : Prop where
  kk : c.K = K
  b_all : mg "all" = none
  b_any : mg "any" = none
  b_bool : mg "bool" = none
  b_enumerate : mg "enumerate" = none
  b_int : mg "int" = none
  b_isinstance : mg "isinstance" = none
  b_len : mg "len" = none
  b_list : mg "list" = none
  b_max : mg "max" = none
  b_min : mg "min" = none
  b_range : mg "range" = none
  b_repr : mg "repr" = none
  b_tuple : mg "tuple" = none
  b_zip : mg "zip" = none
  g_MOST_LOOKS : ∃ u, mg "MOST_LOOKS" = some u ∧ RelV ((.int 2000) : V) u
  x_KernelError : ExcX K mg "KernelError" c.KernelError
  x_NoCycle : ExcX K mg "NoCycle" c.NoCycle
  x_NoSpan : ExcX K mg "NoSpan" c.NoSpan
  x_NoWindow : ExcX K mg "NoWindow" c.NoWindow
  x_TooMany : ExcX K mg "TooMany" c.TooMany
section
variable [TabT] {P : Program} {w : World} {K : PySem.W.Frag} {mg : Str → Option Value} {base : Heap} {c : Cs} {f : Addr} {fd : FuncData}
abbrev s__law_mixed : Stmt := topS 21
abbrev N__law_mixed : List Str := ["cell", "k", "low"]
theorem S__law_mixed : FnScope N__law_mixed ["cell", "k"] (defScope s__law_mixed) := ⟨rfl, rfl, rfl, by decide +kernel, rfl, by decide +kernel, by decide +kernel⟩
theorem ok__law_mixed (T : Txt K mg c) (F : FunD K "_law_mixed" "_law_mixed" (defArgs s__law_mixed) (defBody s__law_mixed) (defScope s__law_mixed) [] [] f fd) (hm : mg "_law_mixed" = some (.ref f))  : ∀ [LamT], Df P w K mg base 1 "_law_mixed" 2 [] (m_law_mixed c) := by
 intro I
 obtain rfl := T.kk
 exact df0 (N := N__law_mixed) (mb := b_law_mixed c) F S__law_mixed hm (fun _ _ _ _ _ _ us hl => match us, hl with | [_, _], _ => rfl) fun cdv A outer s H E hr tk hp hu =>
 (lss_cons (ls_set (i := 2) S__law_mixed.nd rfl (Or.inl rfl) (lm_op op_addA s_add (lm_op op_mod s_mod (lm_callTy call_int1 s_int rfl T.b_int (by decide +kernel) (la_cons (lm_var 0) la_nil)) (lm_c (.int 2147483629) pe_int)) (lm_op op_mulA s_mulA (lm_op op_fdivW s_fdiv (lm_var 0) (lm_c (.int 2147483629) pe_int)) (lm_c (.int 30011) pe_int))))
 (lss_cons (ls_set (i := 2) S__law_mixed.nd rfl (Or.inl rfl) (lm_op op_mod s_mod (lm_callTy call_int1 s_int rfl T.b_int (by decide +kernel) (la_cons (lm_op op_mulA s_mulA (lm_op op_addA s_add (lm_op op_addA s_add (lm_var 2) (lm_op op_mulA s_mulA (lm_c (.int 69621) pe_int) (lm_var 1))) (lm_c (.int 1) pe_int)) (lm_c (.int 48271) pe_int)) la_nil)) (lm_c (.int 2147483629) pe_int)))
 (lss_cons (ls_set (i := 2) S__law_mixed.nd rfl (Or.inl rfl) (lm_op op_mod s_mod (lm_callTy call_int1 s_int rfl T.b_int (by decide +kernel) (la_cons (lm_op op_mulA s_mulA (lm_var 2) (lm_op op_addA s_add (lm_op op_addA s_add (lm_op op_fdivW s_fdiv (lm_var 2) (lm_c (.int 907) pe_int)) (lm_c (.int 16831) pe_int)) (lm_var 1))) la_nil)) (lm_c (.int 2147483587) pe_int)))
 (lss_one (ls_ret (lm_op op_mod s_mod (lm_callTy call_int1 s_int rfl T.b_int (by decide +kernel) (la_cons (lm_op op_mulA s_mulA (lm_var 2) (lm_op op_addA s_add (lm_op op_fdivW s_fdiv (lm_var 2) (lm_c (.int 1201) pe_int)) (lm_c (.int 30011) pe_int))) la_nil)) (lm_c (.int 2147483563) pe_int)))))))
abbrev s__law_next : Stmt := topS 23
abbrev N__law_next : List Str := ["source", "many", "found"]
theorem S__law_next : FnScope N__law_next ["source", "many"] (defScope s__law_next) := ⟨rfl, rfl, rfl, by decide +kernel, rfl, by decide +kernel, by decide +kernel⟩
theorem ok__law_next (T : Txt K mg c) (F : FunD K "_law_next" "_law_next" (defArgs s__law_next) (defBody s__law_next) (defScope s__law_next) [] [] f fd) (hm : mg "_law_next" = some (.ref f)) (D__law_mixed : ∀ [LamT], Df P w K mg base 1 "_law_mixed" 2 [] (m_law_mixed c)) : ∀ [LamT], Df P w K mg base 2 "_law_next" 2 [] (m_law_next c) := by
 intro I
 obtain rfl := T.kk
 exact df0 (N := N__law_next) (mb := b_law_next c) F S__law_next hm (fun _ _ _ _ _ _ us hl => match us, hl with | [_, _], _ => rfl) fun cdv A outer s H E hr tk hp hu =>
 (lss_cons (ls_if (lt_cmp op_ge s_ge (lm_ix ix_seq s_ix (lm_var 0) (lm_c (.int 0) pe_int)) (lm_op op_pow s_pow (lm_c (.int 10) pe_int) (lm_c (.int 18) pe_int)))
 (lss_cons (ls_set (i := 2) S__law_next.nd rfl (Or.inl rfl) (lm_op op_mod s_mod (lm_callTy call_int1 s_int rfl T.b_int (by decide +kernel) (la_cons (lm_ix ix_seq s_ix (lm_var 0) (lm_c (.int 0) pe_int)) la_nil)) (lm_var 1)))
 (lss_cons (ls_setL (lm_op op_fdivW s_fdiv (lm_ix ix_seq s_ix (lm_var 0) (lm_c (.int 0) pe_int)) (lm_var 1)) (fun h1 h2 => pg_sub h1 h2 set_list) (lm_var 0) (lm_c (.int 0) pe_int))
 (lss_one (ls_ret (lm_var 2)))))
 lss_nil)
 (lss_cons (ls_setL (lm_op op_addA s_add (lm_ix ix_seq s_ix (lm_var 0) (lm_c (.int 2) pe_int)) (lm_c (.int 1) pe_int)) (fun h1 h2 => pg_sub h1 h2 set_list) (lm_var 0) (lm_c (.int 2) pe_int))
 (lss_one (ls_ret (lm_op op_mod s_mod (lm_callTy call_int1 s_int rfl T.b_int (by decide +kernel) (la_cons (lm_call (x := "_law_mixed") (dvs := []) D__law_mixed 0 (by decide) (hr.mono (by decide)) rfl tk (la_cons (lm_ix ix_seq s_ix (lm_var 0) (lm_c (.int 1) pe_int)) (la_cons (lm_ix ix_seq s_ix (lm_var 0) (lm_c (.int 2) pe_int)) la_nil))) la_nil)) (lm_var 1))))))
abbrev s__law_bent : Stmt := topS 27
abbrev N__law_bent : List Str := ["source", "looks", "end_at", "at", "odd", "some"]
theorem S__law_bent : FnScope N__law_bent ["source", "looks", "end_at"] (defScope s__law_bent) := ⟨rfl, rfl, rfl, by decide +kernel, rfl, by decide +kernel, by decide +kernel⟩
theorem ok__law_bent (T : Txt K mg c) (F : FunD K "_law_bent" "_law_bent" (defArgs s__law_bent) (defBody s__law_bent) (defScope s__law_bent) [] [] f fd) (hm : mg "_law_bent" = some (.ref f)) (D__law_next : ∀ [LamT], Df P w K mg base 2 "_law_next" 2 [] (m_law_next c)) : ∀ [LamT], Df P w K mg base 3 "_law_bent" 3 [] (m_law_bent c) := by
 intro I
 obtain rfl := T.kk
 exact df0 (N := N__law_bent) (mb := b_law_bent c) F S__law_bent hm (fun _ _ _ _ _ _ us hl => match us, hl with | [_, _, _], _ => rfl) fun cdv A outer s H E hr tk hp hu =>
 (lss_cons (ls_if (lt_cmp (op_eqX hu) s_eq (lm_var 1) (lm_lst la_nil))
 (lss_one (ls_ret (lm_ix ix_seq s_ix (lm_lst (la_cons (lm_c .non pe_non) (la_cons (lm_tup la_nil) (la_cons lm_dnew (la_cons (lm_c (.str "") pe_str) (la_cons (lm_lst (la_cons (lm_c .non pe_non) la_nil)) (la_cons (lm_lst (la_cons (lm_c (.bl true) pe_bl) la_nil)) (la_cons (lm_lst (la_cons (lm_var 2) la_nil)) (la_cons (lm_lst (la_cons (lm_c (.int 0) pe_int) la_nil)) (la_cons (lm_lst (la_cons (lm_lst (la_cons (lm_c (.int 1) pe_int) la_nil)) la_nil)) (la_cons (lm_c (.int 0) pe_int) la_nil))))))))))) (lm_call (x := "_law_next") (dvs := []) D__law_next 0 (by decide) (hr.mono (by decide)) rfl tk (la_cons (lm_var 0) (la_cons (lm_c (.int 10) pe_int) la_nil))))))
 lss_nil)
 (lss_cons (ls_set (i := 3) S__law_bent.nd rfl (Or.inl rfl) (lm_call (x := "_law_next") (dvs := []) D__law_next 0 (by decide) (hr.mono (by decide)) rfl tk (la_cons (lm_var 0) (la_cons (lm_callB call_lenA s_len rfl T.b_len (by decide +kernel) (la_cons (lm_var 1) la_nil)) la_nil))))
 (lss_cons (ls_set (i := 4) S__law_bent.nd rfl (Or.inl rfl) (lm_ix ix_seq s_ix (lm_lst (la_cons (lm_c .non pe_non) (la_cons (lm_c (.bl true) pe_bl) (la_cons (lm_c (.str "5") pe_str) (la_cons (lm_lst (la_cons (lm_c (.int 5) pe_int) la_nil)) (la_cons (lm_op op_addA s_add (lm_ix ix_seq s_ix (lm_var 1) (lm_var 3)) (lm_c (.int 1) pe_int)) (la_cons (lm_op op_sub s_sub (lm_ix ix_seq s_ix (lm_var 1) (lm_var 3)) (lm_c (.int 1) pe_int)) (la_cons (lm_var 2) (la_cons (lm_c (.int 0) pe_int) (la_cons (lm_un un_neg s_neg (lm_c (.int 1) pe_int)) (la_cons (lm_ix ix_seq s_ix (lm_var 1) (lm_c (.int 0) pe_int)) la_nil))))))))))) (lm_call (x := "_law_next") (dvs := []) D__law_next 0 (by decide) (hr.mono (by decide)) rfl tk (la_cons (lm_var 0) (la_cons (lm_c (.int 10) pe_int) la_nil)))))
 (lss_cons (ls_set (i := 5) S__law_bent.nd rfl (Or.inl rfl) (lm_lst (la_cons (lm_op op_addA s_add (lm_sl (lm_var 1) lo_none (lo_some (lm_var 3))) (lm_sl (lm_var 1) (lo_some (lm_op op_addA s_add (lm_var 3) (lm_c (.int 1) pe_int))) lo_none)) (la_cons (lm_op op_addA s_add (lm_op op_addA s_add (lm_sl (lm_var 1) lo_none (lo_some (lm_var 3))) (lm_lst (la_cons (lm_var 4) la_nil))) (lm_sl (lm_var 1) (lo_some (lm_op op_addA s_add (lm_var 3) (lm_c (.int 1) pe_int))) lo_none)) (la_cons (lm_op op_addA s_add (lm_op op_addA s_add (lm_sl (lm_var 1) lo_none (lo_some (lm_var 3))) (lm_lst (la_cons (lm_var 4) la_nil))) (lm_sl (lm_var 1) (lo_some (lm_var 3)) lo_none)) la_nil)))))
 (lss_one (ls_ret (lm_ix ix_seq s_ix (lm_op op_addA s_add (lm_op op_addA s_add (lm_var 5) (lm_lst (la_cons (lm_callTy call_tuple_of s_tuple rfl T.b_tuple (by decide +kernel) (la_cons (lm_var 1) la_nil)) (la_cons (lm_rev (lm_var 1)) (la_cons (lm_op op_addA s_add (lm_var 1) (lm_sl (lm_var 1) lo_none (lo_some (lm_c (.int 1) pe_int)))) la_nil))))) (lm_var 5)) (lm_call (x := "_law_next") (dvs := []) D__law_next 0 (by decide) (hr.mono (by decide)) rfl tk (la_cons (lm_var 0) (la_cons (lm_c (.int 9) pe_int) la_nil))))))))))
abbrev s__law_enough : Stmt := topS 25
abbrev N__law_enough : List Str := ["span", "windows_in", "begin_at", "end_at", "looks", "before", "look", "first", "last", "served"]
theorem S__law_enough : FnScope N__law_enough ["span", "windows_in", "begin_at", "end_at", "looks"] (defScope s__law_enough) := ⟨rfl, rfl, rfl, by decide +kernel, rfl, by decide +kernel, by decide +kernel⟩
theorem ok__law_enough (T : Txt K mg c) (F : FunD K "_law_enough" "_law_enough" (defArgs s__law_enough) (defBody s__law_enough) (defScope s__law_enough) [] [] f fd) (hm : mg "_law_enough" = some (.ref f))  : ∀ [LamT], Df P w K mg base 1 "_law_enough" 5 [] (m_law_enough c) := by
 intro I
 obtain rfl := T.kk
 exact df0 (N := N__law_enough) (mb := b_law_enough c) F S__law_enough hm (fun _ _ _ _ _ _ us hl => match us, hl with | [_, _, _, _, _], _ => rfl) fun cdv A outer s H E hr tk hp hu =>
 (lss_cons (ls_set (i := 5) S__law_enough.nd rfl (Or.inl rfl) (lm_var 2))
 (lss_cons (ls_for hp rfl (li_lst (lm_op op_addA s_add (lm_var 4) (lm_lst (la_cons (lm_var 3) la_nil)))) (pg_name (i := 6) S__law_enough.nd rfl (Or.inl rfl)) (sg_nm 6)
 (lss_cons (ls_if (lt_cmp op_gt s_gt (lm_op op_sub s_sub (lm_var 6) (lm_var 5)) (lm_var 0))
 (lss_one (ls_ret (lm_c (.bl false) pe_bl)))
 lss_nil)
 (lss_one (ls_set (i := 5) S__law_enough.nd rfl (Or.inl rfl) (lm_var 6)))))
 (lss_cons (ls_for hp rfl (li_lst (lm_var 1)) (pg_tup rfl (pgs_cons (pg_name (i := 7) S__law_enough.nd rfl (Or.inr rfl)) (pgs_cons (pg_name (i := 8) S__law_enough.nd rfl (Or.inr rfl)) pgs_nil))) (sg_tup (sg_cons (sg_nm 7) (sg_cons (sg_nm 8) sg_nil)))
 (lss_cons (ls_lc (own := [("look", 6)]) (i := 9) rfl S__law_enough.nd rfl rfl (sw_true rfl rfl rfl (by decide +kernel)) (li_lst (lm_op op_addA s_add (lm_lst (la_cons (lm_var 2) la_nil)) (lm_var 4))) (blkOk_by (own := [("look", 6)]) (N := N__law_enough) (sc := defScope s__law_enough) (by decide +kernel)) (sg_nm 6) (by decide) (fun _ _ _ _ _ => (pg_name (i := 6) S__law_enough.nd rfl (Or.inl rfl))) (fun _ _ _ _ _ => lts_one (lt_chain op_le s_le op_le s_le (lm_var 7) (lm_var 6) (lm_var 8))) (fun _ _ _ _ _ => (lm_var 6)))
 (lss_one (ls_if (PW.pt (lw_and (lt_chain op_le s_le op_lt s_lt (lm_var 2) (lm_var 8) (lm_var 3)) (lw_and1 (lt_cmp (op_eqX hu) s_eq (lm_var 9) (lm_lst la_nil)))))
 (lss_one (ls_ret (lm_c (.bl false) pe_bl)))
 lss_nil))))
 (lss_one (ls_ret (lm_c (.bl true) pe_bl))))))
abbrev s__law_is_looks : Stmt := topS 26
abbrev N__law_is_looks : List Str := ["some", "begin_at", "end_at", "at", "one"]
theorem S__law_is_looks : FnScope N__law_is_looks ["some", "begin_at", "end_at"] (defScope s__law_is_looks) := ⟨rfl, rfl, rfl, by decide +kernel, rfl, by decide +kernel, by decide +kernel⟩
theorem ok__law_is_looks (T : Txt K mg c) (F : FunD K "_law_is_looks" "_law_is_looks" (defArgs s__law_is_looks) (defBody s__law_is_looks) (defScope s__law_is_looks) [] [] f fd) (hm : mg "_law_is_looks" = some (.ref f))  : ∀ [LamT], Df P w K mg base 1 "_law_is_looks" 3 [] (m_law_is_looks c) := by
 intro I
 obtain rfl := T.kk
 exact df0 (N := N__law_is_looks) (mb := b_law_is_looks c) F S__law_is_looks hm (fun _ _ _ _ _ _ us hl => match us, hl with | [_, _, _], _ => rfl) fun cdv A outer s H E hr tk hp hu =>
 (lss_cons (ls_if (lt_not (lt_val (lm_callB call_isi s_isi rfl T.b_isinstance (by decide +kernel) (la_cons (lm_var 0) (la_cons (lm_c (.ty "list") (pe_bltn (v := .ty "list") rfl T.b_list (by decide +kernel) rfl)) la_nil)))))
 (lss_one (ls_ret (lm_c (.bl false) pe_bl)))
 lss_nil)
 (lss_cons (ls_for hp rfl (li_enm rfl T.b_enumerate (la_cons (lm_var 0) la_nil)) (pg_tup rfl (pgs_cons (pg_name (i := 3) S__law_is_looks.nd rfl (Or.inl rfl)) (pgs_cons (pg_name (i := 4) S__law_is_looks.nd rfl (Or.inl rfl)) pgs_nil))) (sg_tup (sg_cons (sg_nm 3) (sg_cons (sg_nm 4) sg_nil)))
 (lss_cons (ls_if (PW.pt (lw_or (lt_not (lt_val (lm_callB call_isi s_isi rfl T.b_isinstance (by decide +kernel) (la_cons (lm_var 4) (la_cons (lm_c (.ty "int") (pe_bltn (v := .ty "int") rfl T.b_int (by decide +kernel) rfl)) la_nil))))) (lw_or (lt_val (lm_callB call_isi s_isi rfl T.b_isinstance (by decide +kernel) (la_cons (lm_var 4) (la_cons (lm_c (.ty "bool") (pe_bltn (v := .ty "bool") rfl T.b_bool (by decide +kernel) rfl)) la_nil)))) (lw_or1 (lt_not (lt_chain op_lt s_lt op_lt s_lt (lm_var 1) (lm_var 4) (lm_var 2)))))))
 (lss_one (ls_ret (lm_c (.bl false) pe_bl)))
 lss_nil)
 (lss_one (ls_if (PW.pt (lw_and (lt_cmp op_gt s_gt (lm_var 3) (lm_c (.int 0) pe_int)) (lw_and1 (lt_cmp op_le s_le (lm_var 4) (lm_ix ix_seq s_ix (lm_var 0) (lm_op op_sub s_sub (lm_var 3) (lm_c (.int 1) pe_int)))))))
 (lss_one (ls_ret (lm_c (.bl false) pe_bl)))
 lss_nil))))
 (lss_one (ls_ret (lm_c (.bl true) pe_bl)))))
abbrev s__law_cell_at : Stmt := topS 20
abbrev N__law_cell_at : List Str := ["script", "k"]
theorem S__law_cell_at : FnScope N__law_cell_at ["script", "k"] (defScope s__law_cell_at) := ⟨rfl, rfl, rfl, by decide +kernel, rfl, by decide +kernel, by decide +kernel⟩
theorem ok__law_cell_at (T : Txt K mg c) (F : FunD K "_law_cell_at" "_law_cell_at" (defArgs s__law_cell_at) (defBody s__law_cell_at) (defScope s__law_cell_at) [] [] f fd) (hm : mg "_law_cell_at" = some (.ref f))  : ∀ [LamT], Df P w K mg base 1 "_law_cell_at" 2 [] (m_law_cell_at c) := by
 intro I
 obtain rfl := T.kk
 exact df0 (N := N__law_cell_at) (mb := b_law_cell_at c) F S__law_cell_at hm (fun _ _ _ _ _ _ us hl => match us, hl with | [_, _], _ => rfl) fun cdv A outer s H E hr tk hp hu =>
 (lss_cons (ls_if (lt_cmp op_lt s_lt (lm_var 1) (lm_callB call_lenA s_len rfl T.b_len (by decide +kernel) (la_cons (lm_var 0) la_nil)))
 (lss_one (ls_ret (lm_ix ix_seq s_ix (lm_var 0) (lm_var 1))))
 lss_nil)
 (lss_one (ls_ret (lm_c (.int 0) pe_int))))
abbrev s__law_source : Stmt := topS 22
abbrev N__law_source : List Str := ["script", "k", "cell"]
theorem S__law_source : FnScope N__law_source ["script", "k"] (defScope s__law_source) := ⟨rfl, rfl, rfl, by decide +kernel, rfl, by decide +kernel, by decide +kernel⟩
theorem ok__law_source (T : Txt K mg c) (F : FunD K "_law_source" "_law_source" (defArgs s__law_source) (defBody s__law_source) (defScope s__law_source) [] [] f fd) (hm : mg "_law_source" = some (.ref f)) (D__law_cell_at : ∀ [LamT], Df P w K mg base 1 "_law_cell_at" 2 [] (m_law_cell_at c)) (D__law_mixed : ∀ [LamT], Df P w K mg base 1 "_law_mixed" 2 [] (m_law_mixed c)) : ∀ [LamT], Df P w K mg base 2 "_law_source" 2 [] (m_law_source c) := by
 intro I
 obtain rfl := T.kk
 exact df0 (N := N__law_source) (mb := b_law_source c) F S__law_source hm (fun _ _ _ _ _ _ us hl => match us, hl with | [_, _], _ => rfl) fun cdv A outer s H E hr tk hp hu =>
 (lss_cons (ls_if (lt_cmp op_lt s_lt (lm_var 1) (lm_callB call_lenA s_len rfl T.b_len (by decide +kernel) (la_cons (lm_var 0) la_nil)))
 (lss_one (ls_ret (lm_lst (la_cons (lm_ix ix_seq s_ix (lm_var 0) (lm_var 1)) (la_cons (lm_ix ix_seq s_ix (lm_var 0) (lm_var 1)) (la_cons (lm_c (.int 0) pe_int) la_nil))))))
 lss_nil)
 (lss_cons (ls_set (i := 2) S__law_source.nd rfl (Or.inl rfl) (lm_call (x := "_law_mixed") (dvs := []) D__law_mixed 0 (by decide) (hr.mono (by decide)) rfl tk (la_cons (lm_call (x := "_law_cell_at") (dvs := []) D__law_cell_at 0 (by decide) (hr.mono (by decide)) rfl tk (la_cons (lm_var 0) (la_cons (lm_c (.int 0) pe_int) la_nil))) (la_cons (lm_op op_addA s_add (lm_c (.int 1000) pe_int) (lm_var 1)) la_nil))))
 (lss_one (ls_ret (lm_lst (la_cons (lm_var 2) (la_cons (lm_var 2) (la_cons (lm_c (.int 0) pe_int) la_nil))))))))
abbrev s__law_windows : Stmt := topS 24
abbrev N__law_windows : List Str := ["source", "high", "found", "turn", "first", "last"]
theorem S__law_windows : FnScope N__law_windows ["source", "high"] (defScope s__law_windows) := ⟨rfl, rfl, rfl, by decide +kernel, rfl, by decide +kernel, by decide +kernel⟩
theorem ok__law_windows (T : Txt K mg c) (F : FunD K "_law_windows" "_law_windows" (defArgs s__law_windows) (defBody s__law_windows) (defScope s__law_windows) [] [] f fd) (hm : mg "_law_windows" = some (.ref f)) (D__law_next : ∀ [LamT], Df P w K mg base 2 "_law_next" 2 [] (m_law_next c)) : ∀ [LamT], Df P w K mg base 3 "_law_windows" 2 [] (m_law_windows c) := by
 intro I
 obtain rfl := T.kk
 exact df0 (N := N__law_windows) (mb := b_law_windows c) F S__law_windows hm (fun _ _ _ _ _ _ us hl => match us, hl with | [_, _], _ => rfl) fun cdv A outer s H E hr tk hp hu =>
 (lss_cons (ls_set (i := 2) S__law_windows.nd rfl (Or.inl rfl) (lm_lst la_nil))
 (lss_cons (ls_for hp rfl (li_rng1 rfl T.b_range (la_cons (lm_call (x := "_law_next") (dvs := []) D__law_next 0 (by decide) (hr.mono (by decide)) rfl tk (la_cons (lm_var 0) (la_cons (lm_c (.int 7) pe_int) la_nil))) la_nil)) (pg_name (i := 3) S__law_windows.nd rfl (Or.inl rfl)) (sg_nm 3)
 (lss_cons (ls_set (i := 4) S__law_windows.nd rfl (Or.inl rfl) (lm_call (x := "_law_next") (dvs := []) D__law_next 0 (by decide) (hr.mono (by decide)) rfl tk (la_cons (lm_var 0) (la_cons (lm_var 1) la_nil))))
 (lss_cons (ls_set (i := 5) S__law_windows.nd rfl (Or.inl rfl) (lm_op op_addA s_add (lm_var 4) (lm_ix ix_seq s_ix (lm_lst (la_cons (lm_c (.int 0) pe_int) (la_cons (lm_c (.int 1) pe_int) (la_cons (lm_call (x := "_law_next") (dvs := []) D__law_next 0 (by decide) (hr.mono (by decide)) rfl tk (la_cons (lm_var 0) (la_cons (lm_c (.int 6) pe_int) la_nil))) (la_cons (lm_call (x := "_law_next") (dvs := []) D__law_next 0 (by decide) (hr.mono (by decide)) rfl tk (la_cons (lm_var 0) (la_cons (lm_var 1) la_nil))) la_nil))))) (lm_call (x := "_law_next") (dvs := []) D__law_next 0 (by decide) (hr.mono (by decide)) rfl tk (la_cons (lm_var 0) (la_cons (lm_c (.int 4) pe_int) la_nil))))))
 (lss_one (ls_expr (lm_mL PySem.F.slot_list_append PySem.F.type_list_append mt_append s_append (lm_var 2) (la_cons (lm_tup (la_cons (lm_var 4) (la_cons (lm_var 5) la_nil))) la_nil)))))))
 (lss_one (ls_ret (lm_op op_addA s_add (lm_var 2) (lm_sl (lm_var 2) lo_none (lo_some (lm_call (x := "_law_next") (dvs := []) D__law_next 0 (by decide) (hr.mono (by decide)) rfl tk (la_cons (lm_var 0) (la_cons (lm_c (.int 2) pe_int) la_nil))))))))))
abbrev s_is_whole : Stmt := topS 7
abbrev N_is_whole : List Str := ["thing", "least"]
theorem S_is_whole : FnScope N_is_whole ["thing", "least"] (defScope s_is_whole) := ⟨rfl, rfl, rfl, by decide +kernel, rfl, by decide +kernel, by decide +kernel⟩
theorem ok_is_whole (T : Txt K mg c) (F : FunD K "is_whole" "is_whole" (defArgs s_is_whole) (defBody s_is_whole) (defScope s_is_whole) [V.non] [] f fd) (hm : mg "is_whole" = some (.ref f))  : ∀ [LamT], Df P w K mg base 1 "is_whole" 2 [.non] (m_is_whole c) := by
 intro I
 obtain rfl := T.kk
 exact dfD (N := N_is_whole) (mb := b_is_whole c) F S_is_whole hm rfl rfl rfl (fun j hj => match j, hj with | 0, _ => F.binds1 1 0 (by decide) rfl (fun _ _ _ _ _ _ _ us its h1 h2 => match us, its, h1, h2 with | [_], [_], _, _ => ⟨_, rfl, rfl⟩) | 1, _ => F.binds1 2 1 (by decide) rfl (fun _ _ _ _ _ _ _ us its h1 h2 => match us, its, h1, h2 with | [_, _], [_], _, _ => ⟨_, rfl, rfl⟩)) fun cdv A outer s H E hr tk hp hu =>
 (lss_one (ls_ret (lm_and (lm_callB call_isi s_isi rfl T.b_isinstance (by decide +kernel) (la_cons (lm_var 0) (la_cons (lm_c (.ty "int") (pe_bltn (v := .ty "int") rfl T.b_int (by decide +kernel) rfl)) la_nil))) (lm_and (lm_not (lm_callB call_isi s_isi rfl T.b_isinstance (by decide +kernel) (la_cons (lm_var 0) (la_cons (lm_c (.ty "bool") (pe_bltn (v := .ty "bool") rfl T.b_bool (by decide +kernel) rfl)) la_nil)))) (lm_one (lm_or (lm_cmp op_isN s_isN (lm_var 1) (lm_c .non pe_non)) (lm_one (lm_cmp op_ge s_ge (lm_var 0) (lm_var 1)))))))))
abbrev s_check_cycle : Stmt := topS 9
abbrev N_check_cycle : List Str := ["cycle", "least"]
theorem S_check_cycle : FnScope N_check_cycle ["cycle", "least"] (defScope s_check_cycle) := ⟨rfl, rfl, rfl, by decide +kernel, rfl, by decide +kernel, by decide +kernel⟩
theorem ok_check_cycle (T : Txt K mg c) (F : FunD K "check_cycle" "check_cycle" (defArgs s_check_cycle) (defBody s_check_cycle) (defScope s_check_cycle) [(V.int 0)] [] f fd) (hm : mg "check_cycle" = some (.ref f)) (D_is_whole : ∀ [LamT], Df P w K mg base 1 "is_whole" 2 [.non] (m_is_whole c)) : ∀ [LamT], Df P w K mg base 2 "check_cycle" 2 [(.int 0)] (m_check_cycle c) := by
 intro I
 obtain rfl := T.kk
 exact dfD (N := N_check_cycle) (mb := b_check_cycle c) F S_check_cycle hm rfl rfl rfl (fun j hj => match j, hj with | 0, _ => F.binds1 1 0 (by decide) rfl (fun _ _ _ _ _ _ _ us its h1 h2 => match us, its, h1, h2 with | [_], [_], _, _ => ⟨_, rfl, rfl⟩) | 1, _ => F.binds1 2 1 (by decide) rfl (fun _ _ _ _ _ _ _ us its h1 h2 => match us, its, h1, h2 with | [_, _], [_], _, _ => ⟨_, rfl, rfl⟩)) fun cdv A outer s H E hr tk hp hu =>
 (lss_one (ls_if (lt_not (lt_val (lm_call (x := "is_whole") (dvs := [.non]) D_is_whole 1 (by decide) (hr.mono (by decide)) rfl tk (la_cons (lm_var 0) (la_cons (lm_var 1) la_nil)))))
 (lss_one (ls_raise rfl tk PySem.F.excBase_ValueError T.x_NoCycle.q T.x_NoCycle.g T.x_NoCycle.k (raises_own T.x_NoCycle.b T.x_NoCycle.t) rfl))
 lss_nil))
abbrev s_is_stretch : Stmt := topS 12
abbrev N_is_stretch : List Str := ["thing"]
theorem S_is_stretch : FnScope N_is_stretch ["thing"] (defScope s_is_stretch) := ⟨rfl, rfl, rfl, by decide +kernel, rfl, by decide +kernel, by decide +kernel⟩
theorem ok_is_stretch (T : Txt K mg c) (F : FunD K "is_stretch" "is_stretch" (defArgs s_is_stretch) (defBody s_is_stretch) (defScope s_is_stretch) [] [] f fd) (hm : mg "is_stretch" = some (.ref f)) (D_is_whole : ∀ [LamT], Df P w K mg base 1 "is_whole" 2 [.non] (m_is_whole c)) : ∀ [LamT], Df P w K mg base 2 "is_stretch" 1 [] (m_is_stretch c) := by
 intro I
 obtain rfl := T.kk
 exact df0 (N := N_is_stretch) (mb := b_is_stretch c) F S_is_stretch hm (fun _ _ _ _ _ _ us hl => match us, hl with | [_], _ => rfl) fun cdv A outer s H E hr tk hp hu =>
 (lss_one (ls_ret (lm_and (lm_callB call_isi s_isi rfl T.b_isinstance (by decide +kernel) (la_cons (lm_var 0) (la_cons (lm_c (.ty "tuple") (pe_bltn (v := .ty "tuple") rfl T.b_tuple (by decide +kernel) rfl)) la_nil))) (lm_and (lm_cmp (op_eqX hu) s_eq (lm_callB call_lenA s_len rfl T.b_len (by decide +kernel) (la_cons (lm_var 0) la_nil)) (lm_c (.int 2) pe_int)) (lm_and (lm_call (x := "is_whole") (dvs := [.non]) D_is_whole 1 (by decide) (hr.mono (by decide)) rfl tk (la_cons (lm_ix ix_seq s_ix (lm_var 0) (lm_c (.int 0) pe_int)) (la_cons (lm_c (.int 0) pe_int) la_nil))) (lm_one (lm_call (x := "is_whole") (dvs := [.non]) D_is_whole 1 (by decide) (hr.mono (by decide)) rfl tk (la_cons (lm_ix ix_seq s_ix (lm_var 0) (lm_c (.int 1) pe_int)) (la_cons (lm_ix ix_seq s_ix (lm_var 0) (lm_c (.int 0) pe_int)) la_nil)))))))))
abbrev s_check_frame : Stmt := topS 13
abbrev N_check_frame : List Str := ["span", "windows", "begin", "until", "one"]
theorem S_check_frame : FnScope N_check_frame ["span", "windows", "begin", "until"] (defScope s_check_frame) := ⟨rfl, rfl, rfl, by decide +kernel, rfl, by decide +kernel, by decide +kernel⟩
theorem ok_check_frame (T : Txt K mg c) (F : FunD K "check_frame" "check_frame" (defArgs s_check_frame) (defBody s_check_frame) (defScope s_check_frame) [] [] f fd) (hm : mg "check_frame" = some (.ref f)) (D_check_cycle : ∀ [LamT], Df P w K mg base 2 "check_cycle" 2 [(.int 0)] (m_check_cycle c)) (D_is_stretch : ∀ [LamT], Df P w K mg base 2 "is_stretch" 1 [] (m_is_stretch c)) (D_is_whole : ∀ [LamT], Df P w K mg base 1 "is_whole" 2 [.non] (m_is_whole c)) : ∀ [LamT], Df P w K mg base 3 "check_frame" 4 [] (m_check_frame c) := by
 intro I
 obtain rfl := T.kk
 exact df0 (N := N_check_frame) (mb := b_check_frame c) F S_check_frame hm (fun _ _ _ _ _ _ us hl => match us, hl with | [_, _, _, _], _ => rfl) fun cdv A outer s H E hr tk hp hu =>
 (lss_cons (ls_if (lt_not (lt_val (lm_call (x := "is_whole") (dvs := [.non]) D_is_whole 1 (by decide) (hr.mono (by decide)) rfl tk (la_cons (lm_var 0) (la_cons (lm_c (.int 1) pe_int) la_nil)))))
 (lss_one (ls_raise rfl tk PySem.F.excBase_ValueError T.x_NoSpan.q T.x_NoSpan.g T.x_NoSpan.k (raises_own T.x_NoSpan.b T.x_NoSpan.t) rfl))
 lss_nil)
 (lss_cons (ls_if (PW.pt (lw_or (lt_not (lt_val (lm_callB call_isi s_isi rfl T.b_isinstance (by decide +kernel) (la_cons (lm_var 1) (la_cons (lm_c (.ty "list") (pe_bltn (v := .ty "list") rfl T.b_list (by decide +kernel) rfl)) la_nil))))) (lw_or1 (lt_not (lt_val (lm_callB (cr_all rfl) s_all rfl T.b_all (by decide +kernel) (la_cons (lm_lc (own := [("one", 4)]) rfl S_check_frame.nd (li_lst (lm_var 1)) (blkOk_by (own := [("one", 4)]) (N := N_check_frame) (sc := defScope s_check_frame) (by decide +kernel)) (sg_nm 4) (by decide) (fun _ _ _ _ _ => (pg_name (i := 4) S_check_frame.nd rfl (Or.inl rfl))) (fun _ _ _ _ _ => lts_nil) (fun _ _ _ _ _ => (lm_call (x := "is_stretch") (dvs := []) D_is_stretch 0 (by decide) (hr.mono (by decide)) rfl takes0 (la_cons (lm_var 4) la_nil)))) la_nil)))))))
 (lss_one (ls_raise rfl tk PySem.F.excBase_ValueError T.x_NoWindow.q T.x_NoWindow.g T.x_NoWindow.k (raises_own T.x_NoWindow.b T.x_NoWindow.t) rfl))
 lss_nil)
 (lss_cons (ls_expr (lm_call (x := "check_cycle") (dvs := [(.int 0)]) D_check_cycle 0 (by decide) (hr.mono (by decide)) rfl tk (la_cons (lm_var 2) la_nil)))
 (lss_one (ls_expr (lm_call (x := "check_cycle") (dvs := [(.int 0)]) D_check_cycle 1 (by decide) (hr.mono (by decide)) rfl tk (la_cons (lm_var 3) (la_cons (lm_var 2) la_nil))))))))
abbrev s_open_ends : Stmt := topS 15
abbrev N_open_ends : List Str := ["windows", "look", "until", "first", "last"]
theorem S_open_ends : FnScope N_open_ends ["windows", "look", "until"] (defScope s_open_ends) := ⟨rfl, rfl, rfl, by decide +kernel, rfl, by decide +kernel, by decide +kernel⟩
theorem ok_open_ends (T : Txt K mg c) (F : FunD K "open_ends" "open_ends" (defArgs s_open_ends) (defBody s_open_ends) (defScope s_open_ends) [] [] f fd) (hm : mg "open_ends" = some (.ref f))  : ∀ [LamT], Df P w K mg base 1 "open_ends" 3 [] (m_open_ends c) := by
 intro I
 obtain rfl := T.kk
 exact df0 (N := N_open_ends) (mb := b_open_ends c) F S_open_ends hm (fun _ _ _ _ _ _ us hl => match us, hl with | [_, _, _], _ => rfl) fun cdv A outer s H E hr tk hp hu =>
 (lss_one (ls_ret (lm_lc (own := [("first", 3), ("last", 4)]) rfl S_open_ends.nd (li_lst (lm_var 0)) (blkOk_by (own := [("first", 3), ("last", 4)]) (N := N_open_ends) (sc := defScope s_open_ends) (by decide +kernel)) (sg_tup (sg_cons (sg_nm 3) (sg_cons (sg_nm 4) sg_nil))) (by decide) (fun _ _ _ _ _ => (pg_tup rfl (pgs_cons (pg_name (i := 3) S_open_ends.nd rfl (Or.inl rfl)) (pgs_cons (pg_name (i := 4) S_open_ends.nd rfl (Or.inl rfl)) pgs_nil)))) (fun _ _ _ _ _ => lts_one (PW.pt (lw_and (lt_cmp op_gt s_gt (lm_var 3) (lm_var 1)) (lw_and1 (lt_cmp op_lt s_lt (lm_var 4) (lm_var 2)))))) (fun _ _ _ _ _ => (lm_var 4)))))
abbrev s_fewest : Stmt := topS 16
abbrev N_fewest : List Str := ["span", "windows", "begin", "until", "found", "look", "ends"]
theorem S_fewest : FnScope N_fewest ["span", "windows", "begin", "until"] (defScope s_fewest) := ⟨rfl, rfl, rfl, by decide +kernel, rfl, by decide +kernel, by decide +kernel⟩
theorem ok_fewest (T : Txt K mg c) (F : FunD K "fewest" "fewest" (defArgs s_fewest) (defBody s_fewest) (defScope s_fewest) [] [] f fd) (hm : mg "fewest" = some (.ref f)) (D_check_frame : ∀ [LamT], Df P w K mg base 3 "check_frame" 4 [] (m_check_frame c)) (D_open_ends : ∀ [LamT], Df P w K mg base 1 "open_ends" 3 [] (m_open_ends c)) : ∀ [LamT], Df P w K mg base 4 "fewest" 4 [] (m_fewest c) := by
 intro I
 obtain rfl := T.kk
 exact df0 (N := N_fewest) (mb := b_fewest c) F S_fewest hm (fun _ _ _ _ _ _ us hl => match us, hl with | [_, _, _, _], _ => rfl) fun cdv A outer s H E hr tk hp hu =>
 (lss_cons (ls_expr (lm_call (x := "check_frame") (dvs := []) D_check_frame 0 (by decide) (hr.mono (by decide)) rfl tk (la_cons (lm_var 0) (la_cons (lm_var 1) (la_cons (lm_var 2) (la_cons (lm_var 3) la_nil))))))
 (lss_cons (ls_set (i := 4) S_fewest.nd rfl (Or.inl rfl) (lm_lst la_nil))
 (lss_cons (ls_set (i := 5) S_fewest.nd rfl (Or.inl rfl) (lm_var 2))
 (lss_one (ls_while 1000000 hp (lt_val (lm_c (.bl true) pe_bl))
 (lss_cons (ls_set (i := 6) S_fewest.nd rfl (Or.inl rfl) (lm_call (x := "open_ends") (dvs := []) D_open_ends 0 (by decide) (hr.mono (by decide)) rfl tk (la_cons (lm_var 1) (la_cons (lm_var 5) (la_cons (lm_var 3) la_nil)))))
 (lss_cons (ls_if (PW.pt (lw_and (lt_cmp (op_eqX hu) s_eq (lm_var 6) (lm_lst la_nil)) (lw_and1 (lt_cmp op_le s_le (lm_op op_sub s_sub (lm_var 3) (lm_var 5)) (lm_var 0)))))
 (lss_one (ls_ret (lm_var 4)))
 lss_nil)
 (lss_cons (ls_set (i := 5) S_fewest.nd rfl (Or.inl rfl) (lm_callB (cr_min rfl) s_min1 rfl T.b_min (by decide +kernel) (la_cons (lm_op op_addA s_add (lm_var 6) (lm_lst (la_cons (lm_op op_addA s_add (lm_var 5) (lm_var 0)) la_nil))) la_nil)))
 (lss_cons (ls_expr (lm_mL PySem.F.slot_list_append PySem.F.type_list_append mt_append s_append (lm_var 4) (la_cons (lm_var 5) la_nil)))
 (lss_one (ls_if (lt_cmp op_gt s_gt (lm_callB call_lenA s_len rfl T.b_len (by decide +kernel) (la_cons (lm_var 4) la_nil)) (lm_c (.int 2000) (lg_glob T.g_MOST_LOOKS rfl)))
 (lss_one (ls_raise rfl tk PySem.F.excBase_ValueError T.x_TooMany.q T.x_TooMany.g T.x_TooMany.k (raises_own T.x_TooMany.b T.x_TooMany.t) rfl))
 lss_nil)))))))))))
abbrev s_is_looks : Stmt := topS 14
abbrev N_is_looks : List Str := ["thing", "begin", "until", "one", "other"]
theorem S_is_looks : FnScope N_is_looks ["thing", "begin", "until"] (defScope s_is_looks) := ⟨rfl, rfl, rfl, by decide +kernel, rfl, by decide +kernel, by decide +kernel⟩
theorem ok_is_looks (T : Txt K mg c) (F : FunD K "is_looks" "is_looks" (defArgs s_is_looks) (defBody s_is_looks) (defScope s_is_looks) [] [] f fd) (hm : mg "is_looks" = some (.ref f)) (D_is_whole : ∀ [LamT], Df P w K mg base 1 "is_whole" 2 [.non] (m_is_whole c)) : ∀ [LamT], Df P w K mg base 2 "is_looks" 3 [] (m_is_looks c) := by
 intro I
 obtain rfl := T.kk
 exact df0 (N := N_is_looks) (mb := b_is_looks c) F S_is_looks hm (fun _ _ _ _ _ _ us hl => match us, hl with | [_, _, _], _ => rfl) fun cdv A outer s H E hr tk hp hu =>
 (lss_cons (ls_if (PW.pt (lw_or (lt_not (lt_val (lm_callB call_isi s_isi rfl T.b_isinstance (by decide +kernel) (la_cons (lm_var 0) (la_cons (lm_c (.ty "list") (pe_bltn (v := .ty "list") rfl T.b_list (by decide +kernel) rfl)) la_nil))))) (lw_or1 (lt_not (lt_val (lm_callB (cr_all rfl) s_all rfl T.b_all (by decide +kernel) (la_cons (lm_lc (own := [("one", 3)]) rfl S_is_looks.nd (li_lst (lm_var 0)) (blkOk_by (own := [("one", 3)]) (N := N_is_looks) (sc := defScope s_is_looks) (by decide +kernel)) (sg_nm 3) (by decide) (fun _ _ _ _ _ => (pg_name (i := 3) S_is_looks.nd rfl (Or.inl rfl))) (fun _ _ _ _ _ => lts_nil) (fun _ _ _ _ _ => (lm_and (lm_call (x := "is_whole") (dvs := [.non]) D_is_whole 1 (by decide) (hr.mono (by decide)) rfl takes0 (la_cons (lm_var 3) (la_cons (lm_op op_addA s_add (lm_var 1) (lm_c (.int 1) pe_int)) la_nil))) (lm_one (lm_cmp op_lt s_lt (lm_var 3) (lm_var 2)))))) la_nil)))))))
 (lss_one (ls_ret (lm_c (.bl false) pe_bl)))
 lss_nil)
 (lss_one (ls_ret (lm_callB (cr_all rfl) s_all rfl T.b_all (by decide +kernel) (la_cons (lm_lc (own := [("one", 3), ("other", 4)]) rfl S_is_looks.nd (li_zip rfl T.b_zip (la_cons (lm_var 0) (la_cons (lm_sl (lm_var 0) (lo_some (lm_c (.int 1) pe_int)) lo_none) la_nil))) (blkOk_by (own := [("one", 3), ("other", 4)]) (N := N_is_looks) (sc := defScope s_is_looks) (by decide +kernel)) (sg_tup (sg_cons (sg_nm 3) (sg_cons (sg_nm 4) sg_nil))) (by decide) (fun _ _ _ _ _ => (pg_tup rfl (pgs_cons (pg_name (i := 3) S_is_looks.nd rfl (Or.inl rfl)) (pgs_cons (pg_name (i := 4) S_is_looks.nd rfl (Or.inl rfl)) pgs_nil)))) (fun _ _ _ _ _ => lts_nil) (fun _ _ _ _ _ => (lm_cmp op_lt s_lt (lm_var 3) (lm_var 4)))) la_nil)))))
abbrev s_suffices : Stmt := topS 17
abbrev N_suffices : List Str := ["span", "windows", "begin", "until", "looks", "whole", "served", "due", "one", "other", "first", "last", "look"]
theorem S_suffices : FnScope N_suffices ["span", "windows", "begin", "until", "looks"] (defScope s_suffices) := ⟨rfl, rfl, rfl, by decide +kernel, rfl, by decide +kernel, by decide +kernel⟩
theorem ok_suffices (T : Txt K mg c) (F : FunD K "suffices" "suffices" (defArgs s_suffices) (defBody s_suffices) (defScope s_suffices) [] [] f fd) (hm : mg "suffices" = some (.ref f))  : ∀ [LamT], Df P w K mg base 1 "suffices" 5 [] (m_suffices c) := by
 intro I
 obtain rfl := T.kk
 exact df0 (N := N_suffices) (mb := b_suffices c) F S_suffices hm (fun _ _ _ _ _ _ us hl => match us, hl with | [_, _, _, _, _], _ => rfl) fun cdv A outer s H E hr tk hp hu =>
 (lss_cons (ls_set (i := 5) S_suffices.nd rfl (Or.inl rfl) (lm_op op_addA s_add (lm_op op_addA s_add (lm_lst (la_cons (lm_var 2) la_nil)) (lm_var 4)) (lm_lst (la_cons (lm_var 3) la_nil))))
 (lss_cons (ls_if (lt_not (lt_val (lm_callB (cr_all rfl) s_all rfl T.b_all (by decide +kernel) (la_cons (lm_lc (own := [("one", 8), ("other", 9)]) rfl S_suffices.nd (li_zip rfl T.b_zip (la_cons (lm_var 5) (la_cons (lm_sl (lm_var 5) (lo_some (lm_c (.int 1) pe_int)) lo_none) la_nil))) (blkOk_by (own := [("one", 8), ("other", 9)]) (N := N_suffices) (sc := defScope s_suffices) (by decide +kernel)) (sg_tup (sg_cons (sg_nm 8) (sg_cons (sg_nm 9) sg_nil))) (by decide) (fun _ _ _ _ _ => (pg_tup rfl (pgs_cons (pg_name (i := 8) S_suffices.nd rfl (Or.inl rfl)) (pgs_cons (pg_name (i := 9) S_suffices.nd rfl (Or.inl rfl)) pgs_nil)))) (fun _ _ _ _ _ => lts_nil) (fun _ _ _ _ _ => (lm_cmp op_le s_le (lm_op op_sub s_sub (lm_var 9) (lm_var 8)) (lm_var 0)))) la_nil))))
 (lss_one (ls_ret (lm_c (.bl false) pe_bl)))
 lss_nil)
 (lss_cons (ls_set (i := 6) S_suffices.nd rfl (Or.inr rfl) (lm_op op_addA s_add (lm_lst (la_cons (lm_var 2) la_nil)) (lm_var 4)))
 (lss_cons (ls_lc (own := [("first", 10), ("last", 11)]) (i := 7) rfl S_suffices.nd rfl rfl (sw_true rfl rfl rfl (by decide +kernel)) (li_lst (lm_var 1)) (blkOk_by (own := [("first", 10), ("last", 11)]) (N := N_suffices) (sc := defScope s_suffices) (by decide +kernel)) (sg_tup (sg_cons (sg_nm 10) (sg_cons (sg_nm 11) sg_nil))) (by decide) (fun _ _ _ _ _ => (pg_tup rfl (pgs_cons (pg_name (i := 10) S_suffices.nd rfl (Or.inl rfl)) (pgs_cons (pg_name (i := 11) S_suffices.nd rfl (Or.inl rfl)) pgs_nil)))) (fun _ _ _ _ _ => lts_one (lt_chain op_le s_le op_lt s_lt (lm_var 2) (lm_var 11) (lm_var 3))) (fun _ _ _ _ _ => (lm_tup (la_cons (lm_var 10) (la_cons (lm_var 11) la_nil)))))
 (lss_one (ls_ret (lm_callB (cr_all rfl) s_all rfl T.b_all (by decide +kernel) (la_cons (lm_lc (own := [("first", 10), ("last", 11)]) rfl S_suffices.nd (li_lst (lm_var 7)) (blkOk_by (own := [("first", 10), ("last", 11)]) (N := N_suffices) (sc := defScope s_suffices) (by decide +kernel)) (sg_tup (sg_cons (sg_nm 10) (sg_cons (sg_nm 11) sg_nil))) (by decide) (fun _ _ _ _ _ => (pg_tup rfl (pgs_cons (pg_name (i := 10) S_suffices.nd rfl (Or.inr rfl)) (pgs_cons (pg_name (i := 11) S_suffices.nd rfl (Or.inr rfl)) pgs_nil)))) (fun _ _ _ _ _ => lts_nil) (fun _ _ _ _ _ => (lm_callB (cr_any rfl) s_any rfl T.b_any (by decide +kernel) (la_cons (lm_lc (own := [("look", 12)]) rfl S_suffices.nd (li_lst (lm_var 6)) (blkOk_by (own := [("look", 12)]) (N := N_suffices) (sc := { kind := .function, names := [(".0", .local), ("first", .cell), ("last", .cell), ("any", .globalImplicit), ("served", .cell)], isGenerator := false, isCoroutine := false }) (by decide +kernel)) (sg_nm 12) (by decide) (fun _ _ _ _ _ => (pg_name (i := 12) S_suffices.nd rfl (Or.inl rfl))) (fun _ _ _ _ _ => lts_nil) (fun _ _ _ _ _ => (lm_chain op_le s_le op_le s_le (lm_var 10) (lm_var 12) (lm_var 11)))) la_nil)))) la_nil))))))))
abbrev s_is_enough : Stmt := topS 18
abbrev N_is_enough : List Str := ["span", "windows", "begin", "until", "looks"]
theorem S_is_enough : FnScope N_is_enough ["span", "windows", "begin", "until", "looks"] (defScope s_is_enough) := ⟨rfl, rfl, rfl, by decide +kernel, rfl, by decide +kernel, by decide +kernel⟩
theorem ok_is_enough (T : Txt K mg c) (F : FunD K "is_enough" "is_enough" (defArgs s_is_enough) (defBody s_is_enough) (defScope s_is_enough) [] [] f fd) (hm : mg "is_enough" = some (.ref f)) (D_check_frame : ∀ [LamT], Df P w K mg base 3 "check_frame" 4 [] (m_check_frame c)) (D_is_looks : ∀ [LamT], Df P w K mg base 2 "is_looks" 3 [] (m_is_looks c)) (D_suffices : ∀ [LamT], Df P w K mg base 1 "suffices" 5 [] (m_suffices c)) : ∀ [LamT], Df P w K mg base 4 "is_enough" 5 [] (m_is_enough c) := by
 intro I
 obtain rfl := T.kk
 exact df0 (N := N_is_enough) (mb := b_is_enough c) F S_is_enough hm (fun _ _ _ _ _ _ us hl => match us, hl with | [_, _, _, _, _], _ => rfl) fun cdv A outer s H E hr tk hp hu =>
 (lss_cons (ls_expr (lm_call (x := "check_frame") (dvs := []) D_check_frame 0 (by decide) (hr.mono (by decide)) rfl tk (la_cons (lm_var 0) (la_cons (lm_var 1) (la_cons (lm_var 2) (la_cons (lm_var 3) la_nil))))))
 (lss_one (ls_ret (lm_and (lm_call (x := "is_looks") (dvs := []) D_is_looks 0 (by decide) (hr.mono (by decide)) rfl tk (la_cons (lm_var 4) (la_cons (lm_var 2) (la_cons (lm_var 3) la_nil)))) (lm_one (lm_call (x := "suffices") (dvs := []) D_suffices 0 (by decide) (hr.mono (by decide)) rfl tk (la_cons (lm_var 0) (la_cons (lm_var 1) (la_cons (lm_var 2) (la_cons (lm_var 3) (la_cons (lm_var 4) la_nil)))))))))))
abbrev s_law : Stmt := topS 28
abbrev N_law : List Str := ["script", "k", "source", "begin_at", "end_at", "span", "windows_in", "best", "every", "lists_in", "turn", "some", "kept", "due", "told", "look"]
theorem S_law : FnScope N_law ["script"] (defScope s_law) := ⟨rfl, rfl, rfl, by decide +kernel, rfl, by decide +kernel, by decide +kernel⟩
theorem ok_law (T : Txt K mg c) (F : FunD K "law" "law" (defArgs s_law) (defBody s_law) (defScope s_law) [] [] f fd) (D__law_bent : ∀ [LamT], Df P w K mg base 3 "_law_bent" 3 [] (m_law_bent c)) (D__law_enough : ∀ [LamT], Df P w K mg base 1 "_law_enough" 5 [] (m_law_enough c)) (D__law_is_looks : ∀ [LamT], Df P w K mg base 1 "_law_is_looks" 3 [] (m_law_is_looks c)) (D__law_next : ∀ [LamT], Df P w K mg base 2 "_law_next" 2 [] (m_law_next c)) (D__law_source : ∀ [LamT], Df P w K mg base 2 "_law_source" 2 [] (m_law_source c)) (D__law_windows : ∀ [LamT], Df P w K mg base 3 "_law_windows" 2 [] (m_law_windows c)) (D_fewest : ∀ [LamT], Df P w K mg base 4 "fewest" 4 [] (m_fewest c)) (D_is_enough : ∀ [LamT], Df P w K mg base 4 "is_enough" 5 [] (m_is_enough c)) : ∀ [LamT], FnOkG P w K mg base (L2.CX P w) 5 f fd ["script"] (spM K 1 (m_law c)) := by
 intro I
 obtain rfl := T.kk
 exact df_fnG (N := N_law) (ps := ["script"]) (k := 4) (mb := b_law c) F S_law fun cdv A outer s H E hgd hr tk hp hu =>
 (lss_cons (ls_for hp rfl (li_rng1 rfl T.b_range (la_cons (lm_callB (call_max2 rfl) s_max2 rfl T.b_max (by decide +kernel) (la_cons (lm_c (.int 1) pe_int) (la_cons (lm_callB (call_min2 rfl) s_min2 rfl T.b_min (by decide +kernel) (la_cons (lm_c (.int 8) pe_int) (la_cons (lm_callB call_lenA s_len rfl T.b_len (by decide +kernel) (la_cons (lm_var 0) la_nil)) la_nil))) la_nil))) la_nil)) (pg_name (i := 1) S_law.nd rfl (Or.inl rfl)) (sg_nm 1)
 (lss_cons (ls_set (i := 2) S_law.nd rfl (Or.inr rfl) (lm_call (x := "_law_source") (dvs := []) D__law_source 0 (by decide) (hr.mono (by decide)) rfl tk (la_cons (lm_var 0) (la_cons (lm_var 1) la_nil))))
 (lss_cons (ls_set (i := 3) S_law.nd rfl (Or.inl rfl) (lm_call (x := "_law_next") (dvs := []) D__law_next 0 (by decide) (hr.mono (by decide)) rfl tk (la_cons (lm_var 2) (la_cons (lm_c (.int 9) pe_int) la_nil))))
 (lss_cons (ls_set (i := 4) S_law.nd rfl (Or.inl rfl) (lm_op op_addA s_add (lm_var 3) (lm_call (x := "_law_next") (dvs := []) D__law_next 0 (by decide) (hr.mono (by decide)) rfl tk (la_cons (lm_var 2) (la_cons (lm_c (.int 30) pe_int) la_nil)))))
 (lss_cons (ls_set (i := 5) S_law.nd rfl (Or.inl rfl) (lm_ix ix_seq s_ix (lm_lst (la_cons (lm_op op_addA s_add (lm_c (.int 1) pe_int) (lm_call (x := "_law_next") (dvs := []) D__law_next 0 (by decide) (hr.mono (by decide)) rfl tk (la_cons (lm_var 2) (la_cons (lm_c (.int 5) pe_int) la_nil)))) (la_cons (lm_op op_addA s_add (lm_c (.int 4) pe_int) (lm_call (x := "_law_next") (dvs := []) D__law_next 0 (by decide) (hr.mono (by decide)) rfl tk (la_cons (lm_var 2) (la_cons (lm_c (.int 30) pe_int) la_nil)))) (la_cons (lm_op op_pow s_pow (lm_c (.int 10) pe_int) (lm_c (.int 50) pe_int)) la_nil)))) (lm_call (x := "_law_next") (dvs := []) D__law_next 0 (by decide) (hr.mono (by decide)) rfl tk (la_cons (lm_var 2) (la_cons (lm_c (.int 3) pe_int) la_nil)))))
 (lss_cons (ls_set (i := 6) S_law.nd rfl (Or.inl rfl) (lm_call (x := "_law_windows") (dvs := []) D__law_windows 0 (by decide) (hr.mono (by decide)) rfl tk (la_cons (lm_var 2) (la_cons (lm_op op_addA s_add (lm_var 4) (lm_c (.int 2) pe_int)) la_nil))))
 (lss_cons (ls_set (i := 7) S_law.nd rfl (Or.inl rfl) (lm_call (x := "fewest") (dvs := []) D_fewest 0 (by decide) (hr.mono (by decide)) rfl tk (la_cons (lm_var 5) (la_cons (lm_var 6) (la_cons (lm_var 3) (la_cons (lm_var 4) la_nil))))))
 (lss_cons (ls_set (i := 8) S_law.nd rfl (Or.inl rfl) (lm_lrg rfl rfl T.b_list rfl T.b_range (lm_op op_addA s_add (lm_var 3) (lm_c (.int 1) pe_int)) (lm_var 4)))
 (lss_cons (ls_set (i := 9) S_law.nd rfl (Or.inl rfl) (lm_lst (la_cons (lm_var 7) (la_cons (lm_var 8) (la_cons (lm_lst la_nil) (la_cons (lm_lc (own := [("look", 15)]) rfl S_law.nd (li_lst (lm_var 8)) (blkOk_by (own := [("look", 15)]) (N := N_law) (sc := defScope s_law) (by decide +kernel)) (sg_nm 15) (by decide) (fun _ _ _ _ _ => (pg_name (i := 15) S_law.nd rfl (Or.inl rfl))) (fun _ _ _ _ _ => lts_one (lt_cmp op_gt s_gt (lm_call (x := "_law_next") (dvs := []) D__law_next 0 (by decide) (hr.mono (by decide)) rfl takes0 (la_cons (lm_var 2) (la_cons (lm_c (.int 3) pe_int) la_nil))) (lm_c (.int 0) pe_int))) (fun _ _ _ _ _ => (lm_var 15))) la_nil))))))
 (lss_cons (ls_for hp rfl (li_rng1 rfl T.b_range (la_cons (lm_c (.int 8) pe_int) la_nil)) (pg_name (i := 10) S_law.nd rfl (Or.inl rfl)) (sg_nm 10)
 (lss_one (ls_expr (lm_mL PySem.F.slot_list_append PySem.F.type_list_append mt_append s_append (lm_var 9) (la_cons (lm_call (x := "_law_bent") (dvs := []) D__law_bent 0 (by decide) (hr.mono (by decide)) rfl tk (la_cons (lm_var 2) (la_cons (lm_ix ix_seq s_ix (lm_var 9) (lm_call (x := "_law_next") (dvs := []) D__law_next 0 (by decide) (hr.mono (by decide)) rfl tk (la_cons (lm_var 2) (la_cons (lm_c (.int 4) pe_int) la_nil)))) (la_cons (lm_var 4) la_nil)))) la_nil)))))
 (lss_one (ls_for hp rfl (li_lst (lm_var 9)) (pg_name (i := 11) S_law.nd rfl (Or.inl rfl)) (sg_nm 11)
 (lss_cons (ls_set (i := 12) S_law.nd rfl (Or.inl rfl) (lm_callB (call_reprA hgd hu) s_repr rfl T.b_repr (by decide +kernel) (la_cons (lm_tup (la_cons (lm_var 6) (la_cons (lm_var 11) la_nil))) la_nil)))
 (lss_cons (ls_set (i := 13) S_law.nd rfl (Or.inl rfl) (lm_call (x := "_law_is_looks") (dvs := []) D__law_is_looks 0 (by decide) (hr.mono (by decide)) rfl tk (la_cons (lm_var 11) (la_cons (lm_var 3) (la_cons (lm_var 4) la_nil)))))
 (lss_cons (ls_if (lt_val (lm_var 13))
 (lss_one (ls_set (i := 13) S_law.nd rfl (Or.inl rfl) (lm_call (x := "_law_enough") (dvs := []) D__law_enough 0 (by decide) (hr.mono (by decide)) rfl tk (la_cons (lm_var 5) (la_cons (lm_var 6) (la_cons (lm_var 3) (la_cons (lm_var 4) (la_cons (lm_var 11) la_nil))))))))
 lss_nil)
 (lss_cons (ls_set (i := 14) S_law.nd rfl (Or.inl rfl) (lm_call (x := "is_enough") (dvs := []) D_is_enough 0 (by decide) (hr.mono (by decide)) rfl tk (la_cons (lm_var 5) (la_cons (lm_var 6) (la_cons (lm_var 3) (la_cons (lm_var 4) (la_cons (lm_var 11) la_nil)))))))
 (lss_one (ls_if (PW.pt (lw_or (lt_cmp (op_neX hu) s_ne (lm_var 14) (lm_var 13)) (lw_or (lt_not (lt_val (lm_callB call_isi s_isi rfl T.b_isinstance (by decide +kernel) (la_cons (lm_var 14) (la_cons (lm_c (.ty "bool") (pe_bltn (v := .ty "bool") rfl T.b_bool (by decide +kernel) rfl)) la_nil))))) (lw_or1 (lt_cmp (op_neX hu) s_ne (lm_callB (call_reprA hgd hu) s_repr rfl T.b_repr (by decide +kernel) (la_cons (lm_tup (la_cons (lm_var 6) (la_cons (lm_var 11) la_nil))) la_nil)) (lm_var 12))))))
 (lss_one (ls_ret (lm_c (.bl false) pe_bl)))
 lss_nil))))))))))))))))))
 (lss_one (ls_ret (lm_c (.bl true) pe_bl))))
end
end L3
namespace L3
open PySem PySem.Spec PyProof.Rows L2

theorem all_mk {P : Program} {w : World} {K : PySem.W.Frag} {h : Heap} {mg : Str → Option Value} {fa : Addr} (X : K.In h) (G : h.Ns mainGlobals mg) (hfa : mg "law" = some (.ref fa)) {f_law_mixed f_law_next f_law_bent f_law_enough f_law_is_looks f_law_cell_at f_law_source f_law_windows f_is_whole f_check_cycle f_is_stretch f_check_frame f_open_ends f_fewest f_is_looks f_suffices f_is_enough f_law C_KernelError C_NoCycle C_NoSpan C_NoWindow C_TooMany : Addr}
 {od_law_mixed an_law_mixed : Option Addr} {sl_law_mixed : Array (Option Value)} {oc_law_mixed kV_law_mixed dc_law_mixed pm_law_mixed cd_law_mixed ct_law_mixed : Value} {od_law_next an_law_next : Option Addr} {sl_law_next : Array (Option Value)} {oc_law_next kV_law_next dc_law_next pm_law_next cd_law_next ct_law_next : Value} {od_law_bent an_law_bent : Option Addr} {sl_law_bent : Array (Option Value)} {oc_law_bent kV_law_bent dc_law_bent pm_law_bent cd_law_bent ct_law_bent : Value} {od_law_enough an_law_enough : Option Addr} {sl_law_enough : Array (Option Value)} {oc_law_enough kV_law_enough dc_law_enough pm_law_enough cd_law_enough ct_law_enough : Value} {od_law_is_looks an_law_is_looks : Option Addr} {sl_law_is_looks : Array (Option Value)} {oc_law_is_looks kV_law_is_looks dc_law_is_looks pm_law_is_looks cd_law_is_looks ct_law_is_looks : Value} {od_law_cell_at an_law_cell_at : Option Addr} {sl_law_cell_at : Array (Option Value)} {oc_law_cell_at kV_law_cell_at dc_law_cell_at pm_law_cell_at cd_law_cell_at ct_law_cell_at : Value} {od_law_source an_law_source : Option Addr} {sl_law_source : Array (Option Value)} {oc_law_source kV_law_source dc_law_source pm_law_source cd_law_source ct_law_source : Value} {od_law_windows an_law_windows : Option Addr} {sl_law_windows : Array (Option Value)} {oc_law_windows kV_law_windows dc_law_windows pm_law_windows cd_law_windows ct_law_windows : Value} {od_is_whole an_is_whole : Option Addr} {sl_is_whole : Array (Option Value)} {oc_is_whole kV_is_whole dc_is_whole pm_is_whole cd_is_whole ct_is_whole : Value} {T_is_whole : Addr} {o_is_whole : Obj} {n_is_whole : Nat} {d0_is_whole : Value} {od_check_cycle an_check_cycle : Option Addr} {sl_check_cycle : Array (Option Value)} {oc_check_cycle kV_check_cycle dc_check_cycle pm_check_cycle cd_check_cycle ct_check_cycle : Value} {T_check_cycle : Addr} {o_check_cycle : Obj} {n_check_cycle : Nat} {d0_check_cycle : Value} {od_is_stretch an_is_stretch : Option Addr} {sl_is_stretch : Array (Option Value)} {oc_is_stretch kV_is_stretch dc_is_stretch pm_is_stretch cd_is_stretch ct_is_stretch : Value} {od_check_frame an_check_frame : Option Addr} {sl_check_frame : Array (Option Value)} {oc_check_frame kV_check_frame dc_check_frame pm_check_frame cd_check_frame ct_check_frame : Value} {od_open_ends an_open_ends : Option Addr} {sl_open_ends : Array (Option Value)} {oc_open_ends kV_open_ends dc_open_ends pm_open_ends cd_open_ends ct_open_ends : Value} {od_fewest an_fewest : Option Addr} {sl_fewest : Array (Option Value)} {oc_fewest kV_fewest dc_fewest pm_fewest cd_fewest ct_fewest : Value} {od_is_looks an_is_looks : Option Addr} {sl_is_looks : Array (Option Value)} {oc_is_looks kV_is_looks dc_is_looks pm_is_looks cd_is_looks ct_is_looks : Value} {od_suffices an_suffices : Option Addr} {sl_suffices : Array (Option Value)} {oc_suffices kV_suffices dc_suffices pm_suffices cd_suffices ct_suffices : Value} {od_is_enough an_is_enough : Option Addr} {sl_is_enough : Array (Option Value)} {oc_is_enough kV_is_enough dc_is_enough pm_is_enough cd_is_enough ct_is_enough : Value} {od_law an_law : Option Addr} {sl_law : Array (Option Value)} {oc_law kV_law dc_law pm_law cd_law ct_law : Value} {t_MOST_LOOKS : Tok}
(a_law_mixed : PySem.W.nsIn K mainGlobals "_law_mixed" = some (some (.ref f_law_mixed)))
 (l_law_mixed : K.lookup f_law_mixed = some ⟨oc_law_mixed, od_law_mixed, .func (PySem.W.fnOf "_law_mixed" "_law_mixed" (defArgs s__law_mixed) (defBody s__law_mixed) (defScope s__law_mixed) .none kV_law_mixed dc_law_mixed pm_law_mixed an_law_mixed cd_law_mixed ct_law_mixed), sl_law_mixed⟩)
 (c_law_mixed : PySem.W.codeIn K cd_law_mixed "_law_mixed" = true)
 (k_law_mixed : PySem.W.keepIn K (.ref f_law_mixed) = true)
 (a_law_next : PySem.W.nsIn K mainGlobals "_law_next" = some (some (.ref f_law_next)))
 (l_law_next : K.lookup f_law_next = some ⟨oc_law_next, od_law_next, .func (PySem.W.fnOf "_law_next" "_law_next" (defArgs s__law_next) (defBody s__law_next) (defScope s__law_next) .none kV_law_next dc_law_next pm_law_next an_law_next cd_law_next ct_law_next), sl_law_next⟩)
 (c_law_next : PySem.W.codeIn K cd_law_next "_law_next" = true)
 (k_law_next : PySem.W.keepIn K (.ref f_law_next) = true)
 (a_law_bent : PySem.W.nsIn K mainGlobals "_law_bent" = some (some (.ref f_law_bent)))
 (l_law_bent : K.lookup f_law_bent = some ⟨oc_law_bent, od_law_bent, .func (PySem.W.fnOf "_law_bent" "_law_bent" (defArgs s__law_bent) (defBody s__law_bent) (defScope s__law_bent) .none kV_law_bent dc_law_bent pm_law_bent an_law_bent cd_law_bent ct_law_bent), sl_law_bent⟩)
 (c_law_bent : PySem.W.codeIn K cd_law_bent "_law_bent" = true)
 (k_law_bent : PySem.W.keepIn K (.ref f_law_bent) = true)
 (a_law_enough : PySem.W.nsIn K mainGlobals "_law_enough" = some (some (.ref f_law_enough)))
 (l_law_enough : K.lookup f_law_enough = some ⟨oc_law_enough, od_law_enough, .func (PySem.W.fnOf "_law_enough" "_law_enough" (defArgs s__law_enough) (defBody s__law_enough) (defScope s__law_enough) .none kV_law_enough dc_law_enough pm_law_enough an_law_enough cd_law_enough ct_law_enough), sl_law_enough⟩)
 (c_law_enough : PySem.W.codeIn K cd_law_enough "_law_enough" = true)
 (k_law_enough : PySem.W.keepIn K (.ref f_law_enough) = true)
 (a_law_is_looks : PySem.W.nsIn K mainGlobals "_law_is_looks" = some (some (.ref f_law_is_looks)))
 (l_law_is_looks : K.lookup f_law_is_looks = some ⟨oc_law_is_looks, od_law_is_looks, .func (PySem.W.fnOf "_law_is_looks" "_law_is_looks" (defArgs s__law_is_looks) (defBody s__law_is_looks) (defScope s__law_is_looks) .none kV_law_is_looks dc_law_is_looks pm_law_is_looks an_law_is_looks cd_law_is_looks ct_law_is_looks), sl_law_is_looks⟩)
 (c_law_is_looks : PySem.W.codeIn K cd_law_is_looks "_law_is_looks" = true)
 (k_law_is_looks : PySem.W.keepIn K (.ref f_law_is_looks) = true)
 (a_law_cell_at : PySem.W.nsIn K mainGlobals "_law_cell_at" = some (some (.ref f_law_cell_at)))
 (l_law_cell_at : K.lookup f_law_cell_at = some ⟨oc_law_cell_at, od_law_cell_at, .func (PySem.W.fnOf "_law_cell_at" "_law_cell_at" (defArgs s__law_cell_at) (defBody s__law_cell_at) (defScope s__law_cell_at) .none kV_law_cell_at dc_law_cell_at pm_law_cell_at an_law_cell_at cd_law_cell_at ct_law_cell_at), sl_law_cell_at⟩)
 (c_law_cell_at : PySem.W.codeIn K cd_law_cell_at "_law_cell_at" = true)
 (k_law_cell_at : PySem.W.keepIn K (.ref f_law_cell_at) = true)
 (a_law_source : PySem.W.nsIn K mainGlobals "_law_source" = some (some (.ref f_law_source)))
 (l_law_source : K.lookup f_law_source = some ⟨oc_law_source, od_law_source, .func (PySem.W.fnOf "_law_source" "_law_source" (defArgs s__law_source) (defBody s__law_source) (defScope s__law_source) .none kV_law_source dc_law_source pm_law_source an_law_source cd_law_source ct_law_source), sl_law_source⟩)
 (c_law_source : PySem.W.codeIn K cd_law_source "_law_source" = true)
 (k_law_source : PySem.W.keepIn K (.ref f_law_source) = true)
 (a_law_windows : PySem.W.nsIn K mainGlobals "_law_windows" = some (some (.ref f_law_windows)))
 (l_law_windows : K.lookup f_law_windows = some ⟨oc_law_windows, od_law_windows, .func (PySem.W.fnOf "_law_windows" "_law_windows" (defArgs s__law_windows) (defBody s__law_windows) (defScope s__law_windows) .none kV_law_windows dc_law_windows pm_law_windows an_law_windows cd_law_windows ct_law_windows), sl_law_windows⟩)
 (c_law_windows : PySem.W.codeIn K cd_law_windows "_law_windows" = true)
 (k_law_windows : PySem.W.keepIn K (.ref f_law_windows) = true)
 (a_is_whole : PySem.W.nsIn K mainGlobals "is_whole" = some (some (.ref f_is_whole)))
 (l_is_whole : K.lookup f_is_whole = some ⟨oc_is_whole, od_is_whole, .func (PySem.W.fnOf "is_whole" "is_whole" (defArgs s_is_whole) (defBody s_is_whole) (defScope s_is_whole) (.ref T_is_whole) kV_is_whole dc_is_whole pm_is_whole an_is_whole cd_is_whole ct_is_whole), sl_is_whole⟩)
 (c_is_whole : PySem.W.codeIn K cd_is_whole "is_whole" = true)
 (k_is_whole : PySem.W.keepIn K (.ref f_is_whole) = true)
 (t_is_whole : K.lookup T_is_whole = some o_is_whole)
 (u_is_whole : o_is_whole.data = .seq [d0_is_whole].toArray n_is_whole)
 (v_is_whole : Vals [V.non] [d0_is_whole])
 (a_check_cycle : PySem.W.nsIn K mainGlobals "check_cycle" = some (some (.ref f_check_cycle)))
 (l_check_cycle : K.lookup f_check_cycle = some ⟨oc_check_cycle, od_check_cycle, .func (PySem.W.fnOf "check_cycle" "check_cycle" (defArgs s_check_cycle) (defBody s_check_cycle) (defScope s_check_cycle) (.ref T_check_cycle) kV_check_cycle dc_check_cycle pm_check_cycle an_check_cycle cd_check_cycle ct_check_cycle), sl_check_cycle⟩)
 (c_check_cycle : PySem.W.codeIn K cd_check_cycle "check_cycle" = true)
 (k_check_cycle : PySem.W.keepIn K (.ref f_check_cycle) = true)
 (t_check_cycle : K.lookup T_check_cycle = some o_check_cycle)
 (u_check_cycle : o_check_cycle.data = .seq [d0_check_cycle].toArray n_check_cycle)
 (v_check_cycle : Vals [(V.int 0)] [d0_check_cycle])
 (a_is_stretch : PySem.W.nsIn K mainGlobals "is_stretch" = some (some (.ref f_is_stretch)))
 (l_is_stretch : K.lookup f_is_stretch = some ⟨oc_is_stretch, od_is_stretch, .func (PySem.W.fnOf "is_stretch" "is_stretch" (defArgs s_is_stretch) (defBody s_is_stretch) (defScope s_is_stretch) .none kV_is_stretch dc_is_stretch pm_is_stretch an_is_stretch cd_is_stretch ct_is_stretch), sl_is_stretch⟩)
 (c_is_stretch : PySem.W.codeIn K cd_is_stretch "is_stretch" = true)
 (k_is_stretch : PySem.W.keepIn K (.ref f_is_stretch) = true)
 (a_check_frame : PySem.W.nsIn K mainGlobals "check_frame" = some (some (.ref f_check_frame)))
 (l_check_frame : K.lookup f_check_frame = some ⟨oc_check_frame, od_check_frame, .func (PySem.W.fnOf "check_frame" "check_frame" (defArgs s_check_frame) (defBody s_check_frame) (defScope s_check_frame) .none kV_check_frame dc_check_frame pm_check_frame an_check_frame cd_check_frame ct_check_frame), sl_check_frame⟩)
 (c_check_frame : PySem.W.codeIn K cd_check_frame "check_frame" = true)
 (k_check_frame : PySem.W.keepIn K (.ref f_check_frame) = true)
 (a_open_ends : PySem.W.nsIn K mainGlobals "open_ends" = some (some (.ref f_open_ends)))
 (l_open_ends : K.lookup f_open_ends = some ⟨oc_open_ends, od_open_ends, .func (PySem.W.fnOf "open_ends" "open_ends" (defArgs s_open_ends) (defBody s_open_ends) (defScope s_open_ends) .none kV_open_ends dc_open_ends pm_open_ends an_open_ends cd_open_ends ct_open_ends), sl_open_ends⟩)
 (c_open_ends : PySem.W.codeIn K cd_open_ends "open_ends" = true)
 (k_open_ends : PySem.W.keepIn K (.ref f_open_ends) = true)
 (a_fewest : PySem.W.nsIn K mainGlobals "fewest" = some (some (.ref f_fewest)))
 (l_fewest : K.lookup f_fewest = some ⟨oc_fewest, od_fewest, .func (PySem.W.fnOf "fewest" "fewest" (defArgs s_fewest) (defBody s_fewest) (defScope s_fewest) .none kV_fewest dc_fewest pm_fewest an_fewest cd_fewest ct_fewest), sl_fewest⟩)
 (c_fewest : PySem.W.codeIn K cd_fewest "fewest" = true)
 (k_fewest : PySem.W.keepIn K (.ref f_fewest) = true)
 (a_is_looks : PySem.W.nsIn K mainGlobals "is_looks" = some (some (.ref f_is_looks)))
 (l_is_looks : K.lookup f_is_looks = some ⟨oc_is_looks, od_is_looks, .func (PySem.W.fnOf "is_looks" "is_looks" (defArgs s_is_looks) (defBody s_is_looks) (defScope s_is_looks) .none kV_is_looks dc_is_looks pm_is_looks an_is_looks cd_is_looks ct_is_looks), sl_is_looks⟩)
 (c_is_looks : PySem.W.codeIn K cd_is_looks "is_looks" = true)
 (k_is_looks : PySem.W.keepIn K (.ref f_is_looks) = true)
 (a_suffices : PySem.W.nsIn K mainGlobals "suffices" = some (some (.ref f_suffices)))
 (l_suffices : K.lookup f_suffices = some ⟨oc_suffices, od_suffices, .func (PySem.W.fnOf "suffices" "suffices" (defArgs s_suffices) (defBody s_suffices) (defScope s_suffices) .none kV_suffices dc_suffices pm_suffices an_suffices cd_suffices ct_suffices), sl_suffices⟩)
 (c_suffices : PySem.W.codeIn K cd_suffices "suffices" = true)
 (k_suffices : PySem.W.keepIn K (.ref f_suffices) = true)
 (a_is_enough : PySem.W.nsIn K mainGlobals "is_enough" = some (some (.ref f_is_enough)))
 (l_is_enough : K.lookup f_is_enough = some ⟨oc_is_enough, od_is_enough, .func (PySem.W.fnOf "is_enough" "is_enough" (defArgs s_is_enough) (defBody s_is_enough) (defScope s_is_enough) .none kV_is_enough dc_is_enough pm_is_enough an_is_enough cd_is_enough ct_is_enough), sl_is_enough⟩)
 (c_is_enough : PySem.W.codeIn K cd_is_enough "is_enough" = true)
 (k_is_enough : PySem.W.keepIn K (.ref f_is_enough) = true)
 (a_law : PySem.W.nsIn K mainGlobals "law" = some (some (.ref f_law)))
 (l_law : K.lookup f_law = some ⟨oc_law, od_law, .func (PySem.W.fnOf "law" "law" (defArgs s_law) (defBody s_law) (defScope s_law) .none kV_law dc_law pm_law an_law cd_law ct_law), sl_law⟩)
 (c_law : PySem.W.codeIn K cd_law "law" = true)
 (k_law : PySem.W.keepIn K (.ref f_law) = true)
 (b_all : PySem.W.nsIn K mainGlobals "all" = some none)
 (b_any : PySem.W.nsIn K mainGlobals "any" = some none)
 (b_bool : PySem.W.nsIn K mainGlobals "bool" = some none)
 (b_enumerate : PySem.W.nsIn K mainGlobals "enumerate" = some none)
 (b_int : PySem.W.nsIn K mainGlobals "int" = some none)
 (b_isinstance : PySem.W.nsIn K mainGlobals "isinstance" = some none)
 (b_len : PySem.W.nsIn K mainGlobals "len" = some none)
 (b_list : PySem.W.nsIn K mainGlobals "list" = some none)
 (b_max : PySem.W.nsIn K mainGlobals "max" = some none)
 (b_min : PySem.W.nsIn K mainGlobals "min" = some none)
 (b_range : PySem.W.nsIn K mainGlobals "range" = some none)
 (b_repr : PySem.W.nsIn K mainGlobals "repr" = some none)
 (b_tuple : PySem.W.nsIn K mainGlobals "tuple" = some none)
 (b_zip : PySem.W.nsIn K mainGlobals "zip" = some none)
 (g_MOST_LOOKS : PySem.W.nsIn K mainGlobals "MOST_LOOKS" = some (some (.int 2000 t_MOST_LOOKS)))
 (xa_KernelError : PySem.W.nsIn K mainGlobals "KernelError" = some (some (.ref C_KernelError)))
 (xq_KernelError : PySem.W.excIn K C_KernelError [.type "ValueError", .type "Exception", .type "BaseException", .type "object"] "ValueError.__new__" = true)
 (xk_KernelError : PySem.W.keepIn K (.ref C_KernelError) = true)
 (xb_KernelError : PySem.W.subIn K (.ref C_KernelError) (.type "BaseException") = some true)
 (xt_KernelError : PySem.W.typeIn K (.ref C_KernelError) = some (.type "type"))
 (xa_NoCycle : PySem.W.nsIn K mainGlobals "NoCycle" = some (some (.ref C_NoCycle)))
 (xq_NoCycle : PySem.W.excIn K C_NoCycle [.type "ValueError", .type "Exception", .type "BaseException", .type "object"] "ValueError.__new__" = true)
 (xk_NoCycle : PySem.W.keepIn K (.ref C_NoCycle) = true)
 (xb_NoCycle : PySem.W.subIn K (.ref C_NoCycle) (.type "BaseException") = some true)
 (xt_NoCycle : PySem.W.typeIn K (.ref C_NoCycle) = some (.type "type"))
 (xa_NoSpan : PySem.W.nsIn K mainGlobals "NoSpan" = some (some (.ref C_NoSpan)))
 (xq_NoSpan : PySem.W.excIn K C_NoSpan [.type "ValueError", .type "Exception", .type "BaseException", .type "object"] "ValueError.__new__" = true)
 (xk_NoSpan : PySem.W.keepIn K (.ref C_NoSpan) = true)
 (xb_NoSpan : PySem.W.subIn K (.ref C_NoSpan) (.type "BaseException") = some true)
 (xt_NoSpan : PySem.W.typeIn K (.ref C_NoSpan) = some (.type "type"))
 (xa_NoWindow : PySem.W.nsIn K mainGlobals "NoWindow" = some (some (.ref C_NoWindow)))
 (xq_NoWindow : PySem.W.excIn K C_NoWindow [.type "ValueError", .type "Exception", .type "BaseException", .type "object"] "ValueError.__new__" = true)
 (xk_NoWindow : PySem.W.keepIn K (.ref C_NoWindow) = true)
 (xb_NoWindow : PySem.W.subIn K (.ref C_NoWindow) (.type "BaseException") = some true)
 (xt_NoWindow : PySem.W.typeIn K (.ref C_NoWindow) = some (.type "type"))
 (xa_TooMany : PySem.W.nsIn K mainGlobals "TooMany" = some (some (.ref C_TooMany)))
 (xq_TooMany : PySem.W.excIn K C_TooMany [.type "ValueError", .type "Exception", .type "BaseException", .type "object"] "ValueError.__new__" = true)
 (xk_TooMany : PySem.W.keepIn K (.ref C_TooMany) = true)
 (xb_TooMany : PySem.W.subIn K (.ref C_TooMany) (.type "BaseException") = some true)
 (xt_TooMany : PySem.W.typeIn K (.ref C_TooMany) = some (.type "type"))
 : ∃ fd : FuncData, (∀ (s : Shared) (v : Value), BindsTo s fd ⟨[v], []⟩ [("script", v)]) ∧ ∀ base : Heap, K.In base → base.Ns mainGlobals mg → FnOkG P w K mg base (L2.CX P w) 5 fa fd ["script"] (spLaw K) := by
  have e := hfa.symm.trans (PySem.W.mg_of X G a_law)
  cases e
  have T : Txt K mg (Cs.mk K C_KernelError 0 0 C_NoCycle 0 0 0 0 0 0 0 0 0 0 0 0 0 0 C_NoWindow C_NoSpan 0 0 0 0 0 C_TooMany 0) := ⟨rfl, PySem.W.mg_none_of X G b_all, PySem.W.mg_none_of X G b_any, PySem.W.mg_none_of X G b_bool, PySem.W.mg_none_of X G b_enumerate, PySem.W.mg_none_of X G b_int, PySem.W.mg_none_of X G b_isinstance, PySem.W.mg_none_of X G b_len, PySem.W.mg_none_of X G b_list, PySem.W.mg_none_of X G b_max, PySem.W.mg_none_of X G b_min, PySem.W.mg_none_of X G b_range, PySem.W.mg_none_of X G b_repr, PySem.W.mg_none_of X G b_tuple, PySem.W.mg_none_of X G b_zip, ⟨_, PySem.W.mg_of X G g_MOST_LOOKS, ⟨_, rfl⟩⟩, ⟨PySem.W.mg_of X G xa_KernelError, xq_KernelError, xk_KernelError, xb_KernelError, xt_KernelError⟩, ⟨PySem.W.mg_of X G xa_NoCycle, xq_NoCycle, xk_NoCycle, xb_NoCycle, xt_NoCycle⟩, ⟨PySem.W.mg_of X G xa_NoSpan, xq_NoSpan, xk_NoSpan, xb_NoSpan, xt_NoSpan⟩, ⟨PySem.W.mg_of X G xa_NoWindow, xq_NoWindow, xk_NoWindow, xb_NoWindow, xt_NoWindow⟩, ⟨PySem.W.mg_of X G xa_TooMany, xq_TooMany, xk_TooMany, xb_TooMany, xt_TooMany⟩⟩
  have F_law_mixed := fun0 (st := s__law_mixed) l_law_mixed c_law_mixed k_law_mixed
  have F_law_next := fun0 (st := s__law_next) l_law_next c_law_next k_law_next
  have F_law_bent := fun0 (st := s__law_bent) l_law_bent c_law_bent k_law_bent
  have F_law_enough := fun0 (st := s__law_enough) l_law_enough c_law_enough k_law_enough
  have F_law_is_looks := fun0 (st := s__law_is_looks) l_law_is_looks c_law_is_looks k_law_is_looks
  have F_law_cell_at := fun0 (st := s__law_cell_at) l_law_cell_at c_law_cell_at k_law_cell_at
  have F_law_source := fun0 (st := s__law_source) l_law_source c_law_source k_law_source
  have F_law_windows := fun0 (st := s__law_windows) l_law_windows c_law_windows k_law_windows
  have F_is_whole := funD (st := s_is_whole) l_is_whole c_is_whole k_is_whole t_is_whole u_is_whole v_is_whole (by decide)
  have F_check_cycle := funD (st := s_check_cycle) l_check_cycle c_check_cycle k_check_cycle t_check_cycle u_check_cycle v_check_cycle (by decide)
  have F_is_stretch := fun0 (st := s_is_stretch) l_is_stretch c_is_stretch k_is_stretch
  have F_check_frame := fun0 (st := s_check_frame) l_check_frame c_check_frame k_check_frame
  have F_open_ends := fun0 (st := s_open_ends) l_open_ends c_open_ends k_open_ends
  have F_fewest := fun0 (st := s_fewest) l_fewest c_fewest k_fewest
  have F_is_looks := fun0 (st := s_is_looks) l_is_looks c_is_looks k_is_looks
  have F_suffices := fun0 (st := s_suffices) l_suffices c_suffices k_suffices
  have F_is_enough := fun0 (st := s_is_enough) l_is_enough c_is_enough k_is_enough
  have F_law := fun0 (st := s_law) l_law c_law k_law
  refine ⟨_, fun s v => F_law.bindsA (ps := ["script"]) (fun _ _ _ _ _ _ us hl => match us, hl with | [_], _ => rfl) s [v] rfl, fun base _ _ => ?_⟩
  have D__law_mixed : ∀ [LamT], Df P w K mg base 1 "_law_mixed" 2 [] (m_law_mixed (Cs.mk K C_KernelError 0 0 C_NoCycle 0 0 0 0 0 0 0 0 0 0 0 0 0 0 C_NoWindow C_NoSpan 0 0 0 0 0 C_TooMany 0)) := ok__law_mixed (P := P) (w := w) (base := base) T F_law_mixed (PySem.W.mg_of X G a_law_mixed)
  have D__law_next : ∀ [LamT], Df P w K mg base 2 "_law_next" 2 [] (m_law_next (Cs.mk K C_KernelError 0 0 C_NoCycle 0 0 0 0 0 0 0 0 0 0 0 0 0 0 C_NoWindow C_NoSpan 0 0 0 0 0 C_TooMany 0)) := ok__law_next (P := P) (w := w) (base := base) T F_law_next (PySem.W.mg_of X G a_law_next) D__law_mixed
  have D__law_bent : ∀ [LamT], Df P w K mg base 3 "_law_bent" 3 [] (m_law_bent (Cs.mk K C_KernelError 0 0 C_NoCycle 0 0 0 0 0 0 0 0 0 0 0 0 0 0 C_NoWindow C_NoSpan 0 0 0 0 0 C_TooMany 0)) := ok__law_bent (P := P) (w := w) (base := base) T F_law_bent (PySem.W.mg_of X G a_law_bent) D__law_next
  have D__law_enough : ∀ [LamT], Df P w K mg base 1 "_law_enough" 5 [] (m_law_enough (Cs.mk K C_KernelError 0 0 C_NoCycle 0 0 0 0 0 0 0 0 0 0 0 0 0 0 C_NoWindow C_NoSpan 0 0 0 0 0 C_TooMany 0)) := ok__law_enough (P := P) (w := w) (base := base) T F_law_enough (PySem.W.mg_of X G a_law_enough)
  have D__law_is_looks : ∀ [LamT], Df P w K mg base 1 "_law_is_looks" 3 [] (m_law_is_looks (Cs.mk K C_KernelError 0 0 C_NoCycle 0 0 0 0 0 0 0 0 0 0 0 0 0 0 C_NoWindow C_NoSpan 0 0 0 0 0 C_TooMany 0)) := ok__law_is_looks (P := P) (w := w) (base := base) T F_law_is_looks (PySem.W.mg_of X G a_law_is_looks)
  have D__law_cell_at : ∀ [LamT], Df P w K mg base 1 "_law_cell_at" 2 [] (m_law_cell_at (Cs.mk K C_KernelError 0 0 C_NoCycle 0 0 0 0 0 0 0 0 0 0 0 0 0 0 C_NoWindow C_NoSpan 0 0 0 0 0 C_TooMany 0)) := ok__law_cell_at (P := P) (w := w) (base := base) T F_law_cell_at (PySem.W.mg_of X G a_law_cell_at)
  have D__law_source : ∀ [LamT], Df P w K mg base 2 "_law_source" 2 [] (m_law_source (Cs.mk K C_KernelError 0 0 C_NoCycle 0 0 0 0 0 0 0 0 0 0 0 0 0 0 C_NoWindow C_NoSpan 0 0 0 0 0 C_TooMany 0)) := ok__law_source (P := P) (w := w) (base := base) T F_law_source (PySem.W.mg_of X G a_law_source) D__law_cell_at D__law_mixed
  have D__law_windows : ∀ [LamT], Df P w K mg base 3 "_law_windows" 2 [] (m_law_windows (Cs.mk K C_KernelError 0 0 C_NoCycle 0 0 0 0 0 0 0 0 0 0 0 0 0 0 C_NoWindow C_NoSpan 0 0 0 0 0 C_TooMany 0)) := ok__law_windows (P := P) (w := w) (base := base) T F_law_windows (PySem.W.mg_of X G a_law_windows) D__law_next
  have D_is_whole : ∀ [LamT], Df P w K mg base 1 "is_whole" 2 [.non] (m_is_whole (Cs.mk K C_KernelError 0 0 C_NoCycle 0 0 0 0 0 0 0 0 0 0 0 0 0 0 C_NoWindow C_NoSpan 0 0 0 0 0 C_TooMany 0)) := ok_is_whole (P := P) (w := w) (base := base) T F_is_whole (PySem.W.mg_of X G a_is_whole)
  have D_check_cycle : ∀ [LamT], Df P w K mg base 2 "check_cycle" 2 [(.int 0)] (m_check_cycle (Cs.mk K C_KernelError 0 0 C_NoCycle 0 0 0 0 0 0 0 0 0 0 0 0 0 0 C_NoWindow C_NoSpan 0 0 0 0 0 C_TooMany 0)) := ok_check_cycle (P := P) (w := w) (base := base) T F_check_cycle (PySem.W.mg_of X G a_check_cycle) D_is_whole
  have D_is_stretch : ∀ [LamT], Df P w K mg base 2 "is_stretch" 1 [] (m_is_stretch (Cs.mk K C_KernelError 0 0 C_NoCycle 0 0 0 0 0 0 0 0 0 0 0 0 0 0 C_NoWindow C_NoSpan 0 0 0 0 0 C_TooMany 0)) := ok_is_stretch (P := P) (w := w) (base := base) T F_is_stretch (PySem.W.mg_of X G a_is_stretch) D_is_whole
  have D_check_frame : ∀ [LamT], Df P w K mg base 3 "check_frame" 4 [] (m_check_frame (Cs.mk K C_KernelError 0 0 C_NoCycle 0 0 0 0 0 0 0 0 0 0 0 0 0 0 C_NoWindow C_NoSpan 0 0 0 0 0 C_TooMany 0)) := ok_check_frame (P := P) (w := w) (base := base) T F_check_frame (PySem.W.mg_of X G a_check_frame) D_check_cycle D_is_stretch D_is_whole
  have D_open_ends : ∀ [LamT], Df P w K mg base 1 "open_ends" 3 [] (m_open_ends (Cs.mk K C_KernelError 0 0 C_NoCycle 0 0 0 0 0 0 0 0 0 0 0 0 0 0 C_NoWindow C_NoSpan 0 0 0 0 0 C_TooMany 0)) := ok_open_ends (P := P) (w := w) (base := base) T F_open_ends (PySem.W.mg_of X G a_open_ends)
  have D_fewest : ∀ [LamT], Df P w K mg base 4 "fewest" 4 [] (m_fewest (Cs.mk K C_KernelError 0 0 C_NoCycle 0 0 0 0 0 0 0 0 0 0 0 0 0 0 C_NoWindow C_NoSpan 0 0 0 0 0 C_TooMany 0)) := ok_fewest (P := P) (w := w) (base := base) T F_fewest (PySem.W.mg_of X G a_fewest) D_check_frame D_open_ends
  have D_is_looks : ∀ [LamT], Df P w K mg base 2 "is_looks" 3 [] (m_is_looks (Cs.mk K C_KernelError 0 0 C_NoCycle 0 0 0 0 0 0 0 0 0 0 0 0 0 0 C_NoWindow C_NoSpan 0 0 0 0 0 C_TooMany 0)) := ok_is_looks (P := P) (w := w) (base := base) T F_is_looks (PySem.W.mg_of X G a_is_looks) D_is_whole
  have D_suffices : ∀ [LamT], Df P w K mg base 1 "suffices" 5 [] (m_suffices (Cs.mk K C_KernelError 0 0 C_NoCycle 0 0 0 0 0 0 0 0 0 0 0 0 0 0 C_NoWindow C_NoSpan 0 0 0 0 0 C_TooMany 0)) := ok_suffices (P := P) (w := w) (base := base) T F_suffices (PySem.W.mg_of X G a_suffices)
  have D_is_enough : ∀ [LamT], Df P w K mg base 4 "is_enough" 5 [] (m_is_enough (Cs.mk K C_KernelError 0 0 C_NoCycle 0 0 0 0 0 0 0 0 0 0 0 0 0 0 C_NoWindow C_NoSpan 0 0 0 0 0 C_TooMany 0)) := ok_is_enough (P := P) (w := w) (base := base) T F_is_enough (PySem.W.mg_of X G a_is_enough) D_check_frame D_is_looks D_suffices
  exact FnOkG.imp (ok_law T F_law D__law_bent D__law_enough D__law_is_looks D__law_next D__law_source D__law_windows D_fewest D_is_enough) (law_imp rfl ⟨rfl, rfl⟩ (run_law _))
end L3
open PySem PySem.W PyProof.Rows
set_option maxHeartbeats 0 in
theorem PySem.Challenge.cw_timekernel_k34_looks_that_are_enough_holds : PySem.Challenge.rw_timekernel_k34_looks_that_are_enough.Holds := by
  w_on; o_law; k_head; (case hw => w_witness2)
  k_fill
  refine L3.walk_ofG (l := PySem.Challenge.rw_timekernel_k34_looks_that_are_enough) (n := 63) (k := 5) (x := "script") (CX := fun w => L2.CX PySem.Challenge.pw_timekernel_k34_looks_that_are_enough w) (sp := fun w => L3.spLaw _) rfl (by decide) rfl ⟨rfl, by decide, by decide⟩ (fun w h Y => PySem.W.kIn_of Y) ?F (fun _ _ a ns hl hb hO hS => ⟨a, ns, rfl, hl, hb, hO, hS, fun _ => rfl⟩) (fun w H s e s' h => L3.cx_none h)
  case F =>
    intro w mg fa h KX G hmg
    refine' L3.all_mk KX G hmg ?a_law_mixed ?l_law_mixed ?c_law_mixed ?k_law_mixed ?a_law_next ?l_law_next ?c_law_next ?k_law_next ?a_law_bent ?l_law_bent ?c_law_bent ?k_law_bent ?a_law_enough ?l_law_enough ?c_law_enough ?k_law_enough ?a_law_is_looks ?l_law_is_looks ?c_law_is_looks ?k_law_is_looks ?a_law_cell_at ?l_law_cell_at ?c_law_cell_at ?k_law_cell_at ?a_law_source ?l_law_source ?c_law_source ?k_law_source ?a_law_windows ?l_law_windows ?c_law_windows ?k_law_windows ?a_is_whole ?l_is_whole ?c_is_whole ?k_is_whole ?t_is_whole ?u_is_whole ?v_is_whole ?a_check_cycle ?l_check_cycle ?c_check_cycle ?k_check_cycle ?t_check_cycle ?u_check_cycle ?v_check_cycle ?a_is_stretch ?l_is_stretch ?c_is_stretch ?k_is_stretch ?a_check_frame ?l_check_frame ?c_check_frame ?k_check_frame ?a_open_ends ?l_open_ends ?c_open_ends ?k_open_ends ?a_fewest ?l_fewest ?c_fewest ?k_fewest ?a_is_looks ?l_is_looks ?c_is_looks ?k_is_looks ?a_suffices ?l_suffices ?c_suffices ?k_suffices ?a_is_enough ?l_is_enough ?c_is_enough ?k_is_enough ?a_law ?l_law ?c_law ?k_law ?b_all ?b_any ?b_bool ?b_enumerate ?b_int ?b_isinstance ?b_len ?b_list ?b_max ?b_min ?b_range ?b_repr ?b_tuple ?b_zip ?g_MOST_LOOKS ?xa_KernelError ?xq_KernelError ?xk_KernelError ?xb_KernelError ?xt_KernelError ?xa_NoCycle ?xq_NoCycle ?xk_NoCycle ?xb_NoCycle ?xt_NoCycle ?xa_NoSpan ?xq_NoSpan ?xk_NoSpan ?xb_NoSpan ?xt_NoSpan ?xa_NoWindow ?xq_NoWindow ?xk_NoWindow ?xb_NoWindow ?xt_NoWindow ?xa_TooMany ?xq_TooMany ?xk_TooMany ?xb_TooMany ?xt_TooMany
    (case a_law_mixed => k_is)
    (case l_law_mixed => k_is)
    (case c_law_mixed => k_is)
    (case k_law_mixed => k_is)
    (case a_law_next => k_is)
    (case l_law_next => k_is)
    (case c_law_next => k_is)
    (case k_law_next => k_is)
    (case a_law_bent => k_is)
    (case l_law_bent => k_is)
    (case c_law_bent => k_is)
    (case k_law_bent => k_is)
    (case a_law_enough => k_is)
    (case l_law_enough => k_is)
    (case c_law_enough => k_is)
    (case k_law_enough => k_is)
    (case a_law_is_looks => k_is)
    (case l_law_is_looks => k_is)
    (case c_law_is_looks => k_is)
    (case k_law_is_looks => k_is)
    (case a_law_cell_at => k_is)
    (case l_law_cell_at => k_is)
    (case c_law_cell_at => k_is)
    (case k_law_cell_at => k_is)
    (case a_law_source => k_is)
    (case l_law_source => k_is)
    (case c_law_source => k_is)
    (case k_law_source => k_is)
    (case a_law_windows => k_is)
    (case l_law_windows => k_is)
    (case c_law_windows => k_is)
    (case k_law_windows => k_is)
    (case a_is_whole => k_is)
    (case l_is_whole => k_is)
    (case c_is_whole => k_is)
    (case k_is_whole => k_is)
    (case t_is_whole => k_is)
    (case u_is_whole => first | rfl | k_is)
    (case v_is_whole => exact .cons rfl .nil)
    (case a_check_cycle => k_is)
    (case l_check_cycle => k_is)
    (case c_check_cycle => k_is)
    (case k_check_cycle => k_is)
    (case t_check_cycle => k_is)
    (case u_check_cycle => first | rfl | k_is)
    (case v_check_cycle => exact .cons ⟨_, rfl⟩ .nil)
    (case a_is_stretch => k_is)
    (case l_is_stretch => k_is)
    (case c_is_stretch => k_is)
    (case k_is_stretch => k_is)
    (case a_check_frame => k_is)
    (case l_check_frame => k_is)
    (case c_check_frame => k_is)
    (case k_check_frame => k_is)
    (case a_open_ends => k_is)
    (case l_open_ends => k_is)
    (case c_open_ends => k_is)
    (case k_open_ends => k_is)
    (case a_fewest => k_is)
    (case l_fewest => k_is)
    (case c_fewest => k_is)
    (case k_fewest => k_is)
    (case a_is_looks => k_is)
    (case l_is_looks => k_is)
    (case c_is_looks => k_is)
    (case k_is_looks => k_is)
    (case a_suffices => k_is)
    (case l_suffices => k_is)
    (case c_suffices => k_is)
    (case k_suffices => k_is)
    (case a_is_enough => k_is)
    (case l_is_enough => k_is)
    (case c_is_enough => k_is)
    (case k_is_enough => k_is)
    (case a_law => k_is)
    (case l_law => k_is)
    (case c_law => k_is)
    (case k_law => k_is)
    (case b_all => k_is)
    (case b_any => k_is)
    (case b_bool => k_is)
    (case b_enumerate => k_is)
    (case b_int => k_is)
    (case b_isinstance => k_is)
    (case b_len => k_is)
    (case b_list => k_is)
    (case b_max => k_is)
    (case b_min => k_is)
    (case b_range => k_is)
    (case b_repr => k_is)
    (case b_tuple => k_is)
    (case b_zip => k_is)
    (case g_MOST_LOOKS => k_is)
    (case xa_KernelError => k_is)
    (case xq_KernelError => k_exc)
    (case xk_KernelError => k_is)
    (case xb_KernelError => k_is)
    (case xt_KernelError => k_is)
    (case xa_NoCycle => k_is)
    (case xq_NoCycle => k_exc)
    (case xk_NoCycle => k_is)
    (case xb_NoCycle => k_is)
    (case xt_NoCycle => k_is)
    (case xa_NoSpan => k_is)
    (case xq_NoSpan => k_exc)
    (case xk_NoSpan => k_is)
    (case xb_NoSpan => k_is)
    (case xt_NoSpan => k_is)
    (case xa_NoWindow => k_is)
    (case xq_NoWindow => k_exc)
    (case xk_NoWindow => k_is)
    (case xb_NoWindow => k_is)
    (case xt_NoWindow => k_is)
    (case xa_TooMany => k_is)
    (case xq_TooMany => k_exc)
    (case xk_TooMany => k_is)
    (case xb_TooMany => k_is)
    (case xt_TooMany => k_is)
