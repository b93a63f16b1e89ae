import PyProof.Rows.All
import Wide.All
import OpenK.AllK
import Wide.FinOn
import HandS.ForMost
import HandS.ForExc
import HandS.WideBits
import HandS.TryMany
import HandS.ExcIs
import HandS.IsInst
import HandS.EndBits
import HandS.Flow
import HandS.Zip
import HandS.Defaults
import HandS.Lambda
import HandS.EndTab
import HandS.SortRule
import HandS.SortInts
import HandS.Conv
import HandS.Style
import KE.DataCmp
import HandS.Deep
import HandS.Dict
import KE.DataMinMax
import HandS.More
import HandS.DictSubView
import HandS.Iter
import PyProof.SumWalk
import HandS.SetFor
import PySem.Challenge.RW_timekernel_k05_what_counters_refuse
set_option Elab.async false
set_option linter.all false
set_option maxRecDepth 100000
set_option maxHeartbeats 4000000
/-! L3: functional mirrors of defs over an own heap (a list of objects), and their walk over the hand layer. -/
namespace L3
open PySem L2

/-- the tables of code objects of the defs that make lambdas; the references that stay while a closure is about -/
class TabT where
  T : List (Addr × Str)
class LamT where
  r0 : List Addr
  cs : List (Addr × Str)
variable [TabT] [LamT]
/-- a value of the mirror: ref n, the n-th object of the mirror's heap; gl a, an object of the heap itself, by its address -/
inductive IV where
  | non | bl (b : Bool) | int (i : Int) | str (x : Str) | ref (n : Nat) | gl (a : Addr) | ty (n : String)
  deriving DecidableEq
def IV.toV : IV → V
  | .non => .non
  | .bl b => .bl b
  | .int i => .int i
  | .str x => .str x
  | .ref _ => .non
  | .gl a => .ref a
  | .ty n => .ty n
/-- an object of the mirror's heap; ro: a list that is only read; rot: a tuple of the written part -/
inductive MO where
  | lst (xs : List IV) | tup (xs : List IV) | ro (xs : List IV) | rot (xs : List IV) | dct | clo | dk (kvs : List (Key × IV))
  deriving DecidableEq
abbrev IH := List MO
abbrev Env := List (Option IV)
inductive Res (α : Type) where
  | ok (a : α) (ih : IH) | exc (c : Addr) (ih : IH) | stuck
inductive Fl where
  | next (env : Env) | brk (env : Env) | cont (env : Env) | ret (v : IV)
inductive RS where
  | ok (f : Fl) (ih : IH) | exc (c : Addr) (env : Env) (ih : IH) | stuck
def Res.bind {α β : Type} (r : Res α) (k : α → IH → Res β) : Res β := match r with
  | .ok a ih => k a ih
  | .exc c ih => .exc c ih
  | .stuck => .stuck
@[simp] theorem Res.bind_ok {α β : Type} (a : α) (ih : IH) (k : α → IH → Res β) : (Res.ok a ih).bind k = k a ih := rfl
@[simp] theorem Res.bind_exc {α β : Type} (c : Addr) (ih : IH) (k : α → IH → Res β) : (Res.exc c ih).bind k = .exc c ih := rfl
@[simp] theorem Res.bind_stuck {α β : Type} (k : α → IH → Res β) : (Res.stuck : Res α).bind k = .stuck := rfl
/-- an expression's result within a statement -/
def Res.stm {α : Type} (r : Res α) (env : Env) (k : α → IH → RS) : RS := match r with
  | .ok a ih => k a ih
  | .exc c ih => .exc c env ih
  | .stuck => .stuck
@[simp] theorem Res.stm_ok {α : Type} (a : α) (ih : IH) (env : Env) (k : α → IH → RS) : (Res.ok a ih).stm env k = k a ih := rfl
@[simp] theorem Res.stm_exc {α : Type} (c : Addr) (ih : IH) (env : Env) (k : α → IH → RS) : (Res.exc c ih : Res α).stm env k = .exc c env ih := rfl
@[simp] theorem Res.stm_stuck {α : Type} (env : Env) (k : α → IH → RS) : (Res.stuck : Res α).stm env k = .stuck := rfl

/-! ### what the mirror's heap says of the heap -/
def R (r : List Addr) (x : IV) (y : V) : Prop := match x with
  | .ref n => ∃ a, r[n]? = some a ∧ y = .ref a
  | z => y = z.toV
def Rs (r : List Addr) : List IV → List V → Prop := Paired (R r)
def RK (r : List Addr) : List (Key × IV) → List (Key × V) → Prop := Paired fun p q => p.1 = q.1 ∧ R r p.2 q.2
def RO (K : PySem.W.Frag) (r : List Addr) (H : Hp) (a : Addr) : MO → Prop
  | .lst xs => ∃ ys, H a = some (.lst ys) ∧ Rs r xs ys
  | .tup xs => ∃ ys, H a = some (.tup ys) ∧ Rs r xs ys
  | .ro xs => ∃ ys, ((∃ o, H a = some (.frz o (.lst ys))) ∨ SqL K (fun _ => none) a ys) ∧ Rs r xs ys
  | .rot xs => ∃ ys, SqT K (fun _ => none) a ys ∧ Rs r xs ys
  | .dct => ∃ kvs, H a = some (.dK kvs)
  | .dk kvs => ∃ ys, H a = some (.dK ys) ∧ RK r kvs ys
  | .clo => True
def still : MO → Bool
  | .lst _ => false
  | .tup _ => false
  | .ro _ => true
  | .rot _ => true
  | .dct => false
  | .dk _ => false
  | .clo => true
structure Rel (K : PySem.W.Frag) (r : List Addr) (ih : IH) (H : Hp) : Prop where
  len : r.length = ih.length
  get : ∀ (n : Nat) (a : Addr) (o : MO), r[n]? = some a → ih[n]? = some o → RO K r H a o
  inj : ∀ (n m : Nat) (a : Addr) (o u : MO), r[n]? = some a → r[m]? = some a → ih[n]? = some o → ih[m]? = some u → still o = false → still u = false → n = m
  tab : LamX.Tabs TabT.T H
  pre : LamT.r0 <+: r
  cod : ∀ p ∈ LamT.cs, H p.1 = some (LamX.CodeO p.1 p.2)
def REnv (r : List Addr) (env : Env) (σ : St) : Prop := env.length = σ.length ∧ ∀ (i : Nat) (v : IV), env[i]? = some (some v) → ∃ u, σ[i]? = some (some u) ∧ R r v u

theorem pre_get {r r' : List Addr} (p : r <+: r') {n : Nat} {a : Addr} (h : r[n]? = some a) : r'[n]? = some a := by
  obtain ⟨t, rfl⟩ := p
  rw [List.getElem?_append_left (List.getElem?_eq_some_iff.mp h).1]
  exact h
theorem R.mono {r r' : List Addr} (p : r <+: r') {x : IV} {y : V} (h : R r x y) : R r' x y := by
  cases x with
  | ref n =>
    obtain ⟨a, h1, h2⟩ := h
    exact ⟨a, pre_get p h1, h2⟩
  | _ => exact h
theorem Rs.mono {r r' : List Addr} (p : r <+: r') {xs : List IV} {ys : List V} (h : Rs r xs ys) : Rs r' xs ys := Paired.mapP h fun _ _ q => q.mono p
theorem RK.mono {r r' : List Addr} (p : r <+: r') {xs : List (Key × IV)} {ys : List (Key × V)} (h : RK r xs ys) : RK r' xs ys := Paired.mapP h fun _ _ q => ⟨q.1, q.2.mono p⟩
theorem REnv.mono {r r' : List Addr} (p : r <+: r') {env : Env} {σ : St} (h : REnv r env σ) : REnv r' env σ :=
  ⟨h.1, fun i v e => let ⟨u, h1, h2⟩ := h.2 i v e; ⟨u, h1, h2.mono p⟩⟩
theorem REnv.set {r : List Addr} {env : Env} {σ : St} (h : REnv r env σ) {x : IV} {y : V} (q : R r x y) (i : Nat) : REnv r (env.set i (some x)) (σ.set i (some y)) := by
  refine ⟨by rw [List.length_set, List.length_set, h.1], fun j v e => ?_⟩
  by_cases hj : i = j
  · subst hj
    by_cases hl : i < env.length
    · rw [List.getElem?_set_self hl] at e
      cases e
      exact ⟨y, List.getElem?_set_self (by rw [← h.1]; exact hl), q⟩
    · rw [List.getElem?_eq_none (by simpa using hl)] at e
      cases e
  · rw [List.getElem?_set_ne hj] at e
    obtain ⟨u, h1, h2⟩ := h.2 j v e
    exact ⟨u, by rw [List.getElem?_set_ne hj]; exact h1, h2⟩
theorem REnv.setN {r : List Addr} {env : Env} {σ : St} (h : REnv r env σ) (i : Nat) : REnv r (env.set i none) (σ.set i none) := by
  refine ⟨by rw [List.length_set, List.length_set, h.1], fun j v e => ?_⟩
  by_cases hj : i = j
  · subst hj
    by_cases hl : i < env.length
    · rw [List.getElem?_set_self hl] at e
      cases e
    · rw [List.getElem?_eq_none (by simpa using hl)] at e
      cases e
  · rw [List.getElem?_set_ne hj] at e
    obtain ⟨u, h1, h2⟩ := h.2 j v e
    exact ⟨u, by rw [List.getElem?_set_ne hj]; exact h1, h2⟩
def wipeI (env : Env) : List Nat → Env
  | [] => env
  | v :: vs => (wipeI env vs).set v none
theorem REnv.wipe {r : List Addr} {env : Env} {σ : St} (h : REnv r env σ) : ∀ vs : List Nat, REnv r (wipeI env vs) (wipe σ vs)
  | [] => h
  | v :: vs => (REnv.wipe h vs).setN v
theorem REnv.setO {r : List Addr} {env : Env} {σ : St} (h : REnv r env σ) (i : Nat) (y : Option V) : REnv r (env.set i none) (σ.set i y) := by
  refine ⟨by rw [List.length_set, List.length_set, h.1], fun j v e => ?_⟩
  by_cases hj : i = j
  · subst hj
    by_cases hl : i < env.length
    · rw [List.getElem?_set_self hl] at e
      cases e
    · rw [List.getElem?_eq_none (by simpa using hl)] at e
      cases e
  · rw [List.getElem?_set_ne hj] at e
    obtain ⟨u, h1, h2⟩ := h.2 j v e
    exact ⟨u, by rw [List.getElem?_set_ne hj]; exact h1, h2⟩

theorem Rs.get {r : List Addr} : ∀ {xs : List IV} {ys : List V} {i : Nat} {x : IV}, Rs r xs ys → xs[i]? = some x → ∃ y, ys[i]? = some y ∧ R r x y
  | _, _, _, _, .nil, e => by simp at e
  | _, _, 0, _, .cons q _, e => by simp at e; subst e; exact ⟨_, rfl, q⟩
  | _, _, i + 1, x, .cons _ t, e => by
    obtain ⟨u, h1, h2⟩ := Rs.get (i := i) (x := x) t (by simpa using e)
    exact ⟨u, by simpa using h1, h2⟩
theorem Rs.length {r : List Addr} {xs : List IV} {ys : List V} (h : Rs r xs ys) : xs.length = ys.length := Paired.length h
theorem Rs.append {r : List Addr} : ∀ {xs ys : List IV} {us ws : List V}, Rs r xs us → Rs r ys ws → Rs r (xs ++ ys) (us ++ ws)
  | _, _, _, _, .nil, s => s
  | _, _, _, _, .cons q t, s => .cons q (Rs.append t s)
theorem Rs.set {r : List Addr} {x : IV} {u : V} (q : R r x u) : ∀ {xs : List IV} {us : List V} (i : Nat), Rs r xs us → Rs r (xs.set i x) (us.set i u)
  | _, _, _, .nil => .nil
  | _, _, 0, .cons _ t => .cons q t
  | _, _, i + 1, .cons q' t => .cons q' (Rs.set q i t)
theorem Rs.take {r : List Addr} : ∀ {xs : List IV} {us : List V} (n : Nat), Rs r xs us → Rs r (xs.take n) (us.take n)
  | _, _, 0, _ => .nil
  | _, _, _ + 1, .nil => .nil
  | _, _, n + 1, .cons q t => .cons q (Rs.take n t)
theorem Rs.drop {r : List Addr} : ∀ {xs : List IV} {us : List V} (n : Nat), Rs r xs us → Rs r (xs.drop n) (us.drop n)
  | _, _, 0, q => q
  | _, _, _ + 1, .nil => .nil
  | _, _, n + 1, .cons _ t => Rs.drop n t

theorem SqL.ofK {K : PySem.W.Frag} {H : Hp} {a : Addr} {ys : List V} (h : SqL K (fun _ => none) a ys) : SqL K H a ys := by
  rcases h with (h | ⟨o, h⟩) | h
  · cases h
  · cases h
  · exact .inr h
theorem SqT.ofK {K : PySem.W.Frag} {H : Hp} {a : Addr} {ys : List V} (h : SqT K (fun _ => none) a ys) : SqT K H a ys := by
  rcases h with (h | ⟨o, h⟩) | h
  · cases h
  · cases h
  · exact .inr h

section
variable {K : PySem.W.Frag} {r r' : List Addr} {ih ih' : IH} {H H' : Hp}
theorem Rel.at (h : Rel K r ih H) {n : Nat} {o : MO} (e : ih[n]? = some o) : ∃ a, r[n]? = some a ∧ RO K r H a o := by
  have hl := (List.getElem?_eq_some_iff.mp e).1
  have hr : n < r.length := by rw [h.len]; exact hl
  exact ⟨r[n], List.getElem?_eq_getElem hr, h.get n _ o (List.getElem?_eq_getElem hr) e⟩
theorem RO.mono (p : r <+: r') {a : Addr} {o : MO} (h : RO K r H a o) : RO K r' H a o := by
  cases o with
  | lst xs => obtain ⟨ys, h1, h2⟩ := h; exact ⟨ys, h1, h2.mono p⟩
  | tup xs => obtain ⟨ys, h1, h2⟩ := h; exact ⟨ys, h1, h2.mono p⟩
  | ro xs => obtain ⟨ys, h1, h2⟩ := h; exact ⟨ys, h1, h2.mono p⟩
  | rot xs => obtain ⟨ys, h1, h2⟩ := h; exact ⟨ys, h1, h2.mono p⟩
  | dct => exact h
  | dk kvs => obtain ⟨ys, h1, h2⟩ := h; exact ⟨ys, h1, h2.mono p⟩
  | clo => trivial
/-- the object's own entry is all that counts -/
theorem RO.heap {a : Addr} {o : MO} (h : RO K r H a o) (e : still o = true ∨ H' a = H a) (e2 : ∀ o' u, H a = some (.frz o' u) → H' a = some (.frz o' u)) : RO K r H' a o := by
  cases o with
  | lst xs =>
    obtain ⟨ys, h1, h2⟩ := h
    rcases e with e | e
    · cases e
    · exact ⟨ys, by rw [e]; exact h1, h2⟩
  | tup xs =>
    obtain ⟨ys, h1, h2⟩ := h
    rcases e with e | e
    · cases e
    · exact ⟨ys, by rw [e]; exact h1, h2⟩
  | ro xs =>
    obtain ⟨ys, h1, h2⟩ := h
    rcases h1 with ⟨o', h1⟩ | h1
    · exact ⟨ys, .inl ⟨o', e2 _ _ h1⟩, h2⟩
    · exact ⟨ys, .inr h1, h2⟩
  | rot xs => obtain ⟨ys, h1, h2⟩ := h; exact ⟨ys, h1, h2⟩
  | dct =>
    obtain ⟨kvs, h1⟩ := h
    rcases e with e | e
    · cases e
    · exact ⟨kvs, by rw [e]; exact h1⟩
  | dk kvs =>
    obtain ⟨ys, h1, h2⟩ := h
    rcases e with e | e
    · cases e
    · exact ⟨ys, by rw [e]; exact h1, h2⟩
  | clo => trivial
/-- a new object -/
theorem Rel.new (h : Rel K r ih H) {p : Addr} (hp : H p = none) {o : MO} {u : HO} (hs : still o = false) (ho : ∀ H', H' p = some u → RO K r H' p o) : Rel K (r ++ [p]) (ih ++ [o]) (upd H p u) := by
  have pre : r <+: r ++ [p] := ⟨[p], rfl⟩
  have off : ∀ {n : Nat} {b : Addr}, (r ++ [p])[n]? = some b → r[n]? = some b ∨ (n = r.length ∧ b = p) := fun {n b} e => by
    by_cases hn : n < r.length
    · rw [List.getElem?_append_left hn] at e
      exact .inl e
    · rw [List.getElem?_append_right (by omega)] at e
      have hz : n - r.length = 0 := by
        by_cases hz : n - r.length = 0
        · exact hz
        · rw [List.getElem?_eq_none (by simp; omega)] at e
          cases e
      rw [hz] at e
      cases e
      exact .inr ⟨by omega, rfl⟩
  have ofi : ∀ {n : Nat} {x : MO}, n < r.length → (ih ++ [o])[n]? = some x → ih[n]? = some x := fun {n x} hn e => by
    rw [List.getElem?_append_left (by rw [← h.len]; exact hn)] at e
    exact e
  refine ⟨by rw [List.length_append, List.length_append, h.len]; rfl, fun n a x e1 e2 => ?_, fun n m a x y e1 e2 e3 e4 s1 s2 => ?_, h.tab.ext fun b o e => (upd_ne (ne_of_none e hp)).trans e, h.pre.trans pre, fun q hq => (upd_ne (ne_of_none (h.cod q hq) hp)).trans (h.cod q hq)⟩
  · rcases off e1 with e | ⟨e, rfl⟩
    · have hn := (List.getElem?_eq_some_iff.mp e).1
      have q := h.get n a x e (ofi hn e2)
      by_cases ha : a = p
      · subst ha
        refine (q.heap (H' := upd H a u) ?_ fun o' u' z => by rw [hp] at z; cases z).mono pre
        cases x with
        | lst xs => obtain ⟨ys, z, _⟩ := q; rw [hp] at z; cases z
        | tup xs => obtain ⟨ys, z, _⟩ := q; rw [hp] at z; cases z
        | ro xs => exact .inl rfl
        | rot xs => exact .inl rfl
        | clo => exact .inl rfl
        | dct => obtain ⟨kvs, z⟩ := q; rw [hp] at z; cases z
        | dk kvs => obtain ⟨ys, z, _⟩ := q; rw [hp] at z; cases z
      · exact (q.heap (H' := upd H p u) (.inr (upd_ne ha)) fun o' u' z => by rw [upd_ne ha]; exact z).mono pre
    · subst e
      rw [h.len, List.getElem?_append_right (Nat.le_refl _), Nat.sub_self] at e2
      cases e2
      exact (ho _ upd_same).mono pre
  · have low : ∀ {n : Nat} {x : MO}, r[n]? = some p → (ih ++ [o])[n]? = some x → still x = false → False := fun {n x} z1 z2 z3 => by
      have hn := (List.getElem?_eq_some_iff.mp z1).1
      have q := h.get n p x z1 (ofi hn z2)
      cases x with
      | lst xs => obtain ⟨ys, z, _⟩ := q; rw [hp] at z; cases z
      | tup xs => obtain ⟨ys, z, _⟩ := q; rw [hp] at z; cases z
      | ro xs => cases z3
      | rot xs => cases z3
      | clo => cases z3
      | dct => obtain ⟨kvs, z⟩ := q; rw [hp] at z; cases z
      | dk kvs => obtain ⟨ys, z, _⟩ := q; rw [hp] at z; cases z
    rcases off e1 with z1 | ⟨z1, rfl⟩
    · rcases off e2 with z2 | ⟨z2, rfl⟩
      · exact h.inj n m a x y z1 z2 (ofi (List.getElem?_eq_some_iff.mp z1).1 e3) (ofi (List.getElem?_eq_some_iff.mp z2).1 e4) s1 s2
      · exact (low z1 e3 s1).elim
    · rcases off e2 with z2 | ⟨z2, _⟩
      · exact (low z2 e4 s2).elim
      · rw [z1, z2]
/-- a list is written -/
theorem Rel.write (h : Rel K r ih H) {n : Nat} {a : Addr} {xs xs' : List IV} {ys : List V} (e1 : r[n]? = some a) (e2 : ih[n]? = some (.lst xs)) (q : Rs r xs' ys) :
    Rel K r (ih.set n (.lst xs')) (upd H a (.lst ys)) := by
  have hn := (List.getElem?_eq_some_iff.mp e2).1
  obtain ⟨zs, hz, _⟩ := h.get n a _ e1 e2
  refine ⟨by rw [List.length_set]; exact h.len, fun m b x g1 g2 => ?_, fun m l b x y g1 g2 g3 g4 s1 s2 => ?_, fun p hp => ?_, h.pre, fun p hp => (upd_ne (ne_of (h.cod p hp) hz fun z => by unfold LamX.CodeO at z; cases z)).trans (h.cod p hp)⟩
  rotate_right
  · obtain ⟨ps, t1, t2, t3⟩ := h.tab p hp
    have ne : ∀ {b : Addr} {u : HO}, H b = some u → u ≠ .lst zs → upd H a (.lst ys) b = some u := fun {b u} e hu => (upd_ne (ne_of e hz hu)).trans e
    refine ⟨ps, ne t1 (fun z => nomatch z), t2, fun pos cv hc => ?_⟩
    obtain ⟨c, e, ec⟩ := t3 pos cv hc
    exact ⟨c, e, ne ec fun z => by unfold LamX.CodeO at z; cases z⟩
  · by_cases hm : n = m
    · subst hm
      rw [List.getElem?_set_self hn] at g2
      cases g2
      rw [e1] at g1
      cases g1
      exact ⟨ys, upd_same, q⟩
    · rw [List.getElem?_set_ne hm] at g2
      have w := h.get m b x g1 g2
      by_cases hb : b = a
      · subst hb
        refine w.heap ?_ fun o' u' z => by rw [hz] at z; cases z
        cases hs : still x with
        | true => exact .inl rfl
        | false => exact absurd (h.inj n m b _ _ e1 g1 e2 g2 rfl hs) hm
      · exact w.heap (.inr (upd_ne hb)) fun o' u' z => by rw [upd_ne hb]; exact z
  · have back : ∀ {m : Nat} {x : MO}, (ih.set n (.lst xs'))[m]? = some x → still x = false → ∃ x', ih[m]? = some x' ∧ still x' = false := fun {m x} g s => by
      by_cases hm : n = m
      · subst hm
        exact ⟨_, e2, rfl⟩
      · rw [List.getElem?_set_ne hm] at g
        exact ⟨x, g, s⟩
    obtain ⟨x', z1, z2⟩ := back g3 s1
    obtain ⟨y', z3, z4⟩ := back g4 s2
    exact h.inj m l b _ _ g1 g2 z1 z3 z2 z4
/-- a dict is written -/
theorem Rel.writeD (h : Rel K r ih H) {n : Nat} {a : Addr} {xs xs' : List (Key × IV)} {ys : List (Key × V)} (e1 : r[n]? = some a) (e2 : ih[n]? = some (.dk xs)) (q : RK r xs' ys) :
    Rel K r (ih.set n (.dk xs')) (upd H a (.dK ys)) := by
  have hn := (List.getElem?_eq_some_iff.mp e2).1
  obtain ⟨zs, hz, _⟩ := h.get n a _ e1 e2
  refine ⟨by rw [List.length_set]; exact h.len, fun m b x g1 g2 => ?_, fun m l b x y g1 g2 g3 g4 s1 s2 => ?_, fun p hp => ?_, h.pre, fun p hp => (upd_ne (ne_of (h.cod p hp) hz fun z => by unfold LamX.CodeO at z; cases z)).trans (h.cod p hp)⟩
  rotate_right
  · obtain ⟨ps, t1, t2, t3⟩ := h.tab p hp
    have ne : ∀ {b : Addr} {u : HO}, H b = some u → u ≠ .dK zs → upd H a (.dK ys) b = some u := fun {b u} e hu => (upd_ne (ne_of e hz hu)).trans e
    refine ⟨ps, ne t1 (fun z => nomatch z), t2, fun pos cv hc => ?_⟩
    obtain ⟨c, e, ec⟩ := t3 pos cv hc
    exact ⟨c, e, ne ec fun z => by unfold LamX.CodeO at z; cases z⟩
  · by_cases hm : n = m
    · subst hm
      rw [List.getElem?_set_self hn] at g2
      cases g2
      rw [e1] at g1
      cases g1
      exact ⟨ys, upd_same, q⟩
    · rw [List.getElem?_set_ne hm] at g2
      have w := h.get m b x g1 g2
      by_cases hb : b = a
      · subst hb
        refine w.heap ?_ fun o' u' z => by rw [hz] at z; cases z
        cases hs : still x with
        | true => exact .inl rfl
        | false => exact absurd (h.inj n m b _ _ e1 g1 e2 g2 rfl hs) hm
      · exact w.heap (.inr (upd_ne hb)) fun o' u' z => by rw [upd_ne hb]; exact z
  · have back : ∀ {m : Nat} {x : MO}, (ih.set n (.dk xs'))[m]? = some x → still x = false → ∃ x', ih[m]? = some x' ∧ still x' = false := fun {m x} g s => by
      by_cases hm : n = m
      · subst hm
        exact ⟨_, e2, rfl⟩
      · rw [List.getElem?_set_ne hm] at g
        exact ⟨x, g, s⟩
    obtain ⟨x', z1, z2⟩ := back g3 s1
    obtain ⟨y', z3, z4⟩ := back g4 s2
    exact h.inj m l b _ _ g1 g2 z1 z3 z2 z4
end
end L3
/-! L3b: mirrors as readings; expressions. -/
namespace L3
variable [TabT] [LamT]
open PySem L2

/-! ### readings made of mirrors -/
/-- what is wanted of an expression's result -/
def PGen {α β : Type} (rel : List Addr → α → β → Prop) (K : PySem.W.Frag) (W : WX) (σ : St) (r : List Addr) (res : Res α) (Q : β → Hp → Prop) : Prop := match res with
  | .ok v ih => ∀ r' H u, r <+: r' → Rel K r' ih H → rel r' v u → Q u H
  | .exc c ih => ∀ r' H, r <+: r' → Rel K r' ih H → W (.ref c) none σ H
  | .stuck => False
def tG {α β : Type} (rel : List Addr → α → β → Prop) (K : PySem.W.Frag) (W : WX) (m : Env → IH → Res α) : St → Hp → (β → Hp → Prop) → Prop := fun σ H Q =>
  ∃ r ih env, Rel K r ih H ∧ REnv r env σ ∧ PGen rel K W σ r (m env ih) Q
abbrev Bq (_ : List Addr) (a b : Bool) : Prop := b = a
/-- an optional int of a slice -/
abbrev Oq (_ : List Addr) (a b : Option Int) : Prop := b = a
abbrev tM (K : PySem.W.Frag) (W : WX) (m : Env → IH → Res IV) : TE := tG R K W m
abbrev tMT (K : PySem.W.Frag) (W : WX) (m : Env → IH → Res Bool) : TT := tG Bq K W m
abbrev tMA (K : PySem.W.Frag) (W : WX) (m : Env → IH → Res (List IV)) : TA := tG Rs K W m
def PStm (K : PySem.W.Frag) (W : WX) (r : List Addr) (res : RS) (D : Ends) : Prop := match res with
  | .ok (.next env) ih => ∀ r' H σ, r <+: r' → Rel K r' ih H → REnv r' env σ → D.nx σ H
  | .ok (.brk env) ih => ∀ r' H σ, r <+: r' → Rel K r' ih H → REnv r' env σ → D.bk σ H
  | .ok (.cont env) ih => ∀ r' H σ, r <+: r' → Rel K r' ih H → REnv r' env σ → D.ct σ H
  | .ok (.ret v) ih => ∀ r' H u, r <+: r' → Rel K r' ih H → R r' v u → D.rt u H
  | .exc c env ih => ∀ r' H σ, r <+: r' → Rel K r' ih H → REnv r' env σ → W (.ref c) none σ H
  | .stuck => False
def tMS (K : PySem.W.Frag) (W : WX) (m : Env → IH → RS) : TS := fun D σ H => ∃ r ih env, Rel K r ih H ∧ REnv r env σ ∧ PStm K W r (m env ih) D

theorem pre_refl (r : List Addr) : r <+: r := ⟨[], List.append_nil r⟩
theorem pre_trans {a b c : List Addr} (h : a <+: b) (k : b <+: c) : a <+: c := by
  obtain ⟨x, rfl⟩ := h
  obtain ⟨y, rfl⟩ := k
  exact ⟨x ++ y, (List.append_assoc _ _ _).symm⟩
section
variable {K : PySem.W.Frag} {W : WX} {σ : St} {H : Hp} {r r' : List Addr} {ih ih' : IH} {env : Env}
theorem PGen.mono {α β : Type} {rel : List Addr → α → β → Prop} {res : Res α} {Q : β → Hp → Prop} (p : r <+: r') (h : PGen rel K W σ r res Q) : PGen rel K W σ r' res Q := by
  cases res with
  | ok v ih => exact fun r2 H u p2 a b => h r2 H u (pre_trans p p2) a b
  | exc c ih => exact fun r2 H p2 a => h r2 H (pre_trans p p2) a
  | stuck => exact h
theorem PStm.mono {res : RS} {D : Ends} (p : r <+: r') (h : PStm K W r res D) : PStm K W r' res D := by
  cases res with
  | ok f ih =>
    cases f with
    | next e => exact fun r2 H u p2 a b => h r2 H u (pre_trans p p2) a b
    | brk e => exact fun r2 H u p2 a b => h r2 H u (pre_trans p p2) a b
    | cont e => exact fun r2 H u p2 a b => h r2 H u (pre_trans p p2) a b
    | ret e => exact fun r2 H u p2 a b => h r2 H u (pre_trans p p2) a b
  | exc c e ih => exact fun r2 H u p2 a b => h r2 H u (pre_trans p p2) a b
  | stuck => exact h
/-- what is known behind a part -/
def Got {α β : Type} (rel : List Addr → α → β → Prop) (K : PySem.W.Frag) (r : List Addr) (P : List Addr → IH → α → Prop) (u : β) (H : Hp) : Prop := ∃ r1 ih1 v, r <+: r1 ∧ Rel K r1 ih1 H ∧ rel r1 v u ∧ P r1 ih1 v
/-- the first part of a bind -/
theorem tG_bind {α β γ δ : Type} {rel1 : List Addr → α → β → Prop} {rel2 : List Addr → γ → δ → Prop} {m : Env → IH → Res α} {k : α → IH → Res γ} {Q : δ → Hp → Prop} (hr : Rel K r ih H) (he : REnv r env σ)
    (h : PGen rel2 K W σ r ((m env ih).bind k) Q) : tG rel1 K W m σ H (Got rel1 K r fun r1 ih1 v => PGen rel2 K W σ r1 (k v ih1) Q) := by
  refine ⟨r, ih, env, hr, he, ?_⟩
  cases e : m env ih with
  | ok v ih1 =>
    rw [e] at h
    exact fun r1 H1 u p a b => ⟨r1, ih1, v, p, a, b, PGen.mono p h⟩
  | exc c ih1 =>
    rw [e] at h
    exact fun r1 H1 p a => h r1 H1 p a
  | stuck =>
    rw [e] at h
    exact h
theorem tG_stm {α β : Type} {rel1 : List Addr → α → β → Prop} {m : Env → IH → Res α} {k : α → IH → RS} {D : Ends} (hr : Rel K r ih H) (he : REnv r env σ)
    (h : PStm K W r ((m env ih).stm env k) D) : tG rel1 K W m σ H (Got rel1 K r fun r1 ih1 v => PStm K W r1 (k v ih1) D) := by
  refine ⟨r, ih, env, hr, he, ?_⟩
  cases e : m env ih with
  | ok v ih1 =>
    rw [e] at h
    exact fun r1 H1 u p a b => ⟨r1, ih1, v, p, a, b, PStm.mono p h⟩
  | exc c ih1 =>
    rw [e] at h
    exact fun r1 H1 p a => h r1 H1 σ p a (he.mono p)
  | stuck =>
    rw [e] at h
    exact h
theorem tG_end {α β : Type} {rel : List Addr → α → β → Prop} {v : α} {u : β} {Q : β → Hp → Prop} (h : PGen rel K W σ r (.ok v ih) Q) (hr : Rel K r ih H) (q : rel r v u) : Q u H := h r H u (pre_refl r) hr q
end
theorem tG.imp {α β : Type} {rel : List Addr → α → β → Prop} {K : PySem.W.Frag} {W : WX} {m : Env → IH → Res α} {σ : St} {H : Hp} {Q Q' : β → Hp → Prop} (h : tG rel K W m σ H Q) (w : ∀ u H', Q u H' → Q' u H') : tG rel K W m σ H Q' := by
  obtain ⟨r, ih, env, h1, h2, h3⟩ := h
  refine ⟨r, ih, env, h1, h2, ?_⟩
  cases e : m env ih with
  | ok v ih1 => rw [e] at h3; exact fun r' H' u p a b => w _ _ (h3 r' H' u p a b)
  | exc c ih1 => rw [e] at h3; exact h3
  | stuck => rw [e] at h3; exact h3
/-- a reading, weaker -/
theorem PE.of {X : Cx} {e : Expr} {t t' : TE} (h : PE X e t) (w : ∀ σ H Q, t' σ H Q → t σ H Q) : PE X e t' := ⟨fun pins s σ H Q I q => h.run pins s σ H Q I (w σ H Q q)⟩
theorem PT.of {X : Cx} {e : Expr} {t t' : TT} (h : PT X e t) (w : ∀ σ H Q, t' σ H Q → t σ H Q) : PT X e t' := ⟨fun pins s σ H Q I q => h.run pins s σ H Q I (w σ H Q q)⟩
theorem PW.of {X : Cx} {e : Expr} {t t' : TT} (h : PW X e t) (w : ∀ σ H Q, t' σ H Q → t σ H Q) : PW X e t' := ⟨fun wh pins s σ H Q I q => h.run wh pins s σ H Q I (w σ H Q q)⟩
theorem PA.of {X : Cx} {e : List Expr} {t t' : TA} (h : PA X e t) (w : ∀ σ H Q, t' σ H Q → t σ H Q) : PA X e t' := ⟨fun pos pins s σ H Q I q => h.run pos pins s σ H Q I (w σ H Q q)⟩
theorem PS.of {X : Cx} {e : Stmt} {t t' : TS} (h : PS X e t) (w : ∀ D σ H, t' D σ H → t D σ H) : PS X e t' := ⟨fun pins s σ H D I q => h.run pins s σ H D I (w D σ H q)⟩
theorem PSs.of {X : Cx} {e : List Stmt} {t t' : TS} (h : PSs X e t) (w : ∀ D σ H, t' D σ H → t D σ H) : PSs X e t' := ⟨fun pins s σ H D I q => h.run pins s σ H D I (w D σ H q)⟩

/-! ### mirrors of expressions -/
def m_var (i : Nat) (env : Env) (ih : IH) : Res IV := match env[i]? with
  | some (some v) => .ok v ih
  | _ => .stuck
def m_c (v : IV) (_ : Env) (ih : IH) : Res IV := .ok v ih
def m_op (f : IV → IV → IH → Res IV) (ma mb : Env → IH → Res IV) (env : Env) (ih : IH) : Res IV := (ma env ih).bind fun x ih1 => (mb env ih1).bind fun y ih2 => f x y ih2
def m_un (f : IV → IH → Res IV) (ma : Env → IH → Res IV) (env : Env) (ih : IH) : Res IV := (ma env ih).bind f
def m_nil (_ : Env) (ih : IH) : Res (List IV) := .ok [] ih
def m_cons (ma : Env → IH → Res IV) (mr : Env → IH → Res (List IV)) (env : Env) (ih : IH) : Res (List IV) := (ma env ih).bind fun x ih1 => (mr env ih1).bind fun xs ih2 => .ok (x :: xs) ih2
def m_if (mt : Env → IH → Res Bool) (ma mb : Env → IH → Res IV) (env : Env) (ih : IH) : Res IV := (mt env ih).bind fun b ih1 => if b = true then ma env ih1 else mb env ih1
def m_and (ma mb : Env → IH → Res Bool) (env : Env) (ih : IH) : Res Bool := (ma env ih).bind fun b ih1 => if b = true then mb env ih1 else .ok false ih1
def m_or (ma mb : Env → IH → Res Bool) (env : Env) (ih : IH) : Res Bool := (ma env ih).bind fun b ih1 => if b = true then .ok true ih1 else mb env ih1
def m_not (ma : Env → IH → Res Bool) (env : Env) (ih : IH) : Res Bool := (ma env ih).bind fun b ih1 => .ok (!b) ih1
def m_tb (ma : Env → IH → Res IV) (env : Env) (ih : IH) : Res Bool := (ma env ih).bind fun v ih1 => match v with
  | .bl b => .ok b ih1
  | _ => .stuck
def m_andV (ma mb : Env → IH → Res IV) (env : Env) (ih : IH) : Res IV := (ma env ih).bind fun v ih1 => match v with
  | .bl b => if b = true then mb env ih1 else .ok (.bl false) ih1
  | _ => .stuck
def m_orV (ma mb : Env → IH → Res IV) (env : Env) (ih : IH) : Res IV := (ma env ih).bind fun v ih1 => match v with
  | .bl b => if b = true then .ok (.bl true) ih1 else mb env ih1
  | _ => .stuck
def m_notV (ma : Env → IH → Res IV) (env : Env) (ih : IH) : Res IV := (ma env ih).bind fun v ih1 => match v with
  | .bl b => .ok (.bl (!b)) ih1
  | _ => .stuck
/-- a call of values -/
def m_app (f : List IV → IH → Res IV) (ma : Env → IH → Res (List IV)) (env : Env) (ih : IH) : Res IV := (ma env ih).bind f

/-- a two-place rule follows its mirror -/
def Snd2 (K : PySem.W.Frag) (W : WX) (rr : R2) (f : IV → IV → IH → Res IV) : Prop := ∀ (r : List Addr) (ih : IH) (H : Hp) (x y : IV) (u w : V) (σ : St) (Q : VK), Rel K r ih H → R r x u → R r y w → PGen R K W σ r (f x y ih) Q → rr u w H Q
def Snd1 (K : PySem.W.Frag) (W : WX) (rr : V → Hp → VK → Prop) (f : IV → IH → Res IV) : Prop := ∀ (r : List Addr) (ih : IH) (H : Hp) (x : IV) (u : V) (σ : St) (Q : VK), Rel K r ih H → R r x u → PGen R K W σ r (f x ih) Q → rr u H Q
def SndC (K : PySem.W.Frag) (W : WX) (rr : List V → Hp → VK → Prop) (f : List IV → IH → Res IV) : Prop := ∀ (r : List Addr) (ih : IH) (H : Hp) (xs : List IV) (us : List V) (σ : St) (Q : VK), Rel K r ih H → Rs r xs us → PGen R K W σ r (f xs ih) Q → rr us H Q

section
variable {X : Cx} {W : WX} {a b c : Expr} {ma mb mc : Env → IH → Res IV} {na nb : Env → IH → Res Bool} {pos : Pos}
theorem lm_var (i : Nat) {x : Str} (hN : X.N[i]? = some x := by rfl) (hv : Vis X.env.scope x := by first | exact Or.inl rfl | exact Or.inr (Or.inl rfl) | exact Or.inr (Or.inr rfl)) (hd : (x == ("__debug__" : Str)) = false := by decide)
    (hcd : (x == ("__classdict__" : Str)) = false := by decide) : PE X (.Name x pos) (tM X.K W (m_var i)) :=
  PE.of (pe_var hN hv hd hcd) fun σ H Q ⟨r, ih, env, hr, he, q⟩ => by
    unfold m_var at q
    split at q
    · rename_i v e
      obtain ⟨u, h1, h2⟩ := he.2 i v e
      exact ⟨u, h1, tG_end q hr h2⟩
    · exact q.elim
theorem lm_c {e : Expr} {w : V} (v : IV) (h : PE X e (tC w)) (hv : ∀ r, R r v w := by intro _; rfl) : PE X e (tM X.K W (m_c v)) :=
  PE.of h fun σ H Q ⟨r, ih, env, hr, he, q⟩ => tG_end q hr (hv r)
theorem lm_op {op : Operator} {rr : R2} {f : IV → IV → IH → Res IV} (ho : OpR X (binaryOp op) rr) (hf : Snd2 X.K W rr f) (ha : PE X a (tM X.K W ma)) (hb : PE X b (tM X.K W mb)) : PE X (.BinOp a op b pos) (tM X.K W (m_op f ma mb)) :=
  PE.of (pe_op ho ha hb) fun σ H Q ⟨r, ih, env, hr, he, q⟩ => tG.imp (tG_bind hr he q) fun u H1 ⟨r1, ih1, v, p, hr1, hv, q1⟩ =>
    tG.imp (tG_bind hr1 (he.mono p) q1) fun w H2 ⟨r2, ih2, y, p2, hr2, hy, q2⟩ => hf _ _ _ _ _ _ _ _ _ hr2 (hv.mono p2) hy q2
theorem lm_un {op : UnaryOp} {rr : V → Hp → VK → Prop} {f : IV → IH → Res IV} (ho : UnR X (unaryOp op) rr) (hf : Snd1 X.K W rr f) (ha : PE X a (tM X.K W ma)) : PE X (.UnaryOp op a pos) (tM X.K W (m_un f ma)) :=
  PE.of (pe_un ho ha) fun σ H Q ⟨r, ih, env, hr, he, q⟩ => tG.imp (tG_bind hr he q) fun u H1 ⟨r1, ih1, v, p, hr1, hv, q1⟩ => hf _ _ _ _ _ _ _ hr1 hv q1
theorem lm_ix {rr : R2} {f : IV → IV → IH → Res IV} (ho : IxR X rr) (hf : Snd2 X.K W rr f) (ha : PE X a (tM X.K W ma)) (hb : PE X b (tM X.K W mb)) (hs : PlainIx b := by exact fun _ _ => rfl) : PE X (.Subscript a b pos) (tM X.K W (m_op f ma mb)) :=
  PE.of (pe_ix ho ha hb hs) fun σ H Q ⟨r, ih, env, hr, he, q⟩ => tG.imp (tG_bind hr he q) fun u H1 ⟨r1, ih1, v, p, hr1, hv, q1⟩ =>
    tG.imp (tG_bind hr1 (he.mono p) q1) fun w H2 ⟨r2, ih2, y, p2, hr2, hy, q2⟩ => hf _ _ _ _ _ _ _ _ _ hr2 (hv.mono p2) hy q2
theorem lm_cmp {op : CmpOp} {rr : R2} {f : IV → IV → IH → Res IV} (ho : OpR X (compareOp op) rr) (hf : Snd2 X.K W rr f) (ha : PE X a (tM X.K W ma)) (hb : PE X b (tM X.K W mb)) (hm : behindInMarks op b = false := by first | exact nomark _ | rfl) : PE X (.Compare a [op] [b] pos) (tM X.K W (m_op f ma mb)) :=
  PE.of (pe_cmpR ho ha hb hm) fun σ H Q ⟨r, ih, env, hr, he, q⟩ => tG.imp (tG_bind hr he q) fun u H1 ⟨r1, ih1, v, p, hr1, hv, q1⟩ =>
    tG.imp (tG_bind hr1 (he.mono p) q1) fun w H2 ⟨r2, ih2, y, p2, hr2, hy, q2⟩ => hf _ _ _ _ _ _ _ _ _ hr2 (hv.mono p2) hy q2
/-- a value's truth that is a bool -/
theorem tb_core {m : Env → IH → Res IV} {σ : St} {H : Hp} {Q : Bool → Hp → Prop} (h : tMT X.K W (m_tb m) σ H Q) : tM X.K W m σ H fun x H1 => ∃ k, x = .bl k ∧ Q k H1 := by
  obtain ⟨r, ih, env, hr, he, q⟩ := h
  refine tG.imp (tG_bind hr he q) fun u H1 ⟨r1, ih1, v, p, hr1, hv, q1⟩ => ?_
  cases v with
  | bl b =>
    obtain rfl : u = .bl b := hv
    exact ⟨b, rfl, tG_end q1 hr1 rfl⟩
  | _ => exact q1.elim
/-- a test that is a comparison -/
theorem lt_cmp {op : CmpOp} {rr : R2} {f : IV → IV → IH → Res IV} (ho : OpR X (compareOp op) rr) (hf : Snd2 X.K W rr f) (ha : PE X a (tM X.K W ma)) (hb : PE X b (tM X.K W mb)) (hm : behindInMarks op b = false := by first | exact nomark _ | rfl) : PT X (.Compare a [op] [b] pos) (tMT X.K W (m_tb (m_op f ma mb))) :=
  PT.of (pt_cmpR ho ha hb hm) fun σ H Q h => by
    obtain ⟨r, ih, env, hr, he, q⟩ := tb_core h
    exact tG.imp (tG_bind hr he q) fun u H1 ⟨r1, ih1, v, p, hr1, hv, q1⟩ =>
      tG.imp (tG_bind hr1 (he.mono p) q1) fun w H2 ⟨r2, ih2, y, p2, hr2, hy, q2⟩ => hf _ _ _ _ _ _ _ _ _ hr2 (hv.mono p2) hy q2
/-- any expression that gives a bool, as a test -/
theorem lt_val {e : Expr} {m : Env → IH → Res IV} (h : PE X e (tM X.K W m)) (he : ∀ whole, isTrue e X.env whole = (do let v ← whole; standAt e.pos; holding [v] (truthy v)) := by intro _; rfl) : PT X e (tMT X.K W (m_tb m)) :=
  PT.of (pt_val h he) fun σ H Q h => tb_core h
theorem lt_not (h : PT X a (tMT X.K W na)) : PT X (.UnaryOp .Not a pos) (tMT X.K W (m_not na)) :=
  PT.of (pt_not h) fun σ H Q ⟨r, ih, env, hr, he, q⟩ => tG.imp (tG_bind hr he q) fun u H1 ⟨r1, ih1, v, p, hr1, hv, q1⟩ => tG_end q1 hr1 (by rw [show u = v from hv])
theorem lw_and1 (h : PT X a (tMT X.K W na)) : PW X (.BoolOp .And [a] pos) (tMT X.K W na) := pw_and1 h
theorem lw_or1 (h : PT X a (tMT X.K W na)) : PW X (.BoolOp .Or [a] pos) (tMT X.K W na) := pw_or1 h
theorem lw_and {rest : List Expr} (ha : PT X a (tMT X.K W na)) (hb : PW X (.BoolOp .And (b :: rest) pos) (tMT X.K W nb)) : PW X (.BoolOp .And (a :: b :: rest) pos) (tMT X.K W (m_and na nb)) :=
  PW.of (pw_and ha hb) fun σ H Q ⟨r, ih, env, hr, he, q⟩ => tG.imp (tG_bind hr he q) fun u H1 ⟨r1, ih1, v, p, hr1, hv, q1⟩ => by
    obtain rfl : u = v := hv
    cases u with
    | true => exact ⟨r1, ih1, env, hr1, he.mono p, q1⟩
    | false => exact tG_end q1 hr1 rfl
theorem lw_or {rest : List Expr} (ha : PT X a (tMT X.K W na)) (hb : PW X (.BoolOp .Or (b :: rest) pos) (tMT X.K W nb)) : PW X (.BoolOp .Or (a :: b :: rest) pos) (tMT X.K W (m_or na nb)) :=
  PW.of (pw_or ha hb) fun σ H Q ⟨r, ih, env, hr, he, q⟩ => tG.imp (tG_bind hr he q) fun u H1 ⟨r1, ih1, v, p, hr1, hv, q1⟩ => by
    obtain rfl : u = v := hv
    cases u with
    | true => exact tG_end q1 hr1 rfl
    | false => exact ⟨r1, ih1, env, hr1, he.mono p, q1⟩
theorem lm_one {op : BoolOp} (h : PE X a (tM X.K W ma)) : PE X (.BoolOp op [a] pos) (tM X.K W ma) := pe_one h
theorem lm_and {rest : List Expr} (ha : PE X a (tM X.K W ma)) (hb : PE X (.BoolOp .And (b :: rest) pos) (tM X.K W mb)) : PE X (.BoolOp .And (a :: b :: rest) pos) (tM X.K W (m_andV ma mb)) :=
  PE.of (pe_and ha hb) fun σ H Q ⟨r, ih, env, hr, he, q⟩ => tG.imp (tG_bind hr he q) fun u H1 ⟨r1, ih1, v, p, hr1, hv, q1⟩ => by
    cases v with
    | bl k =>
      obtain rfl : u = .bl k := hv
      refine ⟨k, rfl, ?_⟩
      cases k with
      | true => exact ⟨r1, ih1, env, hr1, he.mono p, q1⟩
      | false => exact tG_end q1 hr1 rfl
    | _ => exact q1.elim
theorem lm_or {rest : List Expr} (ha : PE X a (tM X.K W ma)) (hb : PE X (.BoolOp .Or (b :: rest) pos) (tM X.K W mb)) : PE X (.BoolOp .Or (a :: b :: rest) pos) (tM X.K W (m_orV ma mb)) :=
  PE.of (pe_or ha hb) fun σ H Q ⟨r, ih, env, hr, he, q⟩ => tG.imp (tG_bind hr he q) fun u H1 ⟨r1, ih1, v, p, hr1, hv, q1⟩ => by
    cases v with
    | bl k =>
      obtain rfl : u = .bl k := hv
      refine ⟨k, rfl, ?_⟩
      cases k with
      | true => exact tG_end q1 hr1 rfl
      | false => exact ⟨r1, ih1, env, hr1, he.mono p, q1⟩
    | _ => exact q1.elim
theorem lm_not (ha : PE X a (tM X.K W ma)) : PE X (.UnaryOp .Not a pos) (tM X.K W (m_notV ma)) :=
  PE.of (pe_not ha) fun σ H Q ⟨r, ih, env, hr, he, q⟩ => tG.imp (tG_bind hr he q) fun u H1 ⟨r1, ih1, v, p, hr1, hv, q1⟩ => by
    cases v with
    | bl k =>
      obtain rfl : u = .bl k := hv
      exact ⟨k, rfl, tG_end q1 hr1 rfl⟩
    | _ => exact q1.elim
theorem lm_if {t : Expr} {nt : Env → IH → Res Bool} (ht : PT X t (tMT X.K W nt)) (ha : PE X a (tM X.K W ma)) (hb : PE X b (tM X.K W mb)) : PE X (.IfExp t a b pos) (tM X.K W (m_if nt ma mb)) :=
  PE.of (pe_ifExp ht ha hb) fun σ H Q ⟨r, ih, env, hr, he, q⟩ => tG.imp (tG_bind hr he q) fun u H1 ⟨r1, ih1, v, p, hr1, hv, q1⟩ => by
    obtain rfl : u = v := hv
    cases u with
    | true => exact ⟨r1, ih1, env, hr1, he.mono p, q1⟩
    | false => exact ⟨r1, ih1, env, hr1, he.mono p, q1⟩
theorem la_nil : PA X [] (tMA X.K W m_nil) := PA.of pa_nil fun σ H Q ⟨r, ih, env, hr, he, q⟩ => tG_end q hr .nil
theorem la_cons {es : List Expr} {mr : Env → IH → Res (List IV)} (ha : PE X a (tM X.K W ma)) (hr : PA X es (tMA X.K W mr)) (hp : starEach (a :: es) X.env = (false, eval a X.env) :: starEach es X.env := by rfl) : PA X (a :: es) (tMA X.K W (m_cons ma mr)) :=
  PA.of (pa_cons ha hr hp) fun σ H Q ⟨r, ih, env, hr, he, q⟩ => tG.imp (tG_bind hr he q) fun u H1 ⟨r1, ih1, v, p, hr1, hv, q1⟩ =>
    tG.imp (tG_bind hr1 (he.mono p) q1) fun w H2 ⟨r2, ih2, y, p2, hr2, hy, q2⟩ => tG_end q2 hr2 (.cons (hv.mono p2) hy)
/-- a built-in function, a built-in type -/
theorem lm_callB {x : Str} {p : Pos} {es : List Expr} {id : String} {rr : List V → Hp → VK → Prop} {f : List IV → IH → Res IV} {m : Env → IH → Res (List IV)} (hc : CallR X (.builtin id) rr) (hf : SndC X.K W rr f) (hg : Gl X x) (hm : X.mg x = none) (hv : bootBuiltins x = some (.builtin id)) (ha : PA X (a :: es) (tMA X.K W m))
    (hn : x ≠ "__name__" := by decide) (hdb : (x == ("__debug__" : Str)) = false := by decide)
    (he : starEach (a :: es) X.env = (false, eval a X.env) :: starEach es X.env := by rfl) (hpl : (backTo pos (starEach es X.env)).any (·.1) = false := by rfl) : PE X (.Call (.Name x p) (a :: es) [] pos) (tM X.K W (m_app f m)) :=
  PE.of (pe_callB hc hg hm hv ha hn hdb he hpl) fun σ H Q ⟨r, ih, env, hr, he, q⟩ => tG.imp (tG_bind hr he q) fun u H1 ⟨r1, ih1, v, p, hr1, hv, q1⟩ => hf _ _ _ _ _ _ _ hr1 hv q1
theorem lm_callTy {x : Str} {p : Pos} {es : List Expr} {T : String} {rr : List V → Hp → VK → Prop} {f : List IV → IH → Res IV} {m : Env → IH → Res (List IV)} (hc : CallR X (.type T) rr) (hf : SndC X.K W rr f) (hg : Gl X x) (hm : X.mg x = none) (hv : bootBuiltins x = some (.type T)) (ha : PA X (a :: es) (tMA X.K W m))
    (hn : x ≠ "__name__" := by decide) (hdb : (x == ("__debug__" : Str)) = false := by decide)
    (he : starEach (a :: es) X.env = (false, eval a X.env) :: starEach es X.env := by rfl) (hpl : (backTo pos (starEach es X.env)).any (·.1) = false := by rfl) : PE X (.Call (.Name x p) (a :: es) [] pos) (tM X.K W (m_app f m)) :=
  PE.of (pe_callTy hc hg hm hv ha hn hdb he hpl) fun σ H Q ⟨r, ih, env, hr, he, q⟩ => tG.imp (tG_bind hr he q) fun u H1 ⟨r1, ih1, v, p, hr1, hv, q1⟩ => hf _ _ _ _ _ _ _ hr1 hv q1
end
end L3
/-! L3c: the mirrors of operations on values, and that the hand layer's rules follow them. -/
namespace L3
variable [TabT] [LamT]
open PySem L2

/-! ### reading objects -/
def MO.xs : MO → List IV
  | .lst xs => xs
  | .tup xs => xs
  | .ro xs => xs
  | .rot xs => xs
  | .dct => []
  | .dk _ => []
  | .clo => []
def MO.isL : MO → Bool
  | .lst _ => true
  | .tup _ => false
  | .ro _ => true
  | .rot _ => false
  | .dct => false
  | .dk _ => false
  | .clo => false
def MO.isT : MO → Bool
  | .tup _ => true
  | .rot _ => true
  | _ => false
def MO.isS : MO → Bool
  | .dct => false
  | .dk _ => false
  | .clo => false
  | _ => true
theorem MO.lt {o : MO} (h : o.isL = true) (k : o.isT = true) : False := by
  cases o with
  | lst _ => cases k
  | ro _ => cases k
  | _ => cases h
theorem MO.tf {o : MO} (h : o.isL = false) (k : o = .dct → False) (k2 : o = .clo → False) (k3 : ∀ kvs, o = .dk kvs → False) : o.isT = true := by
  cases o with
  | dct => exact (k rfl).elim
  | dk kvs => exact (k3 kvs rfl).elim
  | clo => exact (k2 rfl).elim
  | tup _ => rfl
  | rot _ => rfl
  | _ => cases h
theorem MO.xs0 {o : MO} (h : o.isL = false) (k : o.isT = false) : o.xs = [] := by
  cases o with
  | dct => rfl
  | dk _ => rfl
  | clo => rfl
  | tup _ => cases k
  | rot _ => cases k
  | _ => cases h
section
variable {K : PySem.W.Frag} {W : WX} {r : List Addr} {ih : IH} {H : Hp} {a : Addr} {o : MO}
theorem RO.l (h : RO K r H a o) (e : o.isL = true) : ∃ ys, SqL K H a ys ∧ Rs r o.xs ys := by
  cases o with
  | lst xs => obtain ⟨ys, h1, h2⟩ := h; exact ⟨ys, .inl (.inl h1), h2⟩
  | ro xs =>
    obtain ⟨ys, h1, h2⟩ := h
    rcases h1 with ⟨o, h1⟩ | h1
    · exact ⟨ys, .inl (.inr ⟨o, h1⟩), h2⟩
    · exact ⟨ys, SqL.ofK h1, h2⟩
  | tup xs => cases e
  | rot xs => cases e
  | dct => cases e
  | dk _ => cases e
  | clo => cases e
theorem RO.t (h : RO K r H a o) (e : o.isT = true) : ∃ ys, SqT K H a ys ∧ Rs r o.xs ys := by
  cases o with
  | tup xs => obtain ⟨ys, h1, h2⟩ := h; exact ⟨ys, .inl (.inl h1), h2⟩
  | rot xs => obtain ⟨ys, h1, h2⟩ := h; exact ⟨ys, SqT.ofK h1, h2⟩
  | lst xs => cases e
  | ro xs => cases e
  | dct => cases e
  | dk _ => cases e
  | clo => cases e
theorem Rs.atI {xs : List IV} {ys : List V} {i : Int} {v : IV} (h : Rs r xs ys) (e : atI xs i = some v) : ∃ u, atI ys i = some u ∧ R r v u := by
  unfold L2.atI at e ⊢
  rw [← h.length]
  cases q : ixN xs.length i with
  | none => rw [q] at e; cases e
  | some j =>
    rw [q] at e
    obtain ⟨u, h1, h2⟩ := h.get (i := j) e
    exact ⟨u, h1, h2⟩
theorem R.flat {x : IV} {y : V} (h : R r x y) (f : ∀ n, x ≠ .ref n) : y = x.toV := by
  cases x with
  | ref n => exact absurd rfl (f n)
  | _ => exact h
theorem R.ref {n : Nat} {y : V} (h : R r (.ref n) y) : ∃ a, r[n]? = some a ∧ y = .ref a := h
end

/-! ### ints -/
def f_I (C : Int → Int → Bool) (g : Int → Int → IV) (x y : IV) (ih : IH) : Res IV := match x, y with
  | .int i, .int j => if C i j = true then .ok (g i j) ih else .stuck
  | _, _ => .stuck
def f_I0 (g : Int → Int → IV) (x y : IV) (ih : IH) : Res IV := match x, y with
  | .int i, .int j => .ok (g i j) ih
  | _, _ => .stuck
def f_U (g : Int → IV) (x : IV) (ih : IH) : Res IV := match x with
  | .int i => .ok (g i) ih
  | _ => .stuck
abbrev ibits (i : Int) : Nat := Builtin.Int.intBits i
def cMul (i j : Int) : Bool := decide (ibits i + ibits j ≤ 134217728)
def cShl (i j : Int) : Bool := decide (0 ≤ j) && decide ((ibits i : Int) + j ≤ 134217728)
def cShr (_ j : Int) : Bool := decide (0 ≤ j)
def cDiv (_ j : Int) : Bool := decide (0 < j) && decide (j.natAbs.log2 < 9000)
def cMod (_ j : Int) : Bool := decide (0 < j)
def cPow (i j : Int) : Bool := decide (0 ≤ j) && decide (j ≤ 1000000) && decide (i.natAbs < 18446744073709551616)
section
variable {X : Cx} {K : PySem.W.Frag} {W : WX}
theorem snd_I {C : Int → Int → Bool} {D : Int → Int → Prop} {g : Int → Int → IV} {g' : Int → Int → V} (hC : ∀ i j, C i j = true → D i j) (hg : ∀ r i j, R r (g i j) (g' i j)) : Snd2 K W (rI D g') (f_I C g) := by
  intro r ih H x y u w σ Q hr hx hy q
  cases x with
  | int i =>
    cases y with
    | int j =>
      obtain rfl : u = .int i := hx
      obtain rfl : w = .int j := hy
      show ∃ i' j', _
      refine ⟨i, j, rfl, rfl, ?_⟩
      unfold f_I at q
      dsimp only at q
      split at q
      · rename_i hc
        exact ⟨hC i j hc, tG_end q hr (hg r i j)⟩
      · exact q.elim
    | _ => exact q.elim
  | _ => exact q.elim
theorem snd_I0 {g : Int → Int → IV} {g' : Int → Int → V} (hg : ∀ r i j, R r (g i j) (g' i j)) : Snd2 K W (rI0 g') (f_I0 g) := by
  intro r ih H x y u w σ Q hr hx hy q
  cases x with
  | int i =>
    cases y with
    | int j =>
      obtain rfl : u = .int i := hx
      obtain rfl : w = .int j := hy
      exact ⟨i, j, rfl, rfl, tG_end q hr (hg r i j)⟩
    | _ => exact q.elim
  | _ => exact q.elim
theorem snd_U {g : Int → IV} {g' : Int → V} (hg : ∀ r i, R r (g i) (g' i)) : Snd1 K W (rU g') (f_U g) := by
  intro r ih H x u σ Q hr hx q
  cases x with
  | int i =>
    obtain rfl : u = .int i := hx
    exact ⟨i, rfl, tG_end q hr (hg r i)⟩
  | _ => exact q.elim
def f_mul := f_I cMul fun i j => .int (i * j)
def f_sub := f_I0 fun i j => .int (i - j)
def f_fdiv := f_I cDiv fun i j => .int (i / j)
def f_mod := f_I cMod fun i j => .int (i % j)
def f_shl := f_I cShl fun i j => .int (i * 2 ^ j.toNat)
def f_shr := f_I cShr fun i j => .int (i / 2 ^ j.toNat)
def f_pow := f_I cPow fun i j => .int (i ^ j.toNat)
def f_lt := f_I0 fun i j => .bl (decide (i < j))
def f_le := f_I0 fun i j => .bl (decide (i ≤ j))
def f_gt := f_I0 fun i j => .bl (decide (j < i))
def f_ge := f_I0 fun i j => .bl (decide (j ≤ i))
def f_neg := f_U fun i => .int (-i)
theorem s_mul : Snd2 K W (rI CMulX fun i j => .int (i * j)) f_mul := snd_I (fun i j h => by
  have h1 := of_decide_eq_true h
  unfold ibits at h1
  unfold CMulX
  omega) fun _ _ _ => rfl
theorem s_sub : Snd2 K W (rI0 fun i j => .int (i - j)) f_sub := snd_I0 fun _ _ _ => rfl
theorem s_fdiv : Snd2 K W (rI CDivW fun i j => .int (i / j)) f_fdiv := snd_I (fun i j h => by
  unfold cDiv at h
  rw [Bool.and_eq_true] at h
  exact ⟨of_decide_eq_true h.1, of_decide_eq_true h.2⟩) fun _ _ _ => rfl
theorem s_mod : Snd2 K W (rI (fun _ j => 0 < j) fun i j => .int (i % j)) f_mod := snd_I (fun i j h => of_decide_eq_true h) fun _ _ _ => rfl
theorem s_shl : Snd2 K W (rI CShl fun i j => .int (i * 2 ^ j.toNat)) f_shl := snd_I (fun i j h => by
  unfold cShl at h
  rw [Bool.and_eq_true] at h
  exact ⟨of_decide_eq_true h.1, of_decide_eq_true h.2⟩) fun _ _ _ => rfl
theorem s_shr : Snd2 K W (rI (fun _ j => 0 ≤ j) fun i j => .int (i / 2 ^ j.toNat)) f_shr := snd_I (fun i j h => of_decide_eq_true h) fun _ _ _ => rfl
theorem s_pow : Snd2 K W (rI CPow fun i j => .int (i ^ j.toNat)) f_pow := snd_I (fun i j h => by
  unfold cPow at h
  rw [Bool.and_eq_true, Bool.and_eq_true] at h
  exact ⟨of_decide_eq_true h.1.1, of_decide_eq_true h.1.2, of_decide_eq_true h.2⟩) fun _ _ _ => rfl
theorem s_lt : Snd2 K W (rI0 fun i j => .bl (decide (i < j))) f_lt := snd_I0 fun _ _ _ => rfl
theorem s_le : Snd2 K W (rI0 fun i j => .bl (decide (i ≤ j))) f_le := snd_I0 fun _ _ _ => rfl
theorem s_gt : Snd2 K W (rI0 fun i j => .bl (decide (j < i))) f_gt := snd_I0 fun _ _ _ => rfl
theorem s_ge : Snd2 K W (rI0 fun i j => .bl (decide (j ≤ i))) f_ge := snd_I0 fun _ _ _ => rfl
theorem s_neg : Snd1 K W (rU fun i => .int (-i)) f_neg := snd_U fun _ _ => rfl

/-! ### + : ints, lists, tuples, texts -/
def f_add (x y : IV) (ih : IH) : Res IV := match x, y with
  | .int i, .int j => .ok (.int (i + j)) ih
  | .str a, .str b => if a.length + b.length ≤ 1000000 then .ok (.str (a ++ b)) ih else .stuck
  | .ref n, .ref m => match ih[n]?, ih[m]? with
    | some (.lst xs), some (.lst ys) => if xs.length + ys.length ≤ 100000 then .ok (.ref ih.length) (ih ++ [.lst (xs ++ ys)]) else .stuck
    | some (.tup xs), some (.tup ys) => if xs ≠ [] ∧ ys ≠ [] ∧ xs.length + ys.length ≤ 100000 then .ok (.ref ih.length) (ih ++ [.tup (xs ++ ys)]) else .stuck
    | _, _ => .stuck
  | _, _ => .stuck
theorem pre_one {r : List Addr} {p : Addr} : r <+: r ++ [p] := ⟨[p], rfl⟩
theorem R.newest {r : List Addr} {p : Addr} {n : Nat} (h : r.length = n) : R (r ++ [p]) (.ref n) (.ref p) := ⟨p, by rw [← h, List.getElem?_append_right (Nat.le_refl _), Nat.sub_self]; rfl, rfl⟩
/-- a new list, a new tuple is the result -/
theorem end_lst {r : List Addr} {ih : IH} {H : Hp} {σ : St} {Q : VK} {xs : List IV} {ys : List V} (q : PGen R K W σ r (.ok (.ref ih.length) (ih ++ [.lst xs])) Q) (hr : Rel K r ih H) (h : Rs r xs ys) {p : Addr} (hp : H p = none) : Q (.ref p) (upd H p (.lst ys)) :=
  q _ _ _ pre_one (hr.new hp rfl fun H' e => ⟨ys, e, h⟩) (R.newest hr.len)
theorem end_tup {r : List Addr} {ih : IH} {H : Hp} {σ : St} {Q : VK} {xs : List IV} {ys : List V} (q : PGen R K W σ r (.ok (.ref ih.length) (ih ++ [.tup xs])) Q) (hr : Rel K r ih H) (h : Rs r xs ys) {p : Addr} (hp : H p = none) : Q (.ref p) (upd H p (.tup ys)) :=
  q _ _ _ pre_one (hr.new hp rfl fun H' e => ⟨ys, e, h⟩) (R.newest hr.len)
theorem line5 {n : Nat} (h : n ≤ 100000) : n ≤ sizeLine := Nat.le_trans h (by decide)
theorem line6 {n : Nat} (h : n ≤ 1000000) : n ≤ sizeLine := Nat.le_trans h (by decide)
theorem line5l {n : Nat} (h : n < 100000) : n < sizeLine := Nat.lt_of_lt_of_le h (by decide)
abbrev rAddA (K : PySem.W.Frag) : R2 := fun x y H Q => (∃ i j, x = .int i ∧ y = .int j ∧ Q (.int (i + j)) H) ∨ ((∃ i j, x = .str i ∧ y = .str j ∧ i.length + j.length ≤ sizeLine ∧ Q (.str (i ++ j)) H) ∨ (rCat x y H Q ∨ rCatT K x y H Q))
theorem op_addA : OpR X (binaryOp .Add) (rAddA X.K) := op_add.or (op_add_str.or (op_cat.or op_catT))
theorem Rs.ne_nil {r : List Addr} {xs : List IV} {ys : List V} (h : Rs r xs ys) (n : xs ≠ []) : ys ≠ [] := fun e => by
  subst e
  have := h.length
  exact n (List.length_eq_zero_iff.mp this)
theorem s_add : Snd2 K W (rAddA K) f_add := by
  intro r ih H x y u w σ Q hr hx hy q
  unfold f_add at q
  split at q
  · rename_i i j
    obtain rfl : u = .int i := hx
    obtain rfl : w = .int j := hy
    exact .inl ⟨i, j, rfl, rfl, tG_end q hr rfl⟩
  · rename_i i j
    obtain rfl : u = .str i := hx
    obtain rfl : w = .str j := hy
    split at q
    · rename_i hl
      exact .inr (.inl ⟨i, j, rfl, rfl, line6 hl, tG_end q hr rfl⟩)
    · exact q.elim
  · rename_i n m
    obtain ⟨a, ea, rfl⟩ := hx.ref
    obtain ⟨b, eb, rfl⟩ := hy.ref
    split at q
    · rename_i xs ys e1 e2
      obtain ⟨xs', h1, h2⟩ := hr.get n a _ ea e1
      obtain ⟨ys', h3, h4⟩ := hr.get m b _ eb e2
      split at q
      · rename_i hl
        refine .inr (.inr (.inl ⟨a, b, xs', ys', rfl, rfl, h1, h3, ?_, fun p hp => end_lst q hr (h2.append h4) hp⟩))
        rw [← h2.length, ← h4.length]
        exact line5 hl
      · exact q.elim
    · rename_i xs ys e1 e2
      obtain ⟨xs', h1, h2⟩ := hr.get n a _ ea e1
      obtain ⟨ys', h3, h4⟩ := hr.get m b _ eb e2
      split at q
      · rename_i hl
        refine .inr (.inr (.inr ⟨a, b, xs', ys', rfl, rfl, SqT.of h1, SqT.of h3, h2.ne_nil hl.1, ?_, fun z => absurd z (h4.ne_nil hl.2.1), fun _ p hp => end_tup q hr (h2.append h4) hp⟩))
        rw [← h2.length, ← h4.length]
        exact line5 hl.2.2
      · exact q.elim
    · exact q.elim
  · exact q.elim

/-! ### list * int -/
def f_mulA (x y : IV) (ih : IH) : Res IV := match x, y with
  | .int i, .int j => if cMul i j = true then .ok (.int (i * j)) ih else .stuck
  | .ref n, .int k => match ih[n]? with
    | some (.lst xs) => if 0 ≤ k ∧ k ≤ 100000 ∧ xs.length * k.toNat ≤ 100000 then .ok (.ref ih.length) (ih ++ [.lst (List.replicate k.toNat xs).flatten]) else .stuck
    | _ => .stuck
  | _, _ => .stuck
theorem Rs.rep {r : List Addr} {xs : List IV} {ys : List V} (h : Rs r xs ys) : ∀ k : Nat, Rs r (List.replicate k xs).flatten (List.replicate k ys).flatten
  | 0 => .nil
  | k + 1 => by
    rw [List.replicate_succ, List.replicate_succ, List.flatten_cons, List.flatten_cons]
    exact h.append (Rs.rep h k)
abbrev rMulA : R2 := fun x y H Q => rI CMulX (fun i j => .int (i * j)) x y H Q ∨ rRep x y H Q
theorem op_mulA : OpR X (binaryOp .Mult) rMulA := op_mulX.or op_rep
theorem s_mulA : Snd2 K W rMulA f_mulA := by
  intro r ih H x y u w σ Q hr hx hy q
  unfold f_mulA at q
  split at q
  · rename_i i j
    refine .inl (s_mul (W := W) r ih H (.int i) (.int j) u w σ Q hr hx hy ?_)
    exact q
  · rename_i n k
    obtain ⟨a, ea, rfl⟩ := hx.ref
    obtain rfl : w = .int k := hy
    split at q
    · rename_i xs e1
      obtain ⟨xs', h1, h2⟩ := hr.get n a _ ea e1
      split at q
      · rename_i hl
        refine .inr ⟨a, k, xs', rfl, rfl, h1, by omega, by omega, ?_, fun p hp => end_lst q hr (h2.rep _) hp⟩
        rw [← h2.length]
        exact line5 hl.2.2
      · exact q.elim
    · exact q.elim
  · exact q.elim

/-! ### subscripts -/
def f_ix (x y : IV) (ih : IH) : Res IV := match x, y with
  | .ref n, .int i => match ih[n]? with
    | some o => match atI o.xs i with
      | some v => .ok v ih
      | none => .stuck
    | none => .stuck
  | .str z, .int i => if z.length ≤ 1000000 then (match atI z.cps.toList i with
      | some c => .ok (.str ⟨#[c]⟩) ih
      | none => .stuck) else .stuck
  | _, _ => .stuck
theorem s_ix : Snd2 K W (rIx K) f_ix := by
  intro r ih H x y u w σ Q hr hx hy q
  unfold f_ix at q
  split at q
  · rename_i n i
    obtain ⟨a, ea, rfl⟩ := hx.ref
    obtain rfl : w = .int i := hy
    split at q
    · rename_i o e1
      have ho := hr.get n a _ ea e1
      split at q
      · rename_i v e2
        cases hl : o.isL with
        | true =>
          obtain ⟨ys, h1, h2⟩ := ho.l hl
          obtain ⟨z, h3, h4⟩ := h2.atI e2
          exact .inl ⟨a, ys, i, z, rfl, rfl, h1, h3, tG_end q hr h4⟩
        | false =>
          cases ht : o.isT with
          | true =>
            obtain ⟨ys, h1, h2⟩ := ho.t ht
            obtain ⟨z, h3, h4⟩ := h2.atI e2
            exact .inr (.inl ⟨a, ys, i, z, rfl, rfl, h1, h3, tG_end q hr h4⟩)
          | false =>
            rw [MO.xs0 hl ht] at e2
            simp [L2.atI] at e2
      · exact q.elim
    · exact q.elim
  · rename_i z i
    obtain rfl : u = .str z := hx
    obtain rfl : w = .int i := hy
    split at q
    · rename_i hl
      split at q
      · rename_i c e
        exact .inr (.inr ⟨z, i, c, rfl, rfl, line6 hl, e, tG_end q hr rfl⟩)
      · exact q.elim
    · exact q.elim
  · exact q.elim
end

/-! ### == and != -/
mutual
/-- the value is this datum -/
inductive Is (ih : IH) : IV → PyData → Prop
  | non : Is ih .non .none
  | bl (b : Bool) : Is ih (.bl b) (.bool b)
  | int (i : Int) : Is ih (.int i) (.int i)
  | str (x : Str) : Is ih (.str x) (.str x)
  | lst {n : Nat} {o : MO} {ds : List PyData} : ih[n]? = some o → o.isL = true → IsAll ih o.xs ds → Is ih (.ref n) (.list ds)
  | tup {n : Nat} {o : MO} {ds : List PyData} : ih[n]? = some o → o.isT = true → IsAll ih o.xs ds → Is ih (.ref n) (.tuple ds)
inductive IsAll (ih : IH) : List IV → List PyData → Prop
  | nil : IsAll ih [] []
  | cons {v : IV} {vs : List IV} {d : PyData} {ds : List PyData} : Is ih v d → IsAll ih vs ds → IsAll ih (v :: vs) (d :: ds)
end
mutual
theorem Is.uniq {ih : IH} : ∀ (d e : PyData) (v : IV), Is ih v d → Is ih v e → d = e
  | .none, _, _, h, k => by cases h; cases k; rfl
  | .bool _, _, _, h, k => by cases h; cases k; rfl
  | .int _, _, _, h, k => by cases h; cases k; rfl
  | .str _, _, _, h, k => by cases h; cases k; rfl
  | .list ds, _, _, h, k => by
    cases h with
    | lst h1 h2 h3 =>
      cases k with
      | lst k1 k2 k3 =>
        rw [h1] at k1
        cases k1
        rw [Is.uniqAll ds _ _ h3 k3]
      | tup k1 k2 k3 =>
        rw [h1] at k1
        cases k1
        exact (MO.lt h2 k2).elim
  | .tuple ds, _, _, h, k => by
    cases h with
    | tup h1 h2 h3 =>
      cases k with
      | tup k1 k2 k3 =>
        rw [h1] at k1
        cases k1
        rw [Is.uniqAll ds _ _ h3 k3]
      | lst k1 k2 k3 =>
        rw [h1] at k1
        cases k1
        exact (MO.lt k2 h2).elim
  | .dict _, _, _, h, _ => by cases h
theorem Is.uniqAll {ih : IH} : ∀ (ds es : List PyData) (vs : List IV), IsAll ih vs ds → IsAll ih vs es → ds = es
  | [], _, _, h, k => by cases h; cases k; rfl
  | d :: ds, _, _, h, k => by
    cases h with
    | cons h1 h2 =>
      cases k with
      | cons k1 k2 => rw [Is.uniq d _ _ h1 k1, Is.uniqAll ds _ _ h2 k2]
end
mutual
theorem Is.dp {K : PySem.W.Frag} {r : List Addr} {ih : IH} {H : Hp} (hr : Rel K r ih H) : ∀ (d : PyData) (v : IV) (u : V), Is ih v d → R r v u → Dp K H u d
  | .none, _, u, h, q => by cases h; obtain rfl : u = .non := q; exact .non
  | .bool b, _, u, h, q => by cases h; obtain rfl : u = .bl b := q; exact .bl b
  | .int i, _, u, h, q => by cases h; obtain rfl : u = .int i := q; exact .int i
  | .str x, _, u, h, q => by cases h; obtain rfl : u = .str x := q; exact .str x
  | .list ds, _, u, h, q => by
    cases h with
    | lst h1 h2 h3 =>
      obtain ⟨a, ea, rfl⟩ := q.ref
      obtain ⟨ys, h4, h5⟩ := (hr.get _ a _ ea h1).l h2
      exact .lst h4 (Is.dpAll hr ds _ _ h3 h5)
  | .tuple ds, _, u, h, q => by
    cases h with
    | tup h1 h2 h3 =>
      obtain ⟨a, ea, rfl⟩ := q.ref
      obtain ⟨ys, h4, h5⟩ := (hr.get _ a _ ea h1).t h2
      exact .tup h4 (Is.dpAll hr ds _ _ h3 h5)
  | .dict _, _, _, h, _ => by cases h
theorem Is.dpAll {K : PySem.W.Frag} {r : List Addr} {ih : IH} {H : Hp} (hr : Rel K r ih H) : ∀ (ds : List PyData) (vs : List IV) (us : List V), IsAll ih vs ds → Rs r vs us → DpAll K H us ds
  | [], _, _, h, q => by cases h; cases q; exact .nil
  | d :: ds, _, _, h, q => by
    cases h with
    | cons h1 h2 =>
      cases q with
      | cons q1 q2 => exact .cons (Is.dp hr d _ _ h1 q1) (Is.dpAll hr ds _ _ h2 q2)
end
/-- two lists of unlike lengths -/
def lenNe (x y : IV) (ih : IH) : Bool := match x, y with
  | .ref n, .ref m => match ih[n]?, ih[m]? with
    | some o, some u => o.isL && u.isL && (o.xs.length != u.xs.length)
    | _, _ => false
  | _, _ => false
open Classical in
noncomputable def f_eqn (neg : Bool) (x y : IV) (ih : IH) : Res IV :=
  if h : ∃ p : PyData × PyData, Is ih x p.1 ∧ Is ih y p.2 ∧ SeqAt.shaped p.1 = true ∧ SeqAt.shaped p.2 = true then .ok (.bl (if neg = true then !PyData.eqv h.choose.1 h.choose.2 else PyData.eqv h.choose.1 h.choose.2)) ih else if lenNe x y ih = true then .ok (.bl neg) ih else .stuck
noncomputable def f_eq := f_eqn false
noncomputable def f_ne := f_eqn true
theorem f_eqn_of {neg : Bool} {x y : IV} {ih : IH} {d e : PyData} (h1 : Is ih x d) (h2 : Is ih y e) (s1 : SeqAt.shaped d = true) (s2 : SeqAt.shaped e = true) : f_eqn neg x y ih = .ok (.bl (if neg = true then !PyData.eqv d e else PyData.eqv d e)) ih := by
  unfold f_eqn
  have h : ∃ p : PyData × PyData, Is ih x p.1 ∧ Is ih y p.2 ∧ SeqAt.shaped p.1 = true ∧ SeqAt.shaped p.2 = true := ⟨(d, e), h1, h2, s1, s2⟩
  rw [dif_pos h]
  have k := h.choose_spec
  rw [Is.uniq _ _ _ k.1 h1, Is.uniq _ _ _ k.2.1 h2]
theorem f_eq_of {x y : IV} {ih : IH} {d e : PyData} (h1 : Is ih x d) (h2 : Is ih y e) (s1 : SeqAt.shaped d = true) (s2 : SeqAt.shaped e = true) : f_eq x y ih = .ok (.bl (PyData.eqv d e)) ih := f_eqn_of h1 h2 s1 s2
theorem f_ne_of {x y : IV} {ih : IH} {d e : PyData} (h1 : Is ih x d) (h2 : Is ih y e) (s1 : SeqAt.shaped d = true) (s2 : SeqAt.shaped e = true) : f_ne x y ih = .ok (.bl (!PyData.eqv d e)) ih := f_eqn_of h1 h2 s1 s2
theorem IsAll.len {ih : IH} : ∀ {vs : List IV} {ds : List PyData}, IsAll ih vs ds → vs.length = ds.length
  | _, _, .nil => rfl
  | _, _, .cons _ t => congrArg Nat.succ t.len
theorem eqv_lenNe {xs ys : List PyData} (h : xs.length ≠ ys.length) : PyData.eqv (.list xs) (.list ys) = false := by
  refine Bool.eq_false_iff.mpr fun e => h ?_
  unfold PyData.eqv at e
  have key : ∀ (xs ys : List PyData), PyData.eqvAll xs ys = true → xs.length = ys.length := by
    intro xs
    induction xs with
    | nil => intro ys e; cases ys with
      | nil => rfl
      | cons y ys => simp [PyData.eqvAll] at e
    | cons x xs ih => intro ys e; cases ys with
      | nil => simp [PyData.eqvAll] at e
      | cons y ys =>
        simp [PyData.eqvAll] at e
        rw [List.length_cons, List.length_cons, ih ys e.2]
  exact key xs ys e
theorem f_eqn_len {neg : Bool} {n m : Nat} {o u : MO} {ih : IH} (h1 : ih[n]? = some o) (h2 : ih[m]? = some u) (l1 : o.isL = true) (l2 : u.isL = true) (hl : o.xs.length ≠ u.xs.length) : f_eqn neg (.ref n) (.ref m) ih = .ok (.bl neg) ih := by
  have e1 : lenNe (.ref n) (.ref m) ih = true := by
    unfold lenNe
    dsimp only
    rw [h1, h2]
    dsimp only
    rw [l1, l2]
    simpa using hl
  unfold f_eqn
  by_cases h : ∃ p : PyData × PyData, Is ih (.ref n) p.1 ∧ Is ih (.ref m) p.2 ∧ SeqAt.shaped p.1 = true ∧ SeqAt.shaped p.2 = true
  · rw [dif_pos h]
    have k := h.choose_spec
    have e2 : PyData.eqv h.choose.1 h.choose.2 = false := by
      generalize h.choose = z at k ⊢
      obtain ⟨d, e⟩ := z
      obtain ⟨k1, k2, _, _⟩ := k
      dsimp only at k1 k2 ⊢
      cases k1 with
      | lst g1 g2 g3 =>
        rw [h1] at g1
        cases g1
        cases k2 with
        | lst f1 f2 f3 =>
          rw [h2] at f1
          cases f1
          exact eqv_lenNe (by rw [← g3.len, ← f3.len]; exact hl)
        | tup f1 f2 f3 =>
          rw [h2] at f1
          cases f1
          exact (MO.lt l2 f2).elim
      | tup g1 g2 g3 =>
        rw [h1] at g1
        cases g1
        exact (MO.lt l1 g2).elim
    rw [e2]
    cases neg <;> rfl
  · rw [dif_neg h, if_pos e1]
def rEqL (K : PySem.W.Frag) (b : Bool) : R2 := fun x y H Q => ∃ p q xs ys, x = .ref p ∧ y = .ref q ∧ SqL K H p xs ∧ SqL K H q ys ∧ xs.length ≠ ys.length ∧ Q (.bl b) H
abbrev rEqX (K : PySem.W.Frag) : R2 := fun x y H Q => rEqD K x y H Q ∨ rEqL K false x y H Q
abbrev rNeX (K : PySem.W.Frag) : R2 := fun x y H Q => rNeD K x y H Q ∨ rEqL K true x y H Q
theorem op_eqL {X : Cx} (hu : X.A.units < cLine) : OpR X (compareOp .Eq) (rEqL X.K false) := by
  intro pins s σ H x y v u Q I rx ry h
  obtain ⟨p, q, xs, ys, rfl, rfl, h1, h2, hl, k⟩ := h
  cases (show v = Value.ref p from rx)
  cases (show u = Value.ref q from ry)
  obtain ⟨us, r1, p1, _⟩ := I.list h1
  obtain ⟨ws, r2, p2, _⟩ := I.list h2
  exact SeqAt.RcAt.lists_lengths p1.isList p2.isList (by simpa [← r1.length, ← r2.length] using hl) hu _ _ _ _ ⟨.bl _, H, I, rfl, k⟩
theorem op_neL {X : Cx} (hu : X.A.units < cLine) : OpR X (compareOp .NotEq) (rEqL X.K true) := by
  intro pins s σ H x y v u Q I rx ry h
  obtain ⟨p, q, xs, ys, rfl, rfl, h1, h2, hl, k⟩ := h
  cases (show v = Value.ref p from rx)
  cases (show u = Value.ref q from ry)
  obtain ⟨us, r1, p1, _⟩ := I.list h1
  obtain ⟨ws, r2, p2, _⟩ := I.list h2
  exact SeqAt.RcNeAt.lists_lengths p1.isList p2.isList (by simpa [← r1.length, ← r2.length] using hl) hu _ _ _ _ ⟨.bl _, H, I, rfl, k⟩
theorem op_eqX {X : Cx} (hu : X.A.units + 64 < cLine) : OpR X (compareOp .Eq) (rEqX X.K) := (op_eqD hu).or (op_eqL (by omega))
theorem op_neX {X : Cx} (hu : X.A.units + 64 < cLine) : OpR X (compareOp .NotEq) (rNeX X.K) := (op_neD hu).or (op_neL (by omega))
theorem lenNe_R {K : PySem.W.Frag} {r : List Addr} {ih : IH} {H : Hp} {x y : IV} {u w : V} (hr : Rel K r ih H) (hx : R r x u) (hy : R r y w) (h : lenNe x y ih = true) :
    ∃ p q xs ys, u = .ref p ∧ w = .ref q ∧ SqL K H p xs ∧ SqL K H q ys ∧ xs.length ≠ ys.length := by
  unfold lenNe at h
  split at h
  · rename_i n m
    obtain ⟨a, ea, rfl⟩ := hx.ref
    obtain ⟨b, eb, rfl⟩ := hy.ref
    split at h
    · rename_i o v e1 e2
      simp only [Bool.and_eq_true] at h
      obtain ⟨ys, h1, h2⟩ := (hr.get n a _ ea e1).l h.1.1
      obtain ⟨zs, h3, h4⟩ := (hr.get m b _ eb e2).l h.1.2
      exact ⟨a, b, ys, zs, rfl, rfl, h1, h3, by rw [← h2.length, ← h4.length]; simpa using h.2⟩
    · cases h
  · cases h
theorem s_eq {K : PySem.W.Frag} {W : WX} : Snd2 K W (rEqX K) f_eq := by
  intro r ih H x y u w σ Q hr hx hy q
  unfold f_eq f_eqn at q
  split at q
  · rename_i h
    have k := h.choose_spec
    exact .inl ⟨_, _, Is.dp hr _ _ _ k.1 hx, Is.dp hr _ _ _ k.2.1 hy, k.2.2.1, k.2.2.2, tG_end q hr rfl⟩
  · split at q
    · rename_i h
      obtain ⟨a, b, xs, ys, e1, e2, h1, h2, hl⟩ := lenNe_R hr hx hy h
      exact .inr ⟨a, b, xs, ys, e1, e2, h1, h2, hl, tG_end q hr rfl⟩
    · exact q.elim
theorem s_ne {K : PySem.W.Frag} {W : WX} : Snd2 K W (rNeX K) f_ne := by
  intro r ih H x y u w σ Q hr hx hy q
  unfold f_ne f_eqn at q
  split at q
  · rename_i h
    have k := h.choose_spec
    exact .inl ⟨_, _, Is.dp hr _ _ _ k.1 hx, Is.dp hr _ _ _ k.2.1 hy, k.2.2.1, k.2.2.2, tG_end q hr rfl⟩
  · split at q
    · rename_i h
      obtain ⟨a, b, xs, ys, e1, e2, h1, h2, hl⟩ := lenNe_R hr hx hy h
      exact .inr ⟨a, b, xs, ys, e1, e2, h1, h2, hl, tG_end q hr rfl⟩
    · exact q.elim
/-! ### is None -/
def f_isN (x y : IV) (ih : IH) : Res IV := if y = .non then .ok (.bl (decide (x = .non))) ih else .stuck
def f_notN (x y : IV) (ih : IH) : Res IV := if y = .non then .ok (.bl (!decide (x = .non))) ih else .stuck
theorem R.non {r : List Addr} {x : IV} {u : V} (h : R r x u) : decide (x = IV.non) = decide (u = V.non) := by
  cases x with
  | ref n =>
    obtain ⟨a, _, rfl⟩ := h.ref
    rfl
  | _ => rw [h.flat fun _ => IV.noConfusion]; rfl
theorem s_isN {K : PySem.W.Frag} {W : WX} : Snd2 K W (fun x y H Q => y = .non ∧ Q (.bl (decide (x = .non))) H) f_isN := by
  intro r ih H x y u w σ Q hr hx hy q
  unfold f_isN at q
  split at q
  · rename_i h
    subst h
    exact ⟨hy, tG_end q hr (by rw [hx.non]; rfl)⟩
  · exact q.elim
theorem s_notN {K : PySem.W.Frag} {W : WX} : Snd2 K W (fun x y H Q => y = .non ∧ Q (.bl (!decide (x = .non))) H) f_notN := by
  intro r ih H x y u w σ Q hr hx hy q
  unfold f_notN at q
  split at q
  · rename_i h
    subst h
    exact ⟨hy, tG_end q hr (by rw [hx.non]; rfl)⟩
  · exact q.elim
end L3
/-! L3d: displays, slices, built-in calls, methods; targets, statements, loops, comprehensions. -/
namespace L3
variable [TabT] [LamT]
open PySem L2

/-! ### displays -/
def f_tup (xs : List IV) (ih : IH) : Res IV := if xs.length ≤ 100000 then .ok (.ref ih.length) (ih ++ [.tup xs]) else .stuck
def f_lst (xs : List IV) (ih : IH) : Res IV := if xs.length ≤ 100000 then .ok (.ref ih.length) (ih ++ [.lst xs]) else .stuck
section
variable {X : Cx} {K : PySem.W.Frag} {W : WX} {es : List Expr} {m : Env → IH → Res (List IV)} {pos : Pos}
theorem s_tup : SndC K W (fun xs H Q => xs.length ≤ sizeLine ∧ ∀ p, H p = none → Q (.ref p) (upd H p (.tup xs))) f_tup := by
  intro r ih H xs us σ Q hr hx q
  unfold f_tup at q
  split at q
  · rename_i hl
    exact ⟨by rw [← hx.length]; exact line5 hl, fun p hp => end_tup q hr hx hp⟩
  · exact q.elim
theorem s_lst : SndC K W (fun xs H Q => xs.length ≤ sizeLine ∧ ∀ p, H p = none → Q (.ref p) (upd H p (.lst xs))) f_lst := by
  intro r ih H xs us σ Q hr hx q
  unfold f_lst at q
  split at q
  · rename_i hl
    exact ⟨by rw [← hx.length]; exact line5 hl, fun p hp => end_lst q hr hx hp⟩
  · exact q.elim
theorem lm_tup {x1} (h : PA X es (tMA X.K W m)) : PE X (.Tuple es x1 pos) (tM X.K W (m_app f_tup m)) :=
  PE.of (pe_tup h) fun σ H Q ⟨r, ih, env, hr, he, q⟩ => tG.imp (tG_bind hr he q) fun u H1 ⟨r1, ih1, v, p, hr1, hv, q1⟩ => s_tup _ _ _ _ _ _ _ hr1 hv q1
theorem lm_lst (h : PA X es (tMA X.K W m)) : PE X (.List es pos) (tM X.K W (m_app f_lst m)) :=
  PE.of (pe_lst h) fun σ H Q ⟨r, ih, env, hr, he, q⟩ => tG.imp (tG_bind hr he q) fun u H1 ⟨r1, ih1, v, p, hr1, hv, q1⟩ => s_lst _ _ _ _ _ _ _ hr1 hv q1
end

/-! ### slices -/
def m_none (_ : Env) (ih : IH) : Res (Option Int) := .ok none ih
def m_some (ma : Env → IH → Res IV) (env : Env) (ih : IH) : Res (Option Int) := (ma env ih).bind fun v ih1 => match v with
  | .int i => .ok (some i) ih1
  | _ => .stuck
def cutI (xs : List IV) (lo hi : Option Int) : List IV := (xs.drop (HT.sIx xs.length 0 lo)).take (HT.sIx xs.length xs.length hi - HT.sIx xs.length 0 lo)
def f_sl (x : IV) (lo hi : Option Int) (ih : IH) : Res IV := match x with
  | .ref n => match ih[n]? with
    | some (.lst xs) => .ok (.ref ih.length) (ih ++ [.lst (cutI xs lo hi)])
    | some (.ro xs) => .ok (.ref ih.length) (ih ++ [.lst (cutI xs lo hi)])
    | some (.tup xs) => if ¬ (HT.sIx xs.length 0 lo = 0 ∧ HT.sIx xs.length xs.length hi = xs.length) then .ok (.ref ih.length) (ih ++ [.tup (cutI xs lo hi)]) else .stuck
    | _ => .stuck
  | _ => .stuck
def m_sl (ma : Env → IH → Res IV) (ml mh : Env → IH → Res (Option Int)) (env : Env) (ih : IH) : Res IV := (ma env ih).bind fun x ih1 => (ml env ih1).bind fun l ih2 => (mh env ih2).bind fun h ih3 => f_sl x l h ih3
theorem Rs.cut {r : List Addr} {xs : List IV} {ys : List V} (h : Rs r xs ys) (lo hi : Option Int) : Rs r (cutI xs lo hi) (cutV ys lo hi) := by
  unfold cutV cutI
  rw [h.length]
  exact (h.drop _).take _
abbrev rSlA (K : PySem.W.Frag) : V → Option Int → Option Int → Hp → VK → Prop := fun x lo hi H Q => rSlL K x lo hi H Q ∨ rSlT K x lo hi H Q
section
variable {X : Cx} {K : PySem.W.Frag} {W : WX} {e : Expr} {lo hi : Option Expr} {ma : Env → IH → Res IV} {ml mh : Env → IH → Res (Option Int)} {pos p2 : Pos}
theorem sl_A : SlR X (rSlA X.K) := sl_list.or sl_tup
theorem s_sl {r : List Addr} {ih : IH} {H : Hp} {x : IV} {u : V} {l h : Option Int} {σ : St} {Q : VK} (hr : Rel K r ih H) (hx : R r x u) (q : PGen R K W σ r (f_sl x l h ih) Q) : rSlA K u l h H Q := by
  unfold f_sl at q
  split at q
  · rename_i n
    obtain ⟨a, ea, rfl⟩ := hx.ref
    split at q
    · rename_i xs e1
      obtain ⟨ys, h1, h2⟩ := (hr.get n a _ ea e1).l rfl
      exact .inl ⟨a, ys, rfl, h1, fun p hp => end_lst q hr (h2.cut l h) hp⟩
    · rename_i xs e1
      obtain ⟨ys, h1, h2⟩ := (hr.get n a _ ea e1).l rfl
      exact .inl ⟨a, ys, rfl, h1, fun p hp => end_lst q hr (h2.cut l h) hp⟩
    · rename_i xs e1
      obtain ⟨ys, h1, h2⟩ := (hr.get n a _ ea e1).t rfl
      split at q
      · rename_i hc
        refine .inr ⟨a, ys, rfl, h1, ?_, fun p hp => end_tup q hr (h2.cut l h) hp⟩
        have hl : xs.length = ys.length := h2.length
        rw [← hl]
        exact hc
      · exact q.elim
    · exact q.elim
  · exact q.elim
theorem lo_none : PO X none (tG Oq X.K W m_none) := ⟨fun pins s σ H Q I ⟨r, ih, env, hr, he, q⟩ => po_none.run pins s σ H Q I (tG_end q hr rfl)⟩
theorem lo_some (h : PE X e (tM X.K W ma)) : PO X (some e) (tG Oq X.K W (m_some ma)) := ⟨fun pins s σ H Q I ⟨r, ih, env, hr, he, q⟩ => (po_some h).run pins s σ H Q I (tG.imp (tG_bind hr he q) fun u H1 ⟨r1, ih1, v, p, hr1, hv, q1⟩ => by
  cases v with
  | int i =>
    obtain rfl : u = .int i := hv
    exact ⟨i, rfl, tG_end q1 hr1 rfl⟩
  | _ => exact q1.elim)⟩
theorem lm_sl (ha : PE X e (tM X.K W ma)) (hl : PO X lo (tG Oq X.K W ml)) (hh : PO X hi (tG Oq X.K W mh)) : PE X (.Subscript e (.Slice lo hi none p2) pos) (tM X.K W (m_sl ma ml mh)) :=
  PE.of (pe_slice sl_A ha hl hh) fun σ H Q ⟨r, ih, env, hr, he, q⟩ => tG.imp (tG_bind hr he q) fun u H1 ⟨r1, ih1, v, p, hr1, hv, q1⟩ =>
    tG.imp (tG_bind hr1 (he.mono p) q1) fun w H2 ⟨r2, ih2, y, p2, hr2, hy, q2⟩ => tG.imp (tG_bind hr2 ((he.mono p).mono p2) q2) fun z H3 ⟨r3, ih3, y3, p3, hr3, hy3, q3⟩ => by
      obtain rfl : w = y := hy
      obtain rfl : z = y3 := hy3
      exact s_sl hr3 ((hv.mono p2).mono p3) q3
end

theorem Rs.one {r : List Addr} {x : IV} {us : List V} (h : Rs r [x] us) : ∃ u, us = [u] ∧ R r x u := by
  cases h with
  | cons a b =>
    cases b
    exact ⟨_, rfl, a⟩
theorem Rs.two {r : List Addr} {x y : IV} {us : List V} (h : Rs r [x, y] us) : ∃ u w, us = [u, w] ∧ R r x u ∧ R r y w := by
  cases h with
  | cons a b =>
    obtain ⟨w, rfl, c⟩ := Rs.one b
    exact ⟨_, w, rfl, a, c⟩
/-! ### built-in calls -/
def f_len (xs : List IV) (ih : IH) : Res IV := match xs with
  | [.ref n] => match ih[n]? with
    | some .dct => .stuck
    | some (.dk _) => .stuck
    | some .clo => .stuck
    | some o => .ok (.int o.xs.length) ih
    | none => .stuck
  | [.str z] => if z.length ≤ 1000000 then .ok (.int z.length) ih else .stuck
  | _ => .stuck
def f_int (xs : List IV) (ih : IH) : Res IV := match xs with
  | [.int i] => .ok (.int i) ih
  | [.bl b] => .ok (.int (if b then 1 else 0)) ih
  | _ => .stuck
def f_abs (xs : List IV) (ih : IH) : Res IV := match xs with
  | [.int i] => .ok (.int (if i < 0 then -i else i)) ih
  | _ => .stuck
def f_max2 (xs : List IV) (ih : IH) : Res IV := match xs with
  | [.int i, .int j] => .ok (.int (if j > i then j else i)) ih
  | _ => .stuck
def f_min2 (xs : List IV) (ih : IH) : Res IV := match xs with
  | [.int i, .int j] => .ok (.int (if j < i then j else i)) ih
  | _ => .stuck
/-- the ints of values that are ints; the bools -/
def ints? : List IV → Option (List Int)
  | [] => some []
  | .int i :: r => (ints? r).map (i :: ·)
  | _ :: _ => none
def bls? : List IV → Option (List Bool)
  | [] => some []
  | .bl i :: r => (bls? r).map (i :: ·)
  | _ :: _ => none
theorem ints?_of {xs : List IV} {ns : List Int} : ints? xs = some ns → xs = ns.map IV.int := by
  induction xs generalizing ns with
  | nil => intro h; cases h; rfl
  | cons x r ihh =>
    intro h
    cases x with
    | int i =>
      unfold ints? at h
      obtain ⟨ms, e, rfl⟩ := Option.map_eq_some_iff.mp h
      rw [ihh e]
      rfl
    | _ => cases h
theorem ints?_map (ns : List Int) : ints? (ns.map IV.int) = some ns := by
  induction ns with
  | nil => rfl
  | cons n r ihh =>
    rw [List.map_cons]
    unfold ints?
    rw [ihh]
    rfl
theorem bls?_of {xs : List IV} {ns : List Bool} : bls? xs = some ns → xs = ns.map IV.bl := by
  induction xs generalizing ns with
  | nil => intro h; cases h; rfl
  | cons x r ihh =>
    intro h
    cases x with
    | bl i =>
      unfold bls? at h
      obtain ⟨ms, e, rfl⟩ := Option.map_eq_some_iff.mp h
      rw [ihh e]
      rfl
    | _ => cases h
theorem bls?_map (ns : List Bool) : bls? (ns.map IV.bl) = some ns := by
  induction ns with
  | nil => rfl
  | cons n r ihh =>
    rw [List.map_cons]
    unfold bls?
    rw [ihh]
    rfl
theorem Rs.flats {r : List Addr} {α : Type} {f : α → IV} (hf : ∀ a n, f a ≠ .ref n) : ∀ {ns : List α} {ys : List V}, Rs r (ns.map f) ys → ys = ns.map fun a => (f a).toV
  | [], _, h => by cases h; rfl
  | n :: r, _, h => by
    cases h with
    | cons h1 h2 => rw [List.map_cons, h1.flat (hf n), Rs.flats hf h2]
theorem Rs.flats_mk {r : List Addr} {α : Type} {f : α → IV} {g : α → V} (hf : ∀ a, R r (f a) (g a)) : ∀ ns : List α, Rs r (ns.map f) (ns.map g)
  | [] => .nil
  | n :: l => .cons (hf n) (Rs.flats_mk hf l)
/-- a call of a list of ints (or of bools) -/
def f_ints (g : List Int → IH → Res IV) (xs : List IV) (ih : IH) : Res IV := match xs with
  | [.ref n] => match ih[n]? with
    | some o => if o.isL = true then (match ints? o.xs with
      | some ns => g ns ih
      | none => .stuck) else .stuck
    | none => .stuck
  | _ => .stuck
def f_bls (g : List Bool → IH → Res IV) (xs : List IV) (ih : IH) : Res IV := match xs with
  | [.ref n] => match ih[n]? with
    | some o => if o.isL = true then (match bls? o.xs with
      | some ns => g ns ih
      | none => .stuck) else .stuck
    | none => .stuck
  | _ => .stuck
def f_sum := f_ints fun ns ih => .ok (.int ns.sum) ih
def f_all := f_bls fun ns ih => .ok (.bl (ns.all id)) ih
def f_any := f_bls fun ns ih => .ok (.bl (ns.any id)) ih
def maxI : List Int → Int
  | [] => 0
  | [a] => a
  | a :: b :: r => max a (maxI (b :: r))
def minI : List Int → Int
  | [] => 0
  | [a] => a
  | a :: b :: r => min a (minI (b :: r))
theorem maxI_spec : ∀ {ns : List Int}, 0 < ns.length → maxI ns ∈ ns ∧ ∀ y ∈ ns, y ≤ maxI ns
  | [a], _ => ⟨List.mem_singleton.mpr rfl, fun y hy => by rw [List.mem_singleton.mp hy]; exact Int.le_refl _⟩
  | a :: b :: r, _ => by
    obtain ⟨h1, h2⟩ := maxI_spec (ns := b :: r) (by simp)
    show max a (maxI (b :: r)) ∈ _ ∧ _
    refine ⟨?_, fun y hy => ?_⟩
    · by_cases h : a ≤ maxI (b :: r)
      · rw [Int.max_eq_right h]
        exact List.mem_cons_of_mem _ h1
      · rw [Int.max_eq_left (by omega)]
        exact List.mem_cons_self
    · show y ≤ max a (maxI (b :: r))
      rcases List.mem_cons.mp hy with e | e
      · omega
      · have := h2 y e
        omega
theorem minI_spec : ∀ {ns : List Int}, 0 < ns.length → minI ns ∈ ns ∧ ∀ y ∈ ns, minI ns ≤ y
  | [a], _ => ⟨List.mem_singleton.mpr rfl, fun y hy => by rw [List.mem_singleton.mp hy]; exact Int.le_refl _⟩
  | a :: b :: r, _ => by
    obtain ⟨h1, h2⟩ := minI_spec (ns := b :: r) (by simp)
    show min a (minI (b :: r)) ∈ _ ∧ _
    refine ⟨?_, fun y hy => ?_⟩
    · by_cases h : a ≤ minI (b :: r)
      · rw [Int.min_eq_left h]
        exact List.mem_cons_self
      · rw [Int.min_eq_right (by omega)]
        exact List.mem_cons_of_mem _ h1
    · show min a (minI (b :: r)) ≤ y
      rcases List.mem_cons.mp hy with e | e
      · omega
      · have := h2 y e
        omega
def f_max1 := f_ints fun ns ih => if 0 < ns.length then .ok (.int (maxI ns)) ih else .stuck
def f_min1 := f_ints fun ns ih => if 0 < ns.length then .ok (.int (minI ns)) ih else .stuck
def f_list (xs : List IV) (ih : IH) : Res IV := match xs with
  | [.ref n] => match ih[n]? with
    | some .dct => .stuck
    | some (.dk _) => .stuck
    | some .clo => .stuck
    | some o => .ok (.ref ih.length) (ih ++ [.lst o.xs])
    | none => .stuck
  | _ => .stuck
def f_tuple (xs : List IV) (ih : IH) : Res IV := match xs with
  | [.ref n] => match ih[n]? with
    | some o => if o.isL = true then .ok (.ref ih.length) (ih ++ [.tup o.xs]) else if o.isT = true then .ok (.ref n) ih else .stuck
    | none => .stuck
  | _ => .stuck
/-- the type of a value -/
def tyN (x : IV) (ih : IH) : Option String := match x with
  | .non => some "NoneType"
  | .bl _ => some "bool"
  | .int _ => some "int"
  | .str _ => some "str"
  | .ref n => match ih[n]? with
    | some (.lst _) => some "list"
    | some (.tup _) => some "tuple"
    | some .dct => some "dict"
    | some (.dk _) => some "dict"
    | _ => none
  | _ => none
def f_isi (xs : List IV) (ih : IH) : Res IV := match xs with
  | [x, .ty T] => match tyN x ih with
    | some t => match kitB t T with
      | some b => .ok (.bl b) ih
      | none => .stuck
    | none => .stuck
  | _ => .stuck
section
variable {X : Cx} {K : PySem.W.Frag} {W : WX}
theorem s_len : SndC K W (fun xs H Q => (∃ p ys, xs = [.ref p] ∧ (SqL K H p ys ∨ SqT K H p ys) ∧ Q (.int ys.length) H) ∨ (∃ z, xs = [.str z] ∧ z.length ≤ sizeLine ∧ Q (.int z.length) H)) f_len := by
  intro r ih H xs us σ Q hr hx q
  unfold f_len at q
  split at q
  · rename_i n
    cases hx with
    | cons h1 h2 =>
      cases h2
      obtain ⟨a, ea, rfl⟩ := h1.ref
      split at q
      · exact q.elim
      · exact q.elim
      · exact q.elim
      · rename_i o nd nk nc e1
        have ho := hr.get n a _ ea e1
        refine .inl ?_
        cases hl : o.isL with
        | true =>
          obtain ⟨ys, h3, h4⟩ := ho.l hl
          exact ⟨a, ys, rfl, .inl h3, by rw [← h4.length]; exact tG_end q hr rfl⟩
        | false =>
          obtain ⟨ys, h3, h4⟩ := ho.t (MO.tf hl nd nc nk)
          exact ⟨a, ys, rfl, .inr h3, by rw [← h4.length]; exact tG_end q hr rfl⟩
      · exact q.elim
  · rename_i z
    cases hx with
    | cons h1 h2 =>
      cases h2
      obtain rfl := h1.flat fun _ => IV.noConfusion
      split at q
      · rename_i hl
        exact .inr ⟨z, rfl, line6 hl, tG_end q hr rfl⟩
      · exact q.elim
  · exact q.elim
theorem call_lenA : CallR X (.builtin "len") (fun xs H Q => (∃ p ys, xs = [.ref p] ∧ (SqL X.K H p ys ∨ SqT X.K H p ys) ∧ Q (.int ys.length) H) ∨ (∃ z, xs = [.str z] ∧ z.length ≤ sizeLine ∧ Q (.int z.length) H)) := call_len_seq.or call_len_str
theorem s_int : SndC K W (fun xs H Q => (∃ i, xs = [.int i] ∧ Q (.int i) H) ∨ ∃ k, xs = [.bl k] ∧ Q (.int (if k then 1 else 0)) H) f_int := by
  intro r ih H xs us σ Q hr hx q
  unfold f_int at q
  split at q
  · rename_i i
    obtain rfl := Rs.flats (f := IV.int) (fun _ _ => IV.noConfusion) (ns := [i]) hx
    exact .inl ⟨i, rfl, tG_end q hr rfl⟩
  · rename_i b
    obtain rfl := Rs.flats (f := IV.bl) (fun _ _ => IV.noConfusion) (ns := [b]) hx
    exact .inr ⟨b, rfl, tG_end q hr rfl⟩
  · exact q.elim
theorem s_abs : SndC K W (fun xs H Q => ∃ i, xs = [.int i] ∧ Q (.int (if i < 0 then -i else i)) H) f_abs := by
  intro r ih H xs us σ Q hr hx q
  unfold f_abs at q
  split at q
  · rename_i i
    obtain rfl := Rs.flats (f := IV.int) (fun _ _ => IV.noConfusion) (ns := [i]) hx
    exact ⟨i, rfl, tG_end q hr rfl⟩
  · exact q.elim
theorem s_max2 : SndC K W (fun xs H Q => ∃ i j, xs = [.int i, .int j] ∧ Q (.int (if j > i then j else i)) H) f_max2 := by
  intro r ih H xs us σ Q hr hx q
  unfold f_max2 at q
  split at q
  · rename_i i j
    obtain rfl := Rs.flats (f := IV.int) (fun _ _ => IV.noConfusion) (ns := [i, j]) hx
    exact ⟨i, j, rfl, tG_end q hr rfl⟩
  · exact q.elim
theorem s_min2 : SndC K W (fun xs H Q => ∃ i j, xs = [.int i, .int j] ∧ Q (.int (if j < i then j else i)) H) f_min2 := by
  intro r ih H xs us σ Q hr hx q
  unfold f_min2 at q
  split at q
  · rename_i i j
    obtain rfl := Rs.flats (f := IV.int) (fun _ _ => IV.noConfusion) (ns := [i, j]) hx
    exact ⟨i, j, rfl, tG_end q hr rfl⟩
  · exact q.elim
/-- one list of ints: what is known -/
theorem ints_got {r : List Addr} {ih : IH} {H : Hp} {xs : List IV} {us : List V} {σ : St} {Q : VK} {g : List Int → IH → Res IV} (hr : Rel K r ih H) (hx : Rs r xs us) (q : PGen R K W σ r (f_ints g xs ih) Q) :
    ∃ (a : Addr) (ns : List Int), us = [.ref a] ∧ SqL K H a (ns.map V.int) ∧ PGen R K W σ r (g ns ih) Q := by
  unfold f_ints at q
  split at q
  · rename_i n
    cases hx with
    | cons h1 h2 =>
      cases h2
      obtain ⟨a, ea, rfl⟩ := h1.ref
      split at q
      · rename_i o e1
        split at q
        · rename_i hl
          split at q
          · rename_i ns e2
            obtain ⟨ys, h3, h4⟩ := (hr.get n a _ ea e1).l hl
            rw [ints?_of e2] at h4
            obtain rfl := h4.flats fun _ _ => IV.noConfusion
            exact ⟨a, ns, rfl, h3, q⟩
          · exact q.elim
        · exact q.elim
      · exact q.elim
  · exact q.elim
theorem bls_got {r : List Addr} {ih : IH} {H : Hp} {xs : List IV} {us : List V} {σ : St} {Q : VK} {g : List Bool → IH → Res IV} (hr : Rel K r ih H) (hx : Rs r xs us) (q : PGen R K W σ r (f_bls g xs ih) Q) :
    ∃ (a : Addr) (ns : List Bool), us = [.ref a] ∧ SqL K H a (ns.map V.bl) ∧ PGen R K W σ r (g ns ih) Q := by
  unfold f_bls at q
  split at q
  · rename_i n
    cases hx with
    | cons h1 h2 =>
      cases h2
      obtain ⟨a, ea, rfl⟩ := h1.ref
      split at q
      · rename_i o e1
        split at q
        · rename_i hl
          split at q
          · rename_i ns e2
            obtain ⟨ys, h3, h4⟩ := (hr.get n a _ ea e1).l hl
            rw [bls?_of e2] at h4
            obtain rfl := h4.flats fun _ _ => IV.noConfusion
            exact ⟨a, ns, rfl, h3, q⟩
          · exact q.elim
        · exact q.elim
      · exact q.elim
  · exact q.elim
theorem s_sum : SndC K W (rSum K) f_sum := fun r ih H xs us σ Q hr hx q => let ⟨a, ns, e, h, q2⟩ := ints_got hr hx q; ⟨a, ns, e, h, tG_end q2 hr rfl⟩
theorem s_all : SndC K W (rAll K) f_all := fun r ih H xs us σ Q hr hx q => let ⟨a, ns, e, h, q2⟩ := bls_got hr hx q; ⟨a, ns, e, h, tG_end q2 hr rfl⟩
theorem s_any : SndC K W (rAny K) f_any := fun r ih H xs us σ Q hr hx q => let ⟨a, ns, e, h, q2⟩ := bls_got hr hx q; ⟨a, ns, e, h, tG_end q2 hr rfl⟩
theorem s_max1 : SndC K W (rMax K) f_max1 := fun r ih H xs us σ Q hr hx q => by
  obtain ⟨a, ns, e, h, q2⟩ := ints_got hr hx q
  split at q2
  · rename_i hl
    refine ⟨a, ns, e, h, hl, fun m hm hle => ?_⟩
    obtain ⟨h1, h2⟩ := maxI_spec hl
    have e2 : m = maxI ns := Int.le_antisymm (h2 m hm) (hle _ h1)
    rw [e2]
    exact tG_end q2 hr rfl
  · exact q2.elim
theorem s_min1 : SndC K W (rMin K) f_min1 := fun r ih H xs us σ Q hr hx q => by
  obtain ⟨a, ns, e, h, q2⟩ := ints_got hr hx q
  split at q2
  · rename_i hl
    refine ⟨a, ns, e, h, hl, fun m hm hle => ?_⟩
    obtain ⟨h1, h2⟩ := minI_spec hl
    have e2 : m = minI ns := Int.le_antisymm (hle _ h1) (h2 m hm)
    rw [e2]
    exact tG_end q2 hr rfl
  · exact q2.elim
theorem s_list : SndC K W (fun xs H Q => ∃ p ys, xs = [.ref p] ∧ (SqL K H p ys ∨ SqT K H p ys) ∧ ∀ l, H l = none → Q (.ref l) (upd H l (.lst ys))) f_list := by
  intro r ih H xs us σ Q hr hx q
  unfold f_list at q
  split at q
  · rename_i n
    cases hx with
    | cons h1 h2 =>
      cases h2
      obtain ⟨a, ea, rfl⟩ := h1.ref
      split at q
      · exact q.elim
      · exact q.elim
      · exact q.elim
      · rename_i o nd nk nc e1
        have ho := hr.get n a _ ea e1
        cases hl : o.isL with
        | true =>
          obtain ⟨ys, h3, h4⟩ := ho.l hl
          exact ⟨a, ys, rfl, .inl h3, fun l hp => end_lst q hr h4 hp⟩
        | false =>
          obtain ⟨ys, h3, h4⟩ := ho.t (MO.tf hl nd nc nk)
          exact ⟨a, ys, rfl, .inr h3, fun l hp => end_lst q hr h4 hp⟩
      · exact q.elim
  · exact q.elim
theorem s_tuple : SndC K W (fun xs H Q => ∃ p ys, xs = [.ref p] ∧ ((SqL K H p ys ∧ ∀ l, H l = none → Q (.ref l) (upd H l (.tup ys))) ∨ (SqT K H p ys ∧ Q (.ref p) H))) f_tuple := by
  intro r ih H xs us σ Q hr hx q
  unfold f_tuple at q
  split at q
  · rename_i n
    cases hx with
    | cons h1 h2 =>
      cases h2
      have h1' := h1
      obtain ⟨a, ea, rfl⟩ := h1.ref
      split at q
      · rename_i o e1
        have ho := hr.get n a _ ea e1
        split at q
        · rename_i hl
          obtain ⟨ys, h3, h4⟩ := ho.l hl
          exact ⟨a, ys, rfl, .inl ⟨h3, fun l hp => end_tup q hr h4 hp⟩⟩
        · split at q
          · rename_i hl
            obtain ⟨ys, h3, h4⟩ := ho.t hl
            exact ⟨a, ys, rfl, .inr ⟨h3, tG_end q hr h1'⟩⟩
          · exact q.elim
      · exact q.elim
  · exact q.elim
theorem s_isi : SndC K W (rIsi K) f_isi := by
  intro r ih H xs us σ Q hr hx q
  unfold f_isi at q
  split at q
  · rename_i x T
    obtain ⟨u, w, rfl, h1, h3⟩ := hx.two
    obtain rfl := h3.flat fun _ => IV.noConfusion
    · · split at q
        · rename_i t e1
          split at q
          · rename_i b e2
            have ty : TyX K H u (.type t) := by
              unfold tyN at e1
              split at e1
              · cases e1; obtain rfl := h1.flat fun _ => IV.noConfusion; exact .base .non
              · cases e1; obtain rfl := h1.flat fun _ => IV.noConfusion; exact .base (.bl _)
              · cases e1; obtain rfl := h1.flat fun _ => IV.noConfusion; exact .base (.int _)
              · cases e1; obtain rfl := h1.flat fun _ => IV.noConfusion; exact .base (.str _)
              · rename_i n
                obtain ⟨a, ea, rfl⟩ := h1.ref
                split at e1
                · rename_i xs e3
                  cases e1
                  obtain ⟨ys, h5, _⟩ := hr.get n a _ ea e3
                  exact .base (.lst h5)
                · rename_i xs e3
                  cases e1
                  obtain ⟨ys, h5, _⟩ := hr.get n a _ ea e3
                  exact .base (.tup h5)
                · rename_i e3
                  cases e1
                  obtain ⟨kvs, h5⟩ := hr.get n a _ ea e3
                  exact .base (.dK h5)
                · rename_i kvs e3
                  cases e1
                  obtain ⟨ys, h5, _⟩ := hr.get n a _ ea e3
                  exact .base (.dK h5)
                · cases e1
              · cases e1
            exact ⟨u, .ty T, .type t, .type T, b, rfl, .ty T, ty, kit_ty e2, tG_end q hr rfl⟩
          · exact q.elim
        · exact q.elim
  · exact q.elim
end
end L3
/-! L3e: methods; targets, statements, loops, comprehensions, calls, defs. -/
namespace L3
variable [TabT] [LamT]
open PySem L2

/-! ### methods of lists -/
def isLst (x : IV) (ih : IH) : Bool := match x with
  | .ref n => match ih[n]? with
    | some o => o.isL
    | none => false
  | _ => false
def m_mL (f : IV → List IV → IH → Res IV) (ma : Env → IH → Res IV) (mr : Env → IH → Res (List IV)) (env : Env) (ih : IH) : Res IV := (ma env ih).bind fun x ih1 => if isLst x ih1 = true then (mr env ih1).bind fun xs ih2 => f x xs ih2 else .stuck
def m_mL0 (f : IV → List IV → IH → Res IV) (ma : Env → IH → Res IV) (env : Env) (ih : IH) : Res IV := (ma env ih).bind fun x ih1 => if isLst x ih1 = true then f x [] ih1 else .stuck
def SndM (K : PySem.W.Frag) (W : WX) (rr : V → List V → Hp → VK → Prop) (f : IV → List IV → IH → Res IV) : Prop := ∀ (r : List Addr) (ih : IH) (H : Hp) (x : IV) (u : V) (xs : List IV) (us : List V) (σ : St) (Q : VK), Rel K r ih H → R r x u → Rs r xs us → PGen R K W σ r (f x xs ih) Q → rr u us H Q
def f_append (x : IV) (vs : List IV) (ih : IH) : Res IV := match x, vs with
  | .ref n, [y] => match ih[n]? with
    | some (.lst xs) => if xs.length < 100000 then .ok .non (ih.set n (.lst (xs ++ [y]))) else .stuck
    | _ => .stuck
  | _, _ => .stuck
def f_pop (x : IV) (vs : List IV) (ih : IH) : Res IV := match x, vs with
  | .ref n, [] => match ih[n]? with
    | some (.lst xs) => match xs[xs.length - 1]? with
      | some y => .ok y (ih.set n (.lst xs.dropLast))
      | none => .stuck
    | _ => .stuck
  | _, _ => .stuck
section
variable {X : Cx} {K : PySem.W.Frag} {W : WX} {a : Expr} {ma : Env → IH → Res IV}
theorem isLst_ty {r : List Addr} {ih : IH} {H : Hp} {x : IV} {u : V} (hr : Rel K r ih H) (hx : R r x u) (h : isLst x ih = true) : tyV K "list" u H := by
  unfold isLst at h
  split at h
  · rename_i n
    obtain ⟨a, ea, rfl⟩ := hx.ref
    split at h
    · rename_i o e1
      obtain ⟨ys, h1, _⟩ := (hr.get n a _ ea e1).l h
      exact .inl ⟨rfl, ys, h1⟩
    · cases h
  · cases h
theorem lm_mL {name : Str} {apos cpos : Pos} {id : String} {e : Expr} {es : List Expr} {rr : V → List V → Hp → VK → Prop} {f : IV → List IV → IH → Res IV} {mr : Env → IH → Res (List IV)} (slot : Slot "list" name id) (hty : typeOf (.builtin id) = pure (.type "method_descriptor")) (hm : MtR X id rr) (hf : SndM X.K W rr f)
    (ho : PE X a (tM X.K W ma)) (ha : PA X (e :: es) (tMA X.K W mr))
    (hbase : attributeBase a name X.env (eval a X.env) = eval a X.env := by rfl)
    (hfew : ((backTo cpos (starEach (e :: es) X.env)).all (fun x => !x.1) && (backToKw cpos (keywordEach [] X.env)).all (fun x => x.1.isSome)
      && decide ((e :: es).length + ([] : List Keyword).length + (if ([] : List Keyword).isEmpty then 0 else 1) < 30)) = true := by rfl)
    (hline : (apos.endLine == cpos.line) = true := by rfl) (hs : starEach (e :: es) X.env = (false, eval e X.env) :: starEach es X.env := by rfl) (hplain : (backTo cpos (starEach es X.env)).any (·.1) = false := by rfl) :
    PE X (.Call (.Attribute a name apos) (e :: es) [] cpos) (tM X.K W (m_mL f ma mr)) :=
  PE.of (pe_bm PySem.F.plainAttrs_list slot hty hm ho ha hbase hfew hline hs hplain) fun σ H Q ⟨r, ih, env, hr, he, q⟩ => tG.imp (tG_bind hr he q) fun u H1 ⟨r1, ih1, v, p, hr1, hv, q1⟩ => by
    dsimp only at q1
    by_cases hl : isLst v ih1 = true
    · rw [if_pos hl] at q1
      refine ⟨isLst_ty hr1 hv hl, ?_⟩
      exact tG.imp (tG_bind hr1 (he.mono p) q1) fun w H2 ⟨r2, ih2, y, p2, hr2, hy, q3⟩ => hf _ _ _ _ _ _ _ _ _ hr2 (hv.mono p2) hy q3
    · rw [if_neg hl] at q1
      exact q1.elim
theorem lm_mL0 {name : Str} {apos cpos : Pos} {id : String} {rr : V → List V → Hp → VK → Prop} {f : IV → List IV → IH → Res IV} (slot : Slot "list" name id) (hty : typeOf (.builtin id) = pure (.type "method_descriptor")) (hm : MtR X id rr) (hf : SndM X.K W rr f)
    (ho : PE X a (tM X.K W ma)) (hbase : attributeBase a name X.env (eval a X.env) = eval a X.env := by rfl) (hline : (apos.endLine == cpos.line) = true := by rfl) :
    PE X (.Call (.Attribute a name apos) [] [] cpos) (tM X.K W (m_mL0 f ma)) :=
  PE.of (pe_bm0 PySem.F.plainAttrs_list slot hty hm ho hbase hline) fun σ H Q ⟨r, ih, env, hr, he, q⟩ => tG.imp (tG_bind hr he q) fun u H1 ⟨r1, ih1, v, p, hr1, hv, q1⟩ => by
    dsimp only at q1
    by_cases hl : isLst v ih1 = true
    · rw [if_pos hl] at q1
      exact ⟨isLst_ty hr1 hv hl, hf _ _ _ _ _ _ _ _ _ hr1 hv .nil q1⟩
    · rw [if_neg hl] at q1
      exact q1.elim
/-- a list written -/
theorem end_set {r : List Addr} {ih : IH} {H : Hp} {σ : St} {Q : VK} {n : Nat} {a : Addr} {xs xs' : List IV} {ys : List V} {v : IV} {w : V} (q : PGen R K W σ r (.ok v (ih.set n (.lst xs'))) Q) (hr : Rel K r ih H) (e1 : r[n]? = some a) (e2 : ih[n]? = some (.lst xs)) (h : Rs r xs' ys) (hv : R r v w) : Q w (upd H a (.lst ys)) :=
  q _ _ _ (pre_refl r) (hr.write e1 e2 h) hv
theorem s_append : SndM K W rAppend f_append := by
  intro r ih H x u xs us σ Q hr hx hxs q
  unfold f_append at q
  split at q
  · rename_i n y
    obtain ⟨a, ea, rfl⟩ := hx.ref
    obtain ⟨w, rfl, hy⟩ := hxs.one
    split at q
    · rename_i zs e1
      obtain ⟨ys, h1, h2⟩ := hr.get n a _ ea e1
      split at q
      · rename_i hl
        exact ⟨a, ys, w, rfl, rfl, h1, by rw [← h2.length]; exact line5l hl, end_set q hr ea e1 (h2.append (.cons hy .nil)) rfl⟩
      · exact q.elim
    · exact q.elim
  · exact q.elim
theorem Rs.dropLast {r : List Addr} {xs : List IV} {us : List V} (h : Rs r xs us) : Rs r xs.dropLast us.dropLast := by
  rw [List.dropLast_eq_take, List.dropLast_eq_take, h.length]
  exact h.take _
theorem s_pop : SndM K W rPop f_pop := by
  intro r ih H x u xs us σ Q hr hx hxs q
  unfold f_pop at q
  split at q
  · rename_i n
    obtain ⟨a, ea, rfl⟩ := hx.ref
    cases hxs
    split at q
    · rename_i zs e1
      obtain ⟨ys, h1, h2⟩ := hr.get n a _ ea e1
      split at q
      · rename_i y e2
        obtain ⟨w, h3, h4⟩ := h2.get e2
        exact ⟨a, ys, w, rfl, rfl, h1, by rw [← h2.length]; exact h3, end_set q hr ea e1 h2.dropLast h4⟩
      · exact q.elim
    · exact q.elim
  · exact q.elim
end

/-! ### targets -/
/-- a target's rule follows its mirror; ks: the slots that it sets -/
def SndG (K : PySem.W.Frag) (ks : List Nat) (g : TG) (f : IV → Env → IH → Option Env) : Prop := ∀ (r : List Addr) (ih : IH) (H : Hp) (v : IV) (u : V) (env : Env) (σ : St) (Q : St → Hp → Prop), Rel K r ih H → R r v u → REnv r env σ →
  (∃ env', f v env ih = some env' ∧ ∀ σ', REnv r env' σ' → σ'.length = σ.length → (∀ j, j ∉ ks → σ'[j]? = σ[j]?) → Q σ' H) → g u σ H Q
def SndGs (K : PySem.W.Frag) (ks : List Nat) (g : TGs) (f : List IV → Env → IH → Option Env) : Prop := ∀ (r : List Addr) (ih : IH) (H : Hp) (v : List IV) (u : List V) (env : Env) (σ : St) (Q : St → Hp → Prop), Rel K r ih H → Rs r v u → REnv r env σ →
  (∃ env', f v env ih = some env' ∧ ∀ σ', REnv r env' σ' → σ'.length = σ.length → (∀ j, j ∉ ks → σ'[j]? = σ[j]?) → Q σ' H) → g u σ H Q
def g_nm (i : Nat) (v : IV) (env : Env) (_ : IH) : Option Env := some (env.set i (some v))
def g_nil (vs : List IV) (env : Env) (_ : IH) : Option Env := match vs with
  | [] => some env
  | _ :: _ => none
def g_cons (f : IV → Env → IH → Option Env) (g : List IV → Env → IH → Option Env) (vs : List IV) (env : Env) (ih : IH) : Option Env := match vs with
  | v :: r => (f v env ih).bind fun env' => g r env' ih
  | [] => none
def g_tup (n : Nat) (f : List IV → Env → IH → Option Env) (v : IV) (env : Env) (ih : IH) : Option Env := match v with
  | .ref k => match ih[k]? with
    | some o => if o.isT = true ∧ o.xs.length = n then f o.xs env ih else none
    | none => none
  | _ => none
def g_lst (n : Nat) (f : List IV → Env → IH → Option Env) (v : IV) (env : Env) (ih : IH) : Option Env := match v with
  | .ref k => match ih[k]? with
    | some o => if o.isL = true ∧ o.xs.length = n then f o.xs env ih else none
    | none => none
  | _ => none
section
variable {K : PySem.W.Frag}
theorem sg_nm (i : Nat) : SndG K [i] (gName i) (g_nm i) := fun r ih H v u env σ Q hr hv he ⟨env', e, q⟩ => by
  cases e
  exact q _ (he.set hv i) (by rw [List.length_set]) fun j hj => List.getElem?_set_ne (fun z => hj (by rw [z]; exact List.mem_singleton.mpr rfl))
theorem sg_nil : SndGs K [] gNil g_nil := fun r ih H v u env σ Q hr hv he ⟨env', e, q⟩ => by
  cases v with
  | nil =>
    cases hv
    cases e
    exact ⟨rfl, q σ he rfl fun _ _ => rfl⟩
  | cons a b => cases e
theorem sg_cons {ks ls : List Nat} {t : TG} {u : TGs} {f : IV → Env → IH → Option Env} {g : List IV → Env → IH → Option Env} (h1 : SndG K ks t f) (h2 : SndGs K ls u g) : SndGs K (ks ++ ls) (gCons t u) (g_cons f g) := fun r ih H v u env σ Q hr hv he ⟨env', e, q⟩ => by
  cases hv with
  | nil => cases e
  | cons a b =>
    obtain ⟨env1, e1, e2⟩ := Option.bind_eq_some_iff.mp e
    refine ⟨_, _, rfl, h1 r ih H _ _ env σ _ hr a he ⟨env1, e1, fun σ1 he1 l1 k1 => ?_⟩⟩
    exact h2 r ih H _ _ env1 σ1 _ hr b he1 ⟨env', e2, fun σ2 he2 l2 k2 => q σ2 he2 (l2.trans l1) fun j hj => (k2 j fun z => hj (List.mem_append_right _ z)).trans (k1 j fun z => hj (List.mem_append_left _ z))⟩
theorem sg_tup {n : Nat} {ks : List Nat} {t : TGs} {f : List IV → Env → IH → Option Env} (h : SndGs K ks t f) : SndG K ks (gTup K n t) (g_tup n f) := fun r ih H v u env σ Q hr hv he ⟨env', e, q⟩ => by
  unfold g_tup at e
  split at e
  · rename_i k _
    obtain ⟨a, ea, rfl⟩ := hv.ref
    split at e
    · rename_i o e1
      split at e
      · rename_i hl
        obtain ⟨ys, h3, h4⟩ := (hr.get k a _ ea e1).t hl.1
        exact ⟨a, ys, rfl, h3, by rw [← h4.length]; exact hl.2, h r ih H _ _ env σ _ hr h4 he ⟨env', e, q⟩⟩
      · cases e
    · cases e
  · cases e
theorem sg_lst {n : Nat} {ks : List Nat} {t : TGs} {f : List IV → Env → IH → Option Env} (h : SndGs K ks t f) : SndG K ks (gLst K n t) (g_lst n f) := fun r ih H v u env σ Q hr hv he ⟨env', e, q⟩ => by
  unfold g_lst at e
  split at e
  · rename_i k _
    obtain ⟨a, ea, rfl⟩ := hv.ref
    split at e
    · rename_i o e1
      split at e
      · rename_i hl
        obtain ⟨ys, h3, h4⟩ := (hr.get k a _ ea e1).l hl.1
        exact ⟨a, ys, rfl, h3, by rw [← h4.length]; exact hl.2, h r ih H _ _ env σ _ hr h4 he ⟨env', e, q⟩⟩
      · cases e
    · cases e
  · cases e
end

/-! ### statements -/
def ms_set (g : IV → Env → IH → Option Env) (m : Env → IH → Res IV) (env : Env) (ih : IH) : RS := (m env ih).stm env fun v ih1 => match g v env ih1 with
  | some env' => .ok (.next env') ih1
  | none => .stuck
def ms_expr (m : Env → IH → Res IV) (env : Env) (ih : IH) : RS := (m env ih).stm env fun _ ih1 => .ok (.next env) ih1
def ms_ret (m : Env → IH → Res IV) (env : Env) (ih : IH) : RS := (m env ih).stm env fun v ih1 => .ok (.ret v) ih1
def ms_retN (_ : Env) (ih : IH) : RS := .ok (.ret .non) ih
def ms_pass (env : Env) (ih : IH) : RS := .ok (.next env) ih
def ms_brk (env : Env) (ih : IH) : RS := .ok (.brk env) ih
def ms_cont (env : Env) (ih : IH) : RS := .ok (.cont env) ih
def ms_if (n : Env → IH → Res Bool) (ma mb : Env → IH → RS) (env : Env) (ih : IH) : RS := (n env ih).stm env fun b ih1 => if b = true then ma env ih1 else mb env ih1
def RS.seq (r : RS) (k : Env → IH → RS) : RS := match r with
  | .ok (.next env) ih => k env ih
  | z => z
@[simp] theorem RS.seq_next (env : Env) (ih : IH) (k : Env → IH → RS) : (RS.ok (.next env) ih).seq k = k env ih := rfl
@[simp] theorem RS.seq_ret (v : IV) (ih : IH) (k : Env → IH → RS) : (RS.ok (.ret v) ih).seq k = .ok (.ret v) ih := rfl
@[simp] theorem RS.seq_brk (v : Env) (ih : IH) (k : Env → IH → RS) : (RS.ok (.brk v) ih).seq k = .ok (.brk v) ih := rfl
@[simp] theorem RS.seq_cont (v : Env) (ih : IH) (k : Env → IH → RS) : (RS.ok (.cont v) ih).seq k = .ok (.cont v) ih := rfl
@[simp] theorem RS.seq_exc (c : Addr) (env : Env) (ih : IH) (k : Env → IH → RS) : (RS.exc c env ih).seq k = .exc c env ih := rfl
@[simp] theorem RS.seq_stuck (k : Env → IH → RS) : RS.stuck.seq k = .stuck := rfl
def ms_seq (ma mb : Env → IH → RS) (env : Env) (ih : IH) : RS := (ma env ih).seq mb
def ms_aug (i : Nat) (f : IV → IV → IH → Res IV) (m : Env → IH → Res IV) (env : Env) (ih : IH) : RS := match env[i]? with
  | some (some x) => (m env ih).stm env fun y ih1 => (f x y ih1).stm env fun z ih2 => .ok (.next (env.set i (some z))) ih2
  | _ => .stuck
def ms_par (i j : Nat) (m : Env → IH → Res (List IV)) (env : Env) (ih : IH) : RS := (m env ih).stm env fun vs ih1 => match vs with
  | [v, w] => .ok (.next ((env.set i (some v)).set j (some w))) ih1
  | _ => .stuck
/-- o[i] = v for a list -/
def f_setL (o i v : IV) (ih : IH) : Option IH := match o, i with
  | .ref n, .int k => match ih[n]? with
    | some (.lst xs) => match ixN xs.length k with
      | some j => some (ih.set n (.lst (xs.set j v)))
      | none => none
    | _ => none
  | _, _ => none
def ms_setL (m mo mi : Env → IH → Res IV) (env : Env) (ih : IH) : RS := (m env ih).stm env fun v ih1 => (mo env ih1).stm env fun o ih2 => (mi env ih2).stm env fun i ih3 => match f_setL o i v ih3 with
  | some ih4 => .ok (.next env) ih4
  | none => .stuck
def ms_raise (c : Addr) (env : Env) (ih : IH) : RS := .exc c env ih
section
variable {X : Cx} {K : PySem.W.Frag} {W : WX} {e : Expr} {m mo mi : Env → IH → Res IV} {n : Env → IH → Res Bool} {sa sb : Env → IH → RS} {pos : Pos} {r : List Addr} {ih : IH} {env : Env} {H : Hp} {σ : St} {D : Ends}
theorem st_end (h : PStm K W r (.ok (.next env) ih) D) (hr : Rel K r ih H) (he : REnv r env σ) : D.nx σ H := h r H σ (pre_refl r) hr he
theorem st_ret {v : IV} {u : V} (h : PStm K W r (.ok (.ret v) ih) D) (hr : Rel K r ih H) (hv : R r v u) : D.rt u H := h r H u (pre_refl r) hr hv
/-- the core of an assignment -/
theorem set_core {ks : List Nat} {g : TG} {f : IV → Env → IH → Option Env} (hg : SndG X.K ks g f) (h : tMS X.K W (ms_set f m) D σ H) : tM X.K W m σ H fun x H1 => g x σ H1 D.nx := by
  obtain ⟨r, ih, env, hr, he, q⟩ := h
  refine tG.imp (tG_stm hr he q) fun u H1 ⟨r1, ih1, v, p, hr1, hv, q1⟩ => ?_
  dsimp only at q1
  refine hg r1 ih1 H1 v u env σ _ hr1 hv (he.mono p) ?_
  cases e : f v env ih1 with
  | some env' =>
    rw [e] at q1
    exact ⟨env', rfl, fun σ' he' _ _ => st_end q1 hr1 he'⟩
  | none =>
    rw [e] at q1
    exact q1.elim
theorem ls_set {i : Nat} {x : Str} {pos' : Pos} (hN : X.N.Nodup) (hi : X.N[i]? = some x) (hx : Loc X.env.scope x) (he : PE X e (tM X.K W m)) (hs : swapsWith e (some (.Name x pos')) pos.line X.env = pure false := by rfl)
    (hf : X.fn x = true ∨ X.env.scope.names.lookup x = some .local := by first | exact .inl rfl | exact .inr rfl | assumption) : PS X (.Assign [.Name x pos'] e pos) (tMS X.K W (ms_set (g_nm i) m)) :=
  PS.of (ps_set hN hi hx he hs hf) fun D σ H h => set_core (sg_nm i) h
theorem ls_asg {tg : Expr} {ks : List Nat} {g : TG} {f : IV → Env → IH → Option Env} (he : PE X e (tM X.K W m)) (hg : PG X tg g) (sg : SndG X.K ks g f) (hs : swapsWithSole [tg] e pos.line X.env = pure false := by rfl) (hw : swappedStores [tg] e X.env = pure none := by rfl) (h1 : (assignEach [tg] X.env).map (·.2) = [assign tg X.env] := by rfl) :
    PS X (.Assign [tg] e pos) (tMS X.K W (ms_set f m)) := PS.of (ps_asg he hg hs hw h1) fun D σ H h => set_core sg h
theorem ls_expr (he : PE X e (tM X.K W m)) (hs : swapsWith e none pos.line X.env = pure false := by rfl) : PS X (.Expr e pos) (tMS X.K W (ms_expr m)) :=
  PS.of (ps_expr he hs) fun D σ H ⟨r, ih, env, hr, he, q⟩ => tG.imp (tG_stm hr he q) fun u H1 ⟨r1, ih1, v, p, hr1, hv, q1⟩ => st_end q1 hr1 (he.mono p)
theorem ls_ret (he : PE X e (tM X.K W m)) : PS X (.Return (some e) pos) (tMS X.K W (ms_ret m)) :=
  PS.of (ps_ret he) fun D σ H ⟨r, ih, env, hr, he, q⟩ => tG.imp (tG_stm hr he q) fun u H1 ⟨r1, ih1, v, p, hr1, hv, q1⟩ => st_ret q1 hr1 hv
theorem ls_retN : PS X (.Return none pos) (tMS X.K W ms_retN) := PS.of ps_retN fun D σ H ⟨r, ih, env, hr, he, q⟩ => st_ret q hr rfl
theorem ls_pass : PS X (.Pass pos) (tMS X.K W ms_pass) := PS.of ps_pass fun D σ H ⟨r, ih, env, hr, he, q⟩ => st_end q hr he
theorem ls_brk : PS X (.Break pos) (tMS X.K W ms_brk) := PS.of ps_break fun D σ H ⟨r, ih, env, hr, he, q⟩ => q r H σ (pre_refl r) hr he
theorem ls_cont : PS X (.Continue pos) (tMS X.K W ms_cont) := PS.of ps_continue fun D σ H ⟨r, ih, env, hr, he, q⟩ => q r H σ (pre_refl r) hr he
theorem ls_if {c : Expr} {a b : List Stmt} (hc : PT X c (tMT X.K W n)) (ha : PSs X a (tMS X.K W sa)) (hb : PSs X b (tMS X.K W sb)) : PS X (.If c a b pos) (tMS X.K W (ms_if n sa sb)) :=
  PS.of (ps_if hc ha hb) fun D σ H ⟨r, ih, env, hr, he, q⟩ => tG.imp (tG_stm hr he q) fun u H1 ⟨r1, ih1, v, p, hr1, hv, q1⟩ => by
    obtain rfl : u = v := hv
    cases u with
    | true => exact ⟨r1, ih1, env, hr1, he.mono p, q1⟩
    | false => exact ⟨r1, ih1, env, hr1, he.mono p, q1⟩
theorem lss_nil : PSs X [] (tMS X.K W ms_pass) := PSs.of pss_nil fun D σ H ⟨r, ih, env, hr, he, q⟩ => st_end q hr he
theorem lss_one {st : Stmt} (h : PS X st (tMS X.K W sa)) : PSs X [st] (tMS X.K W sa) := pss_one h
theorem lss_cons {st : Stmt} {rest : List Stmt} (h1 : PS X st (tMS X.K W sa)) (h2 : PSs X rest (tMS X.K W sb)) : PSs X (st :: rest) (tMS X.K W (ms_seq sa sb)) :=
  PSs.of (pss_cons h1 h2) fun D σ H ⟨r, ih, env, hr, he, q⟩ => by
    refine ⟨r, ih, env, hr, he, ?_⟩
    unfold ms_seq at q
    cases e : sa env ih with
    | ok f ih1 =>
      rw [e] at q
      cases f with
      | next env1 => exact fun r' H' σ' p hr' he' => ⟨r', ih1, env1, hr', he', PStm.mono p q⟩
      | brk env1 => exact q
      | cont env1 => exact q
      | ret v => exact q
    | exc c env1 ih1 => rw [e] at q; exact q
    | stuck => rw [e] at q; exact q
theorem ls_aug {i : Nat} {x : Str} {op : Operator} {rr : R2} {f : IV → IV → IH → Res IV} {pos' : Pos} (hN : X.N.Nodup) (hi : X.N[i]? = some x) (hx : Loc X.env.scope x) (ho : OpR X (inplaceOp op) rr) (hf : Snd2 X.K W rr f) (he : PE X e (tM X.K W m))
    (hfn : X.fn x = true ∨ X.env.scope.names.lookup x = some .local := by first | exact .inl rfl | exact .inr rfl | assumption) : PS X (.AugAssign (.Name x pos') op e pos) (tMS X.K W (ms_aug i f m)) :=
  PS.of (ps_aug (ti := rr) hN hi hx he (fun pins s σ H x y v u Q I rx ry q => ho pins s σ H x y v u Q I rx ry q) hfn) fun D σ H ⟨r, ih, env, hr, he, q⟩ => by
    unfold ms_aug at q
    split at q
    · rename_i v0 e0
      obtain ⟨u0, h1, h2⟩ := he.2 i v0 e0
      refine ⟨u0, h1, tG.imp (tG_stm hr he q) fun u H1 ⟨r1, ih1, v, p, hr1, hv, q1⟩ => ?_⟩
      dsimp only at q1
      refine hf r1 ih1 H1 v0 v u0 u σ _ hr1 (h2.mono p) hv ?_
      cases e : f v0 v ih1 with
      | ok z ih2 =>
        rw [e] at q1
        exact fun r' H' w p' hr' hw => q1 r' H' _ p' hr' ((he.mono (pre_trans p p')).set hw i)
      | exc c ih2 =>
        rw [e] at q1
        exact fun r' H' p' hr' => q1 r' H' σ p' hr' (he.mono (pre_trans p p'))
      | stuck =>
        rw [e] at q1
        exact q1
    · exact q.elim
theorem ls_par {i j : Nat} {x y : Str} {a b : Expr} {mm : Env → IH → Res (List IV)} {px py pt : Pos} {kt k2 : Nat} {pt2 : Pos} (hP : ∀ {ta : TA}, PA X [a, b] ta → PS X (.Assign [.Tuple [.Name x px, .Name y py] kt pt] (.Tuple [a, b] k2 pt2) pos) (tPar i j ta))
    (ha : PA X [a, b] (tMA X.K W mm)) : PS X (.Assign [.Tuple [.Name x px, .Name y py] kt pt] (.Tuple [a, b] k2 pt2) pos) (tMS X.K W (ms_par i j mm)) :=
  PS.of (hP ha) fun D σ H ⟨r, ih, env, hr, he, q⟩ => tG.imp (tG_stm hr he q) fun us H1 ⟨r1, ih1, vs, p, hr1, hv, q1⟩ => by
    dsimp only at q1
    split at q1
    · rename_i v w
      obtain ⟨u1, u2, rfl, h1, h2⟩ := hv.two
      exact ⟨u1, u2, rfl, st_end q1 hr1 (((he.mono p).set h1 i).set h2 j)⟩
    · exact q1.elim
theorem ls_setL {o i : Expr} {tpos : Pos} (he : PE X e (tM X.K W m)) (hg : ∀ {to ti : TE}, PE X o to → PE X i ti → PG X (.Subscript o i tpos) (gSub to ti rSetL)) (ho : PE X o (tM X.K W mo)) (hi : PE X i (tM X.K W mi))
    (hs : swapsWithSole [.Subscript o i tpos] e pos.line X.env = pure false := by rfl) (hw : swappedStores [.Subscript o i tpos] e X.env = pure none := by rfl) : PS X (.Assign [.Subscript o i tpos] e pos) (tMS X.K W (ms_setL m mo mi)) :=
  PS.of (ps_asg he (hg ho hi) hs hw) fun D σ H ⟨r, ih, env, hr, he, q⟩ => tG.imp (tG_stm hr he q) fun u H1 ⟨r1, ih1, v, p, hr1, hv, q1⟩ =>
    tG.imp (tG_stm hr1 (he.mono p) q1) fun u2 H2 ⟨r2, ih2, v2, p2, hr2, hv2, q2⟩ => tG.imp (tG_stm hr2 ((he.mono p).mono p2) q2) fun u3 H3 ⟨r3, ih3, v3, p3, hr3, hv3, q3⟩ => by
      dsimp only at q3
      cases e : f_setL v2 v3 v ih3 with
      | some ih4 =>
        rw [e] at q3
        unfold f_setL at e
        split at e
        · rename_i n k _
          obtain ⟨a, ea, rfl⟩ := (hv2.mono p3).ref
          obtain rfl : u3 = .int k := hv3
          split at e
          · rename_i xs e1
            obtain ⟨ys, h1, h2⟩ := hr3.get n a _ ea e1
            split at e
            · rename_i j ej
              cases e
              refine ⟨a, ys, k, j, rfl, rfl, h1, by rw [← h2.length]; exact ej, ?_⟩
              exact q3 r3 _ σ (pre_refl r3) (hr3.write ea e1 (h2.set ((hv.mono p2).mono p3) j)) (((he.mono p).mono p2).mono p3)
            · cases e
          · cases e
        · cases e
      | none =>
        rw [e] at q3
        exact q3.elim
theorem ls_raise {C : Addr} {bmB : List Value} {B newId initId : String} {x mm : Str} {j : Nat} {p p2 pos pos2 : Pos} (hc : X.calm = true) (tk : Takes X W) (F : ExcBaseFacts B newId initId bmB) (q : PySem.W.excIn X.K C bmB newId = true) (gC : X.mg x = some (.ref C)) (kC : PySem.W.keepIn X.K (.ref C) = true) (r : Raises X (.ref C)) (hg : Gl X x)
    (hdb : (x == ("__debug__" : Str)) = false := by decide) : PS X (.Raise (some (.Call (.Name x p) [.Constant (.str mm) j p2] [] pos)) none pos2) (tMS X.K W (ms_raise C)) :=
  PS.of (ps_raise hc tk (pmk_own F q gC kC r hg hdb)) fun D σ H ⟨r, ih, env, hr, he, q⟩ => q r H σ (pre_refl r) hr he
end
end L3
/-! L3f: what is walked, loops, comprehensions. -/
namespace L3
variable [TabT] [LamT]
open PySem L2

/-! ### what is walked -/
inductive Src where
  | lst (n : Nat) | tup (n : Nat) | rng (lo c : Int) (k : Nat) | enm (n : Nat) | zip (n m : Nat)
/-- the i-th turn: stuck, the end, or an item (the heap may grow) -/
inductive Tr where
  | stuck | stop | item (v : IV) (ih : IH)
def MO.isK (o : MO) : Bool → Bool
  | true => o.isL
  | false => o.isT
def lAt (ih : IH) (n : Nat) (l : Bool) : Option (List IV) := match ih[n]? with
  | some o => if o.isK l = true then some o.xs else none
  | none => none
def Src.turn (s : Src) (i : Nat) (ih : IH) : Tr := match s with
  | .lst n => match lAt ih n true with
    | some xs => match xs[i]? with
      | some v => .item v ih
      | none => .stop
    | none => .stuck
  | .tup n => match lAt ih n false with
    | some xs => match xs[i]? with
      | some v => .item v ih
      | none => .stop
    | none => .stuck
  | .rng lo c k => if i < k then .item (.int (lo + (i : Int) * c)) ih else .stop
  | .enm n => match lAt ih n true with
    | some xs => match xs[i]? with
      | some v => .item (.ref ih.length) (ih ++ [.tup [.int (i : Int), v]])
      | none => .stop
    | none => .stuck
  | .zip n m => match lAt ih n true, lAt ih m true with
    | some xs, some ys => match xs[i]?, ys[i]? with
      | some v, some w => .item (.ref ih.length) (ih ++ [.tup [v, w]])
      | _, _ => .stop
    | _, _ => .stuck
/-- how many turns there are at most -/
def Src.size (s : Src) (ih : IH) : Nat := match s with
  | .lst n => match ih[n]? with
    | some o => o.xs.length
    | none => 0
  | .tup n => match ih[n]? with
    | some o => o.xs.length
    | none => 0
  | .rng _ _ k => k
  | .enm n => match ih[n]? with
    | some o => o.xs.length
    | none => 0
  | .zip n _ => match ih[n]? with
    | some o => o.xs.length
    | none => 0
def SRel (K : PySem.W.Frag) (r : List Addr) (s : Src) (J : It) : Prop := match s with
  | .lst n => ∃ a, r[n]? = some a ∧ J = Itl K a
  | .tup n => ∃ a, r[n]? = some a ∧ J = Itt K a
  | .rng lo c k => J.go = (fun i _ => i < k) ∧ J.yld = (fun i H x H' => H' = H ∧ x = .int (lo + (i : Int) * c)) ∧ J.stop = fun i _ => k ≤ i
  | .enm n => ∃ a, r[n]? = some a ∧ J = Ite K a
  | .zip n m => ∃ a b, r[n]? = some a ∧ r[m]? = some b ∧ J = Itz K a b
section
variable {K : PySem.W.Frag} {r r' : List Addr} {ih : IH} {H : Hp}
theorem lAt_l {n : Nat} {xs : List IV} {a : Addr} (hr : Rel K r ih H) (ea : r[n]? = some a) (h : lAt ih n true = some xs) : ∃ ys, SqL K H a ys ∧ Rs r xs ys := by
  unfold lAt at h
  split at h
  · rename_i o e
    split at h
    · rename_i hl
      cases h
      exact (hr.get n a _ ea e).l hl
    · cases h
  · cases h
theorem lAt_t {n : Nat} {xs : List IV} {a : Addr} (hr : Rel K r ih H) (ea : r[n]? = some a) (h : lAt ih n false = some xs) : ∃ ys, SqT K H a ys ∧ Rs r xs ys := by
  unfold lAt at h
  split at h
  · rename_i o e
    split at h
    · rename_i hl
      cases h
      exact (hr.get n a _ ea e).t hl
    · cases h
  · cases h
theorem Rs.none {xs : List IV} {ys : List V} {i : Nat} (h : Rs r xs ys) (e : xs[i]? = none) : ys.length ≤ i := by
  rw [← h.length]
  exact List.getElem?_eq_none_iff.mp e
/-- a turn of the mirror is a turn of the iterator -/
theorem turn_ok {s : Src} {J : It} {i : Nat} (hj : SRel K r s J) (hr : Rel K r ih H) : match s.turn i ih with
    | .stuck => True
    | .stop => J.stop i H
    | .item v ih1 => J.go i H ∧ ∀ x H', J.yld i H x H' → ∃ r1, r <+: r1 ∧ Rel K r1 ih1 H' ∧ R r1 v x := by
  cases s with
  | lst n =>
    obtain ⟨a, ea, rfl⟩ := hj
    unfold Src.turn
    dsimp only
    cases e : lAt ih n true with
    | none => trivial
    | some xs =>
      obtain ⟨ys, h1, h2⟩ := lAt_l hr ea e
      dsimp only
      cases e2 : xs[i]? with
      | none => exact ⟨ys, h1, h2.none e2⟩
      | some v =>
        obtain ⟨y, h3, h4⟩ := h2.get e2
        refine ⟨⟨ys, y, h1, h3⟩, fun x H' hy => ?_⟩
        obtain ⟨rfl, hy⟩ := hy
        have := (hy _ h1).symm.trans h3
        cases this
        exact ⟨r, pre_refl r, hr, h4⟩
  | tup n =>
    obtain ⟨a, ea, rfl⟩ := hj
    unfold Src.turn
    dsimp only
    cases e : lAt ih n false with
    | none => trivial
    | some xs =>
      obtain ⟨ys, h1, h2⟩ := lAt_t hr ea e
      dsimp only
      cases e2 : xs[i]? with
      | none => exact ⟨ys, h1, h2.none e2⟩
      | some v =>
        obtain ⟨y, h3, h4⟩ := h2.get e2
        refine ⟨⟨ys, y, h1, h3⟩, fun x H' hy => ?_⟩
        obtain ⟨rfl, hy⟩ := hy
        have := (hy _ h1).symm.trans h3
        cases this
        exact ⟨r, pre_refl r, hr, h4⟩
  | rng lo c k =>
    obtain ⟨h1, h2, h3⟩ := hj
    unfold Src.turn
    dsimp only
    by_cases hk : i < k
    · rw [if_pos hk]
      dsimp only
      rw [h1, h2]
      refine ⟨hk, fun x H' hy => ?_⟩
      obtain ⟨rfl, rfl⟩ := hy
      exact ⟨r, pre_refl r, hr, rfl⟩
    · rw [if_neg hk]
      dsimp only
      rw [h3]
      exact Nat.le_of_not_lt hk
  | enm n =>
    obtain ⟨a, ea, rfl⟩ := hj
    unfold Src.turn
    dsimp only
    cases e : lAt ih n true with
    | none => trivial
    | some xs =>
      obtain ⟨ys, h1, h2⟩ := lAt_l hr ea e
      dsimp only
      cases e2 : xs[i]? with
      | none => exact ⟨ys, h1, h2.none e2⟩
      | some v =>
        obtain ⟨y, h3, h4⟩ := h2.get e2
        refine ⟨⟨ys, y, h1, h3⟩, fun x H' hy => ?_⟩
        obtain ⟨T, z, rfl, hT, rfl, hy⟩ := hy
        have := (hy _ h1).symm.trans h3
        cases this
        exact ⟨r ++ [T], pre_one, hr.new hT rfl fun H' e => ⟨_, e, .cons rfl (.cons h4 .nil)⟩, R.newest hr.len⟩
  | zip n m =>
    obtain ⟨a, b, ea, eb, rfl⟩ := hj
    unfold Src.turn
    dsimp only
    cases e : lAt ih n true with
    | none => trivial
    | some xs =>
      cases e' : lAt ih m true with
      | none => trivial
      | some zs =>
        obtain ⟨ys, h1, h2⟩ := lAt_l hr ea e
        obtain ⟨ws, k1, k2⟩ := lAt_l hr eb e'
        dsimp only
        cases e2 : xs[i]? with
        | none => exact ⟨ys, ws, h1, k1, .inl (h2.none e2)⟩
        | some v =>
          cases e3 : zs[i]? with
          | none => exact ⟨ys, ws, h1, k1, .inr (k2.none e3)⟩
          | some w =>
            obtain ⟨y, h3, h4⟩ := h2.get e2
            obtain ⟨z, k3, k4⟩ := k2.get e3
            refine ⟨⟨ys, ws, y, z, h1, k1, h3, k3⟩, fun x H' hy => ?_⟩
            obtain ⟨T, p, q, rfl, hT, rfl, hy, hz⟩ := hy
            have g1 := (hy _ h1).symm.trans h3
            have g2 := (hz _ k1).symm.trans k3
            cases g1
            cases g2
            exact ⟨r ++ [T], pre_one, hr.new hT rfl fun H' e => ⟨_, e, .cons h4 (.cons k4 .nil)⟩, R.newest hr.len⟩
theorem SRel.mono {s : Src} {J : It} (p : r <+: r') (h : SRel K r s J) : SRel K r' s J := by
  cases s with
  | lst n => obtain ⟨a, e, h⟩ := h; exact ⟨a, pre_get p e, h⟩
  | tup n => obtain ⟨a, e, h⟩ := h; exact ⟨a, pre_get p e, h⟩
  | rng lo c k => exact h
  | enm n => obtain ⟨a, e, h⟩ := h; exact ⟨a, pre_get p e, h⟩
  | zip n m => obtain ⟨a, b, e, e2, h⟩ := h; exact ⟨a, b, pre_get p e, pre_get p e2, h⟩
end
abbrev tMI (K : PySem.W.Frag) (W : WX) (m : Env → IH → Res Src) : TI := tG (SRel K) K W m
def mi_lst (m : Env → IH → Res IV) (env : Env) (ih : IH) : Res Src := (m env ih).bind fun v ih1 => match v with
  | .ref n => match lAt ih1 n true with
    | some _ => .ok (.lst n) ih1
    | none => .stuck
  | _ => .stuck
def mi_tup (m : Env → IH → Res IV) (env : Env) (ih : IH) : Res Src := (m env ih).bind fun v ih1 => match v with
  | .ref n => match lAt ih1 n false with
    | some _ => .ok (.tup n) ih1
    | none => .stuck
  | _ => .stuck
def mi_enm (m : Env → IH → Res (List IV)) (env : Env) (ih : IH) : Res Src := (m env ih).bind fun vs ih1 => match vs with
  | [.ref n] => match lAt ih1 n true with
    | some _ => .ok (.enm n) ih1
    | none => .stuck
  | _ => .stuck
def mi_zip (m : Env → IH → Res (List IV)) (env : Env) (ih : IH) : Res Src := (m env ih).bind fun vs ih1 => match vs with
  | [.ref n, .ref k] => match lAt ih1 n true, lAt ih1 k true with
    | some _, some _ => .ok (.zip n k) ih1
    | _, _ => .stuck
  | _ => .stuck
def smallI (i : Int) : Bool := decide (-(2 ^ 62) ≤ i) && decide (i < 2 ^ 62)
def mi_rng1 (m : Env → IH → Res (List IV)) (env : Env) (ih : IH) : Res Src := (m env ih).bind fun vs ih1 => match vs with
  | [.int j] => if smallI j = true then .ok (.rng 0 1 j.toNat) ih1 else .stuck
  | _ => .stuck
def mi_rng2 (m : Env → IH → Res (List IV)) (env : Env) (ih : IH) : Res Src := (m env ih).bind fun vs ih1 => match vs with
  | [.int i, .int j] => if smallI i = true ∧ smallI j = true then .ok (.rng i 1 (j - i).toNat) ih1 else .stuck
  | _ => .stuck
theorem smallI_of {i : Int} (h : smallI i = true) : -(2 ^ 62) ≤ i ∧ i < 2 ^ 62 := by
  unfold smallI at h
  rw [Bool.and_eq_true] at h
  exact ⟨of_decide_eq_true h.1, of_decide_eq_true h.2⟩
section
variable {X : Cx} {W : WX} {tg e e2 : Expr} {m : Env → IH → Res IV} {ml : Env → IH → Res (List IV)} {p pos tpos : Pos} {elts : List Expr} {kk : Nat}
theorem PI.of {t t' : TI} (h : PI X tg e t) (w : ∀ σ H Q, t' σ H Q → t σ H Q) : PI X tg e t' := ⟨fun pins s σ H Q I q => h.run pins s σ H Q I (w σ H Q q)⟩
theorem li_lst (h : PE X e (tM X.K W m)) : PI X tg e (tMI X.K W (mi_lst m)) := PI.of (pi_list h) fun σ H Q ⟨r, ih, env, hr, he, q⟩ => tG.imp (tG_bind hr he q) fun u H1 ⟨r1, ih1, v, p, hr1, hv, q1⟩ => by
  dsimp only at q1
  split at q1
  · rename_i n _
    obtain ⟨a, ea, rfl⟩ := hv.ref
    split at q1
    · rename_i xs e1
      obtain ⟨ys, h1, _⟩ := lAt_l hr1 ea e1
      exact ⟨a, rfl, ⟨ys, h1⟩, tG_end q1 hr1 ⟨a, ea, rfl⟩⟩
    · exact q1.elim
  · exact q1.elim
theorem li_tup (h : PE X e (tM X.K W m)) : PI X tg e (tMI X.K W (mi_tup m)) := PI.of (pi_tup h) fun σ H Q ⟨r, ih, env, hr, he, q⟩ => tG.imp (tG_bind hr he q) fun u H1 ⟨r1, ih1, v, p, hr1, hv, q1⟩ => by
  dsimp only at q1
  split at q1
  · rename_i n _
    obtain ⟨a, ea, rfl⟩ := hv.ref
    split at q1
    · rename_i xs e1
      obtain ⟨ys, h1, _⟩ := lAt_t hr1 ea e1
      exact ⟨a, rfl, ⟨ys, h1⟩, tG_end q1 hr1 ⟨a, ea, rfl⟩⟩
    · exact q1.elim
  · exact q1.elim
theorem li_enm (hg : Gl X "enumerate") (hm : X.mg "enumerate" = none) (ha : PA X [e] (tMA X.K W ml)) (hs : starEach [e] X.env = [(false, eval e X.env)] := by rfl) : PI X (.Tuple elts kk tpos) (.Call (.Name "enumerate" p) [e] [] pos) (tMI X.K W (mi_enm ml)) :=
  PI.of (pi_enum hg hm ha hs) fun σ H Q ⟨r, ih, env, hr, he, q⟩ => tG.imp (tG_bind hr he q) fun u H1 ⟨r1, ih1, v, p, hr1, hv, q1⟩ => by
    dsimp only at q1
    split at q1
    · rename_i n _
      obtain ⟨w, rfl, hw⟩ := hv.one
      obtain ⟨a, ea, rfl⟩ := hw.ref
      split at q1
      · rename_i xs e1
        obtain ⟨ys, h1, _⟩ := lAt_l hr1 ea e1
        exact ⟨a, ys, rfl, h1, tG_end q1 hr1 ⟨a, ea, rfl⟩⟩
      · exact q1.elim
    · exact q1.elim
theorem li_zip (hg : Gl X "zip") (hm : X.mg "zip" = none) (ha : PA X [e, e2] (tMA X.K W ml)) (hs : starEach [e, e2] X.env = (false, eval e X.env) :: starEach [e2] X.env := by rfl) (hpl : (backTo pos (starEach [e2] X.env)).any (·.1) = false := by rfl) :
    PI X (.Tuple elts kk tpos) (.Call (.Name "zip" p) [e, e2] [] pos) (tMI X.K W (mi_zip ml)) :=
  PI.of (pi_zip hg hm ha hs hpl) fun σ H Q ⟨r, ih, env, hr, he, q⟩ => tG.imp (tG_bind hr he q) fun u H1 ⟨r1, ih1, v, p, hr1, hv, q1⟩ => by
    dsimp only at q1
    split at q1
    · rename_i n k _
      obtain ⟨w, w2, rfl, hw, hw2⟩ := hv.two
      obtain ⟨a, ea, rfl⟩ := hw.ref
      obtain ⟨b, eb, rfl⟩ := hw2.ref
      split at q1
      · rename_i xs zs e1 e2
        obtain ⟨ys, h1, _⟩ := lAt_l hr1 ea e1
        obtain ⟨ws, h2, _⟩ := lAt_l hr1 eb e2
        exact ⟨a, b, ys, ws, rfl, h1, h2, tG_end q1 hr1 ⟨a, b, ea, eb, rfl⟩⟩
      · exact q1.elim
    · exact q1.elim
theorem li_rng1 (hg : Gl X "range") (hm : X.mg "range" = none) (ha : PA X [e] (tMA X.K W ml)) (hs : starEach [e] X.env = [(false, eval e X.env)] := by rfl) : PI X tg (.Call (.Name "range" p) [e] [] pos) (tMI X.K W (mi_rng1 ml)) :=
  PI.of (pi_range1 hg hm ha hs) fun σ H Q ⟨r, ih, env, hr, he, q⟩ => tG.imp (tG_bind hr he q) fun u H1 ⟨r1, ih1, v, p, hr1, hv, q1⟩ => by
    dsimp only at q1
    split at q1
    · obtain ⟨w, rfl, hw⟩ := hv.one
      obtain rfl : w = .int _ := hw
      split at q1
      · rename_i hj
        obtain ⟨h1, h2⟩ := smallI_of hj
        refine ⟨_, rfl, h1, h2, tG_end q1 hr1 ⟨rfl, ?_, rfl⟩⟩
        funext i H x H'
        rw [Int.mul_one]
        rfl
      · exact q1.elim
    · exact q1.elim
theorem li_rng2 (hg : Gl X "range") (hm : X.mg "range" = none) (ha : PA X [e, e2] (tMA X.K W ml)) (hs : starEach [e, e2] X.env = [(false, eval e X.env), (false, eval e2 X.env)] := by rfl) (hs2 : starEach [e2] X.env = [(false, eval e2 X.env)] := by rfl) :
    PI X tg (.Call (.Name "range" p) [e, e2] [] pos) (tMI X.K W (mi_rng2 ml)) :=
  PI.of (pi_range2 hg hm ha hs hs2) fun σ H Q ⟨r, ih, env, hr, he, q⟩ => tG.imp (tG_bind hr he q) fun u H1 ⟨r1, ih1, v, p, hr1, hv, q1⟩ => by
    dsimp only at q1
    split at q1
    · obtain ⟨w, w2, rfl, hw, hw2⟩ := hv.two
      obtain rfl : w = .int _ := hw
      obtain rfl : w2 = .int _ := hw2
      split at q1
      · rename_i hj
        obtain ⟨h1, h2⟩ := smallI_of hj.1
        obtain ⟨h3, h4⟩ := smallI_of hj.2
        refine ⟨_, _, rfl, ⟨h1, h2, h3, h4⟩, tG_end q1 hr1 ⟨rfl, ?_, rfl⟩⟩
        funext i H x H'
        rw [Int.mul_one]
        rfl
      · exact q1.elim
    · exact q1.elim
end

/-! ### for, while -/
/-- behind a loop's body: the next turn, or the end -/
def RS.loop (r : RS) (k : Env → IH → RS) : RS := match r with
  | .ok (.next env) ih => k env ih
  | .ok (.cont env) ih => k env ih
  | .ok (.brk env) ih => .ok (.next env) ih
  | .ok (.ret v) ih => .ok (.ret v) ih
  | .exc c env ih => .exc c env ih
  | .stuck => .stuck
@[simp] theorem RS.loop_next (env : Env) (ih : IH) (k : Env → IH → RS) : (RS.ok (.next env) ih).loop k = k env ih := rfl
@[simp] theorem RS.loop_cont (env : Env) (ih : IH) (k : Env → IH → RS) : (RS.ok (.cont env) ih).loop k = k env ih := rfl
@[simp] theorem RS.loop_brk (env : Env) (ih : IH) (k : Env → IH → RS) : (RS.ok (.brk env) ih).loop k = .ok (.next env) ih := rfl
@[simp] theorem RS.loop_ret (v : IV) (ih : IH) (k : Env → IH → RS) : (RS.ok (.ret v) ih).loop k = .ok (.ret v) ih := rfl
@[simp] theorem RS.loop_exc (c : Addr) (env : Env) (ih : IH) (k : Env → IH → RS) : (RS.exc c env ih).loop k = .exc c env ih := rfl
@[simp] theorem RS.loop_stuck (k : Env → IH → RS) : RS.stuck.loop k = .stuck := rfl
def forGo (s : Src) (g : IV → Env → IH → Option Env) (mb : Env → IH → RS) : Nat → Nat → Env → IH → RS
  | 0, _, _, _ => .stuck
  | f + 1, i, env, ih => match s.turn i ih with
    | .stuck => .stuck
    | .stop => .ok (.next env) ih
    | .item v ih1 => match g v env ih1 with
      | some env1 => (mb env1 ih1).loop fun env2 ih2 => forGo s g mb f (i + 1) env2 ih2
      | none => .stuck
def ms_for (mi : Env → IH → Res Src) (g : IV → Env → IH → Option Env) (mb : Env → IH → RS) (env : Env) (ih : IH) : RS := (mi env ih).stm env fun s ih1 => forGo s g mb (s.size ih1 + 1) 0 env ih1
def whileGo (n : Env → IH → Res Bool) (mb : Env → IH → RS) : Nat → Env → IH → RS
  | 0, _, _ => .stuck
  | f + 1, env, ih => (n env ih).stm env fun b ih1 => if b = true then (mb env ih1).loop fun env2 ih2 => whileGo n mb f env2 ih2 else .ok (.next env) ih1
def ms_while (fuel : Nat) (n : Env → IH → Res Bool) (mb : Env → IH → RS) (env : Env) (ih : IH) : RS := whileGo n mb fuel env ih
section
variable {X : Cx} {K : PySem.W.Frag} {W : WX} {r : List Addr} {D : Ends}
/-- a body's end within a loop -/
theorem loop_body {res : RS} {k : Env → IH → RS} {N : St → Hp → Prop} (h : PStm K W r (res.loop k) D) (hN : ∀ r1 ih env σ H, r <+: r1 → Rel K r1 ih H → REnv r1 env σ → PStm K W r1 (k env ih) D → N σ H) : PStm K W r res { D with nx := N, ct := N, bk := D.nx } := by
  cases res with
  | ok f ih =>
    cases f with
    | next env => exact fun r' H' σ' p hr he => hN r' ih env σ' H' p hr he (PStm.mono p h)
    | cont env => exact fun r' H' σ' p hr he => hN r' ih env σ' H' p hr he (PStm.mono p h)
    | brk env => exact h
    | ret v => exact h
  | exc c env ih => exact h
  | stuck => exact h
theorem ls_for {iter tg : Expr} {body : List Stmt} {ks : List Nat} {g : TG} {f : IV → Env → IH → Option Env} {mi : Env → IH → Res Src} {mb : Env → IH → RS} {pos : Pos} (hp : PassesOwn (model X.prog X.w) X.A X.env X.xe) (hc : X.calm = true) (hi : PI X tg iter (tMI X.K W mi)) (hg : PG X tg g) (sg : SndG X.K ks g f)
    (hb : PSs X body (tMS X.K W mb)) (hs : ∀ x, foldedSetIterable iter X.env x = pure x := by intro _; rfl) : PS X (.For tg iter body [] pos) (tMS X.K W (ms_for mi f mb)) :=
  PS.of (ps_for hp hc hi hg hb hs) fun D σ H ⟨r, ih, env, hr, he, q⟩ => tG.imp (tG_stm hr he q) fun J H1 ⟨r1, ih1, s, p, hr1, hj, q1⟩ => by
    dsimp only at q1
    refine ⟨fun i m σ H => ∃ r2 ih2 env2, r1 <+: r2 ∧ Rel X.K r2 ih2 H ∧ REnv r2 env2 σ ∧ PStm X.K W r2 (forGo s f mb m i env2 ih2) D, ⟨_, r1, ih1, env, pre_refl r1, hr1, he.mono p, q1⟩, fun i m σ2 H2 ⟨r2, ih2, env2, p2, hr2, he2, q2⟩ => ?_⟩
    cases m with
    | zero => exact q2.elim
    | succ m =>
      unfold forGo at q2
      have t := turn_ok (i := i) (hj.mono p2) hr2
      split at q2
      · exact q2.elim
      · rename_i e
        rw [e] at t
        exact .inl ⟨t, st_end q2 hr2 he2⟩
      · rename_i v ih3 e
        rw [e] at t
        refine .inr ⟨t.1, fun σ3 H3 => ∃ r3 ih3 env3, r1 <+: r3 ∧ Rel X.K r3 ih3 H3 ∧ REnv r3 env3 σ3 ∧ PStm X.K W r3 (forGo s f mb m (i + 1) env3 ih3) D, fun σ3 H3 h => ⟨m, Nat.lt_succ_self m, h⟩, fun x H3 hy => ?_⟩
        obtain ⟨r3, p3, hr3, hv⟩ := t.2 x H3 hy
        cases eg : f v env2 ih3 with
        | none =>
          rw [eg] at q2
          exact q2.elim
        | some env3 =>
          rw [eg] at q2
          refine sg r3 ih3 H3 v x env2 σ2 _ hr3 hv (he2.mono p3) ⟨env3, eg, fun σ3 he3 _ _ => ?_⟩
          exact ⟨r3, ih3, env3, hr3, he3, loop_body (PStm.mono p3 q2) fun r4 ih4 env4 σ4 H4 p4 hr4 he4 q4 => ⟨r4, ih4, env4, pre_trans (pre_trans p2 p3) p4, hr4, he4, q4⟩⟩
theorem ls_while {c : Expr} {body : List Stmt} {n : Env → IH → Res Bool} {mb : Env → IH → RS} {pos : Pos} (fuel : Nat) (hp : PassesOwn (model X.prog X.w) X.A X.env X.xe) (hc : PT X c (tMT X.K W n)) (hb : PSs X body (tMS X.K W mb)) : PS X (.While c body [] pos) (tMS X.K W (ms_while fuel n mb)) :=
  PS.of (ps_while hp hc hb) fun D σ H ⟨r, ih, env, hr, he, q⟩ => by
    refine ⟨fun m σ H => ∃ r2 ih2 env2, Rel X.K r2 ih2 H ∧ REnv r2 env2 σ ∧ PStm X.K W r2 (whileGo n mb m env2 ih2) D, ⟨fuel, r, ih, env, hr, he, q⟩, fun m σ2 H2 ⟨r2, ih2, env2, hr2, he2, q2⟩ => ?_⟩
    cases m with
    | zero => exact q2.elim
    | succ m =>
      unfold whileGo at q2
      refine tG.imp (tG_stm hr2 he2 q2) fun u H3 ⟨r3, ih3, b, p3, hr3, hb3, q3⟩ => ?_
      obtain rfl : u = b := hb3
      cases u with
      | true =>
        rw [if_pos rfl] at q3
        show if true = true then _ else _
        rw [if_pos rfl]
        exact ⟨fun σ4 H4 => ∃ r4 ih4 env4, Rel X.K r4 ih4 H4 ∧ REnv r4 env4 σ4 ∧ PStm X.K W r4 (whileGo n mb m env4 ih4) D, fun σ4 H4 h => ⟨m, Nat.lt_succ_self m, h⟩,
          ⟨r3, ih3, env2, hr3, he2.mono p3, loop_body q3 fun r4 ih4 env4 σ4 H4 p4 hr4 he4 q4 => ⟨r4, ih4, env4, hr4, he4, q4⟩⟩⟩
      | false =>
        rw [if_neg Bool.false_ne_true] at q3
        show if false = true then _ else _
        rw [if_neg Bool.false_ne_true]
        exact st_end q3 hr3 (he2.mono p3)
end

/-! ### comprehensions -/
def lcGo (s : Src) (g : IV → Env → IH → Option Env) (n : Env → IH → Res Bool) (me : Env → IH → Res IV) (d : Nat) (env : Env) : Nat → Nat → IH → Res IV
  | 0, _, _ => .stuck
  | f + 1, i, ih => match s.turn i ih with
    | .stuck => .stuck
    | .stop => .ok (.ref d) ih
    | .item v ih1 => match g v env ih1 with
      | some env1 => match n env1 ih1 with
        | .ok true ih2 => match me env1 ih2 with
          | .ok y ih3 => match ih3[d]? with
            | some (.lst acc) => if acc.length < 100000 then lcGo s g n me d env f (i + 1) (ih3.set d (.lst (acc ++ [y]))) else .stuck
            | _ => .stuck
          | _ => .stuck
        | .ok false ih2 => lcGo s g n me d env f (i + 1) ih2
        | _ => .stuck
      | none => .stuck
def m_lc (vs : List Nat) (mi : Env → IH → Res Src) (g : IV → Env → IH → Option Env) (n : Env → IH → Res Bool) (me : Env → IH → Res IV) (env : Env) (ih : IH) : Res IV := (mi env ih).bind fun s ih1 => lcGo s g n me ih1.length (wipeI env vs) (s.size ih1 + 1) 0 (ih1 ++ [.lst []])
def n_yes (_ : Env) (ih : IH) : Res Bool := .ok true ih
abbrev W0 : WX := fun _ _ _ _ => False
theorem wipe_get {σ : St} : ∀ {vs : List Nat} {j : Nat}, j ∈ vs → j < σ.length → (wipe σ vs)[j]? = some none
  | v :: vs, j, h, hl => by
    unfold wipe
    by_cases e : v = j
    · rw [e, List.getElem?_set_self (by rw [wipe_length]; exact hl)]
    · rw [List.getElem?_set_ne e]
      exact wipe_get ((List.mem_cons.mp h).resolve_left fun z => e z.symm) hl
theorem wipe_agree {σ σ' : St} {vs ks : List Nat} (hk : ∀ k ∈ ks, k ∈ vs) (hl : σ'.length = (wipe σ vs).length) (h : ∀ j, j ∉ ks → σ'[j]? = (wipe σ vs)[j]?) : wipe σ' vs = wipe σ vs := by
  apply List.ext_getElem?
  intro j
  by_cases hj : j ∈ vs
  · by_cases hb : j < σ.length
    · rw [wipe_get hj hb, wipe_get hj (by rw [hl, wipe_length]; exact hb)]
    · rw [List.getElem?_eq_none (by rw [wipe_length, hl, wipe_length]; omega), List.getElem?_eq_none (by rw [wipe_length]; omega)]
  · rw [wipe_out hj, h j fun z => hj (hk j z)]
section
variable {X : Cx} {W : WX} {K : PySem.W.Frag}
theorem lc_weak {ks vs : List Nat} {g : TG} {f : IV → Env → IH → Option Env} {mi : Env → IH → Res Src} {n : Env → IH → Res Bool} {me : Env → IH → Res IV} {σ : St} {H : Hp} {Q : VK} (sg : SndG K ks g f) (hk : ∀ k ∈ ks, k ∈ vs) (h : tM K W (m_lc vs mi f n me) σ H Q) :
    tLc (tMI K W mi) g (tMT K W0 n) (tM K W0 me) vs σ H Q := by
  obtain ⟨r, ih, env, hr, he, q⟩ := h
  refine tG.imp (tG_bind hr he q) fun J H1 ⟨r1, ih1, s, p, hr1, hj, q1⟩ D hD => ?_
  dsimp only at q1
  have hr1' : Rel K (r1 ++ [D]) (ih1 ++ [.lst []]) (upd H1 D (.lst [])) := hr1.new hD rfl fun H' e => ⟨[], e, .nil⟩
  have hd : (r1 ++ [D])[ih1.length]? = some D := by
    obtain ⟨a, e, z⟩ := R.newest (p := D) hr1.len
    cases z
    exact e
  have hw := (he.mono (pre_trans p (pre_one (p := D)))).wipe vs
  refine ⟨fun i m H => ∃ r2 ih2, r1 ++ [D] <+: r2 ∧ Rel K r2 ih2 H ∧ PGen R K W σ r2 (lcGo s f n me ih1.length (wipeI env vs) m i ih2) Q, ⟨_, r1 ++ [D], _, pre_refl _, hr1', PGen.mono pre_one q1⟩, fun i m H2 ⟨r2, ih2, p2, hr2, q2⟩ => ?_⟩
  cases m with
  | zero => exact q2.elim
  | succ m =>
    unfold lcGo at q2
    have t := turn_ok (i := i) (hj.mono (pre_trans pre_one p2)) hr2
    split at q2
    · exact q2.elim
    · rename_i e
      rw [e] at t
      exact .inl ⟨t, tG_end q2 hr2 ⟨D, pre_get p2 hd, rfl⟩⟩
    · rename_i v ih3 e
      rw [e] at t
      refine .inr ⟨t.1, fun H3 => ∃ r3 ih3, r1 ++ [D] <+: r3 ∧ Rel K r3 ih3 H3 ∧ PGen R K W σ r3 (lcGo s f n me ih1.length (wipeI env vs) m (i + 1) ih3) Q, fun H3 h => ⟨m, Nat.lt_succ_self m, h⟩, fun x H3 hy => ?_⟩
      obtain ⟨r3, p3, hr3, hv⟩ := t.2 x H3 hy
      cases eg : f v (wipeI env vs) ih3 with
      | none =>
        rw [eg] at q2
        exact q2.elim
      | some env3 =>
        rw [eg] at q2
        refine sg r3 ih3 H3 v x (wipeI env vs) (wipe σ vs) _ hr3 hv (hw.mono (pre_trans p2 p3)) ⟨env3, eg, fun σ3 he3 l3 k3 => ⟨wipe_agree hk l3 k3, r3, ih3, env3, hr3, he3, ?_⟩⟩
        dsimp only at q2
        cases en : n env3 ih3 with
        | stuck => rw [en] at q2; exact q2.elim
        | exc c ih4 => rw [en] at q2; exact q2.elim
        | ok b ih4 =>
          rw [en] at q2
          intro r4 H4 b' p4 hr4 hb
          obtain rfl : b' = b := hb
          cases b' with
          | false => exact ⟨r4, ih4, pre_trans (pre_trans p2 p3) p4, hr4, PGen.mono (pre_trans p3 p4) q2⟩
          | true =>
            show if true = true then _ else _
            rw [if_pos rfl]
            refine ⟨r4, ih4, env3, hr4, he3.mono p4, ?_⟩
            dsimp only at q2
            cases em : me env3 ih4 with
            | stuck => rw [em] at q2; exact q2.elim
            | exc c ih5 => rw [em] at q2; exact q2.elim
            | ok y ih5 =>
              rw [em] at q2
              intro r5 H5 u p5 hr5 hu
              dsimp only at q2
              split at q2
              · rename_i acc ea
                split at q2
                · rename_i hl
                  have hD5 := pre_get (pre_trans (pre_trans (pre_trans p2 p3) p4) p5) hd
                  obtain ⟨ys, h1, h2⟩ := hr5.get _ D _ hD5 ea
                  exact ⟨ys, h1, by rw [← h2.length]; exact line5l hl, r5, _, pre_trans (pre_trans (pre_trans p2 p3) p4) p5, hr5.write hD5 ea (h2.append (.cons hu .nil)), PGen.mono (pre_trans (pre_trans p3 p4) p5) q2⟩
                · exact q2.elim
              · exact q2.elim
theorem lts_nil : PTs X [] (tMT X.K W n_yes) := ⟨fun pins s σ H Q I ⟨r, ih, env, hr, he, q⟩ => pts_nil.run pins s σ H Q I (tG_end q hr rfl)⟩
theorem lts_one {c : Expr} {n : Env → IH → Res Bool} (h : PT X c (tMT X.K W n)) : PTs X [c] (tMT X.K W n) := pts_one h
theorem lm_lc {elt tg iter : Expr} {ifs : List Expr} {scope : Scope} {own : List (Str × Nat)} {pos : Pos} {ks : List Nat} {g : TG} {f : IV → Env → IH → Option Env} {mi : Env → IH → Res Src} {n : Env → IH → Res Bool} {me : Env → IH → Res IV} (hc : X.calm = true) (hN : X.N.Nodup) (hi : PI X tg iter (tMI X.K W mi))
    (ok : BlkOk X.N X.env.scope scope own) (sg : SndG X.K ks g f) (hk : ∀ k ∈ ks, k ∈ own.map (·.2))
    (hg : ∀ (s : Shared) (H : Hp) (C : Addr) (cl : List (Str × Addr)) (fp : List Addr), PG (X.blk s H scope (compEnvC scope cl C X.env) fp) tg g) (ht : ∀ (s : Shared) (H : Hp) (C : Addr) (cl : List (Str × Addr)) (fp : List Addr), PTs (X.blk s H scope (compEnvC scope cl C X.env) fp) ifs (tMT X.K W0 n))
    (he : ∀ (s : Shared) (H : Hp) (C : Addr) (cl : List (Str × Addr)) (fp : List Addr), PE (X.blk s H scope (compEnvC scope cl C X.env) fp) elt (tM X.K W0 me)) (hs : ∀ x, foldedSetIterable iter X.env x = pure x := by intro _; rfl) :
    PE X (.ListComp elt [⟨tg, iter, ifs, 0⟩] scope pos) (tM X.K W (m_lc (own.map (·.2)) mi f n me)) := PE.of (pe_lc hc hN hi ok hg ht he hs) fun σ H Q h => lc_weak sg hk h
/-- name = [..] on one line, the name a local -/
theorem ls_lc {i : Nat} {y : Str} {py spos : Pos} {elt tg iter : Expr} {ifs : List Expr} {scope : Scope} {own : List (Str × Nat)} {pos : Pos} {ks : List Nat} {g : TG} {f : IV → Env → IH → Option Env} {mi : Env → IH → Res Src} {n : Env → IH → Res Bool} {me : Env → IH → Res IV} (hc : X.calm = true) (hN : X.N.Nodup) (hy : X.N[i]? = some y)
    (hyl : X.env.scope.names.lookup y = some .local) (hsw : swapsWith (.ListComp elt [⟨tg, iter, ifs, 0⟩] scope pos) (some (.Name y py)) spos.line X.env = pure true) (hi : PI X tg iter (tMI X.K W mi))
    (ok : BlkOk X.N X.env.scope scope own) (sg : SndG X.K ks g f) (hk : ∀ k ∈ ks, k ∈ own.map (·.2))
    (hg : ∀ (s : Shared) (H : Hp) (C : Addr) (cl : List (Str × Addr)) (fp : List Addr), PG (X.blk s H scope (compEnvC scope cl C X.env) fp) tg g) (ht : ∀ (s : Shared) (H : Hp) (C : Addr) (cl : List (Str × Addr)) (fp : List Addr), PTs (X.blk s H scope (compEnvC scope cl C X.env) fp) ifs (tMT X.K W0 n))
    (he : ∀ (s : Shared) (H : Hp) (C : Addr) (cl : List (Str × Addr)) (fp : List Addr), PE (X.blk s H scope (compEnvC scope cl C X.env) fp) elt (tM X.K W0 me)) (hs : ∀ x, foldedSetIterable iter X.env x = pure x := by intro _; rfl) :
    PS X (.Assign [.Name y py] (.ListComp elt [⟨tg, iter, ifs, 0⟩] scope pos) spos) (tMS X.K W (ms_set (g_nm i) (m_lc (own.map (·.2)) mi f n me))) := PS.of (ps_setLc hc hN hy hyl hsw hi ok hg ht he hs) fun D σ H h => lc_weak sg hk (set_core (sg_nm i) h)
end
end L3
/-! L3g: defs, their calls, try, the law's end. -/
namespace L3
variable [TabT] [LamT]
open PySem PySem.Spec PyProof.Rows L2

/-- a def's promise: it does what its mirror m does -/
def spM (K : PySem.W.Frag) (n : Nat) (m : List IV → IH → Res IV) : Sp := fun vs H Q E => ∃ r ih args, args.length = n ∧ Rel K r ih H ∧ Rs r args vs ∧ PGen R K (fun cls d _ H => E cls d H) [] r (m args ih) Q
/-- a def of the text: x its name, dvs its defaults, n the number of its parameters -/
structure Df (P : Program) (w : World) (K : PySem.W.Frag) (mg : Str → Option Value) (base : Heap) (k : Nat) (x : Str) (n : Nat) (dvs : List IV) (m : List IV → IH → Res IV) : Prop where
  flat : ∀ d ∈ dvs, ∀ i, d ≠ .ref i
  ex : ∃ (f : Addr) (fd : FuncData) (ps : List Str), ps.length = n ∧ mg x = some (.ref f) ∧ PySem.W.keepIn K (.ref f) = true ∧ FnOk P w K mg base (L2.CX P w) k f fd ps (spM K n m) ∧ ∀ j, j ≤ dvs.length → ∃ ds, Vals ((dvs.drop j).map IV.toV) ds ∧ Binds K fd ps ds
/-- the call with the defaults behind the first j filled up -/
def f_call (n : Nat) (ds : List IV) (m : List IV → IH → Res IV) (xs : List IV) (ih : IH) : Res IV := if (xs ++ ds).length = n then m (xs ++ ds) ih else .stuck
section
variable {X : Cx} {W : WX} {k n j : Nat} {x : Str} {dvs : List IV} {m : List IV → IH → Res IV} {a : Expr} {es : List Expr} {p pos : Pos} {ma : Env → IH → Res (List IV)}
theorem run_fnD {CX : CXT} {f : Addr} {fd : FuncData} {ps : List Str} {sp : Sp} {pins : List (Addr × Obj)} {σ : L2.St} {H : Hp} {s : Shared} {Q : VK} {us : List Value} {vs dv : List V} {ds : List Value} {E : L2.St → XK} (F : FnOk X.prog X.w X.K X.mg X.base CX k f fd ps sp) (hr : Room k X.A) (hb : Binds X.K fd ps ds) (hd : Vals dv ds)
    (hx : PassesAt CX X σ (E σ)) (I : L2.Inv X pins σ H s) (r : Vals vs us) (h : sp (vs ++ dv) H Q (E σ)) : wpAny (model X.prog X.w) X.A (call (.ref f) us) (EP X pins σ Q) X.xe s := by
  have r2 : Vals (vs ++ dv) (us ++ ds) := r.append hd
  have hl : (us ++ ds).length = ps.length := by rw [← r2.length]; exact F.len _ _ _ _ h
  refine wpAny_call (codeAny_mono (F.run X.A X.stack s H ⟨us, []⟩ (us ++ ds) (vs ++ dv) Q (E σ) hr I.env0 (hb s us I.kIn hl) r2 h) fun r s' hq => ?_)
  cases r with
  | error e => exact hx pins H s e s' I hq
  | ok fl =>
    cases fl with
    | ret u => exact I.after hq
    | next => exact False.elim hq
    | brk => exact False.elim hq
    | cont => exact False.elim hq
theorem pe_callD {CX : CXT} {f : Addr} {fd : FuncData} {ps : List Str} {sp : Sp} {dv : List V} {ds : List Value} {E : L2.St → XK} {t : TA} (F : FnOk X.prog X.w X.K X.mg X.base CX k f fd ps sp) (hr : Room k X.A) (hg : Gl X x) (hm : X.mg x = some (.ref f)) (hk : PySem.W.keepIn X.K (.ref f) = true) (hb : Binds X.K fd ps ds) (hd : Vals dv ds) (hx : ∀ σ, PassesAt CX X σ (E σ))
    (ha : PA X (a :: es) t) (hdb : (x == ("__debug__" : Str)) = false := by decide) (he : starEach (a :: es) X.env = (false, eval a X.env) :: starEach es X.env := by rfl) (hpl : (backTo pos (starEach es X.env)).any (·.1) = false := by rfl) :
    PE X (.Call (.Name x p) (a :: es) [] pos) (fun σ H Q => t σ H fun vs H1 => sp (vs ++ dv) H1 Q (E σ)) := by
  refine ⟨fun pins s σ H Q I h => ?_⟩
  refine wpAny_Call_Name_kw (ld_glob I hg hm ?_ hdb)
  refine PySem.W.callWith_K (h₀ := X.base) I.ok.mod.kin hk (thn (ha.run pos pins s σ H _ I h) fun us s1 ⟨vs, H1, I1, r, q⟩ => ⟨I1.kIn, ?_⟩) he hpl
  exact run_fnD F hr hb hd (hx σ) I1 r q
theorem Rs.toV {r : List Addr} : ∀ {ds : List IV}, (∀ d ∈ ds, ∀ i, d ≠ .ref i) → Rs r ds (ds.map IV.toV)
  | [], _ => .nil
  | d :: ds, h => .cons (by
      have := h d List.mem_cons_self
      cases d with
      | ref i => exact absurd rfl (this i)
      | _ => rfl) (Rs.toV fun e he => h e (List.mem_cons_of_mem _ he))
theorem lm_call (D : Df X.prog X.w X.K X.mg X.base k x n dvs m) (j : Nat) (hj : j ≤ dvs.length) (hr : Room k X.A) (hg : Gl X x) (tk : Takes X W) (ha : PA X (a :: es) (tMA X.K W ma)) (hdb : (x == ("__debug__" : Str)) = false := by decide)
    (he : starEach (a :: es) X.env = (false, eval a X.env) :: starEach es X.env := by rfl) (hpl : (backTo pos (starEach es X.env)).any (·.1) = false := by rfl) : PE X (.Call (.Name x p) (a :: es) [] pos) (tM X.K W (m_app (f_call n (dvs.drop j) m) ma)) := by
  obtain ⟨f, fd, ps, hn, hm, hk, F, hB⟩ := D.ex
  obtain ⟨ds, hd, hb⟩ := hB j hj
  refine PE.of (pe_callD F hr hg hm hk hb hd (fun σ => passAt tk σ) ha hdb he hpl) fun σ H Q ⟨r, ih, env, hr, he, q⟩ => tG.imp (tG_bind hr he q) fun u H1 ⟨r1, ih1, v, p, hr1, hv, q1⟩ => ?_
  dsimp only at q1
  unfold f_call at q1
  split at q1
  · rename_i hl
    refine ⟨r1, ih1, v ++ dvs.drop j, hl, hr1, hv.append (Rs.toV fun d hd => D.flat d (List.mem_of_mem_drop hd)), ?_⟩
    cases e : m (v ++ dvs.drop j) ih1 with
    | ok y ih2 => rw [e] at q1; exact q1
    | exc c ih2 => rw [e] at q1; exact q1
    | stuck => rw [e] at q1; exact q1
  · exact q1.elim
end

/-- a def's run by its body's mirror -/
def startI (N : Nat) (args : List IV) : Env := args.map some ++ List.replicate (N - args.length) none
def RS.out (r : RS) : Res IV := match r with
  | .ok (.ret v) ih => .ok v ih
  | .ok (.next _) ih => .ok .non ih
  | .ok (.brk _) _ => .stuck
  | .ok (.cont _) _ => .stuck
  | .exc c _ ih => .exc c ih
  | .stuck => .stuck
@[simp] theorem RS.out_ret (v : IV) (ih : IH) : (RS.ok (.ret v) ih).out = .ok v ih := rfl
@[simp] theorem RS.out_next (v : Env) (ih : IH) : (RS.ok (.next v) ih).out = .ok .non ih := rfl
@[simp] theorem RS.out_exc (c : Addr) (v : Env) (ih : IH) : (RS.exc c v ih).out = .exc c ih := rfl
def defRun (N : Nat) (mb : Env → IH → RS) (args : List IV) (ih : IH) : Res IV := (mb (startI N args) ih).out
theorem start_rel {r : List Addr} {args : List IV} {vs : List V} {N : List Str} (h : Rs r args vs) : REnv r (startI N.length args) (L2.start N vs) := by
  unfold startI L2.start
  refine ⟨by rw [List.length_append, List.length_append, List.length_map, List.length_map, List.length_replicate, List.length_replicate, h.length], fun i v e => ?_⟩
  by_cases hi : i < args.length
  · rw [List.getElem?_append_left (by simpa using hi), List.getElem?_map] at e
    obtain ⟨w, e1, e2⟩ := Option.map_eq_some_iff.mp e
    cases e2
    obtain ⟨u, h1, h2⟩ := h.get e1
    exact ⟨u, by rw [List.getElem?_append_left (by rw [List.length_map, ← h.length]; exact hi), List.getElem?_map, h1]; rfl, h2⟩
  · rw [List.getElem?_append_right (by simpa using hi), List.getElem?_replicate] at e
    split at e <;> cases e
section
variable {P : Program} {w : World} {K : PySem.W.Frag} {mg : Str → Option Value} {base : Heap} {k : Nat} {x qual : Str} {st : Stmt} {dv : List V} {f : Addr} {fd : FuncData} {N ps : List Str} {mb : Env → IH → RS}
theorem df_fn (F : FunD K x qual (defArgs st) (defBody st) (defScope st) dv [] f fd) (S : FnScope N ps (defScope st))
    (hbody : ∀ (cdv : Value) (A : Around) (outer : List PySem.Env) (s : Shared) (H : Hp) (E : XK), Room k (A.deeper (envOfC qual (defScope st) s.heap.objs.size f cdv)) →
      PSs (cxOf (L2.CX P w) P w K mg base N qual (defScope st) f cdv A outer s H E) (defBody st) (tMS K (fun cls d _ H => E cls d H) mb)) :
    FnOk P w K mg base (L2.CX P w) (k + 1) f fd ps (spM K ps.length (defRun N.length mb)) := by
  refine F.ok S (fun vs H Q E ⟨r, ih, args, e, _, rs, _⟩ => rs.length ▸ e) fun cdv A outer s H vs Q E hr ⟨r, ih, args, e, hrel, rs, q⟩ => ⟨_, hbody cdv A outer s H E hr, r, ih, _, hrel, start_rel rs, ?_⟩
  unfold defRun at q
  cases z : mb (startI N.length args) ih with
  | ok fl ih2 =>
    rw [z] at q
    cases fl with
    | ret v => exact q
    | next env => exact fun r' H' σ' p hr' he' => q r' H' .non p hr' rfl
    | brk env => exact q.elim
    | cont env => exact q.elim
  | exc c env ih2 =>
    rw [z] at q
    exact fun r' H' σ' p hr' he' => q r' H' p hr'
  | stuck => rw [z] at q; exact q
/-- a def without defaults -/
theorem df_mk0 (F : FunD K x qual (defArgs st) (defBody st) (defScope st) [] [] f fd) (S : FnScope N ps (defScope st)) (hm : mg x = some (.ref f))
    (h : ∀ (kV doc pm : Value) (an : Option Addr) (cdv ct : Value) (us : List Value), us.length = ps.length → bindArgs (PySem.W.fnOf x qual (defArgs st) (defBody st) (defScope st) .none kV doc pm an cdv ct) ⟨us, []⟩ = pure (ps.zip us))
    (hbody : ∀ (cdv : Value) (A : Around) (outer : List PySem.Env) (s : Shared) (H : Hp) (E : XK), Room k (A.deeper (envOfC qual (defScope st) s.heap.objs.size f cdv)) →
      PSs (cxOf (L2.CX P w) P w K mg base N qual (defScope st) f cdv A outer s H E) (defBody st) (tMS K (fun cls d _ H => E cls d H) mb)) :
    Df P w K mg base (k + 1) x ps.length [] (defRun N.length mb) :=
  ⟨fun _ h => (nomatch h), f, fd, ps, rfl, hm, F.kp, df_fn F S hbody, fun j _ => ⟨[], by rw [List.drop_nil]; exact .nil, F.bindsN h⟩⟩
end

/-! ### try -/
/-- behind an except suite: its name goes -/
def RS.unset (r : RS) (i : Nat) : RS := match r with
  | .ok (.next env) ih => .ok (.next (env.set i none)) ih
  | .ok (.brk env) ih => .ok (.brk (env.set i none)) ih
  | .ok (.cont env) ih => .ok (.cont (env.set i none)) ih
  | .ok (.ret v) ih => .ok (.ret v) ih
  | .exc _ _ _ => .stuck
  | .stuck => .stuck
open Classical in
noncomputable def ms_try (i : Nat) (exm : Addr → Option Bool) (mb : Env → IH → RS) (ms : Addr → Addr → Env → IH → RS) (env : Env) (ih : IH) : RS := match mb env ih with
  | .exc c env1 ih1 => match exm c with
    | some true => if ∀ a, (ms a c (env1.set i (some (.gl a))) ih1).unset i = (ms 0 c (env1.set i (some (.gl 0))) ih1).unset i then (ms 0 c (env1.set i (some (.gl 0))) ih1).unset i else .stuck
    | some false => .exc c env1 ih1
    | none => .stuck
  | z => z
section
variable {X : Cx} {W : WX} {mb : Env → IH → RS} {ms : Addr → Addr → Env → IH → RS} {x n : Str} {c : Value} {i : Nat} {body suite : List Stmt} {b₀ : Stmt} {np pos pos' : Pos}
theorem ls_try (hs : X.stack = X.env :: X.outer) (hf : X.env.frame = some X.env.locals) (hN : X.N.Nodup) (hi : X.N[i]? = some n) (hln : X.env.kindOf n = some .local) (hc : Names X x c) (tk : Takes X W)
    (hb : ∀ (W : WX) (pn : List (Addr × Obj)) (xe : Value → Shared → Prop), Takes (X.tr pn xe) W → PassesOwn (model X.prog X.w) X.A X.env xe → PSs (X.tr pn xe) body (tMS X.K W mb))
    (hsu : ∀ (a cl : Addr) (oe : Obj) (pn : List (Addr × Obj)), Zc (.ref cl) none oe → (∃ vs, oe.data = .fields vs) → PSs (X.suite a ((a, oe) :: pn)) (b₀ :: suite) (tMS X.K W0 (ms a cl))) :
    PS X (.Try body [.ExceptHandler (some (.Name x np)) (some n) (b₀ :: suite) pos'] [] [] pos) (tMS X.K W (ms_try i (fun cl => PySem.W.exmOne X.K (.ref cl) c) mb ms)) := by
  refine PS.of (ps_try_as (tb := fun W => tMS X.K W mb) (ts := fun a cls d D σ H => ∃ cl, cls = .ref cl ∧ d = none ∧ tMS X.K W0 (ms a cl) D σ H) hs hf hN hi hln hc tk hb fun a oe cls d pn hz hd => ⟨fun pins s σ H D I ⟨cl, e1, e2, h⟩ => ?_⟩) fun D σ H ⟨r, ih, env, hr, he, q⟩ => ?_
  · subst e1
    subst e2
    exact (hsu a cl oe pn hz hd).run pins s σ H D I h
  · refine ⟨r, ih, env, hr, he, ?_⟩
    unfold ms_try at q
    cases e : mb env ih with
    | ok f ih1 =>
      rw [e] at q
      cases f with
      | next _ => exact q
      | brk _ => exact q
      | cont _ => exact q
      | ret _ => exact q
    | stuck => rw [e] at q; exact q
    | exc cl env1 ih1 =>
      rw [e] at q
      intro r1 H1 σ1 p1 hr1 he1
      dsimp only at q
      cases z : PySem.W.exmOne X.K (.ref cl) c with
      | none => rw [z] at q; exact q.elim
      | some b =>
        rw [z] at q
        refine ⟨b, z, fun hb1 a ha => ?_, fun hb0 => ?_⟩
        · subst hb1
          dsimp only at q
          split at q
          · rename_i hall
            rw [← hall a] at q
            refine ⟨cl, rfl, rfl, r1, ih1, env1.set i (some (.gl a)), hr1, he1.set (x := IV.gl a) (y := V.ref a) rfl i, ?_⟩
            cases z2 : ms a cl (env1.set i (some (.gl a))) ih1 with
            | ok f ih2 =>
              rw [z2] at q
              cases f with
              | next env2 => exact fun r2 H2 σ2 p2 hr2 he2 => q r2 H2 _ (pre_trans p1 p2) hr2 (he2.setN i)
              | brk env2 => exact fun r2 H2 σ2 p2 hr2 he2 => q r2 H2 _ (pre_trans p1 p2) hr2 (he2.setN i)
              | cont env2 => exact fun r2 H2 σ2 p2 hr2 he2 => q r2 H2 _ (pre_trans p1 p2) hr2 (he2.setN i)
              | ret v => exact fun r2 H2 u p2 hr2 hv => q r2 H2 u (pre_trans p1 p2) hr2 hv
            | exc c2 env2 ih2 => rw [z2] at q; exact q.elim
            | stuck => rw [z2] at q; exact q.elim
          · exact q.elim
        · subst hb0
          exact q r1 H1 σ1 p1 hr1 he1
end
/-- isinstance of the exception that the suite holds -/
def clsOf : IV → Option Value
  | .gl C => some (.ref C)
  | .ty T => some (.type T)
  | _ => none
open Classical in
noncomputable def f_isE (K : PySem.W.Frag) (a c : Addr) (xs : List IV) (ih : IH) : Res IV := match xs with
  | [.gl b, y] => if b = a ∧ ExcC K c then (match clsOf y with
    | some cv => match PySem.W.kitOne K (.ref c) cv with
      | some k => .ok (.bl k) ih
      | none => .stuck
    | none => .stuck) else .stuck
  | _ => .stuck
section
variable {X : Cx} {K : PySem.W.Frag} {W : WX} {a c : Addr} {oe : Obj} {pn : List (Addr × Obj)}
theorem call_isEA (hz : Zc (.ref c) none oe) (hf : ∃ vs, oe.data = .fields vs) : CallR (X.suite a ((a, oe) :: pn)) (.builtin "isinstance") (fun xs H Q => ExcC X.K c ∧ rIsE X.K c a xs H Q) :=
  fun pins s σ H xs us Q I r ⟨h1, h2⟩ => call_isE h1 hz hf pins s σ H xs us Q I r h2
theorem s_isE : SndC K W (fun xs H Q => ExcC K c ∧ rIsE K c a xs H Q) (f_isE K a c) := by
  intro r ih H xs us σ Q hr hx q
  unfold f_isE at q
  split at q
  · obtain ⟨u, v, rfl, h1, h2⟩ := hx.two
    split at q
    · rename_i hb
      split at q
      · rename_i cv e1
        split at q
        · rename_i k e2
          obtain rfl : u = .ref _ := h1
          refine ⟨hb.2, v, cv, k, by rw [hb.1], fun w hw => ?_, e2, tG_end q hr rfl⟩
          unfold clsOf at e1
          split at e1
          · cases e1
            obtain rfl : v = .ref _ := h2
            exact hw
          · cases e1
            obtain rfl : v = .ty _ := h2
            exact hw
          · cases e1
        · exact q.elim
      · exact q.elim
    · exact q.elim
  · exact q.elim
end

end L3
/-! L3h: the text's facts; defs, once more. -/
namespace L3
variable [TabT] [LamT]
open PySem PySem.Spec PyProof.Rows L2

/-- the program's own classes by their addresses -/
structure Cs where
  K : PySem.W.Frag
  KernelError : Addr
  NoWidth : Addr
  NoLooks : Addr
  NoCycle : Addr
  NoRate : Addr
  NoReading : Addr
  NoLine : Addr
  NoProcessor : Addr
  NoTick : Addr
  NoLevels : Addr
  NoClock : Addr
  NoSlew : Addr
  Stopped : Addr
  NotStopped : Addr
  NoSlack : Addr
  NoPeriod : Addr
  NoFragile : Addr
  NoTimer : Addr
  NoWindow : Addr
  NoSpan : Addr
  NoProcess : Addr
  NoThread : Addr
  NoQuantum : Addr
  NoKernel : Addr
  NoCall : Addr
  TooMany : Addr
  NoRow : Addr
def IV.flat : IV → Bool
  | .ref _ => false
  | _ => true
/-- an own error class of the text -/
structure ExcX (K : PySem.W.Frag) (mg : Str → Option Value) (x : Str) (C : Addr) : Prop where
  g : mg x = some (.ref C)
  q : PySem.W.excIn K C [.type "ValueError", .type "Exception", .type "BaseException", .type "object"] "ValueError.__new__" = true
  k : PySem.W.keepIn K (.ref C) = true
  b : PySem.W.subIn K (.ref C) (.type "BaseException") = some true
  t : PySem.W.typeIn K (.ref C) = some (.type "type")
theorem lg_glob {X : Cx} {x : Str} {v : V} {pos : Pos} (h : ∃ u, X.mg x = some u ∧ RelV v u) (hg : Gl X x) (hd : (x == ("__debug__" : Str)) = false := by decide) : PE X (.Name x pos) (tC v) := by
  obtain ⟨u, h1, h2⟩ := h
  exact pe_glob hg h1 h2 hd
def f_addI := f_I0 fun i j => .int (i + j)
theorem s_addI {K : PySem.W.Frag} {W : WX} : Snd2 K W (rI0 fun i j => .int (i + j)) f_addI := snd_I0 fun _ _ _ => rfl
theorem iop_mulX {X : Cx} : OpR X (inplaceOp .Mult) (rI CMulX fun i j => .int (i * j)) := opI fun _ _ _ _ _ _ _ hc q => imul_int q hc.ok
/-- a chain of two comparisons -/
def m_chain (f g : IV → IV → IH → Res IV) (ma mb mc : Env → IH → Res IV) (env : Env) (ih : IH) : Res IV := (ma env ih).bind fun x ih1 => (mb env ih1).bind fun y ih2 => (f x y ih2).bind fun z ih3 => match z with
  | .bl k => if k = true then (mc env ih3).bind fun u ih4 => g y u ih4 else .ok (.bl false) ih3
  | _ => .stuck
section
variable {P : Program} {w : World} {K : PySem.W.Frag} {mg : Str → Option Value} {base : Heap} {k : Nat} {x qual : Str} {st : Stmt} {dv : List V} {f : Addr} {fd : FuncData} {N ps : List Str} {mb : Env → IH → RS}
/-- what a body may use: its context is a def's -/
abbrev BodyOk (P : Program) (w : World) (K : PySem.W.Frag) (mg : Str → Option Value) (base : Heap) (k : Nat) (N : List Str) (qual : Str) (st : Stmt) (f : Addr) (mb : Env → IH → RS) : Prop :=
  ∀ (cdv : Value) (A : Around) (outer : List PySem.Env) (s : Shared) (H : Hp) (E : XK), Room k (cxOf (L2.CX P w) P w K mg base N qual (defScope st) f cdv A outer s H E).A →
    Takes (cxOf (L2.CX P w) P w K mg base N qual (defScope st) f cdv A outer s H E) (fun cls d _ H => E cls d H) →
    PassesOwn (model P w) (cxOf (L2.CX P w) P w K mg base N qual (defScope st) f cdv A outer s H E).A (cxOf (L2.CX P w) P w K mg base N qual (defScope st) f cdv A outer s H E).env (cxOf (L2.CX P w) P w K mg base N qual (defScope st) f cdv A outer s H E).xe →
    (cxOf (L2.CX P w) P w K mg base N qual (defScope st) f cdv A outer s H E).A.units + 64 < cLine →
    PSs (cxOf (L2.CX P w) P w K mg base N qual (defScope st) f cdv A outer s H E) (defBody st) (tMS K (fun cls d _ H => E cls d H) mb)
theorem df_fn2 (F : FunD K x qual (defArgs st) (defBody st) (defScope st) dv [] f fd) (S : FnScope N ps (defScope st)) (hbody : BodyOk P w K mg base k N qual st f mb) : FnOk P w K mg base (L2.CX P w) (k + 1) f fd ps (spM K ps.length (defRun N.length mb)) :=
  df_fn F S fun cdv A outer s H E hr => hbody cdv A outer s H E hr (takes_of rfl rfl rfl rfl) (passes_of rfl) (by
    have h := hr.un
    show (A.deeper (envOfC qual (defScope st) s.heap.objs.size f cdv)).units + 64 < cLine
    omega)
theorem df0 (F : FunD K x qual (defArgs st) (defBody st) (defScope st) [] [] f fd) (S : FnScope N ps (defScope st)) (hm : mg x = some (.ref f))
    (h : ∀ (kV doc pm : Value) (an : Option Addr) (cdv ct : Value) (us : List Value), us.length = ps.length → bindArgs (PySem.W.fnOf x qual (defArgs st) (defBody st) (defScope st) .none kV doc pm an cdv ct) ⟨us, []⟩ = pure (ps.zip us))
    (hbody : BodyOk P w K mg base k N qual st f mb) : Df P w K mg base (k + 1) x ps.length [] (defRun N.length mb) :=
  ⟨fun _ h => (nomatch h), f, fd, ps, rfl, hm, F.kp, df_fn2 F S hbody, fun j _ => ⟨[], by rw [List.drop_nil]; exact .nil, F.bindsN h⟩⟩
theorem dfD {dvs : List IV} (F : FunD K x qual (defArgs st) (defBody st) (defScope st) dv [] f fd) (S : FnScope N ps (defScope st)) (hm : mg x = some (.ref f)) (hf : dvs.all IV.flat = true) (hd : dvs.map IV.toV = dv) (hn : dvs.length = dv.length)
    (hB : ∀ j, j ≤ dv.length → ∃ ds, Vals (dv.drop j) ds ∧ Binds K fd ps ds)
    (hbody : BodyOk P w K mg base k N qual st f mb) : Df P w K mg base (k + 1) x ps.length dvs (defRun N.length mb) :=
  ⟨fun d h i e => (by
    have z := List.all_eq_true.mp hf d h
    rw [e] at z
    cases z), f, fd, ps, rfl, hm, F.kp, df_fn2 F S hbody, fun j hj => by
    rw [List.map_drop, hd]
    exact hB j (by rw [← hn]; exact hj)⟩
/-- from the facts of the head -/
theorem fun0 {oc : Value} {od an : Option Addr} {osl : Array (Option Value)} {kV doc pm cdv ct : Value} (l : K.lookup f = some ⟨oc, od, .func (PySem.W.fnOf x qual (defArgs st) (defBody st) (defScope st) .none kV doc pm an cdv ct), osl⟩)
    (c : PySem.W.codeIn K cdv qual = true) (k : PySem.W.keepIn K (.ref f) = true) : FunD K x qual (defArgs st) (defBody st) (defScope st) [] [] f (PySem.W.fnOf x qual (defArgs st) (defBody st) (defScope st) .none kV doc pm an cdv ct) :=
  ⟨⟨oc, od, .none, kV, doc, pm, an, cdv, ct, osl, rfl, l, c, .inl ⟨rfl, rfl⟩, .inl rfl⟩, k⟩
theorem funD {oc : Value} {od an : Option Addr} {osl : Array (Option Value)} {kV doc pm cdv ct : Value} {T : Addr} {o : Obj} {its : List Value} {n : Nat} (l : K.lookup f = some ⟨oc, od, .func (PySem.W.fnOf x qual (defArgs st) (defBody st) (defScope st) (.ref T) kV doc pm an cdv ct), osl⟩)
    (c : PySem.W.codeIn K cdv qual = true) (k : PySem.W.keepIn K (.ref f) = true) (lT : K.lookup T = some o) (oT : o.data = .seq its.toArray n) (hv : Vals dv its) (hd : dv ≠ []) : FunD K x qual (defArgs st) (defBody st) (defScope st) dv [] f (PySem.W.fnOf x qual (defArgs st) (defBody st) (defScope st) (.ref T) kV doc pm an cdv ct) :=
  ⟨⟨oc, od, .ref T, kV, doc, pm, an, cdv, ct, osl, rfl, l, c, .inr ⟨hd, T, o, its, n, rfl, lT, oT, hv⟩, .inl rfl⟩, k⟩
end
end L3
/-! L3i: the law's promise, from its mirror. -/
namespace L3
variable [TabT] [LamT]
open PySem PySem.Spec PyProof.Rows L2

/-- the law's promise: True of every script -/
def spLaw (K : PySem.W.Frag) : Sp := fun vs H Q _ => ∃ (a : Addr) (ns : List Int), vs = [.ref a] ∧ ns.length ≤ 63 ∧ (∀ z ∈ ns, Builtin.Int.intBits z ≤ 1048576) ∧ Only H ∧ SqL K H a (ns.map V.int) ∧ ∀ H', Q (.bl true) H'
theorem law_imp {K : PySem.W.Frag} {m : List IV → IH → Res IV} (hT : TabT.T = []) (hr0 : LamT.r0 = [] ∧ LamT.cs = []) (h : ∀ ns : List Int, ns.length ≤ 63 → (∀ z ∈ ns, Builtin.Int.intBits z ≤ 1048576) → ∃ ih, m [.ref 0] [.ro (ns.map IV.int)] = .ok (.bl true) ih) :
    ∀ vs H Q E, spLaw K vs H Q E → spM K 1 m vs H Q E := fun vs H Q E ⟨a, ns, e, h1, h2, hO, hS, q⟩ => by
  subst e
  obtain ⟨ih, h⟩ := h ns h1 h2
  refine ⟨[a], [.ro (ns.map IV.int)], [.ref 0], rfl, ⟨rfl, fun n b o e1 e2 => ?_, fun n k b o u e1 e2 e3 e4 s1 s2 => ?_, (by rw [hT]; exact fun p hp => nomatch hp), (by rw [hr0.1]; exact List.nil_prefix), (by rw [hr0.2]; exact fun p hp => nomatch hp)⟩, .cons ⟨a, rfl, rfl⟩ .nil, ?_⟩
  · cases n with
    | succ n => cases e1
    | zero =>
      cases e1
      cases e2
      refine ⟨ns.map V.int, ?_, Rs.flats_mk (f := IV.int) (g := V.int) (fun _ => rfl) ns⟩
      rcases hS with (z | ⟨o, z⟩) | z
      · rcases hO a with y | ⟨o, xs, y⟩
        · rw [y] at z; cases z
        · rw [y] at z; cases z
      · exact .inl ⟨o, z⟩
      · exact .inr (.inr z)
  · cases n with
    | succ n => cases e1
    | zero =>
      cases e3
      cases s1
  · rw [h]
    exact fun r' H' u p hr hv => by
      obtain rfl : u = .bl true := hv
      exact q H'
theorem cx_none {P : Program} {w : World} {H : Hp} {s : Shared} {e : Value} {s' : Shared} (h : L2.CX P w [] H s (fun _ _ _ => False) e s') : False := by
  obtain ⟨_, _, _, _, _, _, _, _, _, _, _, _, z⟩ := h
  exact z
end L3
/-! L3j: chains of two comparisons. -/
namespace L3
variable [TabT] [LamT]
open PySem L2
def mi_rng3 (m : Env → IH → Res (List IV)) (env : Env) (ih : IH) : Res Src := (m env ih).bind fun vs ih1 => match vs with
  | [.int i, .int j, .int k] => if k = -1 ∧ smallI i = true ∧ smallI j = true then .ok (.rng i (-1) (i - j).toNat) ih1 else .stuck
  | _ => .stuck
section
variable {X : Cx} {W : WX} {a b c : Expr} {ma mb mc : Env → IH → Res IV} {pos : Pos}
theorem chain_core {rr rr' : R2} {f g : IV → IV → IH → Res IV} (hf : Snd2 X.K W rr f) (hg : Snd2 X.K W rr' g) {σ : St} {H : Hp} {Q : VK} (h : tM X.K W (m_chain f g ma mb mc) σ H Q) : tChain rr rr' (tM X.K W ma) (tM X.K W mb) (tM X.K W mc) σ H Q := by
  obtain ⟨r, ih, env, hr, he, q⟩ := h
  refine tG.imp (tG_bind hr he q) fun u H1 ⟨r1, ih1, v, p, hr1, hv, q1⟩ => tG.imp (tG_bind hr1 (he.mono p) q1) fun w H2 ⟨r2, ih2, y, p2, hr2, hy, q2⟩ => hf r2 ih2 H2 v y u w σ _ hr2 (hv.mono p2) hy ?_
  dsimp only at q2
  cases e : f v y ih2 with
  | ok z ih3 =>
    rw [e] at q2
    intro r3 H3 z' p3 hr3 hz
    cases z with
    | bl k =>
      obtain rfl : z' = .bl k := hz
      refine ⟨k, rfl, ?_⟩
      cases k with
      | true =>
        rw [if_pos rfl]
        have q3 : PGen R X.K W σ r2 ((mc env ih3).bind fun u ih4 => g y u ih4) Q := q2
        exact tG.imp (tG_bind hr3 (he.mono (pre_trans p (pre_trans p2 p3))) (PGen.mono p3 q3)) fun u4 H4 ⟨r4, ih4, v4, p4, hr4, hv4, q4⟩ => hg _ _ _ _ _ _ _ _ _ hr4 (hy.mono (pre_trans p3 p4)) hv4 q4
      | false =>
        rw [if_neg (by decide)]
        have q3 : PGen R X.K W σ r2 (.ok (.bl false) ih3) Q := q2
        exact q3 r3 H3 _ p3 hr3 rfl
    | _ => exact (q2 : False).elim
  | exc c ih3 =>
    rw [e] at q2
    exact q2
  | stuck =>
    rw [e] at q2
    exact q2
theorem lm_chain {op op' : CmpOp} {rr rr' : R2} {f g : IV → IV → IH → Res IV} (ho : OpR X (compareOp op) rr) (hf : Snd2 X.K W rr f) (ho' : OpR X (compareOp op') rr') (hg : Snd2 X.K W rr' g) (ha : PE X a (tM X.K W ma)) (hb : PE X b (tM X.K W mb)) (hc : PE X c (tM X.K W mc))
    (hm : lastMarks [op, op'] [b, c] = false := by with_unfolding_all rfl) : PE X (.Compare a [op, op'] [b, c] pos) (tM X.K W (m_chain f g ma mb mc)) := PE.of (pe_chain ho ho' ha hb hc hm) fun σ H Q h => chain_core hf hg h
theorem lt_chain {op op' : CmpOp} {rr rr' : R2} {f g : IV → IV → IH → Res IV} (ho : OpR X (compareOp op) rr) (hf : Snd2 X.K W rr f) (ho' : OpR X (compareOp op') rr') (hg : Snd2 X.K W rr' g) (ha : PE X a (tM X.K W ma)) (hb : PE X b (tM X.K W mb)) (hc : PE X c (tM X.K W mc))
    (hm : lastMarks [op, op'] [b, c] = false := by with_unfolding_all rfl) : PT X (.Compare a [op, op'] [b, c] pos) (tMT X.K W (m_tb (m_chain f g ma mb mc))) := PT.of (pt_chain ho ho' ha hb hc hm) fun σ H Q h => chain_core hf hg (tb_core h)
theorem li_rng3 {tg a b d : Expr} {ml : Env → IH → Res (List IV)} {p pos : Pos} (hg : Gl X "range") (hm : X.mg "range" = none) (ha : PA X [a, b, d] (tMA X.K W ml))
    (hs : starEach [a, b, d] X.env = (false, eval a X.env) :: starEach [b, d] X.env := by rfl) (hpl : (backTo pos (starEach [b, d] X.env)).any (·.1) = false := by rfl) : PI X tg (.Call (.Name "range" p) [a, b, d] [] pos) (tMI X.K W (mi_rng3 ml)) :=
  PI.of (pi_range3 hg hm ha hs hpl) fun σ H Q ⟨r, ih, env, hr, he, q⟩ => tG.imp (tG_bind hr he q) fun u H1 ⟨r1, ih1, v, p, hr1, hv, q1⟩ => by
    dsimp only at q1
    split at q1
    · rename_i i j k
      cases hv with
      | cons v1 t1 =>
        cases t1 with
        | cons v2 t2 =>
          cases t2 with
          | cons v3 t3 =>
            cases t3
            obtain rfl := (show _ = V.int i from v1)
            obtain rfl := (show _ = V.int j from v2)
            obtain rfl := (show _ = V.int k from v3)
            split at q1
            · rename_i hj
              obtain ⟨rfl, hi, hj⟩ := hj
              obtain ⟨h1, h2⟩ := smallI_of hi
              obtain ⟨h3, h4⟩ := smallI_of hj
              exact ⟨i, j, -1, _, rfl, RgC.neg h1 h2 h3 h4, tG_end q1 hr1 ⟨rfl, rfl, rfl⟩⟩
            · exact q1.elim
    · exact q1.elim
end
end L3
/-! L3k: sorted. -/
namespace L3
variable [TabT] [LamT]
open PySem L2
/-- y put in behind all that it is not before -/
def insB {α : Type} (lt : α → α → Bool) (y : α) : List α → List α
  | [] => [y]
  | x :: l => if lt y x = true then y :: x :: l else x :: insB lt y l
def isB {α : Type} (lt : α → α → Bool) : List α → List α → List α
  | acc, [] => acc
  | acc, y :: r => isB lt (insB lt y acc) r
section
variable {α : Type} {lt : α → α → Bool}
theorem insB_split (O : SrtO.Swo lt) (y : α) : ∀ {l : List α}, SrtO.Srtd lt l → ∃ M N, l = M ++ N ∧ insB lt y l = M ++ y :: N ∧ (∀ x ∈ M, lt y x = false) ∧ ∀ x ∈ N, lt y x = true
  | [], _ => ⟨[], [], rfl, rfl, (fun _ h => nomatch h), fun _ h => nomatch h⟩
  | x :: l, h => by
    unfold insB
    split
    · rename_i hx
      exact ⟨[], x :: l, rfl, rfl, (fun _ h => nomatch h), O.lt_all h hx⟩
    · rename_i hx
      obtain ⟨M, N, e1, e2, h1, h2⟩ := insB_split O y (List.pairwise_cons.mp h).2
      refine ⟨x :: M, N, by rw [e1]; rfl, by rw [e2]; rfl, fun z hz => ?_, h2⟩
      rcases List.mem_cons.mp hz with e | e
      · rw [e]
        cases hh : lt y x with
        | true => exact absurd hh hx
        | false => rfl
      · exact h1 z e
theorem isB_spec (O : SrtO.Swo lt) : ∀ (r acc pre : List α), SrtO.Srtd lt acc → SrtO.Stb lt acc pre → SrtO.Srtd lt (isB lt acc r) ∧ SrtO.Stb lt (isB lt acc r) (pre ++ r)
  | [], acc, pre, h, s => ⟨h, by rw [List.append_nil]; exact s⟩
  | y :: r, acc, pre, h, s => by
    obtain ⟨M, N, e1, e2, h1, h2⟩ := insB_split O y h
    subst e1
    have k := isB_spec O r (insB lt y (M ++ N)) (pre ++ [y]) (by rw [e2]; exact SrtO.ins_srtd O h h1 h2) (by rw [e2]; exact SrtO.ins_stb O h2 s)
    rw [List.append_assoc] at k
    exact k
theorem isB_all (O : SrtO.Swo lt) (l : List α) : SrtO.Srtd lt (isB lt [] l) ∧ SrtO.Stb lt (isB lt [] l) l := isB_spec O l [] [] List.Pairwise.nil (SrtO.Stb.refl [])
end
theorem Stb.symm {α : Type} {lt : α → α → Bool} {l m : List α} (h : SrtO.Stb lt l m) : SrtO.Stb lt m l := ⟨h.perm.symm, fun x => (h.cls x).symm⟩
/-- the same steps on both sides -/
theorem ins_par {α β : Type} {T : α → β → Prop} {l1 : α → α → Bool} {l2 : β → β → Bool} (hT : ∀ x y u w, T x u → T y w → l1 x y = l2 u w) {y : α} {w : β} (hy : T y w) : ∀ {xs : List α} {us : List β}, Paired T xs us → Paired T (insB l1 y xs) (insB l2 w us)
  | _, _, .nil => .cons hy .nil
  | _, _, .cons (a := x) (b := u) q t => by
    unfold insB
    rw [hT y x w u hy q]
    split
    · exact .cons hy (.cons q t)
    · exact .cons q (ins_par hT hy t)
theorem is_par {α β : Type} {T : α → β → Prop} {l1 : α → α → Bool} {l2 : β → β → Bool} (hT : ∀ x y u w, T x u → T y w → l1 x y = l2 u w) : ∀ {xs : List α} {us : List β} {as : List α} {bs : List β}, Paired T as bs → Paired T xs us → Paired T (isB l1 as xs) (isB l2 bs us)
  | _, _, _, _, h, .nil => h
  | _, _, _, _, h, .cons q t => by
    unfold isB
    exact is_par hT (ins_par hT q h) t
/-! ### ints -/
def isI (ns : List Int) : List Int := isB (fun a b : Int => decide (a < b)) [] ns
theorem swoI : SrtO.Swo (fun a b : Int => decide (a < b)) := ⟨fun x y h => by
    simp only [decide_eq_true_eq, decide_eq_false_iff_not] at *
    omega, fun x y z h1 h2 => by
    simp only [decide_eq_true_eq, decide_eq_false_iff_not] at *
    omega⟩
theorem isI_perm (ns : List Int) : (isI ns).Perm ns := (isB_all swoI ns).2.perm
theorem isI_le (ns : List Int) : (isI ns).Pairwise (· ≤ ·) := ((isB_all swoI ns).1).imp fun h => by
  simp only [decide_eq_false_iff_not] at h
  omega
def f_sorted : List IV → IH → Res IV := f_ints fun ns ih => .ok (.ref ih.length) (ih ++ [.lst ((isI ns).map IV.int)])
theorem Rs.ints (r : List Addr) : ∀ ns : List Int, Rs r (ns.map IV.int) (ns.map V.int)
  | [] => .nil
  | _ :: l => .cons rfl (Rs.ints r l)
section
variable {K : PySem.W.Frag} {W : WX}
theorem s_sorted : SndC K W (rSortedI K) f_sorted := fun r ih H xs us σ Q hr hx q => by
  obtain ⟨a, ns, e, h, q2⟩ := ints_got hr hx q
  refine ⟨a, ns, e, h, fun ns' p hp hle hn => ?_⟩
  have e2 : ns' = isI ns := List.Perm.eq_of_pairwise (le := (· ≤ ·)) (fun a b _ _ h1 h2 => Int.le_antisymm h1 h2) hle (isI_le ns) (hp.trans (isI_perm ns).symm)
  rw [e2]
  exact end_lst q2 hr (Rs.ints r _) hn
end
/-! ### pairs of ints -/
def kI (ih : IH) : IV → Int × Int
  | .ref n => match ih[n]? with
    | some (.tup [.int i, .int j]) => (i, j)
    | _ => (0, 0)
  | _ => (0, 0)
def isPr (ih : IH) : IV → Bool
  | .ref n => match ih[n]? with
    | some (.tup [.int i, .int j]) => true
    | _ => false
  | _ => false
def ltI (ih : IH) (x y : IV) : Bool := SrtO.lexB (kI ih x) (kI ih y)
def f_sortP (xs : List IV) (ih : IH) : Res IV := match xs with
  | [.ref n] => match ih[n]? with
    | some o => if o.isL = true ∧ o.xs.all (isPr ih) = true then .ok (.ref ih.length) (ih ++ [.lst (isB (ltI ih) [] o.xs)]) else .stuck
    | none => .stuck
  | _ => .stuck
def kV (H : Hp) : V → Int × Int
  | .ref a => match H a with
    | some (.tup [.int i, .int j]) => (i, j)
    | _ => (0, 0)
  | _ => (0, 0)
theorem isPr_of {ih : IH} {x : IV} (h : isPr ih x = true) : ∃ n i j, x = .ref n ∧ ih[n]? = some (.tup [.int i, .int j]) := by
  unfold isPr at h
  split at h
  · rename_i n
    split at h
    · rename_i i j e
      exact ⟨n, i, j, rfl, e⟩
    · cases h
  · cases h
section
variable {K : PySem.W.Frag} {W : WX}
theorem pr_rel {r : List Addr} {ih : IH} {H : Hp} (hr : Rel K r ih H) {x : IV} {u : V} (h : R r x u) (hp : isPr ih x = true) : kI ih x = kV H u ∧ ∃ t, u = V.ref t ∧ H t = some (.tup [.int (kV H u).1, .int (kV H u).2]) := by
  obtain ⟨n, i, j, rfl, e⟩ := isPr_of hp
  obtain ⟨a, ea, rfl⟩ := h
  obtain ⟨ys, h1, h2⟩ := hr.get n a _ ea e
  have h3 : ys = [V.int i, V.int j] := by
    cases h2 with
    | cons q1 t =>
      cases t with
      | cons q2 t =>
        cases t
        cases q1
        cases q2
        rfl
  subst h3
  have e1 : kI ih (.ref n) = (i, j) := by
    unfold kI
    dsimp only
    rw [e]
  have e2 : kV H (.ref a) = (i, j) := by
    unfold kV
    dsimp only
    rw [h1]
  rw [e1, e2]
  exact ⟨rfl, a, rfl, h1⟩
theorem s_sortP : SndC K W (rSortedPO K) f_sortP := fun r ih H xs us σ Q hr hx q => by
  unfold f_sortP at q
  split at q
  · rename_i n
    cases hx with
    | cons h1 h2 =>
      cases h2
      obtain ⟨a, ea, rfl⟩ := h1.ref
      split at q
      · rename_i o e1
        split at q
        · rename_i hl
          obtain ⟨ys, h3, h4⟩ := (hr.get n a _ ea e1).l hl.1
          have hall := List.all_eq_true.mp hl.2
          have par : ∀ {zs : List IV} {ws : List V}, (∀ z ∈ zs, isPr ih z = true) → Rs r zs ws → Paired (fun x u => R r x u ∧ isPr ih x = true) zs ws := by
            intro zs ws hz h
            induction h with
            | nil => exact .nil
            | cons q t ihh => exact .cons ⟨q, hz _ List.mem_cons_self⟩ (ihh fun z h => hz z (List.mem_cons_of_mem _ h))
          have P4 := par hall h4
          have mem : ∀ {zs : List IV} {ws : List V}, Paired (fun x u => R r x u ∧ isPr ih x = true) zs ws → ∀ u ∈ ws, ∃ x, R r x u ∧ isPr ih x = true := by
            intro zs ws h
            induction h with
            | nil => intro u h; cases h
            | cons q t ihh =>
              intro u h
              rcases List.mem_cons.mp h with e | e
              · rw [e]; exact ⟨_, q⟩
              · exact ihh u e
          refine ⟨a, ys, kV H, rfl, h3, fun u hu => ?_, fun zs p s1 s2 hn => ?_⟩
          · obtain ⟨x, q1, q2⟩ := mem P4 u hu
            exact (pr_rel hr q1 q2).2
          · obtain ⟨k1, k2⟩ := isB_all (ltP_swo (kV H)) ys
            have e2 : zs = isB (ltP (kV H)) [] ys := SrtO.stb_uniq (ltP_swo (kV H)) s1 k1 (s2.trans (Stb.symm k2))
            rw [e2]
            have P5 := is_par (l1 := ltI ih) (l2 := ltP (kV H)) (fun x y u w h1 h2 => by
              show SrtO.lexB (kI ih x) (kI ih y) = SrtO.lexB (kV H u) (kV H w)
              rw [(pr_rel hr h1.1 h1.2).1, (pr_rel hr h2.1 h2.2).1]) .nil P4
            exact end_lst q hr (Paired.mapP P5 fun _ _ h => h.1) hn
        · exact q.elim
      · exact q.elim
  · exact q.elim
end
end L3
/-! L3l: list(range(a, b)), xs[::-1], x & 1, lists compared. -/
namespace L3
variable [TabT] [LamT]
open PySem L2
theorem Rs.reverse {r : List Addr} : ∀ {xs : List IV} {ys : List V}, Rs r xs ys → Rs r xs.reverse ys.reverse
  | _, _, .nil => .nil
  | _, _, .cons q t => by
    rw [List.reverse_cons, List.reverse_cons]
    exact Rs.append (Rs.reverse t) (.cons q .nil)
def f_rev (x : IV) (ih : IH) : Res IV := match x with
  | .ref n => match ih[n]? with
    | some o => if o.isL = true then .ok (.ref ih.length) (ih ++ [.lst o.xs.reverse]) else .stuck
    | none => .stuck
  | _ => .stuck
def rgI (a b : Int) : List IV := (List.range (b - a).toNat).map fun i : Nat => IV.int (a + (i : Int))
instance (a b : Int) : Decidable (RgOk a b) := by unfold RgOk; infer_instance
def f_lrg (xs : List IV) (ih : IH) : Res IV := match xs with
  | [.int i, .int j] => if RgOk i j then .ok (.ref ih.length) (ih ++ [.lst (rgI i j)]) else .stuck
  | _ => .stuck
def f_odd (x y : IV) (ih : IH) : Res IV := match x, y with
  | .int i, .int j => if 0 ≤ i ∧ j = 1 then .ok (.int (i % 2)) ih else .stuck
  | _, _ => .stuck
open Classical in
noncomputable def f_gtD (x y : IV) (ih : IH) : Res IV :=
  if h : ∃ p : PyData × PyData, Is ih x p.1 ∧ Is ih y p.2 ∧ PySem.W.alike p.1 p.2 = true ∧ p.1 ≠ .none ∧ p.1.depth ≤ 64 then .ok (.bl (PySem.W.dataLt h.choose.2 h.choose.1)) ih else .stuck
theorem f_gtD_of {x y : IV} {ih : IH} {d e : PyData} (h1 : Is ih x d) (h2 : Is ih y e) (s1 : PySem.W.alike d e = true) (s2 : d ≠ .none) (s3 : d.depth ≤ 64) : f_gtD x y ih = .ok (.bl (PySem.W.dataLt e d)) ih := by
  unfold f_gtD
  have h : ∃ p : PyData × PyData, Is ih x p.1 ∧ Is ih y p.2 ∧ PySem.W.alike p.1 p.2 = true ∧ p.1 ≠ .none ∧ p.1.depth ≤ 64 := ⟨(d, e), h1, h2, s1, s2, s3⟩
  rw [dif_pos h]
  have k := h.choose_spec
  rw [Is.uniq _ _ _ k.1 h1, Is.uniq _ _ _ k.2.1 h2]
def rGtD (K : PySem.W.Frag) : R2 := fun x y H Q => ∃ d e, Dp K H x d ∧ Dp K H y e ∧ PySem.W.alike d e = true ∧ d ≠ .none ∧ d.depth ≤ 64 ∧ Q (.bl (PySem.W.dataLt e d)) H
section
variable {X : Cx} {W : WX} {a b : Expr} {ma mb : Env → IH → Res IV} {pos : Pos}
theorem op_gtD (hu : X.A.units + 64 < cLine) : OpR X (compareOp .Gt) (rGtD X.K) := by
  intro pins s σ H x y v u Q I rx ry h
  obtain ⟨d, e, hd, he, sd, se, sz, q⟩ := h
  obtain ⟨as, r1⟩ := Dp.reads I d x v hd rx
  obtain ⟨bs, r2⟩ := Dp.reads I e y u he ry
  exact PySem.W.gt_data r1 r2 sd se (by have := Nat.min_le_left d.depth e.depth; omega) ⟨.bl _, H, I, rfl, q⟩
theorem s_gtD {K : PySem.W.Frag} {W : WX} : Snd2 K W (rGtD K) f_gtD := by
  intro r ih H x y u w σ Q hr hx hy q
  unfold f_gtD at q
  split at q
  · rename_i h
    have k := h.choose_spec
    exact ⟨_, _, Is.dp hr _ _ _ k.1 hx, Is.dp hr _ _ _ k.2.1 hy, k.2.2.1, k.2.2.2.1, k.2.2.2.2, tG_end q hr rfl⟩
  · exact q.elim
theorem s_odd {K : PySem.W.Frag} {W : WX} : Snd2 K W (fun x y H Q => ∃ n : Nat, x = .int (n : Int) ∧ y = .int 1 ∧ Q (.int ((n % 2 : Nat) : Int)) H) f_odd := by
  intro r ih H x y u w σ Q hr hx hy q
  unfold f_odd at q
  split at q
  · rename_i i j
    split at q
    · rename_i hh
      obtain ⟨n, rfl⟩ := Int.eq_ofNat_of_zero_le hh.1
      obtain rfl := hh.2
      cases hx
      cases hy
      refine ⟨n, rfl, rfl, ?_⟩
      exact tG_end q hr (by show V.int _ = V.int _; rw [Int.natCast_emod]; rfl)
    · exact q.elim
  · exact q.elim
theorem lm_rev {k : Nat} {p1 p2 p3 : Pos} (ha : PE X a (tM X.K W ma)) : PE X (.Subscript a (.Slice none none (some (.UnaryOp .USub (.Constant (.int 1) k p1) p2)) p3) pos) (tM X.K W (m_un f_rev ma)) :=
  PE.of (pe_revL ha) fun σ H Q ⟨r, ih, env, hr, he, q⟩ => tG.imp (tG_bind hr he q) fun u H1 ⟨r1, ih1, v, p, hr1, hv, q1⟩ => by
    replace q1 : PGen R X.K W σ r1 (f_rev v ih1) Q := q1
    unfold f_rev at q1
    split at q1
    · rename_i n
      obtain ⟨c, ec, rfl⟩ := hv.ref
      split at q1
      · rename_i o e1
        split at q1
        · rename_i hl
          obtain ⟨ys, h3, h4⟩ := (hr1.get n c _ ec e1).l hl
          exact ⟨c, ys, rfl, h3, fun l hp => end_lst q1 hr1 h4.reverse hp⟩
        · exact q1.elim
      · exact q1.elim
    · exact q1.elim
theorem app2 {f : List IV → IH → Res IV} {env : Env} {ih : IH} : m_app f (m_cons ma (m_cons mb m_nil)) env ih = (ma env ih).bind fun x ih1 => (mb env ih1).bind fun y ih2 => f [x, y] ih2 := by
  unfold m_app m_cons m_nil
  cases ma env ih with
  | ok x ih1 =>
    dsimp only [Res.bind]
    cases mb env ih1 <;> rfl
  | exc c ih1 => rfl
  | stuck => rfl
theorem Rs.rg (r : List Addr) (i j : Int) : Rs r (rgI i j) (rgV i j) := by
  unfold rgI rgV
  generalize List.range (j - i).toNat = l
  induction l with
  | nil => exact .nil
  | cons k l ihl => exact .cons rfl ihl
theorem lm_lrg {p q qos : Pos} (hc : X.calm = true) (h1 : Gl X "list") (h2 : X.mg "list" = none) (h3 : Gl X "range") (h4 : X.mg "range" = none) (ha : PE X a (tM X.K W ma)) (hb : PE X b (tM X.K W mb))
    (na : starEach [a, b] X.env = (false, eval a X.env) :: starEach [b] X.env := by rfl) (nb : starEach [b] X.env = (false, eval b X.env) :: starEach [] X.env := by rfl) (hp : (backTo qos (starEach [b] X.env)).any (·.1) = false := by rfl)
    (nc : starEach [.Call (.Name "range" q) [a, b] [] qos] X.env = (false, eval (.Call (.Name "range" q) [a, b] [] qos) X.env) :: starEach [] X.env := by rfl) :
    PE X (.Call (.Name "list" p) [.Call (.Name "range" q) [a, b] [] qos] [] pos) (tM X.K W (m_app f_lrg (m_cons ma (m_cons mb m_nil)))) :=
  PE.of (pe_listRg hc h1 h2 (prg_2 h3 h4 ha hb na nb hp) nc) fun σ H Q ⟨r, ih, env, hr, he, q⟩ => by
    rw [app2] at q
    exact tG.imp (tG_bind hr he q) fun u H1 ⟨r1, ih1, v, p, hr1, hv, q1⟩ => tG.imp (tG_bind hr1 (he.mono p) q1) fun w H2 ⟨r2, ih2, y, p2, hr2, hy, q2⟩ => by
      have hv2 := hv.mono p2
      replace q2 : PGen R X.K W σ r2 (f_lrg [v, y] ih2) Q := q2
      unfold f_lrg at q2
      split at q2
      · rename_i i j e
        cases e
        split at q2
        · rename_i ok
          cases hv2
          cases hy
          exact ⟨i, j, rfl, rfl, ok, fun l hp => end_lst q2 hr2 (Rs.rg _ i j) hp⟩
        · exact q2.elim
      · exact q2.elim
end
end L3
/-! L3n: chains of three comparisons, in, {}. -/
namespace L3
variable [TabT] [LamT]
open PySem L2 PyProof.Rows
theorem room65 {k : Nat} {A : Around} (h : Room k A) : A.units + 65 < cLine := by
  have := h.un
  omega
/-! ### {} -/
def m_dct (_ : Env) (ih : IH) : Res IV := .ok (.ref ih.length) (ih ++ [.dct])
theorem lm_dct {X : Cx} {W : WX} {pos : Pos} : PE X (.Dict [] [] pos) (tM X.K W m_dct) := PE.of pe_dnewK fun σ H Q ⟨r, ih, env, hr, he, q⟩ p hp =>
  q (r ++ [p]) _ _ pre_one (hr.new hp rfl fun H' e => ⟨_, e⟩) (R.newest hr.len)
/-! ### in -/
open Classical in
noncomputable def f_inn (neg : Bool) (x y : IV) (ih : IH) : Res IV :=
  if h : ∃ p : PyData × List PyData, Is ih x p.1 ∧ Is ih y (.list p.2) ∧ SeqAt.shaped p.1 = true ∧ SeqAt.shaped (.list p.2) = true then .ok (.bl (if neg = true then !(h.choose.2.any fun z => PyData.eqv z h.choose.1) else h.choose.2.any fun z => PyData.eqv z h.choose.1)) ih else .stuck
noncomputable def f_in := f_inn false
noncomputable def f_nin := f_inn true
theorem f_inn_of {neg : Bool} {x y : IV} {ih : IH} {d : PyData} {ds : List PyData} (h1 : Is ih x d) (h2 : Is ih y (.list ds)) (s1 : SeqAt.shaped d = true) (s2 : SeqAt.shaped (.list ds) = true) : f_inn neg x y ih = .ok (.bl (if neg = true then !(ds.any fun z => PyData.eqv z d) else ds.any fun z => PyData.eqv z d)) ih := by
  unfold f_inn
  have h : ∃ p : PyData × List PyData, Is ih x p.1 ∧ Is ih y (.list p.2) ∧ SeqAt.shaped p.1 = true ∧ SeqAt.shaped (.list p.2) = true := ⟨(d, ds), h1, h2, s1, s2⟩
  rw [dif_pos h]
  have k := h.choose_spec
  have e2 : h.choose.2 = ds := by
    have := Is.uniq _ _ _ k.2.1 h2
    cases this
    rfl
  rw [Is.uniq _ _ _ k.1 h1, e2]
theorem s_in {K : PySem.W.Frag} {W : WX} : Snd2 K W (rInD K) f_in := by
  intro r ih H x y u w σ Q hr hx hy q
  unfold f_in f_inn at q
  split at q
  · rename_i h
    have k := h.choose_spec
    exact ⟨_, _, Is.dp hr _ _ _ k.1 hx, Is.dp hr _ _ _ k.2.1 hy, k.2.2.1, k.2.2.2, tG_end q hr rfl⟩
  · exact q.elim
theorem s_nin {K : PySem.W.Frag} {W : WX} : Snd2 K W (rNotInD K) f_nin := by
  intro r ih H x y u w σ Q hr hx hy q
  unfold f_nin f_inn at q
  split at q
  · rename_i h
    have k := h.choose_spec
    exact ⟨_, _, Is.dp hr _ _ _ k.1 hx, Is.dp hr _ _ _ k.2.1 hy, k.2.2.1, k.2.2.2, tG_end q hr rfl⟩
  · exact q.elim
/-! ### a < b <= c < d -/
def m_chain3 (f g h : IV → IV → IH → Res IV) (ma mb mc md : Env → IH → Res IV) (env : Env) (ih : IH) : Res IV := (ma env ih).bind fun x ih1 => (mb env ih1).bind fun y ih2 => (f x y ih2).bind fun z ih3 => match z with
  | .bl k => if k = true then ((mc env ih3).bind fun u ih4 => (g y u ih4).bind fun z ih5 => match z with
    | .bl k => if k = true then (md env ih5).bind fun v ih6 => h u v ih6 else .ok (.bl false) ih5
    | _ => .stuck) else .ok (.bl false) ih3
  | _ => .stuck
def tChain3 (r r' r2 : R2) (ta tb tc td : TE) : TE := fun σ H Q => ta σ H fun x H1 => tb σ H1 fun y H2 => r x y H2 fun z H3 => ∃ k, z = .bl k ∧
  (if k = true then tc σ H3 fun u H4 => r' y u H4 fun z H5 => ∃ k, z = .bl k ∧ (if k = true then td σ H5 fun v H6 => r2 u v H6 Q else Q (.bl false) H5) else Q (.bl false) H3)
section
variable {X : Cx} {W : WX} {a b c d : Expr} {ta tb tc td : TE} {ma mb mc md : Env → IH → Res IV} {pos : Pos}
theorem pe_chain3 {o1 o2 o3 : CmpOp} {r1 r2 r3 : R2} (h1 : OpR X (compareOp o1) r1) (h2 : OpR X (compareOp o2) r2) (h3 : OpR X (compareOp o3) r3) (ha : PE X a ta) (hb : PE X b tb) (hc : PE X c tc) (hd : PE X d td)
    (hm : lastMarks [o1, o2, o3] [b, c, d] = false := by with_unfolding_all rfl) : PE X (.Compare a [o1, o2, o3] [b, c, d] pos) (tChain3 r1 r2 r3 ta tb tc td) := by
  refine ⟨fun pins s σ H Q I h => ?_⟩
  refine Compare_chain (thn (ha.run pins s σ H _ I h) fun v s1 ⟨x, H1, I1, q1, p1⟩ => chain_link (thn (hb.run pins s1 σ H1 _ I1 p1) fun u s2 ⟨y, H2, I2, q2, p2⟩ => thn (h1 pins s2 σ H2 x y v u _ I2 q1 q2 p2) fun e s3 ⟨z, H3, I3, q3, k, ez, p3⟩ => ?_)) hm
  subst ez
  cases q3
  refine wpAny_truthy_bool ?_
  cases k with
  | false => exact ite_ff ⟨.bl false, H3, I3, rfl, p3⟩
  | true =>
    refine ite_tt (chain_link (thn (hc.run pins s3 σ H3 _ I3 p3) fun w s4 ⟨y2, H4, I4, q4, p4⟩ => thn (h2 pins s4 σ H4 y y2 u w _ I4 q2 q4 p4) fun e s5 ⟨z, H5, I5, q5, k, ez, p5⟩ => ?_))
    subst ez
    cases q5
    refine wpAny_truthy_bool ?_
    cases k with
    | false => exact ite_ff ⟨.bl false, H5, I5, rfl, p5⟩
    | true => exact ite_tt (chain_last (thn (hd.run pins s5 σ H5 _ I5 p5) fun w2 s6 ⟨y3, H6, I6, q6, p6⟩ => h3 pins s6 σ H6 y2 y3 w w2 Q I6 q4 q6 p6))
theorem pt_chain3 {o1 o2 o3 : CmpOp} {r1 r2 r3 : R2} (h1 : OpR X (compareOp o1) r1) (h2 : OpR X (compareOp o2) r2) (h3 : OpR X (compareOp o3) r3) (ha : PE X a ta) (hb : PE X b tb) (hc : PE X c tc) (hd : PE X d td)
    (hm : lastMarks [o1, o2, o3] [b, c, d] = false := by with_unfolding_all rfl) : PT X (.Compare a [o1, o2, o3] [b, c, d] pos) (tTest (tChain3 r1 r2 r3 ta tb tc td)) := by
  refine ⟨fun pins s σ H Q I h => ?_⟩
  refine isTrue_chain (thn (ha.run pins s σ H _ I h) fun v s1 ⟨x, H1, I1, q1, p1⟩ => test_link (thn (hb.run pins s1 σ H1 _ I1 p1) fun u s2 ⟨y, H2, I2, q2, p2⟩ => thn (h1 pins s2 σ H2 x y v u _ I2 q1 q2 p2) fun e s3 ⟨z, H3, I3, q3, k, ez, p3⟩ => ?_)) hm
  subst ez
  cases q3
  refine wpAny_truthy_bool ?_
  cases k with
  | false =>
    obtain ⟨k', e', q'⟩ := p3
    cases e'
    exact ite_ff ⟨H3, I3, q'⟩
  | true =>
    refine ite_tt (test_link (thn (hc.run pins s3 σ H3 _ I3 p3) fun w s4 ⟨y2, H4, I4, q4, p4⟩ => thn (h2 pins s4 σ H4 y y2 u w _ I4 q2 q4 p4) fun e s5 ⟨z, H5, I5, q5, k, ez, p5⟩ => ?_))
    subst ez
    cases q5
    refine wpAny_truthy_bool ?_
    cases k with
    | false =>
      obtain ⟨k', e', q'⟩ := p5
      cases e'
      exact ite_ff ⟨H5, I5, q'⟩
    | true =>
      refine ite_tt (test_last (thn (hd.run pins s5 σ H5 _ I5 p5) fun w2 s6 ⟨y3, H6, I6, q6, p6⟩ => thn (h3 pins s6 σ H6 y2 y3 w w2 _ I6 q4 q6 p6) fun d' s7 ⟨z2, H7, I7, q7, k2, e2, p7⟩ => ?_))
      subst e2
      cases q7
      exact wpAny_truthy_bool ⟨H7, I7, p7⟩
theorem chain3_core {r1 r2 r3 : R2} {f g e : IV → IV → IH → Res IV} (hf : Snd2 X.K W r1 f) (hg : Snd2 X.K W r2 g) (he' : Snd2 X.K W r3 e) {σ : L2.St} {H : Hp} {Q : VK} (h : tM X.K W (m_chain3 f g e ma mb mc md) σ H Q) : tChain3 r1 r2 r3 (tM X.K W ma) (tM X.K W mb) (tM X.K W mc) (tM X.K W md) σ H Q := by
  obtain ⟨r, ih, env, hr, he, q⟩ := h
  refine tG.imp (tG_bind hr he q) fun u H1 ⟨r1, ih1, v, p, hr1, hv, q1⟩ => tG.imp (tG_bind hr1 (he.mono p) q1) fun w H2 ⟨r2, ih2, y, p2, hr2, hy, q2⟩ => hf r2 ih2 H2 v y u w σ _ hr2 (hv.mono p2) hy ?_
  dsimp only at q2
  cases e1 : f v y ih2 with
  | ok z ih3 =>
    rw [e1] at q2
    intro r3 H3 z' p3 hr3 hz
    cases z with
    | bl k =>
      obtain rfl : z' = .bl k := hz
      refine ⟨k, rfl, ?_⟩
      cases k with
      | true =>
        rw [if_pos rfl]
        have q3 : PGen R X.K W σ r2 ((mc env ih3).bind fun u ih4 => (g y u ih4).bind fun z ih5 => match z with
          | .bl k => if k = true then (md env ih5).bind fun v ih6 => e u v ih6 else .ok (.bl false) ih5
          | _ => .stuck) Q := q2
        have P3 := pre_trans p (pre_trans p2 p3)
        refine tG.imp (tG_bind hr3 (he.mono P3) (PGen.mono p3 q3)) fun u4 H4 ⟨r4, ih4, v4, p4, hr4, hv4, q4⟩ => hg r4 ih4 H4 y v4 w u4 σ _ hr4 (hy.mono (pre_trans p3 p4)) hv4 ?_
        dsimp only at q4
        cases e2 : g y v4 ih4 with
        | ok z ih5 =>
          rw [e2] at q4
          intro r5 H5 z' p5 hr5 hz
          cases z with
          | bl k =>
            obtain rfl : z' = .bl k := hz
            refine ⟨k, rfl, ?_⟩
            cases k with
            | true =>
              rw [if_pos rfl]
              have q5 : PGen R X.K W σ r4 ((md env ih5).bind fun v ih6 => e v4 v ih6) Q := q4
              exact tG.imp (tG_bind hr5 (he.mono (pre_trans P3 (pre_trans p4 p5))) (PGen.mono p5 q5)) fun u6 H6 ⟨r6, ih6, v6, p6, hr6, hv6, q6⟩ => he' _ _ _ _ _ _ _ _ _ hr6 (hv4.mono (pre_trans p5 p6)) hv6 q6
            | false =>
              rw [if_neg (by decide)]
              have q5 : PGen R X.K W σ r4 (.ok (.bl false) ih5) Q := q4
              exact q5 r5 H5 _ p5 hr5 rfl
          | _ => exact (q4 : False).elim
        | exc c ih5 =>
          rw [e2] at q4
          exact q4
        | stuck =>
          rw [e2] at q4
          exact q4
      | false =>
        rw [if_neg (by decide)]
        have q3 : PGen R X.K W σ r2 (.ok (.bl false) ih3) Q := q2
        exact q3 r3 H3 _ p3 hr3 rfl
    | _ => exact (q2 : False).elim
  | exc c ih3 =>
    rw [e1] at q2
    exact q2
  | stuck =>
    rw [e1] at q2
    exact q2
theorem lm_chain3 {o1 o2 o3 : CmpOp} {r1 r2 r3 : R2} {f g e : IV → IV → IH → Res IV} (h1 : OpR X (compareOp o1) r1) (hf : Snd2 X.K W r1 f) (h2 : OpR X (compareOp o2) r2) (hg : Snd2 X.K W r2 g) (h3 : OpR X (compareOp o3) r3) (he : Snd2 X.K W r3 e) (ha : PE X a (tM X.K W ma)) (hb : PE X b (tM X.K W mb)) (hc : PE X c (tM X.K W mc)) (hd : PE X d (tM X.K W md))
    (hm : lastMarks [o1, o2, o3] [b, c, d] = false := by with_unfolding_all rfl) : PE X (.Compare a [o1, o2, o3] [b, c, d] pos) (tM X.K W (m_chain3 f g e ma mb mc md)) := PE.of (pe_chain3 h1 h2 h3 ha hb hc hd hm) fun σ H Q h => chain3_core hf hg he h
theorem lt_chain3 {o1 o2 o3 : CmpOp} {r1 r2 r3 : R2} {f g e : IV → IV → IH → Res IV} (h1 : OpR X (compareOp o1) r1) (hf : Snd2 X.K W r1 f) (h2 : OpR X (compareOp o2) r2) (hg : Snd2 X.K W r2 g) (h3 : OpR X (compareOp o3) r3) (he : Snd2 X.K W r3 e) (ha : PE X a (tM X.K W ma)) (hb : PE X b (tM X.K W mb)) (hc : PE X c (tM X.K W mc)) (hd : PE X d (tM X.K W md))
    (hm : lastMarks [o1, o2, o3] [b, c, d] = false := by with_unfolding_all rfl) : PT X (.Compare a [o1, o2, o3] [b, c, d] pos) (tMT X.K W (m_tb (m_chain3 f g e ma mb mc md))) := PT.of (pt_chain3 h1 h2 h3 ha hb hc hd hm) fun σ H Q h => chain3_core hf hg he (tb_core h)
end
end L3
/-! L3q: a lambda of one parameter, handed to a def behind its other arguments. -/
namespace L3
variable [TabT] [LamT]
open PySem PySem.Spec PyProof.Rows L2

abbrev XN : XK := fun _ _ _ => False
/-- fits(e): the closure is the object n, in slot i -/
def m_fits (i n : Nat) (lam : IV → IH → Res IV) (me : Env → IH → Res IV) (env : Env) (ih : IH) : Res IV := match env[i]? with
  | some (some (.ref m)) => if m = n then (me env ih).bind fun x ih1 => (match lam x ih1 with
      | .ok v ih2 => .ok v ih2
      | _ => .stuck) else .stuck
  | _ => .stuck
/-- x(es, lambda a: body) -/
def m_callL (g : Nat → (IV → IH → Res IV) → List IV → IH → Res IV) (lam : Env → IV → IH → Res IV) (ma : Env → IH → Res (List IV)) (env : Env) (ih : IH) : Res IV :=
  (ma env ih).bind fun xs ih1 => match g ih1.length (lam env) (xs ++ [.ref ih1.length]) (ih1 ++ [.clo]) with
    | .ok v ih2 => .ok v ih2
    | _ => .stuck
/-- the lambda's body, by its parameter's slot -/
def lamB (p : Nat) (ml : Env → IH → Res IV) (env : Env) (x : IV) (ih : IH) : Res IV := ml (env.set p (some x)) ih

/-! ### its names -/
structure LamP (sc scope : Scope) (a : Str) : Prop where
  kd : scope.kind = .function
  nco : scope.isCoroutine = false
  ngn : scope.isGenerator = false
  par : scope.names.lookup a = some .local
  loc : ∀ y ∈ scope.names, y.2 = .local → y.1 = a
  ncl : ∀ y ∈ scope.names, y.2 ≠ .cell
  fre : ∀ y ∈ scope.names, y.2 = .free → sc.names.lookup y.1 = some .cell ∨ sc.names.lookup y.1 = some .free
def lamPB (sc scope : Scope) (a : Str) : Bool :=
  decide (scope.kind = .function) && !scope.isCoroutine && !scope.isGenerator && decide (scope.names.lookup a = some .local) &&
    scope.names.all fun y => (!decide (y.2 = .local) || decide (y.1 = a)) && !decide (y.2 = .cell) && (!decide (y.2 = .free) || (decide (sc.names.lookup y.1 = some .cell) || decide (sc.names.lookup y.1 = some .free)))
theorem lamP_by {sc scope : Scope} {a : Str} (h : lamPB sc scope a = true) : LamP sc scope a := by
  unfold lamPB at h
  simp only [Bool.and_eq_true, Bool.or_eq_true, Bool.not_eq_true', decide_eq_true_eq, decide_eq_false_iff_not, List.all_eq_true] at h
  obtain ⟨⟨⟨⟨h1, h2⟩, h3⟩, h4⟩, h5⟩ := h
  exact ⟨h1, h2, h3, h4, fun y hy e => (h5 y hy).1.1.resolve_left fun z => z e, fun y hy => (h5 y hy).1.2, fun y hy e => (h5 y hy).2.resolve_left fun z => z e⟩
section
variable {X : Cx} {pins : List (Addr × Obj)} {σ : L2.St} {H HZ : Hp} {s s1 : Shared} {scope : Scope} {a : Str}
theorem LamP.has (L : LamP X.env.scope scope a) (ok : X.Ok) : ∀ y ∈ scope.names, y.2 = .free → ∃ c, X.env.cells.lookup y.1 = some c := fun y hy e =>
  (L.fre y hy e).elim (fun k => ok.has y.1 (.inl k)) fun k => ok.has y.1 (.inr k)
/-- the lambda's frame, entered from the frames outer with the argument u -/
theorem lam_enter {A : Around} {outer : List PySem.Env} {E : XK} {f c' : Addr} {h₁ : Heap} {tk p : Nat} {y : V} {u : Value} (I : L2.Inv X pins σ H s) (L : LamP X.env.scope scope a) (e0 : Env0 X.prog X.w X.K X.mg X.base A outer s1 HZ) (hd : A.handled = none)
    (hN : X.N.Nodup) (hp : X.N[p]? = some a) (ry : RelV y u) (un : ∀ z c v, X.env.cells.lookup z = some c → s.heap.IsCell c v → s1.heap.IsCell c v ∧ HZ c = none) (hns : h₁.Ns s1.heap.objs.size fun z => ([(a, u)] : List (Str × Value)).reverse.lookup z) (kp : ∀ b o, s1.heap.get? b = some o → h₁.get? b = some o) :
    L2.Inv (LamX.lamCx X A outer s1 HZ E scope f c') [] (σ.set p (some y)) HZ { s1 with heap := h₁, toks := tk } := by
  have hfree := L.has I.ok
  have inX : ∀ {z : Str} {c : Addr}, (cloFrom X.env.cells scope.names []).lookup z = some c → X.env.cells.lookup z = some c := fun {z c} e => by
    rcases cloFrom_mem (PySem.mem_of_lookup e) with hm | ⟨h1, h2⟩
    · cases hm
    · obtain ⟨c1, hc⟩ := hfree _ h1 rfl
      have hc' : X.env.cells.lookup z = some c1 := hc
      have ec : c = c1 := by
        rw [h2, hc'] <;> rfl
      rw [ec]
      exact hc'
  have got : ∀ {z : Str}, scope.names.lookup z = some .free → ∃ c, (cloFrom X.env.cells scope.names []).lookup z = some c := fun {z} hl =>
    mem_lookup (cloFrom_has (cells := X.env.cells) (acc := []) (show (z, NameKind.free) ∈ scope.names from PySem.mem_of_lookup hl))
  have held : ∀ {z : Str} {c : Addr} {v : Option Value}, X.env.cells.lookup z = some c → s.heap.IsCell c v → h₁.IsCell c v := fun {z c v} n q => by
    obtain ⟨o, ho, hdat⟩ := (un z c v n q).1
    exact ⟨o, kp _ _ ho, hdat⟩
  have noA : ∀ b : Addr, b ∉ (LamX.lamCx X A outer s1 HZ E scope f c').ex := fun b z => absurd (show b ∈ ([] : List Addr) from z) (by simp)
  have okL : (LamX.lamCx X A outer s1 HZ E scope f c').Ok := {
    mod := e0.mod
    kind := L.kd
    glob := rfl
    blt := rfl
    above := Nat.le_refl _
    inj := fun y1 y2 c e1 e2 => I.ok.inj y1 y2 c (inX e1) (inX e2)
    has := fun z hz => (show scope.names.lookup z = some .cell ∨ scope.names.lookup z = some .free from hz).elim (fun k => absurd rfl (L.ncl _ (PySem.mem_of_lookup k))) fun k => got k
    cab := fun z c hz _ => absurd (show false = true from hz) Bool.false_ne_true
    hd := fun _ => hd
    frames := Around.frames_deeper e0.frames
    stk := .inr ⟨rfl, rfl⟩
    exf := fun b z => absurd z (noA b)
    bs := e0.bs
    bsz := e0.bsz
    noex := fun b _ _ => noA b
    exfs := fun b z => absurd z (noA b)
    funs := e0.funs
    frf := e0.frf }
  refine ⟨okL, rfl, e0.bare, Un.kept kp, ⟨_, hns, fun i z v e1 e2 e3 => ?_⟩, fun z c e => ?_, e0.hok.fresh (Nat.le_refl _), fun z c e => ?_, fun q hq => absurd (show q ∈ ([] : List (Addr × Obj)) ++ [] from hq) (by simp), e0.hok.kept kp, by rw [List.length_set]; exact I.len⟩
  · have e1' : X.N[i]? = some z := e1
    have e3' : Vis scope z := e3
    by_cases hz : z = a
    · subst hz
      obtain rfl : i = p := nodup_ix hN e1' hp
      have hl : i < σ.length := by rw [I.len]; exact (List.getElem?_eq_some_iff.mp hp).1
      rw [List.getElem?_set_self hl] at e2
      cases e2
      exact ⟨u, ry, .inl ⟨L.par, by simp⟩⟩
    · have hip : p ≠ i := fun e => hz (by rw [← e, hp] at e1'; exact (Option.some.inj e1').symm)
      rw [List.getElem?_set_ne hip] at e2
      rcases e3' with k | k | k
      · exact absurd (L.loc _ (PySem.mem_of_lookup k) rfl) hz
      · exact absurd rfl (L.ncl _ (PySem.mem_of_lookup k))
      · obtain ⟨m, hn, hl⟩ := I.loc
        have sees := L.fre _ (PySem.mem_of_lookup k) rfl
        obtain ⟨w', rw', q⟩ := hl i z v e1' e2 (sees.elim (fun k2 => .inr (.inl k2)) fun k2 => .inr (.inr k2))
        obtain ⟨c2, h2⟩ := got k
        refine ⟨w', rw', .inr ⟨.inr k, c2, h2, ?_⟩⟩
        have c1 := inX h2
        rcases q with ⟨k', _⟩ | ⟨_, c3, e', zc⟩
        · have k2' : X.env.scope.names.lookup z = some .local := k'
          rcases sees with k2 | k2
          · have k3 : X.env.scope.names.lookup z = _ := k2
            rw [k3] at k2'
            cases k2'
          · have k3 : X.env.scope.names.lookup z = _ := k2
            rw [k3] at k2'
            cases k2'
        · rw [c1] at e'
          cases e'
          exact held c1 zc
  · obtain ⟨w', zc⟩ := I.cell z c (inX e)
    exact ⟨w', held (inX e) zc⟩
  · obtain ⟨v, zc⟩ := I.cell z c (inX e)
    exact (un z c v (inX e) zc).2
end
theorem takes_none {X : Cx} : Takes X W0 := fun _ _ x => by
  obtain ⟨_, _, _, _, _, _, _, _, _, _, _, _, _, _, _, _, z⟩ := x
  exact z.elim
/-- a heap of which only some objects are told -/
noncomputable def keepH (h : Heap) (P : Addr → Prop) : Heap := by
  classical
  exact ⟨h.objs.mapIdx fun i o => if P i then o else { cls := .none, data := .freed }, h.life⟩
theorem keepH_size {h : Heap} {P : Addr → Prop} : (keepH h P).objs.size = h.objs.size := by
  unfold keepH
  exact Array.size_mapIdx
theorem keepH_in {h : Heap} {P : Addr → Prop} {b : Addr} (hb : P b) : (keepH h P).get? b = h.get? b := by
  unfold keepH Heap.get?
  dsimp only
  rw [Array.getElem?_mapIdx]
  cases h.objs[b]? with
  | none => rfl
  | some o => rw [Option.map_some, if_pos hb]
theorem keepH_out {h : Heap} {P : Addr → Prop} {b : Addr} (hb : ¬ P b) : (keepH h P).get? b = none := by
  unfold keepH Heap.get?
  dsimp only
  rw [Array.getElem?_mapIdx]
  cases h.objs[b]? with
  | none => rfl
  | some o => rw [Option.map_some, if_neg hb]
theorem keepH_sub {h : Heap} {P : Addr → Prop} {b : Addr} {o : Obj} (e : (keepH h P).get? b = some o) : P b ∧ h.get? b = some o := by
  by_cases hb : P b
  · rw [keepH_in hb] at e
    exact ⟨hb, e⟩
  · rw [keepH_out hb] at e
    cases e
theorem mod_keeps {K : PySem.W.Frag} {mg : Str → Option Value} {b1 b2 : Heap} (M : Mod K mg b1) (k : ∀ b o, b1.get? b = some o → b2.get? b = some o) : Mod K mg b2 :=
  ⟨M.kin.keeps k, M.glob.keeps k, M.blt.elim fun mb q => ⟨mb, q.1.keeps k, q.2⟩, M.nolimit.keeps k⟩
theorem funs_base {h b1 b2 : Heap} : ∀ {l : List PySem.Env}, h.FunFrames b1 l → (∀ L ∈ frs l, b1.get? L = none → b2.get? L = none) → h.FunFrames b2 l
  | [], _, _ => trivial
  | env :: rest, ⟨hk, ⟨L, o, hf, hn, ho, hd⟩, hr⟩, k => by
    have e : frs (env :: rest) = L :: frs rest := by
      show (env :: rest).filterMap (·.frame) = L :: rest.filterMap (·.frame)
      rw [List.filterMap_cons, hf]
    exact ⟨hk, ⟨L, o, hf, k L (by rw [e]; exact List.mem_cons_self) hn, ho, hd⟩, funs_base hr fun M hM => k M (by rw [e]; exact List.mem_cons_of_mem _ hM)⟩
section
variable {X : Cx} {pins : List (Addr × Obj)} {σ : L2.St} {H : Hp} {s : Shared}
/-- the context of the def that got the lambda, entered at s; base2: what is known to stay there -/
abbrev Zx (X : Cx) (base2 : Heap) (Ng : List Str) (qg : Str) (sg : Scope) (g : Addr) (cdg : Value) (s : Shared) (H : Hp) : Cx := cxOf (L2.CX X.prog X.w) X.prog X.w X.K X.mg base2 Ng qg sg g cdg X.A X.stack s H XN
/-- a context of that def: its own, or a block's -/
abbrev Zin (Z : Cx) (s0 : Shared) (H0 : Hp) (env : PySem.Env) (outer : List PySem.Env) (ex : List Addr) (fn : Str → Bool) (calm : Bool) (pn : List (Addr × Obj)) (xe : Value → Shared → Prop) : Cx :=
  Cx.mk Z.prog Z.w Z.K Z.mg Z.base Z.A Z.N s0 H0 env outer Z.stack ex fn calm pn xe
/-- what a lambda's call does there -/
abbrev ActOk (Z : Cx) (i n : Nat) (a : Str) (lam : IV → IH → Res IV) : Prop :=
  ∀ {s0 : Shared} {H0 : Hp} {env : PySem.Env} {outer : List PySem.Env} {ex : List Addr} {fn : Str → Bool} {calm : Bool} {pn : List (Addr × Obj)} {xe : Value → Shared → Prop} {e : Expr} {me : Env → IH → Res IV} {p1 p2 : Pos},
    PE (Zin Z s0 H0 env outer ex fn calm pn xe) e (tM Z.K W0 me) → Vis env.scope a → (starEach [e] env = [(false, eval e env)]) → PE (Zin Z s0 H0 env outer ex fn calm pn xe) (.Call (.Name a p1) [e] [] p2) (tM Z.K W0 (m_fits i n lam me))
theorem act_ok {base2 : Heap} {Ng : List Str} {qg : Str} {sg : Scope} {g f c' : Addr} {cdg pm ctv : Value} {params : Arguments} {body : Expr} {scope : Scope} {k i n p : Nat} {a b : Str} {ml : Env → IH → Res IV} {env0 : Env}
    (I : L2.Inv X pins σ H s) (L : LamP X.env.scope scope b) (hN : X.N.Nodup) (hp : X.N[p]? = some b) (he0 : REnv LamT.r0 env0 σ) (hn : LamT.r0[n]? = some f) (hcs : (c', X.env.qual ++ "<lambda>") ∈ LamT.cs)
    (hf : base2.get? f = some (PySem.W.kla_obj "<lambda>" (X.env.qual ++ "<lambda>") params body scope (cloFrom X.env.cells scope.names []) pm c' ctv)) (hcl : ∀ z c o, X.env.cells.lookup z = some c → s.heap.get? c = some o → base2.get? c = some o)
    (hb2 : ∀ b o, X.base.get? b = some o → base2.get? b = some o) (hz2 : X.base.objs.size ≤ base2.objs.size)
    (hbind : ∀ v : Value, bindArgs (PySem.W.kla_fn "<lambda>" (X.env.qual ++ "<lambda>") params body scope (cloFrom X.env.cells scope.names []) pm (.ref c') ctv) ⟨[v], []⟩ = pure [(b, v)])
    (hr : Room (k + 1) (X.A.deeper (envOfC qg sg s.heap.objs.size g cdg)))
    (hbody : ∀ (A : Around) (outer : List PySem.Env) (s' : Shared) (H' : Hp), Room k (A.deeper (LamX.lamEnv X scope s'.heap.objs.size f c')) → PE (LamX.lamCx X A outer s' H' XN scope f c') body (tM X.K W0 ml))
    (hNg : Ng[i]? = some a) (hd : (a == ("__debug__" : Str)) = false := by decide) (hcd : (a == ("__classdict__" : Str)) = false := by decide) : ActOk (Zx X base2 Ng qg sg g cdg s H) i n a (lamB p ml env0) := by
  intro s0 H0 env1 outer ex fn calm pn xe e me p1 p2 he hv hst
  generalize hZ : Zin (Zx X base2 Ng qg sg g cdg s H) s0 H0 env1 outer ex fn calm pn xe = Z at he ⊢
  have zb : Z.base = base2 := by rw [← hZ]; rfl
  have zA : Z.A = X.A.deeper (envOfC qg sg s.heap.objs.size g cdg) := by rw [← hZ]; rfl
  have zs : Z.stack = envOfC qg sg s.heap.objs.size g cdg :: X.stack := by rw [← hZ]; rfl
  have zN : Z.N = Ng := by rw [← hZ]; rfl
  have zp : Z.prog = X.prog := by rw [← hZ]; rfl
  have zw : Z.w = X.w := by rw [← hZ]; rfl
  have zK : Z.K = X.K := by rw [← hZ]; rfl
  have zm : Z.mg = X.mg := by rw [← hZ]; rfl
  have zv : Vis Z.env.scope a := by rw [← hZ]; exact hv
  have hst : starEach [e] Z.env = [(false, eval e Z.env)] := by rw [← hZ]; exact hst
  have he : PE Z e (tM X.K W0 me) := he
  show PE Z (.Call (.Name a p1) [e] [] p2) (tM X.K W0 (m_fits i n (lamB p ml env0) me))
  clear hZ
  obtain ⟨Zprog, Zw, ZK, Zmg, Zbase, ZA, ZN, Zs0, ZH0, Zenv, Zouter, Zstack, Zex, Zfn, Zcalm, Zpn, Zxe⟩ := Z
  dsimp only at zb zA zs zN zp zw zK zm zv hst
  replace zb := zb.symm
  subst zb
  subst zA
  subst zs
  replace zN := zN.symm
  subst zN
  subst zp
  subst zw
  subst zK
  subst zm
  refine ⟨fun pinsZ sZ σZ HZ Q IZ ⟨r, ih, env, hrl, hen, q⟩ => ?_⟩
  unfold m_fits at q
  split at q
  · rename_i m hm
    split at q
    · rename_i hmn
      subst hmn
      obtain ⟨u0, hu0, a0, ha0, hu1⟩ := hen.2 i _ hm
      subst hu1
      have ha1 : r[m]? = some f := pre_get hrl.pre hn
      rw [ha1] at ha0
      cases ha0
      refine wpAny_Call_Name_kw (thn ((pe_var (pos := p1) (i := i) hNg zv hd hcd).run pinsZ sZ σZ HZ (fun v H1 => v = .ref f ∧ H1 = HZ) IZ ⟨.ref f, hu0, rfl, rfl⟩) fun w1 s1 ⟨v, H1, I1, rv, ev, eH⟩ => ?_)
      subst ev
      rw [eH] at I1
      obtain rfl : w1 = Value.ref f := rv
      refine PySem.W.callWith_F ⟨_, _, _, _, (I1.bs f _ hf).1⟩ ?_ hst (by rfl)
      rw [hst]
      refine Calls.spliced_cons (thn (he.run pinsZ s1 σZ HZ _ I1 (tG_bind hrl hen q)) fun w s2 ⟨x2, H2, I2, rx, r2, ih2, v2, pre2, hr2, hv2, q2⟩ => ?_)
      refine Calls.spliced_nil ⟨⟨_, _, _, _, (I2.bs f _ hf).1⟩, ?_⟩
      have fAt := (I2.bs f _ hf).1
      obtain ⟨⟨oc, vs, t, hoc, hdc, hvc⟩, _, _⟩ := I2.hok c' _ (hr2.cod _ hcs)
      dsimp only at q2
      cases z : lamB p ml env0 v2 ih2 with
      | exc cc ihc => rw [z] at q2; exact q2.elim
      | stuck => rw [z] at q2; exact q2.elim
      | ok v3 ih3 =>
        rw [z] at q2
        have e02 := I2.env0
        have e0 : Env0 X.prog X.w X.K X.mg X.base (X.A.deeper (envOfC qg sg s.heap.objs.size g cdg)) (envOfC qg sg s.heap.objs.size g cdg :: X.stack) s2 H2 := by
          have fb : ∀ L, base2.get? L = none → X.base.get? L = none := fun L z => by
            cases z1 : X.base.get? L with
            | none => rfl
            | some o =>
              rw [hb2 L o z1] at z
              cases z
          exact ⟨e02.frames, I.ok.mod, fun b o z => e02.bs b o (hb2 b o z), Nat.le_trans hz2 e02.bsz, funs_base e02.funs (fun L _ z => fb L z), e02.frf, e02.hok, e02.bare⟩
        have rc : codeAny (model X.prog X.w) (X.A.deeper (envOfC qg sg s.heap.objs.size g cdg)) (.call (.ref f) ⟨[w], []⟩) (CR (L2.CX X.prog X.w) (envOfC qg sg s.heap.objs.size g cdg :: X.stack) X.prog X.w H2 s2 Q XN) s2 := by
          refine PySem.W.kla_callFunE hr.depth fAt rfl L.nco L.ngn rfl ⟨c', oc, vs, t, rfl, hoc, hdc, hvc⟩ ?_
          rw [hbind w]
          refine wpAny_pure (wpAny_newFunctionEnv L.ncl (fun y hy => by rw [List.mem_singleton.mp hy]; exact L.par) (fun h₁ hns hsb => ⟨I2.nolimit.fresh _ hsb, ?_⟩) L.kd)
          show codeAny _ _ (.expr body (LamX.lamEnv X scope s2.heap.objs.size f c')) _ _
          have kp : ∀ d o, s2.heap.get? d = some o → h₁.get? d = some o := fun d o ed => hsb.extBut d o (Nat.ne_of_lt (Heap.lt_size ed)) (Heap.get?_push_of_some _ ed)
          have J := lam_enter (E := XN) (f := f) (c' := c') (tk := s2.toks + ([(b, w)] : List (Str × Value)).length) I L e0 hr.hd hN hp rx (fun z c v e1 ⟨o, e2, e3⟩ => ⟨⟨o, (I2.bs c o (hcl z c o e1 e2)).1, e3⟩, (I2.bs c o (hcl z c o e1 e2)).2⟩) hns kp
          have rd : tM X.K W0 ml (σ.set p (some x2)) H2 Q := ⟨r2, ih2, env0.set p (some v2), hr2, (he0.mono hr2.pre).set hv2 p, by
            show PGen R X.K W0 (σ.set p (some x2)) r2 (lamB p ml env0 v2 ih2) Q
            rw [z]
            exact q2⟩
          refine PySem.W.kla_codeExpr (wpAny_mono ((hbody _ _ s2 H2 (hr.deeper _)).run [] _ _ H2 Q J rd) (fun v s' hq => ?_) fun e' s' hq => hq)
          obtain ⟨w', H', J', rv', q'⟩ := hq
          exact ⟨w', H', J'.os, J'.bare, J'.base, J'.hok, rv', q'⟩
        refine wpAny_call (codeAny_mono rc fun res s' hq => ?_)
        cases res with
        | error e' => exact passes_call (E := XN) takes_none (fun _ _ _ _ h => h) pinsZ σZ H2 s2 e' s' I2 hq
        | ok fl =>
          cases fl with
          | ret u => exact I2.after hq
          | next => exact False.elim hq
          | brk => exact False.elim hq
          | cont => exact False.elim hq
    · exact q.elim
  · exact q.elim
end
theorem RO.stays {K : PySem.W.Frag} {r : List Addr} {H H2 : Hp} {a : Addr} {o : MO} (h : RO K r H a o) (e : LamX.ExtN H H2) : RO K r H2 a o := by
  cases o with
  | lst xs => obtain ⟨ys, h1, h2⟩ := h; exact ⟨ys, e _ _ h1 (fun ps z => nomatch z), h2⟩
  | tup xs => obtain ⟨ys, h1, h2⟩ := h; exact ⟨ys, e _ _ h1 (fun ps z => nomatch z), h2⟩
  | ro xs =>
    obtain ⟨ys, h1, h2⟩ := h
    rcases h1 with ⟨o, h1⟩ | h1
    · exact ⟨ys, .inl ⟨o, e _ _ h1 (fun ps z => nomatch z)⟩, h2⟩
    · exact ⟨ys, .inr h1, h2⟩
  | rot xs => exact h
  | dct => obtain ⟨kvs, h1⟩ := h; exact ⟨kvs, e _ _ h1 (fun ps z => nomatch z)⟩
  | dk kvs => obtain ⟨ys, h1, h2⟩ := h; exact ⟨ys, e _ _ h1 (fun ps z => nomatch z), h2⟩
  | clo => trivial
/-- the closure at f is an object of the mirror, too -/
theorem Rel.lam {K : PySem.W.Frag} {r : List Addr} {ih : IH} {H H2 : Hp} {f c' : Addr} {q : Str} (h : Rel K r ih H) (e : LamX.ExtN H H2) (t : LamX.Tabs TabT.T H2) (hc : H2 c' = some (LamX.CodeO c' q)) :
    @Rel _ ⟨r ++ [f], (c', q) :: LamT.cs⟩ K (r ++ [f]) (ih ++ [.clo]) H2 := by
  have low : ∀ {n : Nat} {b : Addr} {o : MO}, (r ++ [f])[n]? = some b → (ih ++ [MO.clo])[n]? = some o → (r[n]? = some b ∧ ih[n]? = some o) ∨ o = .clo := fun {n b o} e1 e2 => by
    by_cases hn : n < r.length
    · rw [List.getElem?_append_left hn] at e1
      rw [List.getElem?_append_left (by rw [← h.len]; exact hn)] at e2
      exact .inl ⟨e1, e2⟩
    · right
      rw [List.getElem?_append_right (by rw [← h.len]; omega)] at e2
      cases hz : n - ih.length with
      | zero => rw [hz] at e2; exact (Option.some.inj e2).symm
      | succ j => rw [hz] at e2; cases e2
  refine @Rel.mk _ ⟨r ++ [f], (c', q) :: LamT.cs⟩ _ _ _ _ (by rw [List.length_append, List.length_append, h.len]; rfl) (fun n a o e1 e2 => ?_) (fun n m a o u e1 e2 e3 e4 s1 s2 => ?_) t (pre_refl _) (fun p hp => ?_)
  · rcases low e1 e2 with ⟨g1, g2⟩ | g
    · exact ((h.get n a o g1 g2).stays e).mono ⟨[f], rfl⟩
    · subst g
      trivial
  · rcases low e1 e3 with ⟨g1, g3⟩ | g
    · rcases low e2 e4 with ⟨g2, g4⟩ | g
      · exact h.inj n m a o u g1 g2 g3 g4 s1 s2
      · subst g
        cases s2
    · subst g
      cases s1
  · rcases List.mem_cons.mp hp with z | z
    · subst z
      exact hc
    · refine e _ _ (h.cod p z) fun ps y => ?_
      unfold LamX.CodeO at y
      cases y
theorem Rel.back {K : PySem.W.Frag} {r r' : List Addr} {ih' : IH} {H' : Hp} {f c' : Addr} {q : Str} (h : @Rel _ ⟨r ++ [f], (c', q) :: LamT.cs⟩ K r' ih' H') (hp : LamT.r0 <+: r) : Rel K r' ih' H' := by
  obtain ⟨g1, g2, g3, g4, g5, g6⟩ := h
  exact ⟨g1, g2, g3, g4, hp.trans (pre_trans ⟨[f], rfl⟩ g5), fun p z => g6 p (List.mem_cons_of_mem _ z)⟩
omit [LamT] in
/-- a def that is handed a lambda as its last argument -/
structure DfL (P : Program) (w : World) (K : PySem.W.Frag) (mg : Str → Option Value) (base : Heap) (k : Nat) (x : Str) (n N : Nat) (mb : Nat → (IV → IH → Res IV) → Env → IH → RS) : Prop where
  ex : ∃ (g : Addr) (qual : Str) (pg : Arguments) (bg : List Stmt) (sg : Scope) (dV kV doc pm cdv ct oc : Value) (an od : Option Addr) (osl : Array (Option Value)) (Ng ps : List Str) (a : Str),
    (ps.length = n + 1 ∧ Ng.length = N ∧ mg x = some (.ref g) ∧ PySem.W.keepIn K (.ref g) = true) ∧
    (K.lookup g = some ⟨oc, od, .func (PySem.W.fnOf x qual pg bg sg dV kV doc pm an cdv ct), osl⟩ ∧ PySem.W.codeIn K cdv qual = true ∧ Binds K (PySem.W.fnOf x qual pg bg sg dV kV doc pm an cdv ct) ps []) ∧
    (FnScope Ng ps sg ∧ Ng[n]? = some a ∧ Vis sg a ∧ (a == ("__debug__" : Str)) = false ∧ (a == ("__classdict__" : Str)) = false) ∧
    ∀ (I : LamT) (base2 : Heap) (A : Around) (outer : List PySem.Env) (s : Shared) (H : Hp) (m : Nat) (lam : IV → IH → Res IV), Room k (A.deeper (envOfC qual sg s.heap.objs.size g cdv)) →
      @ActOk _ I (cxOf (L2.CX P w) P w K mg base2 Ng qual sg g cdv A outer s H XN) n m a lam → PSs (cxOf (L2.CX P w) P w K mg base2 Ng qual sg g cdv A outer s H XN) bg (@tMS _ I K W0 (mb m lam))
section
variable {P : Program} {w : World} {K : PySem.W.Frag} {mg : Str → Option Value} {base : Heap} {k n : Nat} {x qual a : Str} {st : Stmt} {f : Addr} {fd : FuncData} {N ps : List Str}
omit [LamT] in
theorem dfL {mb : Nat → (IV → IH → Res IV) → Env → IH → RS} (F : FunD K x qual (defArgs st) (defBody st) (defScope st) [] [] f fd) (S : FnScope N ps (defScope st)) (hm : mg x = some (.ref f)) (hn : ps.length = n + 1) (ha : N[n]? = some a) (hv : Vis (defScope st) a)
    (h : ∀ (kV doc pm : Value) (an : Option Addr) (cdv ct : Value) (us : List Value), us.length = ps.length → bindArgs (PySem.W.fnOf x qual (defArgs st) (defBody st) (defScope st) .none kV doc pm an cdv ct) ⟨us, []⟩ = pure (ps.zip us))
    (hbody : ∀ (I : LamT) (base2 : Heap) (cdv : Value) (A : Around) (outer : List PySem.Env) (s : Shared) (H : Hp) (m : Nat) (lam : IV → IH → Res IV), Room k (cxOf (L2.CX P w) P w K mg base2 N qual (defScope st) f cdv A outer s H XN).A →
      Takes (cxOf (L2.CX P w) P w K mg base2 N qual (defScope st) f cdv A outer s H XN) W0 →
      PassesOwn (model P w) (cxOf (L2.CX P w) P w K mg base2 N qual (defScope st) f cdv A outer s H XN).A (cxOf (L2.CX P w) P w K mg base2 N qual (defScope st) f cdv A outer s H XN).env (cxOf (L2.CX P w) P w K mg base2 N qual (defScope st) f cdv A outer s H XN).xe →
      (cxOf (L2.CX P w) P w K mg base2 N qual (defScope st) f cdv A outer s H XN).A.units + 64 < cLine →
      @ActOk _ I (cxOf (L2.CX P w) P w K mg base2 N qual (defScope st) f cdv A outer s H XN) n m a lam → PSs (cxOf (L2.CX P w) P w K mg base2 N qual (defScope st) f cdv A outer s H XN) (defBody st) (@tMS _ I K W0 (mb m lam)))
    (hd : (a == ("__debug__" : Str)) = false := by decide) (hcd : (a == ("__classdict__" : Str)) = false := by decide) : DfL P w K mg base k x n N.length mb := by
  have hB := F.bindsN h
  obtain ⟨oc, od, dV, kV, doc, pm, an, cdv, ct, osl, rfl, lk, hc, hD, hK⟩ := F.ex
  exact ⟨f, qual, defArgs st, defBody st, defScope st, dV, kV, doc, pm, cdv, ct, oc, an, od, osl, N, ps, a, ⟨hn, rfl, hm, F.kp⟩, ⟨lk, hc, hB⟩, ⟨S, ha, hv, hd, hcd⟩, fun I base2 A outer s H m lam hr act => hbody I base2 cdv A outer s H m lam hr takes_none (passes_of rfl) (by
    have hu := hr.un
    show (A.deeper (envOfC qual (defScope st) s.heap.objs.size f cdv)).units + 64 < cLine
    omega) act⟩
/-- a def that makes lambdas: its code object is known -/
theorem df0M {c : Addr} {mb : Env → IH → RS} (F : FunD K x qual (defArgs st) (defBody st) (defScope st) [] [] f fd) (hc : fd.code = .ref c) (S : FnScope N ps (defScope st)) (hm : mg x = some (.ref f))
    (h : ∀ (kV doc pm : Value) (an : Option Addr) (cdv ct : Value) (us : List Value), us.length = ps.length → bindArgs (PySem.W.fnOf x qual (defArgs st) (defBody st) (defScope st) .none kV doc pm an cdv ct) ⟨us, []⟩ = pure (ps.zip us))
    (hbody : ∀ (A : Around) (outer : List PySem.Env) (s : Shared) (H : Hp) (E : XK), Room k (cxOf (L2.CX P w) P w K mg base N qual (defScope st) f (.ref c) A outer s H E).A →
      Takes (cxOf (L2.CX P w) P w K mg base N qual (defScope st) f (.ref c) A outer s H E) (fun cls d _ H => E cls d H) →
      PassesOwn (model P w) (cxOf (L2.CX P w) P w K mg base N qual (defScope st) f (.ref c) A outer s H E).A (cxOf (L2.CX P w) P w K mg base N qual (defScope st) f (.ref c) A outer s H E).env (cxOf (L2.CX P w) P w K mg base N qual (defScope st) f (.ref c) A outer s H E).xe →
      (cxOf (L2.CX P w) P w K mg base N qual (defScope st) f (.ref c) A outer s H E).A.units + 64 < cLine →
      PSs (cxOf (L2.CX P w) P w K mg base N qual (defScope st) f (.ref c) A outer s H E) (defBody st) (tMS K (fun cls d _ H => E cls d H) mb)) : Df P w K mg base (k + 1) x ps.length [] (defRun N.length mb) := by
  refine ⟨fun _ h => (nomatch h), f, fd, ps, rfl, hm, F.kp, ?_, fun j _ => ⟨[], by rw [List.drop_nil]; exact .nil, F.bindsN h⟩⟩
  obtain ⟨oc, od, dV, kV, doc, pm, an, cdv, ct, osl, rfl, lk, hcd, _, _⟩ := F.ex
  have hc' : cdv = .ref c := hc
  subst hc'
  refine fn_of lk hcd S (fun vs H Q E ⟨r, ih, args, e, _, rs, _⟩ => rs.length ▸ e) fun A outer s H vs Q E hr ⟨r, ih, args, e, hrel, rs, q⟩ => ⟨_, hbody A outer s H E hr (takes_of rfl rfl rfl rfl) (passes_of rfl) (by
    have hu := hr.un
    show (A.deeper (envOfC qual (defScope st) s.heap.objs.size f (.ref c))).units + 64 < cLine
    omega), r, ih, _, hrel, start_rel rs, ?_⟩
  unfold defRun at q
  cases z : mb (startI N.length args) ih with
  | ok fl ih2 =>
    rw [z] at q
    cases fl with
    | ret v => exact q
    | next env => exact fun r' H' σ' p hr' he' => q r' H' .non p hr' rfl
    | brk env => exact q.elim
    | cont env => exact q.elim
  | exc c env ih2 =>
    rw [z] at q
    exact fun r' H' σ' p hr' he' => q r' H' p hr'
  | stuck => rw [z] at q; exact q
end
/-- written arguments, one by one -/
inductive AL (X : Cx) (W : WX) : List Expr → (Env → IH → Res (List IV)) → Prop
  | nil : AL X W [] m_nil
  | cons {a : Expr} {es : List Expr} {ma : Env → IH → Res IV} {mr : Env → IH → Res (List IV)} (h : PE X a (tM X.K W ma)) (hs : ∀ rest, starEach (a :: rest) X.env = (false, eval a X.env) :: starEach rest X.env) (t : AL X W es mr) : AL X W (a :: es) (m_cons ma mr)
theorem AL.run {X : Cx} {W : WX} {es : List Expr} {m : Env → IH → Res (List IV)} (h : AL X W es m) {le : Expr} (hle : starEach [le] X.env = [(false, eval le X.env)]) : ∀ {pos : Pos} {pins : List (Addr × Obj)} {s : Shared} {σ : L2.St} {H : Hp} {r : List Addr} {ih : IH} {env : Env} {Q : List Value → Shared → Prop},
    L2.Inv X pins σ H s → Rel X.K r ih H → REnv r env σ → (match m env ih with
      | .ok vs ih1 => ∀ r1 H1 zs us s1, r <+: r1 → Rel X.K r1 ih1 H1 → Rs r1 vs zs → Vals zs us → L2.Inv X pins σ H1 s1 → wpAny (model X.prog X.w) X.A (eval le X.env) (fun w s2 => Q (us ++ [w]) s2) X.xe s1
      | .exc c ih1 => ∀ r1 H1, r <+: r1 → Rel X.K r1 ih1 H1 → W (.ref c) none σ H1
      | .stuck => False) → wpAny (model X.prog X.w) X.A (spliced (backTo pos (starEach (es ++ [le]) X.env))) Q X.xe s := by
  induction h with
  | nil =>
    intro pos pins s σ H r ih env Q I hr he k
    have k' : ∀ r1 H1 zs us s1, r <+: r1 → Rel X.K r1 ih H1 → Rs r1 [] zs → Vals zs us → L2.Inv X pins σ H1 s1 → wpAny (model X.prog X.w) X.A (eval le X.env) (fun w s2 => Q (us ++ [w]) s2) X.xe s1 := k
    rw [List.nil_append, hle]
    show wpAny _ _ (spliced [(false, eval le X.env)]) _ _ s
    exact Calls.spliced_cons (thn (k' r H [] [] s (pre_refl r) hr .nil .nil I) fun w s2 hq => Calls.spliced_nil hq)
  | @cons a es ma mr h hs t iht =>
    intro pos pins s σ H r ih env Q I hr he k
    rw [List.cons_append, hs]
    show wpAny _ _ (spliced ((false, eval a X.env) :: backTo pos (starEach (es ++ [le]) X.env))) _ _ s
    unfold m_cons at k
    have rd : tG R X.K W ma σ H (Got R X.K r fun r1 ih1 v => ∀ {s1 : Shared} {H1 : Hp} {w1 : Value} {x1 : V}, Rel X.K r1 ih1 H1 → R r1 v x1 → RelV x1 w1 → L2.Inv X pins σ H1 s1 → wpAny (model X.prog X.w) X.A (spliced (backTo pos (starEach (es ++ [le]) X.env))) (fun us s2 => Q (w1 :: us) s2) X.xe s1) := by
      refine ⟨r, ih, env, hr, he, ?_⟩
      cases e : ma env ih with
      | stuck => rw [e] at k; exact k
      | exc c ih1 => rw [e] at k; exact fun r1 H1 p1 q1 => k r1 H1 p1 q1
      | ok v ih1 =>
        rw [e] at k
        refine fun r1 H1 u p1 q1 hv => ⟨r1, ih1, v, p1, q1, hv, fun {s1 H1' w1 x1} hrel hv1 rv1 I1 => ?_⟩
        refine iht I1 hrel (he.mono p1) ?_
        have k2 := k
        simp only [Res.bind_ok] at k2
        cases e2 : mr env ih1 with
        | stuck => rw [e2] at k2; exact k2
        | exc c ih2 => rw [e2] at k2; exact fun r2 H2 p2 q2 => k2 r2 H2 (pre_trans p1 p2) q2
        | ok vs ih2 =>
          rw [e2] at k2
          exact fun r2 H2 zs us s2 p2 q2 hvs rvs I2 => k2 r2 H2 (x1 :: zs) (w1 :: us) s2 (pre_trans p1 p2) q2 (.cons (hv1.mono p2) hvs) (.cons rv1 rvs) I2
    refine Calls.spliced_cons (thn (h.run pins s σ H _ I rd) fun w1 s1 ⟨x1, H1, I1, rv1, r1, ih1, v, p1, hr1, hv1, q1⟩ => q1 hr1 hv1 rv1 I1)
section
variable {X : Cx} {W : WX} {k n N p : Nat} {x b : Str} {mb : Nat → (IV → IH → Res IV) → Env → IH → RS} {es : List Expr} {ma : Env → IH → Res (List IV)} {ml : Env → IH → Res IV} {params : Arguments} {body : Expr} {scope : Scope} {np lpos pos : Pos} {c P : Addr}
/-- what the making of a lambda asks of its maker -/
structure MkL (base : Heap) (mg : Str → Option Value) (c P : Addr) (q : Str) : Prop where
  tb : LamX.TabB base mg c P
  mem : (P, q) ∈ TabT.T
  one : ∀ z ∈ TabT.T, z.1 = P → z.2 = q
theorem lm_callL (D : DfL X.prog X.w X.K X.mg X.base (k + 1) x n N mb) (hr : Room (k + 2) X.A) (hg : Gl X x) (ha : AL X W es ma) (tk : Takes X W) (M : MkL X.base X.mg c P (X.env.qual ++ "<lambda>")) (hcode : X.env.code = .ref c) (L : LamP X.env.scope scope b) (hN : X.N.Nodup) (hp : X.N[p]? = some b)
    (hdef : defaultsOf params X.env = ([], [])) (hbind : ∀ (q : Str) (cl : List (Str × Addr)) (pm cv ctv v : Value), bindArgs (PySem.W.kla_fn "<lambda>" q params body scope cl pm cv ctv) ⟨[v], []⟩ = pure [(b, v)]) (hen : es.length = n)
    (hlam : ∀ (I : LamT) (A : Around) (outer : List PySem.Env) (s : Shared) (H : Hp) (f c' : Addr), Room k (A.deeper (LamX.lamEnv X scope s.heap.objs.size f c')) → PE (LamX.lamCx X A outer s H XN scope f c') body (@tM _ I X.K W0 ml))
    (hfnA : ∀ z, X.fn z = true := by intro _; rfl) (hle : starEach [.Lambda params body scope lpos] X.env = [(false, eval (.Lambda params body scope lpos) X.env)] := by rfl) (hdb : (x == ("__debug__" : Str)) = false := by decide)
    (hpl : ∀ {first : Expr} {rest : List Expr}, es ++ [.Lambda params body scope lpos] = first :: rest → starEach (first :: rest) X.env = (false, eval first X.env) :: starEach rest X.env ∧ (backTo pos (starEach rest X.env)).any (·.1) = false) :
    PE X (.Call (.Name x np) (es ++ [.Lambda params body scope lpos]) [] pos) (tM X.K W (m_callL (fun m lam => defRun N (mb m lam)) (lamB p ml) ma)) := by
  obtain ⟨g, qual, pg, bg, sg, dV, kV, doc, pm, cdv, ct, oc, an, od, osl, Ng, ps, a, ⟨hps, hNg, hm, hk⟩, ⟨lk, hcd, hB⟩, ⟨Sg, hNa, hva, hda, hca⟩, hbody⟩ := D.ex
  refine ⟨fun pins s σ H Q I ⟨r, ih, env, hrl, he, q⟩ => ?_⟩
  refine wpAny_Call_Name_kw (ld_glob I hg hm ?_ hdb)
  obtain ⟨first, rest, hfr⟩ : ∃ first rest, es ++ [Expr.Lambda params body scope lpos] = first :: rest := by
    cases es with
    | nil => exact ⟨_, _, rfl⟩
    | cons e es => exact ⟨_, _, rfl⟩
  obtain ⟨hs1, hs2⟩ := hpl hfr
  have run := ha.run hle (pos := pos) (Q := fun us s1 => X.K.In s1.heap ∧ wpAny (model X.prog X.w) X.A (call (.ref g) us) (EP X pins σ Q) X.xe s1) I hrl he ?_
  · rw [hfr] at run ⊢
    exact PySem.W.callWith_K (h₀ := X.base) I.ok.mod.kin hk run hs1 hs2
  unfold m_callL at q
  cases em : ma env ih with
  | stuck => rw [em] at q; exact q.elim
  | exc cc ih1 => rw [em] at q; exact fun r1 H1 p1 q1 => q r1 H1 p1 q1
  | ok vs ih1 =>
    rw [em] at q
    simp only [Res.bind_ok] at q
    intro r1 H1 zs us s1 p1 hr1 hvs rvs I1
    refine LamX.lam_make2 I1 M.tb hcode M.mem M.one hr1.tab hdef (L.has I.ok) fun f c' pm' ctv H2 s2 I2 eN T2 hf hfn hfo hco => ⟨I2.kIn, ?_⟩
    have hrel := hr1.lam (f := f) eN T2 hco
    have hnf : (r1 ++ [f])[ih1.length]? = some f := by
      rw [← hr1.len, List.getElem?_append_right (Nat.le_refl _), Nat.sub_self]
      rfl
    have lus : (us ++ [Value.ref f]).length = ps.length := by
      rw [List.length_append, hps, ← rvs.length, ← hvs.length, ← hen]
      have : vs.length = es.length := by
        have key : ∀ {es : List Expr} {ma : Env → IH → Res (List IV)}, AL X W es ma → ∀ {env : Env} {ih ih1 : IH} {vs : List IV}, ma env ih = .ok vs ih1 → vs.length = es.length := by
          intro es ma h
          induction h with
          | nil => intro env ih ih1 vs e; cases e; rfl
          | @cons a es ma mr h hs t iht =>
            intro env ih ih1 vs e
            unfold m_cons at e
            cases e1 : ma env ih with
            | stuck => rw [e1] at e; cases e
            | exc c ih2 => rw [e1] at e; cases e
            | ok v ih2 =>
              rw [e1] at e
              simp only [Res.bind_ok] at e
              cases e2 : mr env ih2 with
              | stuck => rw [e2] at e; cases e
              | exc c ih3 => rw [e2] at e; cases e
              | ok ws ih3 =>
                rw [e2] at e
                simp only [Res.bind_ok] at e
                cases e
                rw [List.length_cons, List.length_cons, iht e2]
        exact key ha em
      rw [this]
      rfl
    obtain ⟨PK, hPK⟩ : ∃ P : Addr → Prop, P = fun b => (∃ o, X.base.get? b = some o) ∨ b = f ∨ ∃ z, X.env.cells.lookup z = some b := ⟨_, rfl⟩
    have pk1 : ∀ b o, X.base.get? b = some o → PK b := fun b o z => by rw [hPK]; exact .inl ⟨o, z⟩
    have pk2 : PK f := by rw [hPK]; exact .inr (.inl rfl)
    have pk3 : ∀ z c, X.env.cells.lookup z = some c → PK c := fun z c e => by rw [hPK]; exact .inr (.inr ⟨z, e⟩)
    have hb2 : ∀ b o, X.base.get? b = some o → (keepH s2.heap PK).get? b = some o := fun b o z => by rw [keepH_in (pk1 b o z)]; exact I2.bk b o z
    have e02 : Env0 X.prog X.w X.K X.mg (keepH s2.heap PK) X.A X.stack s2 H2 := by
      have e0 := I2.env0
      refine ⟨e0.frames, mod_keeps e0.mod hb2, fun b o z => ?_, Nat.le_of_eq keepH_size, funs_base e0.funs fun L hL hn => ?_, e0.frf, e0.hok, e0.bare⟩
      · obtain ⟨z1, z2⟩ := keepH_sub z
        refine ⟨z2, ?_⟩
        rw [hPK] at z1
        rcases z1 with ⟨o', z1⟩ | z1 | ⟨y, z1⟩
        · exact (e0.bs b o' z1).2
        · rw [z1]; exact hfn
        · exact I2.freeC y b z1
      · refine keepH_out fun z1 => ?_
        rw [hPK] at z1
        rcases z1 with ⟨o', z1⟩ | z1 | ⟨y, z1⟩
        · rw [hn] at z1; cases z1
        · rw [z1] at hL; exact hfo hL
        · rcases List.mem_cons.mp (I2.stkSub L hL) with z2 | z2
          · exact I2.cne y L z1 z2
          · obtain ⟨_, o, ho, _⟩ := I2.ok.funs.mem z2
            exact absurd (Nat.lt_of_lt_of_le (Heap.lt_size ho) (I2.ok.cab y L (hfnA y) z1)) (Nat.lt_irrefl _)
    have rc : codeAny (model X.prog X.w) X.A (.call (.ref g) ⟨us ++ [.ref f], []⟩) (CR (L2.CX X.prog X.w) X.stack X.prog X.w H2 s2 Q XN) s2 := by
      refine LamX.run_ofS (N := Ng) (ps := ps) (us := us ++ [.ref f]) (vs := zs ++ [.ref f]) lk hcd Sg hr e02 (by have hb := hB s2 (us ++ [.ref f]) I2.kIn (by rw [List.append_nil]; exact lus); rw [List.append_nil] at hb; exact hb) (rvs.append (.cons (show RelV (.ref f) (.ref f) from rfl) .nil)) (by rw [List.length_append, rvs.length]; rw [List.length_append] at lus; exact lus) fun hr' => ?_
      have act := @act_ok _ ⟨r1 ++ [f], (c', X.env.qual ++ "<lambda>") :: LamT.cs⟩ X pins σ H2 s2 (keepH s2.heap PK) Ng qual sg g f c' cdv pm' ctv params body scope k n ih1.length p a b ml env I2 L hN hp (he.mono (pre_trans p1 ⟨[f], rfl⟩)) hnf List.mem_cons_self (by rw [keepH_in pk2]; exact hf) (fun z c o e1 e2 => by rw [keepH_in (pk3 z c e1)]; exact e2) hb2 (by rw [keepH_size]; exact Nat.le_trans I2.ok.bsz I2.sz) (hbind _ _ _ _ _) hr'
        (fun A outer s' H' hr2 => hlam _ A outer s' H' f c' hr2) hNa hda hca
      refine ⟨_, hbody ⟨r1 ++ [f], (c', X.env.qual ++ "<lambda>") :: LamT.cs⟩ (keepH s2.heap PK) X.A X.stack s2 H2 ih1.length (lamB p ml env) hr' act, r1 ++ [f], ih1 ++ [.clo], startI N (vs ++ [.ref ih1.length]), hrel, ?_, ?_⟩
      · rw [← hNg]
        exact start_rel ((hvs.mono ⟨[f], rfl⟩).append (.cons ⟨f, hnf, rfl⟩ .nil))
      · unfold defRun at q
        cases z : mb ih1.length (lamB p ml env) (startI N (vs ++ [.ref ih1.length])) (ih1 ++ [.clo]) with
        | stuck => rw [z] at q; exact q
        | exc cc env2 ih2 => rw [z] at q; exact q.elim
        | ok fl ih2 =>
          rw [z] at q
          cases fl with
          | ret v => exact fun r' H' u p' hr' hv' => q r' H' u (pre_trans p1 (pre_trans ⟨[f], rfl⟩ p')) (hr'.back hr1.pre) hv'
          | next env2 => exact fun r' H' σ' p' hr' he' => q r' H' .non (pre_trans p1 (pre_trans ⟨[f], rfl⟩ p')) (hr'.back hr1.pre) rfl
          | brk env2 => exact q.elim
          | cont env2 => exact q.elim
    have hx : Passes (L2.CX X.prog X.w) X XN := passes_call tk fun _ _ _ _ h => h.elim
    refine wpAny_call (codeAny_mono rc fun res s' hq => ?_)
    cases res with
    | error e' => exact hx pins σ H2 s2 e' s' I2 hq
    | ok fl =>
      cases fl with
      | ret u => exact I2.after hq
      | next => exact False.elim hq
      | brk => exact False.elim hq
      | cont => exact False.elim hq
end
end L3
/-! L3r: the law's promise, where tables of code objects are about. -/
namespace L3
variable [TabT] [LamT]
open PySem PySem.Spec PyProof.Rows L2

/-- the law's promise: True of every script; the tables at Ps are empty at first -/
def spLawT (K : PySem.W.Frag) (Ps : List Addr) : Sp := fun vs H Q _ => ∃ (a : Addr) (ns : List Int), vs = [.ref a] ∧ ns.length ≤ 63 ∧ (∀ z ∈ ns, Builtin.Int.intBits z ≤ 1048576) ∧ (∀ P ∈ Ps, H P = some (.tbl #[])) ∧ SqL K H a (ns.map V.int) ∧ ∀ H', Q (.bl true) H'
section
variable {P : Program} {w : World} {K : PySem.W.Frag} {mg : Str → Option Value} {base : Heap} {k : Nat} {f a : Addr} {fd : FuncData} {m : List IV → IH → Res IV} {H : Hp} {ys : List V} {o : Obj} {Ps : List Addr}
theorem frz_env {A : Around} {outer : List PySem.Env} {s : Shared} (e0 : Env0 P w K mg base A outer s H) (h : H a = some (.lst ys)) (ho : s.heap.get? a = some o) : Env0 P w K mg base A outer s (upd H a (.frz o (.lst ys))) := by
  have off : ∀ {b : Addr}, H b = none → b ≠ a := fun {b} e z => by rw [z, h] at e; cases e
  refine ⟨e0.frames, e0.mod, fun b u e => ⟨(e0.bs b u e).1, (upd_ne (off (e0.bs b u e).2)).trans (e0.bs b u e).2⟩, e0.bsz, e0.funs, fun b e => (upd_ne (off (e0.frf b e))).trans (e0.frf b e), fun b u e => ?_, e0.bare⟩
  have own : ∀ {c d : Addr}, H c = some (.own d) → upd H a (.frz o (.lst ys)) c = some (.own d) := fun {c d} z => (upd_ne (ne_of z h fun y => nomatch y)).trans z
  have tup : ∀ {c : Addr} {xs : List V}, H c = some (.tup xs) → upd H a (.frz o (.lst ys)) c = some (.tup xs) := fun {c xs} z => (upd_ne (ne_of z h fun y => nomatch y)).trans z
  by_cases hb : b = a
  · subst hb
    rw [upd_same] at e
    cases e
    exact ⟨ho, (e0.hok b _ h).stay (fun _ _ _ q => q) (fun _ q => own q) fun _ _ q => tup q⟩
  · rw [upd_ne hb] at e
    exact (e0.hok b u e).stay (fun _ _ _ q => q) (fun _ q => own q) fun _ _ q => tup q
theorem frz_back {outer : List PySem.Env} {s s' : Shared} {Q : VK} {u : Value} (h : H a = some (.lst ys)) (e : CE outer P w (upd H a (.frz o (.lst ys))) s Q u s') : CE outer P w H s Q u s' := by
  obtain ⟨v, H', os, bare, un, hok, rv, q⟩ := e
  have off : ∀ {b : Addr}, H b = none → upd H a (.frz o (.lst ys)) b = none := fun {b} e => (upd_ne (fun z => by rw [z, h] at e; cases e)).trans e
  refine ⟨v, H', os, bare, ⟨fun b x g n => un.keep b x g (off n), fun b x g n => un.slot b x g (off n), fun b x g n => un.free b x g (off n), un.there, fun b xs z => ?_, fun b x y z => ?_, fun b ps z => ?_⟩, hok, rv, q⟩
  · exact un.tups b xs ((upd_ne (ne_of z h fun y => nomatch y)).trans z)
  · exact un.frzs b x y ((upd_ne (ne_of z h fun y => nomatch y)).trans z)
  · exact un.tbls b ps ((upd_ne (ne_of z h fun y => nomatch y)).trans z)
/-- the mirror's heap at the law's start -/
theorem rel_law {ns : List Int} (hr0 : LamT.r0 = [] ∧ LamT.cs = []) (hT : ∀ p ∈ TabT.T, H p.1 = some (.tbl #[])) (h : (∃ o, H a = some (.frz o (.lst (ns.map V.int)))) ∨ SqL K (fun _ => none) a (ns.map V.int)) : Rel K [a] [.ro (ns.map IV.int)] H := by
  refine ⟨rfl, fun n b o e1 e2 => ?_, fun n k b o u e1 e2 e3 e4 s1 s2 => ?_, fun p hp => LamX.TabS.nil (hT p hp), (by rw [hr0.1]; exact List.nil_prefix), (by rw [hr0.2]; exact fun p hp => nomatch hp)⟩
  · cases n with
    | succ n => cases e1
    | zero =>
      cases e1
      cases e2
      exact ⟨ns.map V.int, h, Rs.flats_mk (f := IV.int) (g := V.int) (fun _ => rfl) ns⟩
  · cases n with
    | succ n => cases e1
    | zero =>
      cases e3
      cases s1
theorem fn_lawT (hr0 : LamT.r0 = [] ∧ LamT.cs = []) (hP : ∀ p ∈ TabT.T, p.1 ∈ Ps) (F : FnOk P w K mg base (L2.CX P w) k f fd ["script"] (spM K 1 m))
    (h : ∀ ns : List Int, ns.length ≤ 63 → (∀ z ∈ ns, Builtin.Int.intBits z ≤ 1048576) → ∃ ih, m [.ref 0] [.ro (ns.map IV.int)] = .ok (.bl true) ih) : FnOk P w K mg base (L2.CX P w) k f fd ["script"] (spLawT K Ps) := by
  refine ⟨fun vs H Q E ⟨a, ns, e, _⟩ => by rw [e]; rfl, fun A outer s H args us vs Q E hr e0 hb hv ⟨a, ns, e, h1, h2, hT, hS, q⟩ => ?_⟩
  subst e
  obtain ⟨ih, hm⟩ := h ns h1 h2
  have sp : ∀ {H2 : Hp}, (∀ p ∈ TabT.T, H2 p.1 = some (.tbl #[])) → ((∃ o, H2 a = some (.frz o (.lst (ns.map V.int)))) ∨ SqL K (fun _ => none) a (ns.map V.int)) → spM K 1 m [.ref a] H2 Q XN := fun {H2} t z =>
    ⟨[a], _, [.ref 0], rfl, rel_law hr0 t z, .cons ⟨a, rfl, rfl⟩ .nil, by
      rw [hm]
      exact fun r' H' u p hr hv => by
        obtain rfl : u = .bl true := hv
        exact q H'⟩
  have noX : ∀ {H2 : Hp} {e : Value} {s' : Shared}, L2.CX P w outer H2 s XN e s' → False := fun {H2 e s'} z => by
    obtain ⟨_, _, _, _, _, _, _, _, _, _, _, _, z⟩ := z
    exact z
  have conv : ∀ {H2 : Hp} {r : Result} {s' : Shared}, (∀ {u : Value} {s' : Shared}, CE outer P w H2 s Q u s' → CE outer P w H s Q u s') → CR (L2.CX P w) outer P w H2 s Q XN r s' → CR (L2.CX P w) outer P w H s Q E r s' := fun {H2 r s'} c z => by
    cases r with
    | error e => exact (noX z).elim
    | ok fl =>
      cases fl with
      | ret u => exact c z
      | next => exact z
      | brk => exact z
      | cont => exact z
  have hT' : ∀ p ∈ TabT.T, H p.1 = some (.tbl #[]) := fun p hp => hT _ (hP p hp)
  rcases hS with (z | z) | z
  · obtain ⟨zl, its, n, rv, ho⟩ := e0.hok a _ z
    exact codeAny_mono (F.run A outer s _ args us _ Q XN hr (frz_env e0 z ho) hb hv (sp (fun p hp => (upd_ne (ne_of (hT' p hp) z fun y => nomatch y)).trans (hT' p hp)) (.inl ⟨_, upd_same⟩))) fun r s' hq => conv (fun {u s'} c => frz_back z c) hq
  · exact codeAny_mono (F.run A outer s H args us _ Q XN hr e0 hb hv (sp hT' (.inl z))) fun r s' hq => conv (fun {u s'} c => c) hq
  · exact codeAny_mono (F.run A outer s H args us _ Q XN hr e0 hb hv (sp hT' (.inr (.inr z)))) fun r s' hq => conv (fun {u s'} c => c) hq
end
end L3
/-! L3s: min(xs, default=None). -/
namespace L3
variable [TabT] [LamT]
open PySem PySem.Spec PyProof.Rows L2

def f_minD (x : IV) (ih : IH) : Res IV := match x with
  | .ref n => match ih[n]? with
    | some (.lst xs) => match ints? xs with
      | some [] => .ok .non ih
      | some (a :: r) => .ok (.int (minI (a :: r))) ih
      | none => .stuck
    | _ => .stuck
  | _ => .stuck
theorem foldl_minI (a : Int) : ∀ r : List Int, r.foldl min a = minI (a :: r)
  | [] => rfl
  | b :: r => by
    rw [List.foldl_cons, foldl_minI]
    cases r with
    | nil => rfl
    | cons c r =>
      show min (min a b) (minI (c :: r)) = min a (min b (minI (c :: r)))
      omega
theorem reads_intsD {h : Heap} : ∀ {its : List Value} {ns : List Int}, Vals (ns.map V.int) its → ReadsAll h its (ns.map PyData.int) []
  | its, [], r => by cases r; exact .nil
  | its, n :: ns, r => by
    cases r with
    | cons a b =>
      obtain ⟨t, rfl⟩ := a
      exact .cons (.int n t) (reads_intsD b)
theorem alike_intsD (ns : List Int) : PySem.W.AlikeAll (ns.map PyData.int) := by
  refine ⟨fun x hx y hy => ?_, fun x hx e => ?_⟩
  · obtain ⟨a, _, rfl⟩ := List.mem_map.mp hx
    obtain ⟨b, _, rfl⟩ := List.mem_map.mp hy
    rfl
  · obtain ⟨a, _, rfl⟩ := List.mem_map.mp hx
    cases e
theorem depth_intsD : ∀ ns : List Int, PyData.depthAll (ns.map PyData.int) ≤ 2
  | [] => by decide
  | n :: ns => by
    have h := depth_intsD ns
    show max (PyData.depth (.int n)) (PyData.depthAll (ns.map PyData.int)) ≤ 2
    have h2 : PyData.depth (.int n) ≤ 2 := by unfold PyData.depth; decide
    omega
section
variable {X : Cx} {W : WX} {e : Expr} {ma : Env → IH → Res IV} {p pos kpos cpos : Pos} {j : Nat}
theorem lm_minD (hc : X.calm = true) (hu : X.A.units + 64 < cLine) (hg : Gl X "min") (hm : X.mg "min" = none) (h : PE X e (tM X.K W ma)) (hs : starEach [e] X.env = [(false, eval e X.env)] := by rfl) :
    PE X (.Call (.Name "min" p) [e] [⟨some "default", .Constant .none j cpos, kpos⟩] pos) (tM X.K W (m_un f_minD ma)) := by
  refine PE.of ⟨fun pins s σ H Q I q => ?_⟩ fun σ H Q h => h
  obtain ⟨r, ih, env, hr, he, q⟩ := q
  refine wpAny_Call_Name_kw (ld_blt I hg hm rfl ?_)
  refine callWith_kw ?_ (by rw [hs]; rfl) (by rw [hs]; rfl)
  rw [hs]
  refine Calls.spliced_cons (thn (h.run pins s σ H _ I (tG_bind hr he q)) fun u s1 ⟨x, H1, I1, rx, r1, ih1, v, p1, hr1, hv, q1⟩ => ?_)
  refine Calls.spliced_nil ?_
  refine thn ((pk_cons (X := X) (nm := some "default") (kpos := kpos) (pe_non (X := X)) pk_nil).run pos pins s1 σ H1 (fun vs H2 => vs = [.non] ∧ H2 = H1) I1 ⟨rfl, rfl⟩) fun us s2 ⟨vs, H2, I2, rv, e1, e2⟩ => ?_
  subst e1 e2
  obtain ⟨w, rfl⟩ : ∃ w, us = [w] := by
    cases rv with
    | cons a b => cases b; exact ⟨_, rfl⟩
  have hw : w = Value.none := by
    cases rv with
    | cons a b => exact a
  subst hw
  dsimp only at q1
  unfold f_minD at q1
  split at q1
  · rename_i n
    obtain ⟨a, ea, hx⟩ := hv
    subst hx
    obtain rfl : u = Value.ref a := rx
    split at q1
    · rename_i xs e3
      split at q1
      · rename_i e4
        obtain ⟨ys, h3, h4⟩ := hr1.get n a _ ea e3
        rw [ints?_of e4] at h4
        have hy := h4.flats fun _ _ => IV.noConfusion
        subst hy
        obtain ⟨its, rvs, hl, _⟩ := I2.list (.inl (.inl h3))
        exact PySem.W.min_list_default (I2.ok.hd hc) hl.isList (reads_intsD (ns := []) rvs) (alike_intsD []) (by have := depth_intsD []; omega) (fun _ h' tk hk => ⟨.non, H2, I2.kept hk, rfl, tG_end q1 hr1 rfl⟩) fun y ys i v h' tk bs z => by cases z
      · rename_i a0 r0 e4
        obtain ⟨ys, h3, h4⟩ := hr1.get n a _ ea e3
        rw [ints?_of e4] at h4
        have hy := h4.flats fun _ _ => IV.noConfusion
        subst hy
        obtain ⟨its, rvs, hl, _⟩ := I2.list (.inl (.inl h3))
        refine PySem.W.min_list_default (I2.ok.hd hc) hl.isList (reads_intsD (ns := a0 :: r0) rvs) (alike_intsD (a0 :: r0)) (by have := depth_intsD (a0 :: r0); omega) (fun z => by cases z) fun y ys i v h' tk bs z hi hrd hk => ?_
        cases z
        rw [PySem.W.minD_ints, foldl_minI] at hrd
        cases hrd with
        | int _ t => exact ⟨.int _, H2, I2.kept hk, ⟨_, rfl⟩, tG_end q1 hr1 rfl⟩
      · exact q1.elim
    · exact q1.elim
  · exact q1.elim
end
end L3
/-! L3t: an or of a whole number or None. -/
namespace L3
variable [TabT] [LamT]
open PySem PySem.Spec PyProof.Rows L2

def m_orI (ma mb : Env → IH → Res IV) (env : Env) (ih : IH) : Res IV := (ma env ih).bind fun v ih1 => match v with
  | .int i => if i = 0 then mb env ih1 else .ok (.int i) ih1
  | .non => mb env ih1
  | _ => .stuck
section
variable {X : Cx} {a b : Expr} {rest : List Expr} {pos : Pos} {ta tb : TE}
def tOrI (ta tb : TE) : TE := fun σ H Q => ta σ H fun x H1 => (∃ i, x = .int i ∧ if i = 0 then tb σ H1 Q else Q (.int i) H1) ∨ (x = .non ∧ tb σ H1 Q)
theorem pe_orI (ha : PE X a ta) (hb : PE X (.BoolOp .Or (b :: rest) pos) tb) : PE X (.BoolOp .Or (a :: b :: rest) pos) (tOrI ta tb) := by
  refine ⟨fun pins s σ H Q I h => ?_⟩
  refine BoolOp_or (thn (ha.run pins s σ H _ I h) fun v s1 ⟨x, H1, I1, r1, q1⟩ => ?_)
  rcases q1 with ⟨i, rfl, q1⟩ | ⟨rfl, q1⟩
  · obtain ⟨t, rfl⟩ := r1
    refine P.truthy_int ?_
    by_cases hi : i = 0
    · rw [if_pos hi] at q1
      rw [show (i != 0) = false by simp [hi]]
      exact hb.run pins s1 σ H1 Q I1 q1
    · rw [if_neg hi] at q1
      rw [show (i != 0) = true by simp [hi]]
      exact ⟨.int i, H1, I1, ⟨_, rfl⟩, q1⟩
  · cases r1
    refine truthy_none ?_
    exact hb.run pins s1 σ H1 Q I1 q1
end
section
variable {X : Cx} {W : WX} {a b : Expr} {rest : List Expr} {pos : Pos} {ma mb : Env → IH → Res IV}
theorem lm_orI (ha : PE X a (tM X.K W ma)) (hb : PE X (.BoolOp .Or (b :: rest) pos) (tM X.K W mb)) : PE X (.BoolOp .Or (a :: b :: rest) pos) (tM X.K W (m_orI ma mb)) :=
  PE.of (pe_orI ha hb) fun σ H Q ⟨r, ih, env, hr, he, q⟩ => tG.imp (tG_bind hr he q) fun u H1 ⟨r1, ih1, v, p, hr1, hv, q1⟩ => by
    cases v with
    | int i =>
      obtain rfl : u = .int i := hv
      refine .inl ⟨i, rfl, ?_⟩
      dsimp only at q1
      split at q1
      · rename_i h
        rw [if_pos h]
        exact ⟨r1, ih1, env, hr1, he.mono p, q1⟩
      · rename_i h
        rw [if_neg h]
        exact tG_end q1 hr1 rfl
    | non =>
      obtain rfl : u = .non := hv
      exact .inr ⟨rfl, ⟨r1, ih1, env, hr1, he.mono p, q1⟩⟩
    | _ => exact q1.elim
end
/-! ### min of a tuple of whole numbers -/
def f_minT (xs : List IV) (ih : IH) : Res IV := match xs with
  | [.ref n] => match ih[n]? with
    | some (.tup ys) => match ints? ys with
      | some (a :: r) => .ok (.int (minI (a :: r))) ih
      | _ => .stuck
    | _ => .stuck
  | _ => .stuck
def rMinT (K : PySem.W.Frag) : List V → Hp → VK → Prop := fun vs H Q => ∃ (a : Addr) (n : Int) (ns : List Int), vs = [V.ref a] ∧ SqT K H a ((n :: ns).map V.int) ∧ Q (.int (minI (n :: ns))) H
section
variable {X : Cx} {K : PySem.W.Frag} {W : WX}
theorem cr_minT (hc : X.calm = true) (hu : X.A.units + 64 < cLine) : CallR X (.builtin "min") (rMinT X.K) := by
  intro pins s σ H vs us Q I r h
  obtain ⟨a, n, ns, rfl, hs, q⟩ := h
  obtain ⟨its, rv, hl, _⟩ := I.tuple hs
  rw [Vals.ref1 r]
  refine PySem.W.min_tuple_data (I.ok.hd hc) (show s.heap.IsTuple a its.toArray from hl) (reads_intsD (ns := n :: ns) rv) (alike_intsD (n :: ns)) (by have := depth_intsD (n :: ns); show X.A.units + 1 + PyData.depthAll ((n :: ns).map PyData.int) < cLine; omega) fun i v h' tk bs hi hrd hk => ?_
  rw [PySem.W.minD_ints, foldl_minI] at hrd
  cases hrd with
  | int _ t => exact ⟨.int _, H, I.kept hk, ⟨_, rfl⟩, q⟩
theorem s_minT : SndC K W (rMinT K) f_minT := fun r ih H xs us σ Q hr hx q => by
  unfold f_minT at q
  split at q
  · rename_i n
    obtain ⟨b, rfl, hb⟩ : ∃ b, us = [V.ref b] ∧ r[n]? = some b := by
      cases hx with
      | cons h1 h2 =>
        cases h2
        obtain ⟨a, ea, rfl⟩ := h1.ref
        exact ⟨a, rfl, ea⟩
    split at q
    · rename_i ys e1
      split at q
      · rename_i a0 r0 e4
        obtain ⟨zs, h3, h4⟩ := hr.get n b _ hb e1
        rw [ints?_of e4] at h4
        have hy := h4.flats fun _ _ => IV.noConfusion
        subst hy
        exact ⟨b, a0, r0, rfl, .inl (.inl h3), tG_end q hr rfl⟩
      · exact q.elim
    · exact q.elim
  · exact q.elim
end
end L3
/-! L3u: dicts by their keys. -/
namespace L3
variable [TabT] [LamT]
open PySem PySem.Spec PyProof.Rows L2
theorem hu1 {A : Around} (h : A.units + 64 < cLine) : A.units + 1 < cLine := by omega
def keyM : IV → Option Key
  | .int i => some (.inl i)
  | .str x => some (.inr x)
  | _ => none
def getM (kvs : List (Key × IV)) (k : Key) : Option IV := (kvs.find? fun kv => decide (kv.1 = k)).map (·.2)
def putM (kvs : List (Key × IV)) (k : Key) (v : IV) : List (Key × IV) :=
  if (kvs.any fun kv => decide (kv.1 = k)) = true then kvs.map fun kv => if kv.1 = k then (kv.1, v) else kv else kvs ++ [(k, v)]
theorem keyM_kV {r : List Addr} {x : IV} {y : V} {k : Key} (h : R r x y) (e : keyM x = some k) : y = L2.kV k := by
  cases x with
  | int i => cases e; exact h
  | str z => cases e; exact h
  | _ => cases e
theorem RK.val {r : List Addr} {kvs : List (Key × IV)} {ys : List (Key × V)} (h : RK r kvs ys) (k : Key) : (getM kvs k = none ∧ valV ys k = none) ∨ ∃ v u, getM kvs k = some v ∧ valV ys k = some u ∧ R r v u := by
  unfold RK at h
  induction h with
  | nil => exact .inl ⟨rfl, rfl⟩
  | @cons p q ps qs h t ih =>
    obtain ⟨h1, h2⟩ := h
    by_cases e : p.1 = k
    · refine .inr ⟨p.2, q.2, ?_, valV_pos (h1.symm.trans e), h2⟩
      unfold getM
      rw [List.find?_cons, decide_eq_true e]
      rfl
    · have e2 : getM (p :: ps) k = getM ps k := by
        unfold getM
        rw [List.find?_cons, decide_eq_false e]
      rw [e2, valV_neg (fun z => e (h1.trans z))]
      exact ih
theorem RK.put {r : List Addr} {kvs : List (Key × IV)} {ys : List (Key × V)} (h : RK r kvs ys) (k : Key) {v : IV} {u : V} (hv : R r v u) : RK r (putM kvs k v) (putK ys k u) := by
  have ha : (kvs.any fun kv => decide (kv.1 = k)) = ys.any fun kv => decide (kv.1 = k) := by
    unfold RK at h
    induction h with
    | nil => rfl
    | @cons p q ps qs h t ih =>
      rw [List.any_cons, List.any_cons, ih, h.1]
  unfold putM putK
  rw [ha]
  split
  · rename_i hq
    clear hq ha
    unfold RK at h ⊢
    induction h with
    | nil => exact .nil
    | @cons p q ps qs h t ih =>
      rw [List.map_cons, List.map_cons]
      refine .cons ?_ ih
      obtain ⟨h1, h2⟩ := h
      by_cases e : p.1 = k
      · rw [if_pos e, if_pos (h1.symm.trans e)]
        exact ⟨h1, hv⟩
      · rw [if_neg e, if_neg (fun z => e (h1.trans z))]
        exact ⟨h1, h2⟩
  · rename_i hq
    clear hq ha
    unfold RK at h ⊢
    induction h with
    | nil => exact .cons ⟨rfl, hv⟩ .nil
    | @cons p q ps qs h t ih => exact .cons h ih
theorem RK.keys {r : List Addr} {kvs : List (Key × IV)} {ys : List (Key × V)} (h : RK r kvs ys) : kvs.map (·.1) = ys.map (·.1) := by
  unfold RK at h
  induction h with
  | nil => rfl
  | @cons p q ps qs h t ih => rw [List.map_cons, List.map_cons, ih, h.1]
theorem RK.length {r : List Addr} {kvs : List (Key × IV)} {ys : List (Key × V)} (h : RK r kvs ys) : kvs.length = ys.length := Paired.length h
/-! ### {} -/
def m_dnew (_ : Env) (ih : IH) : Res IV := .ok (.ref ih.length) (ih ++ [.dk []])
section
variable {X : Cx} {W : WX} {pos : Pos} {a b : Expr} {ma mb mc : Env → IH → Res IV}
theorem lm_dnew : PE X (.Dict [] [] pos) (tM X.K W m_dnew) := PE.of pe_dnewK fun σ H Q ⟨r, ih, env, hr, he, q⟩ p hp =>
  q (r ++ [p]) _ _ pre_one (hr.new hp rfl fun H' e => ⟨[], e, .nil⟩) (R.newest hr.len)
/-! ### d[k] -/
def f_dget (x y : IV) (ih : IH) : Res IV := match x with
  | .ref n => match ih[n]?, keyM y with
    | some (.dk kvs), some k => match getM kvs k with
      | some v => .ok v ih
      | none => .stuck
    | _, _ => .stuck
  | _ => .stuck
theorem lm_dget (hu : X.A.units + 1 < cLine) (ha : PE X a (tM X.K W ma)) (hb : PE X b (tM X.K W mb)) (hs : NoSl b := by intro _ _; rfl) : PE X (.Subscript a b pos) (tM X.K W (m_op f_dget ma mb)) :=
  PE.of (pe_dget hu ha hb hs) fun σ H Q ⟨r, ih, env, hr, he, q⟩ => tG.imp (tG_bind hr he q) fun u H1 ⟨r1, ih1, v, p, hr1, hv, q1⟩ =>
    tG.imp (tG_bind hr1 (he.mono p) q1) fun w H2 ⟨r2, ih2, y, p2, hr2, hy, q2⟩ => by
      cases v with
      | ref n =>
        obtain ⟨ad, ea, rfl⟩ := (hv.mono p2).ref
        unfold f_dget at q2
        dsimp only at q2
        split at q2
        · rename_i kvs k e1 e2
          obtain ⟨ys, h1, h2⟩ := hr2.get n ad _ ea e1
          obtain rfl := keyM_kV hy e2
          split at q2
          · rename_i z e3
            rcases h2.val k with ⟨g1, g2⟩ | ⟨v1, u1, g1, g2, g3⟩
            · rw [e3] at g1
              cases g1
            · rw [e3] at g1
              cases g1
              exact ⟨ad, u1, rfl, by rw [← g2]; exact DGet.k h1, tG_end q2 hr2 g3⟩
          · exact q2.elim
        · exact q2.elim
      | _ => exact q2.elim
/-! ### d.get(k, z) -/
def m_dget2 (mo mi mz : Env → IH → Res IV) (env : Env) (ih : IH) : Res IV := (mo env ih).bind fun x ih1 => match x with
  | .ref n => match ih1[n]? with
    | some (.dk _) => (mi env ih1).bind fun y ih2 => (mz env ih2).bind fun z ih3 => match ih3[n]?, keyM y with
      | some (.dk kvs), some k => .ok ((getM kvs k).getD z) ih3
      | _, _ => .stuck
    | _ => .stuck
  | _ => .stuck
theorem lm_dget2 {o e f : Expr} {apos cpos : Pos} {mo mi mz : Env → IH → Res IV} (hu : X.A.units + 1 < cLine) (ho : PE X o (tM X.K W mo)) (he : PE X e (tM X.K W mi)) (hf : PE X f (tM X.K W mz)) (m : M2 X o "get" apos e f cpos) : PE X (.Call (.Attribute o "get" apos) [e, f] [] cpos) (tM X.K W (m_dget2 mo mi mz)) :=
  PE.of (pe_dget2 hu ho he hf m) fun σ H Q ⟨r, ih, env, hr, he, q⟩ => tG.imp (tG_bind hr he q) fun u H1 ⟨r1, ih1, v, p, hr1, hv, q1⟩ => by
    cases v with
    | ref n =>
      obtain ⟨ad, ea, rfl⟩ := hv.ref
      dsimp only at q1
      split at q1
      · rename_i kvs0 e0
        obtain ⟨ys0, h0, _⟩ := hr1.get n ad _ ea e0
        refine ⟨ad, rfl, .inl ⟨ys0, .inl h0⟩, ?_⟩
        refine tG.imp (tG_bind hr1 (he.mono p) q1) fun w H2 ⟨r2, ih2, y, p2, hr2, hy, q2⟩ => tG.imp (tG_bind hr2 ((he.mono p).mono p2) q2) fun w3 H3 ⟨r3, ih3, z, p3, hr3, hz, q3⟩ => ?_
        dsimp only at q3
        split at q3
        · rename_i kvs k e1 e2
          obtain ⟨ys, h1, h2⟩ := hr3.get n ad _ (pre_get (pre_trans p2 p3) ea) e1
          obtain rfl := keyM_kV (hy.mono p3) e2
          refine ⟨valV ys k, DGet.k h1, ?_⟩
          rcases h2.val k with ⟨g1, g2⟩ | ⟨v1, u1, g1, g2, g3⟩
          · rw [g1] at q3
            rw [g2]
            exact tG_end q3 hr3 hz
          · rw [g1] at q3
            rw [g2]
            exact tG_end q3 hr3 g3
        · exact q3.elim
      · exact q1.elim
    | _ => exact q1.elim
/-! ### d[k] = v -/
def f_dput (o i v : IV) (ih : IH) : Option IH := match o with
  | .ref n => match ih[n]?, keyM i with
    | some (.dk kvs), some k => if kvs.length < 100000 then some (ih.set n (.dk (putM kvs k v))) else none
    | _, _ => none
  | _ => none
def ms_dput (m mo mi : Env → IH → Res IV) (env : Env) (ih : IH) : RS := (m env ih).stm env fun v ih1 => (mo env ih1).stm env fun o ih2 => (mi env ih2).stm env fun i ih3 => match f_dput o i v ih3 with
  | some ih4 => .ok (.next env) ih4
  | none => .stuck
theorem ls_dput {o i e : Expr} {tpos : Pos} {m mo mi : Env → IH → Res IV} (hu : X.A.units + 1 < cLine) (he : PE X e (tM X.K W m)) (ho : PE X o (tM X.K W mo)) (hi : PE X i (tM X.K W mi)) (hs : swapsWith e (some (.Subscript o i tpos)) pos.line X.env = pure false := by rfl) :
    PS X (.Assign [.Subscript o i tpos] e pos) (tMS X.K W (ms_dput m mo mi)) :=
  PS.of (ps_dput hu ho hi he hs) fun D σ H ⟨r, ih, env, hr, he, q⟩ => tG.imp (tG_stm hr he q) fun u H1 ⟨r1, ih1, v, p, hr1, hv, q1⟩ =>
    tG.imp (tG_stm hr1 (he.mono p) q1) fun u2 H2 ⟨r2, ih2, v2, p2, hr2, hv2, q2⟩ => tG.imp (tG_stm hr2 ((he.mono p).mono p2) q2) fun u3 H3 ⟨r3, ih3, v3, p3, hr3, hv3, q3⟩ => by
      dsimp only at q3
      cases e : f_dput v2 v3 v ih3 with
      | some ih4 =>
        rw [e] at q3
        cases v2 with
        | ref n =>
          obtain ⟨ad, ea, rfl⟩ := (hv2.mono p3).ref
          unfold f_dput at e
          dsimp only at e
          split at e
          · rename_i kvs k e1 e2
            obtain ⟨ys, h1, h2⟩ := hr3.get n ad _ ea e1
            obtain rfl := keyM_kV hv3 e2
            split at e
            · rename_i hl
              cases e
              refine ⟨ad, _, rfl, DPut.k h1 (by rw [← h2.length]; exact line5l hl), ?_⟩
              exact q3 r3 _ σ (pre_refl r3) (hr3.writeD ea e1 (h2.put k ((hv.mono p2).mono p3))) (((he.mono p).mono p2).mono p3)
            · cases e
          · cases e
        | _ => cases e
      | none =>
        rw [e] at q3
        exact q3.elim
end
end L3
/-! L3v: sum(d.values()), sorted(d), a dict of one pair. -/
namespace L3
variable [TabT] [LamT]
open PySem PySem.Spec PyProof.Rows L2
/-- the ints that the values are -/
def valsI : List (Key × IV) → Option (List Int)
  | [] => some []
  | (_, .int i) :: r => (valsI r).map (i :: ·)
  | _ :: _ => none
def keysI : List (Key × IV) → Option (List Int)
  | [] => some []
  | (.inl i, _) :: r => (keysI r).map (i :: ·)
  | _ :: _ => none
theorem valsI_of {r : List Addr} : ∀ {kvs : List (Key × IV)} {ys : List (Key × V)} {ns : List Int}, RK r kvs ys → valsI kvs = some ns → ys.map (·.2) = ns.map V.int
  | [], _, ns, h, e => by
    cases h
    cases e
    rfl
  | (k, v) :: kvs, _, ns, h, e => by
    cases h with
    | @cons p q ps qs a b =>
      cases v with
      | int i =>
        unfold valsI at e
        cases e2 : valsI kvs with
        | none => rw [e2] at e; cases e
        | some ms =>
          rw [e2] at e
          cases e
          rw [List.map_cons, List.map_cons, valsI_of b e2]
          congr 1
          exact a.2
      | _ => cases e
theorem keysI_of : ∀ {kvs : List (Key × IV)} {ns : List Int}, keysI kvs = some ns → kvs.map (·.1) = ns.map Sum.inl
  | [], ns, e => by
    cases e
    rfl
  | (k, v) :: kvs, ns, e => by
    cases k with
    | inl i =>
      unfold keysI at e
      cases e2 : keysI kvs with
      | none => rw [e2] at e; cases e
      | some ms =>
        rw [e2] at e
        cases e
        rw [List.map_cons, List.map_cons, keysI_of e2]
    | inr x => cases e
def f_sortedD (xs : List IV) (ih : IH) : Res IV := match xs with
  | [.ref n] => match ih[n]? with
    | some (.dk kvs) => match keysI kvs with
      | some ks => if ks.length < 64 then .ok (.ref ih.length) (ih ++ [.lst ((isI ks).map IV.int)]) else .stuck
      | none => .stuck
    | _ => .stuck
  | _ => .stuck
abbrev rSortedDI : List V → Hp → VK → Prop := fun xs H Q => ∃ (a : Addr) (kvs : List (Key × V)) (ks : List Int), xs = [.ref a] ∧ Rd H a (.dK kvs) ∧ kvs.map (·.1) = ks.map Sum.inl ∧ ks.length < 64 ∧
    ∀ (ys : List Int) (p : Addr), ys.Perm ks → ys.Pairwise (· ≤ ·) → H p = none → Q (.ref p) (upd H p (.lst (ys.map V.int)))
section
variable {K : PySem.W.Frag} {W : WX}
theorem s_sortedD : SndC K W rSortedDI f_sortedD := fun r ih H xs us σ Q hr hx q => by
  unfold f_sortedD at q
  split at q
  · rename_i n
    obtain ⟨b, rfl, hb⟩ : ∃ b, us = [V.ref b] ∧ r[n]? = some b := by
      cases hx with
      | cons h1 h2 =>
        cases h2
        obtain ⟨a, ea, rfl⟩ := h1.ref
        exact ⟨a, rfl, ea⟩
    split at q
    · rename_i kvs e1
      split at q
      · rename_i ks e2
        split at q
        · rename_i hl
          obtain ⟨ys, h1, h2⟩ := hr.get n b _ hb e1
          refine ⟨b, ys, ks, rfl, .inl h1, by rw [← h2.keys]; exact keysI_of e2, hl, fun ns' p hp hle hn => ?_⟩
          have e3 : ns' = isI ks := List.Perm.eq_of_pairwise (le := (· ≤ ·)) (fun a b _ _ h1 h2 => Int.le_antisymm h1 h2) hle (isI_le ks) (hp.trans (isI_perm ks).symm)
          subst e3
          exact end_lst q hr (Rs.ints r _) hn
        · exact q.elim
      · exact q.elim
    · exact q.elim
  · exact q.elim
end
/-! ### {k: v} -/
theorem PGen.pre {α β : Type} {rel : List Addr → α → β → Prop} {K : PySem.W.Frag} {W : WX} {σ : L2.St} {r r' : List Addr} {res : Res α} {Q : β → Hp → Prop} (p : r <+: r') (h : PGen rel K W σ r res Q) : PGen rel K W σ r' res Q := by
  cases res with
  | ok v ih => exact fun r2 H u p2 => h r2 H u (pre_trans p p2)
  | exc c ih => exact fun r2 H p2 => h r2 H (pre_trans p p2)
  | stuck => exact h
def m_disp1 (ma mb : Env → IH → Res IV) (env : Env) (ih : IH) : Res IV := (ma env (ih ++ [.dk []])).bind fun x ih1 => (mb env ih1).bind fun y ih2 => match keyM x, ih2[ih.length]? with
  | some k, some (.dk []) => .ok (.ref ih.length) (ih2.set ih.length (.dk [(k, y)]))
  | _, _ => .stuck
section
variable {X : Cx} {W : WX} {pos p apos cpos : Pos} {a b e : Expr} {ma mb : Env → IH → Res IV}
theorem lm_disp1 (ha : PE X a (tM X.K W ma)) (hb : PE X b (tM X.K W mb)) : PE X (.Dict [some a] [b] pos) (tM X.K W (m_disp1 ma mb)) :=
  PE.of (pe_disp (pps_cons ha hb pps_nil) rfl rfl (by simp) (by simp)) fun σ H Q ⟨r, ih, env, hr, he, q⟩ p hp => by
    have hr0 : Rel X.K (r ++ [p]) (ih ++ [.dk []]) (upd H p (.dK [])) := hr.new hp rfl fun H' e => ⟨[], e, .nil⟩
    have hl : r[ih.length]? = none := List.getElem?_eq_none (by rw [hr.len]; exact Nat.le_refl _)
    have hp0 : (r ++ [p])[ih.length]? = some p := by
      rw [List.getElem?_append_right (by rw [hr.len]; exact Nat.le_refl _), hr.len, Nat.sub_self]
      rfl
    have q := q.pre (pre_one (p := p))
    unfold m_disp1 at q
    show tM X.K W ma σ (upd H p (.dK [])) (fun x H1 => tM X.K W mb σ H1 (fun y H2 => tPairs [] σ H2 (fun ps H3 => _)))
    refine tG.imp (tG_bind hr0 (he.mono pre_one) q) fun u H1 ⟨r1, ih1, x, p1, hr1, hx, q1⟩ => tG.imp (tG_bind hr1 ((he.mono pre_one).mono p1) q1) fun w H2 ⟨r2, ih2, y, p2, hr2, hy, q2⟩ => ?_
    dsimp only at q2
    split at q2
    · rename_i k e1 e2
      have hp2 := pre_get (pre_trans p1 p2) hp0
      obtain ⟨ys, h1, h2⟩ := hr2.get _ p _ hp2 e2
      cases h2
      obtain rfl := keyM_kV (hx.mono p2) e1
      refine ⟨h1, [(k, w)], rfl, by simp, ?_⟩
      exact q2 r2 _ _ (pre_refl r2) (hr2.writeD hp2 e2 (.cons ⟨rfl, hy⟩ .nil)) ⟨p, hp2, rfl⟩
    · exact q2.elim
/-! ### sum(d.values()) -/
def okSum (ns : List Int) : Bool := ns.all (fun x => decide (0 ≤ x)) && decide (ns.sum < 2 ^ 62)
def f_sumV (x : IV) (ih : IH) : Res IV := match x with
  | .ref n => match ih[n]? with
    | some (.dk kvs) => match valsI kvs with
      | some ns => if okSum ns = true then .ok (.int ns.sum) ih else .stuck
      | none => .stuck
    | _ => .stuck
  | _ => .stuck
theorem okSum_of {ns : List Int} (h : okSum ns = true) : (∀ x ∈ ns, 0 ≤ x) ∧ ns.sum < 2 ^ 62 := by
  unfold okSum at h
  rw [Bool.and_eq_true, List.all_eq_true, decide_eq_true_eq] at h
  exact ⟨fun x hx => of_decide_eq_true (h.1 x hx), h.2⟩
theorem sum_take : ∀ (ns : List Int) (j : Nat), (∀ x ∈ ns, 0 ≤ x) → 0 ≤ (ns.take j).sum ∧ (ns.take j).sum ≤ ns.sum ∧ 0 ≤ ns.getD j 0 ∧ ns.getD j 0 ≤ ns.sum
  | [], j, _ => by simp
  | a :: ns, 0, h => by
    have h0 := h a (by simp)
    have i := sum_take ns 0 fun x hx => h x (List.mem_cons_of_mem _ hx)
    simp only [List.take_zero, List.sum_nil] at i
    rw [List.take_zero, List.sum_nil, List.sum_cons]
    show 0 ≤ 0 ∧ 0 ≤ a + ns.sum ∧ 0 ≤ a ∧ a ≤ a + ns.sum
    omega
  | a :: ns, j + 1, h => by
    have h0 := h a (by simp)
    have i := sum_take ns j fun x hx => h x (List.mem_cons_of_mem _ hx)
    rw [List.take_succ_cons, List.sum_cons, List.sum_cons, List.getD_cons_succ]
    omega
theorem preSum_take (ns : List Int) : ∀ j, preSum (fun i => ns.getD i 0) j = (ns.take j).sum
  | 0 => by rw [List.take_zero]; rfl
  | j + 1 => by
    show preSum (fun i => ns.getD i 0) j + ns.getD j 0 = _
    rw [preSum_take ns j, List.take_add_one, List.sum_append, List.getD_eq_getElem?_getD]
    cases ns[j]? with
    | none => rfl
    | some x => show _ + x = _ + (x + 0); omega
theorem lm_sumV (hc : X.calm = true) (hg : Gl X "sum") (hm : X.mg "sum" = none) (he : PE X e (tM X.K W ma)) (hbase : attributeBase e "values" X.env (eval e X.env) = eval e X.env := by rfl) (hline : (apos.endLine == cpos.line) = true := by rfl)
    (hs : starEach [.Call (.Attribute e "values" apos) [] [] cpos] X.env = [(false, eval (.Call (.Attribute e "values" apos) [] [] cpos) X.env)] := by rfl) :
    PE X (.Call (.Name "sum" p) [.Call (.Attribute e "values" apos) [] [] cpos] [] pos) (tM X.K W (m_un f_sumV ma)) := by
  refine PE.of ⟨fun pins s σ H Q I q => ?_⟩ fun σ H Q h => h
  obtain ⟨r, ih, env, hr, hE, q⟩ := q
  refine wpAny_Call_Name_kw (ld_blt I hg hm rfl ?_)
  refine PyProof.Rows.callWith_builtin1 ?_ hs (by rfl)
  refine Calls.spliced_cons ?_
  refine wpAny_Call_method (T := "dict") (id := "dict.values") hbase rfl hline PySem.F.plainAttrs_dict PySem.F.slot_dict_values PySem.F.type_dict_values (thn (he.run pins s σ H _ I (tG_bind hr hE q)) fun u s1 ⟨x, H1, I1, rx, r1, ih1, v, p1, hr1, hv, q1⟩ => ?_)
  dsimp only at q1
  cases v with
  | ref n =>
    obtain ⟨ad, ea, hx⟩ := hv
    subst hx
    obtain rfl : u = Value.ref ad := rx
    unfold f_sumV at q1
    dsimp only at q1
    split at q1
    · rename_i kvs e1
      split at q1
      · rename_i ns e2
        split at q1
        · rename_i hok
          obtain ⟨ys, h1, h2⟩ := hr1.get n ad _ ea e1
          have hv2 := valsI_of h2 e2
          obtain ⟨z, hsm, vs, rel, dd⟩ := dk_of I1.hok h1
          refine ⟨dd.typeIs, dd.mapOf.noDict, ?_⟩
          have I2 : Inv X pins σ H1 { s1 with heap := s1.heap.push { cls := .type "dict_values", data := .fields #[.ref ad] } } := I1.kept (t' := s1.toks) fun b ob q => Heap.get?_push_of_some _ q
          refine method_meetsIn PySem.F.slot_dict_values PySem.F.entry_dict_values rfl (PySem.evalArgs_none ⟨rfl, dd.typeIs, PySem.F.args_dict_values_1 _, _, meets_dict_values (mixKind X.prog X.w) ad hsm, ⟨vs, dd⟩, ?_⟩)
          refine Calls.spliced_nil ?_
          obtain ⟨ob, es, ep, hget, hex, hdt, hkeys, hprs, hnd⟩ := dd
          have l1 := hprs.length
          rw [Array.length_toList] at l1
          have l2 : ys.length = vs.length := rel.length
          have l3 : ys.length = ns.length := by
            have e := congrArg List.length hv2
            rw [List.length_map, List.length_map] at e
            exact e
          have hsz : es.size = ns.length := by omega
          have hP : ∀ (i : Nat) (e : DictEntry), es[i]? = some e → ∃ t, e.val = .int (ns.getD i 0) t := fun i e he => by
            have hi : i < es.size := (Array.getElem?_eq_some_iff.mp he).1
            have hi2 : i < ys.length := by omega
            have hi3 : i < ns.length := by omega
            obtain ⟨u, hu, ru⟩ := kv_get rel (i := i) (k := ys[i].1) (v := ys[i].2) (List.getElem?_eq_getElem hi2)
            obtain ⟨g1, g2⟩ := hprs.get? (e := e) (by rw [Array.getElem?_toList]; exact he) hu
            have e2 : ys[i].2 = V.int ns[i] := by
              have z : (ys.map (·.2))[i]? = (ns.map V.int)[i]? := by rw [hv2]
              rw [List.getElem?_map, List.getElem?_map, List.getElem?_eq_getElem hi2, List.getElem?_eq_getElem hi3] at z
              exact Option.some.inj z
            have e3 : ns.getD i 0 = ns[i] := by rw [List.getD_eq_getElem?_getD, List.getElem?_eq_getElem hi3] <;> rfl
            rw [e2] at ru
            rw [e3, g2]
            exact ru
          have ha : ad < s1.heap.objs.size := Heap.lt_size hget
          have hget2 : (s1.heap.push { cls := .type "dict_values", data := .fields #[.ref ad] }).get? ad = some ob := Heap.get?_push_of_some _ hget
          obtain ⟨hpos, hlt⟩ := okSum_of hok
          show wpAny _ _ (call (.builtin "sum") _) _ _ _
          refine call_sum_walk ?_
          refine DSub.iter_vals (v := s1.heap.objs.size) (a := ad) (Heap.get?_push_size _ rfl) hget2 hdt ?_
          refine ⟨(s1.heap.push { cls := .type "dict_values", data := .fields #[.ref ad] }).objs.size, [(s1.heap.push { cls := .type "dict_values", data := .fields #[.ref ad] }).objs.size, ad], [(s1.heap.push { cls := .type "dict_values", data := .fields #[.ref ad] }).objs.size], es.size, fun i v => ∃ t, v = .int (ns.getD i 0) t, _, fun i => ns.getD i 0, rfl, DSub.walksVal (a := ad) (show X.A.in1.handled = none from I1.ok.hd hc) (by
            rw [size_push']
            exact Nat.ne_of_lt (Nat.lt_succ_of_lt ha)) hdt hP, ⟨Heap.get?_push_size _ rfl, Heap.get?_push_of_some _ hget2⟩, fun b hb => ?_, fun i v h => h, fun j hj => ?_, fun h' tk t' hk => ?_⟩
          · show b < ((s1.heap.push _).push _).objs.size
            rw [size_push', size_push']
            rcases List.mem_cons.mp hb with z | z
            · rw [z, size_push']
              exact Nat.lt_succ_self _
            · rw [List.mem_singleton.mp z]
              exact Nat.lt_succ_of_lt (Nat.lt_succ_of_lt ha)
          · rw [preSum_take]
            have h1 := sum_take ns j hpos
            have h2 := sum_take ns (j + 1) hpos
            unfold InLong
            dsimp only
            omega
          · have hk2 : ∀ b o, s1.heap.get? b = some o → h'.get? b = some o := fun b o e => hk b o (fun z => by
              rw [List.mem_singleton.mp z, size_push'] at e
              exact absurd (Heap.lt_size e) (Nat.not_lt_of_lt (Nat.lt_succ_self _))) (Heap.get?_push_of_some _ (Heap.get?_push_of_some _ e))
            refine ⟨.int ns.sum, H1, I1.kept (t' := tk) hk2, ⟨t', ?_⟩, tG_end q1 hr1 rfl⟩
            rw [preSum_take, hsz, List.take_length]
        · exact q1.elim
      · exact q1.elim
    · exact q1.elim
  | _ => exact q1.elim
end
end L3
/-! L3y: xs.count(x), xs.index(x) of flat items. -/
namespace L3
variable [TabT] [LamT]
open PySem PySem.Spec PyProof.Rows L2
theorem cnt_eqU {x : V} : ∀ {xs : List V} {us : List Value}, Vals xs us → xs.all flatV = true → us.countP (eqU x) = xs.countP fun y => eqV y x
  | _, _, .nil, _ => rfl
  | y :: xs, u :: us, .cons r t, f => by
    rw [List.all_cons, Bool.and_eq_true] at f
    rw [List.countP_cons, List.countP_cons, cnt_eqU t f.2, eqU_of r f.1]
section
variable {X : Cx}
def rCount (K : PySem.W.Frag) : V → List V → Hp → VK → Prop := fun x xs H Q => ∃ (a : Addr) (ys : List V) (y : V), x = V.ref a ∧ xs = [y] ∧ SqL K H a ys ∧ flatV y = true ∧ ys.all flatV = true ∧ Q (.int (ys.countP fun z => eqV z y : Nat)) H
theorem mt_count : MtR X "list.count" (rCount X.K) := by
  intro pins s σ H x xs v us Q I rx rxs h
  obtain ⟨a, ys, y, rfl, rfl, hs, fy, fys, q⟩ := h
  cases rx
  cases rxs with
  | cons ry rt =>
    rename_i uy ut
    cases rt
    obtain ⟨its, rv, ⟨⟨cls, dd, data, sl⟩, n, ho, hc, hdn, hd⟩, hlen⟩ := I.list hs
    simp only at hc hd
    subst hc hd
    refine call_meets PySem.F.slot_list_count ⟨_, ho, rfl⟩ PySem.F.entry_list_count (PySem.F.args_list_count_2 _ _)
      (SeqAt.list_countAt a its.toArray n dd sl uy (eqU y)) ⟨ho, fun u' hu' => mem_eqAt ry fy rv fys u' (by simpa using hu'), ?_⟩
    have ec : its.toArray.toList.countP (eqU y) = ys.countP fun z => eqV z y := cnt_eqU rv fys
    refine ⟨.int (ys.countP fun z => eqV z y : Nat), H, I.tok _, ⟨s.toks, ?_⟩, q⟩
    show Value.int ((its.toArray.toList.countP (eqU y) : Nat) : Int) s.toks = Value.int ((ys.countP fun z => eqV z y : Nat) : Int) s.toks
    rw [ec]
end
def flatI : IV → Bool
  | .non => true
  | .bl _ => true
  | .int _ => true
  | .str _ => true
  | _ => false
theorem flatI_R {r : List Addr} {x : IV} {u : V} (h : R r x u) (f : flatI x = true) : u = x.toV ∧ flatV u = true := by
  cases x with
  | non => exact ⟨h, by rw [show u = _ from h]; rfl⟩
  | bl b => exact ⟨h, by rw [show u = _ from h]; rfl⟩
  | int i => exact ⟨h, by rw [show u = _ from h]; rfl⟩
  | str z => exact ⟨h, by rw [show u = _ from h]; rfl⟩
  | _ => cases f
theorem flatI_Rs {r : List Addr} : ∀ {xs : List IV} {us : List V}, Rs r xs us → xs.all flatI = true → us = xs.map IV.toV ∧ us.all flatV = true
  | _, _, .nil, _ => ⟨rfl, rfl⟩
  | x :: xs, u :: us, .cons h t, f => by
    rw [List.all_cons, Bool.and_eq_true] at f
    obtain ⟨e1, f1⟩ := flatI_R h f.1
    obtain ⟨e2, f2⟩ := flatI_Rs t f.2
    exact ⟨by rw [e1, e2]; rfl, by rw [List.all_cons, f1, f2]; rfl⟩
def eqI (y : IV) (z : IV) : Bool := eqV z.toV y.toV
def f_count (x : IV) (vs : List IV) (ih : IH) : Res IV := match x, vs with
  | .ref n, [y] => match ih[n]? with
    | some o => if o.isL = true ∧ flatI y = true ∧ o.xs.all flatI = true then .ok (.int (o.xs.countP (eqI y) : Nat)) ih else .stuck
    | none => .stuck
  | _, _ => .stuck
def f_index (x : IV) (vs : List IV) (ih : IH) : Res IV := match x, vs with
  | .ref n, [y] => match ih[n]? with
    | some o => if o.isL = true ∧ flatI y = true ∧ o.xs.all flatI = true then (match o.xs.findIdx? (eqI y) with
      | some j => .ok (.int (j : Nat)) ih
      | none => .stuck) else .stuck
    | none => .stuck
  | _, _ => .stuck
section
variable {X : Cx} {K : PySem.W.Frag} {W : WX}
theorem s_count : SndM K W (rCount K) f_count := by
  intro r ih H x u xs us σ Q hr hx hxs q
  unfold f_count at q
  split at q
  · rename_i n y
    obtain ⟨a, ea, rfl⟩ := hx.ref
    obtain ⟨w, rfl, hy⟩ := hxs.one
    split at q
    · rename_i o e1
      split at q
      · rename_i hc
        obtain ⟨ys, h1, h2⟩ := (hr.get n a _ ea e1).l hc.1
        obtain ⟨e2, f2⟩ := flatI_R hy hc.2.1
        obtain ⟨e3, f3⟩ := flatI_Rs h2 hc.2.2
        refine ⟨a, ys, w, rfl, rfl, h1, f2, f3, tG_end q hr ?_⟩
        show _ = _
        rw [e3, e2, List.countP_map]
        rfl
      · exact q.elim
    · exact q.elim
  · exact q.elim
theorem s_index : SndM K W (rIndex K) f_index := by
  intro r ih H x u xs us σ Q hr hx hxs q
  unfold f_index at q
  split at q
  · rename_i n y
    obtain ⟨a, ea, rfl⟩ := hx.ref
    obtain ⟨w, rfl, hy⟩ := hxs.one
    split at q
    · rename_i o e1
      split at q
      · rename_i hc
        obtain ⟨ys, h1, h2⟩ := (hr.get n a _ ea e1).l hc.1
        obtain ⟨e2, f2⟩ := flatI_R hy hc.2.1
        obtain ⟨e3, f3⟩ := flatI_Rs h2 hc.2.2
        split at q
        · rename_i j ej
          obtain ⟨hj, hp, hno⟩ := List.findIdx?_eq_some_iff_getElem.mp ej
          refine ⟨a, ys, w, j, o.xs[j].toV, rfl, rfl, h1, f2, f3, by rw [e3, List.getElem?_map, List.getElem?_eq_getElem hj]; rfl, by rw [e2]; exact hp, fun m z' hm hz => ?_, tG_end q hr rfl⟩
          rw [e3, List.getElem?_map, List.getElem?_eq_getElem (by omega)] at hz
          cases hz
          rw [e2]
          have := hno m hm
          exact Bool.eq_false_iff.mpr this
        · exact q.elim
      · exact q.elim
    · exact q.elim
  · exact q.elim
end
end L3
/-! L4: how mirrors are run; sizes of ints. -/
namespace L3
instance : TabT := ⟨[]⟩
instance : LamT := ⟨[], []⟩
open PySem PySem.Spec PyProof.Rows L2

theorem startI_cons (N : Nat) (a : IV) (r : List IV) : startI (N + 1) (a :: r) = some a :: startI N r := by
  unfold startI
  rw [List.map_cons, List.length_cons, Nat.add_sub_add_right]
  rfl
theorem startI_nil (N : Nat) : startI N [] = List.replicate N none := rfl
theorem rep_succ (N : Nat) : List.replicate (N + 1) (none : Option IV) = none :: List.replicate N none := rfl
theorem rep_zero : List.replicate 0 (none : Option IV) = [] := rfl

/-! ### operations, applied -/
section
variable {ih : IH} {i j : Int} {n m : Nat} {o : MO} {v : IV}
theorem a_int : f_int [.int i] ih = .ok (.int i) ih := rfl
theorem a_add : f_add (.int i) (.int j) ih = .ok (.int (i + j)) ih := rfl
theorem a_addI : f_addI (.int i) (.int j) ih = .ok (.int (i + j)) ih := rfl
theorem a_sub : f_sub (.int i) (.int j) ih = .ok (.int (i - j)) ih := rfl
theorem a_neg : f_neg (.int i) ih = .ok (.int (-i)) ih := rfl
theorem a_lt : f_lt (.int i) (.int j) ih = .ok (.bl (decide (i < j))) ih := rfl
theorem a_le : f_le (.int i) (.int j) ih = .ok (.bl (decide (i ≤ j))) ih := rfl
theorem a_gt : f_gt (.int i) (.int j) ih = .ok (.bl (decide (j < i))) ih := rfl
theorem a_ge : f_ge (.int i) (.int j) ih = .ok (.bl (decide (j ≤ i))) ih := rfl
theorem a_max2 : f_max2 [.int i, .int j] ih = .ok (.int (if j > i then j else i)) ih := rfl
theorem a_min2 : f_min2 [.int i, .int j] ih = .ok (.int (if j < i then j else i)) ih := rfl
theorem a_abs : f_abs [.int i] ih = .ok (.int (if i < 0 then -i else i)) ih := rfl
theorem a_mul (h : cMul i j = true) : f_mulA (.int i) (.int j) ih = .ok (.int (i * j)) ih := by
  show (if cMul i j = true then _ else _) = _
  rw [if_pos h]
theorem a_mulI (h : cMul i j = true) : f_mul (.int i) (.int j) ih = .ok (.int (i * j)) ih := by
  show (if cMul i j = true then _ else _) = _
  rw [if_pos h]
theorem a_fdiv (h : cDiv i j = true) : f_fdiv (.int i) (.int j) ih = .ok (.int (i / j)) ih := by
  show (if cDiv i j = true then _ else _) = _
  rw [if_pos h]
theorem a_mod (h : 0 < j) : f_mod (.int i) (.int j) ih = .ok (.int (i % j)) ih := by
  show (if cMod i j = true then _ else _) = _
  exact if_pos (decide_eq_true h)
theorem a_shl (h : cShl i j = true) : f_shl (.int i) (.int j) ih = .ok (.int (i * 2 ^ j.toNat)) ih := by
  show (if cShl i j = true then _ else _) = _
  rw [if_pos h]
theorem a_shr (h : 0 ≤ j) : f_shr (.int i) (.int j) ih = .ok (.int (i / 2 ^ j.toNat)) ih := by
  show (if cShr i j = true then _ else _) = _
  exact if_pos (decide_eq_true h)
theorem a_pow (h : cPow i j = true) : f_pow (.int i) (.int j) ih = .ok (.int (i ^ j.toNat)) ih := by
  show (if cPow i j = true then _ else _) = _
  rw [if_pos h]
theorem a_len (h : ih[n]? = some o) (hd : o.isS = true := by rfl) : f_len [.ref n] ih = .ok (.int o.xs.length) ih := by
  unfold f_len
  dsimp only
  rw [h]
  cases o with
  | dct => cases hd
  | dk _ => cases hd
  | clo => cases hd
  | _ => rfl
theorem a_ix (h : ih[n]? = some o) (hv : atI o.xs i = some v) : f_ix (.ref n) (.int i) ih = .ok v ih := by
  unfold f_ix
  dsimp only
  rw [h]
  dsimp only
  rw [hv]
theorem a_isN {x : IV} : f_isN x .non ih = .ok (.bl (decide (x = .non))) ih := by
  unfold f_isN
  rw [if_pos rfl]
theorem a_notN {x : IV} : f_notN x .non ih = .ok (.bl (!decide (x = .non))) ih := by
  unfold f_notN
  rw [if_pos rfl]
theorem a_lst {xs : List IV} (h : xs.length ≤ 100000) : f_lst xs ih = .ok (.ref ih.length) (ih ++ [.lst xs]) := by
  unfold f_lst
  rw [if_pos h]
theorem a_tup {xs : List IV} (h : xs.length ≤ 100000) : f_tup xs ih = .ok (.ref ih.length) (ih ++ [.tup xs]) := by
  unfold f_tup
  rw [if_pos h]
theorem a_list (h : ih[n]? = some o) (hd : o.isS = true := by rfl) : f_list [.ref n] ih = .ok (.ref ih.length) (ih ++ [.lst o.xs]) := by
  unfold f_list
  dsimp only
  rw [h]
  cases o with
  | dct => cases hd
  | dk _ => cases hd
  | clo => cases hd
  | _ => rfl
theorem a_append {xs : List IV} {y : IV} (h : ih[n]? = some (.lst xs)) (hl : xs.length < 100000) : f_append (.ref n) [y] ih = .ok .non (ih.set n (.lst (xs ++ [y]))) := by
  unfold f_append
  dsimp only
  rw [h]
  dsimp only
  rw [if_pos hl]
theorem a_isLst (h : ih[n]? = some o) (hl : o.isL = true) : isLst (.ref n) ih = true := by
  unfold isLst
  dsimp only
  rw [h]
  exact hl
theorem a_setL {xs : List IV} {y : IV} {k : Nat} (h : ih[n]? = some (.lst xs)) (hk : ixN xs.length i = some k) : f_setL (.ref n) (.int i) y ih = some (ih.set n (.lst (xs.set k y))) := by
  unfold f_setL
  dsimp only
  rw [h]
  dsimp only
  rw [hk]
theorem a_call {xs ds : List IV} {f : List IV → IH → Res IV} (h : (xs ++ ds).length = n) : f_call n ds f xs ih = f (xs ++ ds) ih := by
  unfold f_call
  rw [if_pos h]
theorem atI_ok {α : Type} {xs : List α} {k : Nat} {v : α} (hi : i = (k : Int)) (h : xs[k]? = some v) : atI xs i = some v := by
  rw [hi]
  exact atI_nat h
end
theorem atI_nn {α : Type} (xs : List α) (k : Nat) : atI xs (k : Int) = xs[k]? := by
  unfold atI ixN
  rw [if_pos (Int.natCast_nonneg k)]
  by_cases h : k < xs.length
  · rw [if_pos (by omega)]
    rfl
  · rw [if_neg (by omega), List.getElem?_eq_none (by omega)]
    rfl
theorem atI_0 {α : Type} (xs : List α) : atI xs 0 = xs[0]? := atI_nn xs 0
theorem atI_1 {α : Type} (xs : List α) : atI xs 1 = xs[1]? := atI_nn xs 1
theorem atI_2 {α : Type} (xs : List α) : atI xs 2 = xs[2]? := atI_nn xs 2
theorem atI_3 {α : Type} (xs : List α) : atI xs 3 = xs[3]? := atI_nn xs 3
theorem atI_4 {α : Type} (xs : List α) : atI xs 4 = xs[4]? := atI_nn xs 4
theorem atI_5 {α : Type} (xs : List α) : atI xs 5 = xs[5]? := atI_nn xs 5
theorem atI_6 {α : Type} (xs : List α) : atI xs 6 = xs[6]? := atI_nn xs 6
theorem atI_7 {α : Type} (xs : List α) : atI xs 7 = xs[7]? := atI_nn xs 7
theorem atI_8 {α : Type} (xs : List α) : atI xs 8 = xs[8]? := atI_nn xs 8
theorem atI_9 {α : Type} (xs : List α) : atI xs 9 = xs[9]? := atI_nn xs 9
theorem atI_10 {α : Type} (xs : List α) : atI xs 10 = xs[10]? := atI_nn xs 10
theorem atI_11 {α : Type} (xs : List α) : atI xs 11 = xs[11]? := atI_nn xs 11
theorem atI_12 {α : Type} (xs : List α) : atI xs 12 = xs[12]? := atI_nn xs 12
theorem ixN_30 : ixN 3 0 = some 0 := rfl
theorem ixN_31 : ixN 3 1 = some 1 := rfl
theorem ixN_32 : ixN 3 2 = some 2 := rfl
theorem xs_lst (xs : List IV) : (MO.lst xs).xs = xs := rfl
theorem xs_tup (xs : List IV) : (MO.tup xs).xs = xs := rfl
theorem xs_ro (xs : List IV) : (MO.ro xs).xs = xs := rfl
theorem xs_rot (xs : List IV) : (MO.rot xs).xs = xs := rfl
theorem isL_lst (xs : List IV) : (MO.lst xs).isL = true := rfl
theorem isL_tup (xs : List IV) : (MO.tup xs).isL = false := rfl
theorem isL_ro (xs : List IV) : (MO.ro xs).isL = true := rfl
theorem isT_tup (xs : List IV) : (MO.tup xs).isT = true := rfl
theorem isT_rot (xs : List IV) : (MO.rot xs).isT = true := rfl
theorem isL_rot (xs : List IV) : (MO.rot xs).isL = false := rfl
/-! ### sizes of ints -/
/-- an int of at most n bits -/
def B (n : Nat) (i : Int) : Prop := i.natAbs < 2 ^ n
section
variable {i j : Int} {n m k : Nat}
theorem B.mono (h : B n i) (e : n ≤ m) : B m i := Nat.lt_of_lt_of_le h (Nat.pow_le_pow_right (by decide) e)
theorem B.ib (h : B n i) : ibits i ≤ n := PyProof.Rows.intBits_le h
theorem B.of_ib (h : ibits i ≤ n) : B n i := by
  unfold ibits Builtin.Int.intBits at h
  split at h
  · rename_i h0
    have : i = 0 := by simpa using h0
    subst this
    exact Nat.two_pow_pos n
  · exact Nat.lt_of_lt_of_le Nat.lt_log2_self (Nat.pow_le_pow_right (by decide) h)
theorem B.add (h : B n i) (g : B n j) : B (n + 1) (i + j) := by
  unfold B at *
  rw [Nat.pow_succ]
  omega
theorem B.sub (h : B n i) (g : B n j) : B (n + 1) (i - j) := by
  unfold B at *
  rw [Nat.pow_succ]
  omega
theorem B.neg (h : B n i) : B n (-i) := by
  unfold B at *
  rw [Int.natAbs_neg]
  exact h
theorem B.mul (h : B n i) (g : B m j) : B (n + m) (i * j) := by
  unfold B at *
  rw [Int.natAbs_mul, Nat.pow_add]
  exact Nat.mul_lt_mul'' h g
theorem B.div (h : B n i) (g : 0 < j) : B n (i / j) := by
  unfold B at *
  have : (i / j).natAbs ≤ i.natAbs := by
    rcases Int.le_total 0 i with hi | hi
    · have h1 := Int.ediv_nonneg hi (Int.le_of_lt g)
      have h2 := Int.ediv_le_self j hi
      omega
    · have h1 : i / j ≤ 0 := by
        have := Int.ediv_le_ediv g hi
        rw [Int.zero_ediv] at this
        exact this
      have h2 : i ≤ i / j := by
        rw [Int.le_ediv_iff_mul_le g]
        have : i * j ≤ i * 1 := Int.mul_le_mul_of_nonpos_left hi (by omega)
        omega
      omega
  omega
theorem B.mod (g : 0 < j) (h : B n j) : B n (i % j) := by
  unfold B at *
  have h1 := Int.emod_nonneg i (Int.ne_of_gt g)
  have h2 := Int.emod_lt_of_pos i g
  omega
theorem B.le (h0 : 0 ≤ i) (h : i ≤ j) (g : B n j) : B n i := by
  unfold B at *
  omega
theorem B.lt (h0 : 0 ≤ i) (h : i < 2 ^ n) : B n i := by
  unfold B
  have e : ((2 ^ n : Nat) : Int) = 2 ^ n := by rw [Int.natCast_pow]; rfl
  omega
theorem B.cmul (h : B n i) (g : B m j) (e : n + m ≤ 134217728) : cMul i j = true := by
  have := h.ib
  have := g.ib
  exact decide_eq_true (by omega)
theorem cDiv_of (g : 0 < j) (h : B n j) (h0 : 0 < n) (e : n ≤ 9000) : cDiv i j = true := by
  unfold cDiv
  rw [Bool.and_eq_true]
  exact ⟨decide_eq_true g, decide_eq_true (Nat.lt_of_lt_of_le (PySem.Flt.log2_lt_of h0 h) e)⟩
theorem cShl_of (h : B n i) (e : n + k ≤ 134217728) : cShl i (k : Int) = true := by
  have := h.ib
  unfold cShl
  rw [Bool.and_eq_true]
  exact ⟨decide_eq_true (by omega), decide_eq_true (by omega)⟩
end

/-! ### heaps that grow -/
def Ext (a b : IH) : Prop := ∀ (n : Nat) (o : MO), a[n]? = some o → b[n]? = some o
theorem Ext.refl (a : IH) : Ext a a := fun _ _ h => h
theorem Ext.trans {a b d : IH} (h : Ext a b) (k : Ext b d) : Ext a d := fun n o e => k n o (h n o e)
theorem Ext.app (a b : IH) : Ext a (a ++ b) := fun n o e => by
  rw [List.getElem?_append_left (List.getElem?_eq_some_iff.mp e).1]
  exact e
/-- all objects but the one at p stay -/
def ExtP (p : Nat) (a b : IH) : Prop := ∀ (n : Nat) (o : MO), n ≠ p → a[n]? = some o → b[n]? = some o
theorem ExtP.refl (p : Nat) (a : IH) : ExtP p a a := fun _ _ _ h => h
theorem ExtP.trans {p : Nat} {a b d : IH} (h : ExtP p a b) (k : ExtP p b d) : ExtP p a d := fun n o hn e => k n o hn (h n o hn e)
theorem Ext.p {a b : IH} (h : Ext a b) (p : Nat) : ExtP p a b := fun n o _ e => h n o e
theorem ExtP.set (p : Nat) (a : IH) (o : MO) : ExtP p a (a.set p o) := fun n u hn e => by
  rw [List.getElem?_set_ne (Ne.symm hn)]
  exact e
theorem get_new (a : IH) (o : MO) : (a ++ [o])[a.length]? = some o := by
  rw [List.getElem?_append_right (Nat.le_refl _), Nat.sub_self]
  rfl
theorem get_set {a : IH} {p : Nat} {o u : MO} (h : a[p]? = some u) : (a.set p o)[p]? = some o := List.getElem?_set_self (List.getElem?_eq_some_iff.mp h).1
theorem lt_of_get {a : IH} {p : Nat} {u : MO} (h : a[p]? = some u) : p < a.length := (List.getElem?_eq_some_iff.mp h).1
end L3
/-! L6: loops and comprehensions of mirrors. -/
namespace L3
open PySem PySem.Spec PyProof.Rows L2

/-! ### for -/
/-- a loop whose turns all go on -/
theorem forGo_ind {s : Src} {g : IV → Env → IH → Option Env} {mb : Env → IH → RS} (k : Nat) (P : Nat → Env → IH → Prop)
    (turn : ∀ i env ih, i < k → P i env ih → ∃ v ih1 env1 env2 ih2, s.turn i ih = .item v ih1 ∧ g v env ih1 = some env1 ∧ mb env1 ih1 = .ok (.next env2) ih2 ∧ P (i + 1) env2 ih2)
    (stop : ∀ env ih, P k env ih → s.turn k ih = .stop) :
    ∀ (f i : Nat) (env : Env) (ih : IH), i ≤ k → k - i < f → P i env ih → ∃ env' ih', forGo s g mb f i env ih = .ok (.next env') ih' ∧ P k env' ih' := by
  intro f
  induction f with
  | zero => intro i env ih h1 h2; omega
  | succ f ihf =>
    intro i env ih h1 h2 hp
    unfold forGo
    by_cases hk : i = k
    · subst hk
      rw [stop env ih hp]
      exact ⟨env, ih, rfl, hp⟩
    · obtain ⟨v, ih1, env1, env2, ih2, t1, t2, t3, t4⟩ := turn i env ih (by omega) hp
      rw [t1]
      dsimp only
      rw [t2]
      dsimp only
      rw [t3]
      exact ihf (i + 1) env2 ih2 (by omega) (by omega) t4
/-- a loop that may hand back -/
theorem forGo_ret {s : Src} {g : IV → Env → IH → Option Env} {mb : Env → IH → RS} (k : Nat) (P : Nat → Env → IH → Prop) (Z : IV → IH → Prop)
    (turn : ∀ i env ih, i < k → P i env ih → ∃ v ih1 env1, s.turn i ih = .item v ih1 ∧ g v env ih1 = some env1 ∧ ((∃ env2 ih2, mb env1 ih1 = .ok (.next env2) ih2 ∧ P (i + 1) env2 ih2) ∨ ∃ u ih2, mb env1 ih1 = .ok (.ret u) ih2 ∧ Z u ih2))
    (stop : ∀ env ih, P k env ih → s.turn k ih = .stop) :
    ∀ (f i : Nat) (env : Env) (ih : IH), i ≤ k → k - i < f → P i env ih → (∃ env' ih', forGo s g mb f i env ih = .ok (.next env') ih' ∧ P k env' ih') ∨ ∃ u ih', forGo s g mb f i env ih = .ok (.ret u) ih' ∧ Z u ih' := by
  intro f
  induction f with
  | zero => intro i env ih h1 h2; omega
  | succ f ihf =>
    intro i env ih h1 h2 hp
    unfold forGo
    by_cases hk : i = k
    · subst hk
      rw [stop env ih hp]
      exact .inl ⟨env, ih, rfl, hp⟩
    · obtain ⟨v, ih1, env1, t1, t2, t3⟩ := turn i env ih (by omega) hp
      rw [t1]
      dsimp only
      rw [t2]
      dsimp only
      rcases t3 with ⟨env2, ih2, t3, t4⟩ | ⟨u, ih2, t3, t4⟩
      · rw [t3]
        exact ihf (i + 1) env2 ih2 (by omega) (by omega) t4
      · rw [t3]
        exact .inr ⟨u, ih2, rfl, t4⟩
theorem turn_rng {lo d : Int} {k i : Nat} {ih : IH} (h : i < k) : (Src.rng lo d k).turn i ih = .item (.int (lo + (i : Int) * d)) ih := if_pos h
theorem stop_rng {lo d : Int} {k : Nat} {ih : IH} : (Src.rng lo d k).turn k ih = .stop := if_neg (Nat.lt_irrefl k)
theorem lAt_of {ih : IH} {n : Nat} {o : MO} (h : ih[n]? = some o) (hl : o.isL = true) : lAt ih n true = some o.xs := by
  unfold lAt
  rw [h]
  exact if_pos hl
theorem turn_lst {ih : IH} {n i : Nat} {o : MO} {v : IV} (h : ih[n]? = some o) (hl : o.isL = true) (hv : o.xs[i]? = some v) : (Src.lst n).turn i ih = .item v ih := by
  unfold Src.turn
  dsimp only
  rw [lAt_of h hl]
  dsimp only
  rw [hv]
theorem stop_lst {ih : IH} {n : Nat} {o : MO} (h : ih[n]? = some o) (hl : o.isL = true) : (Src.lst n).turn o.xs.length ih = .stop := by
  unfold Src.turn
  dsimp only
  rw [lAt_of h hl]
  dsimp only
  rw [List.getElem?_eq_none (Nat.le_refl _)]
theorem turn_enm {ih : IH} {n i : Nat} {o : MO} {v : IV} (h : ih[n]? = some o) (hl : o.isL = true) (hv : o.xs[i]? = some v) : (Src.enm n).turn i ih = .item (.ref ih.length) (ih ++ [.tup [.int (i : Int), v]]) := by
  unfold Src.turn
  dsimp only
  rw [lAt_of h hl]
  dsimp only
  rw [hv]
theorem stop_enm {ih : IH} {n : Nat} {o : MO} (h : ih[n]? = some o) (hl : o.isL = true) : (Src.enm n).turn o.xs.length ih = .stop := by
  unfold Src.turn
  dsimp only
  rw [lAt_of h hl]
  dsimp only
  rw [List.getElem?_eq_none (Nat.le_refl _)]
theorem turn_zip {ih : IH} {n m i : Nat} {o u : MO} {v w : IV} (h : ih[n]? = some o) (hl : o.isL = true) (hv : o.xs[i]? = some v) (h2 : ih[m]? = some u) (hl2 : u.isL = true) (hw : u.xs[i]? = some w) : (Src.zip n m).turn i ih = .item (.ref ih.length) (ih ++ [.tup [v, w]]) := by
  unfold Src.turn
  dsimp only
  rw [lAt_of h hl, lAt_of h2 hl2]
  dsimp only
  rw [hv, hw]
theorem stop_zip {ih : IH} {n m i : Nat} {o u : MO} (h : ih[n]? = some o) (hl : o.isL = true) (h2 : ih[m]? = some u) (hl2 : u.isL = true) (hi : o.xs.length ≤ i ∨ u.xs.length ≤ i) : (Src.zip n m).turn i ih = .stop := by
  unfold Src.turn
  dsimp only
  rw [lAt_of h hl, lAt_of h2 hl2]
  dsimp only
  rcases hi with hi | hi
  · rw [List.getElem?_eq_none hi]
  · rw [List.getElem?_eq_none hi]
    split <;> first | rfl | (rename_i z; cases z)
theorem for_rng1 {g : IV → Env → IH → Option Env} {mb : Env → IH → RS} {m : Env → IH → Res (List IV)} {env : Env} {ih ih1 : IH} {j : Int} (hm : m env ih = .ok [.int j] ih1) (hj : smallI j = true) : ms_for (mi_rng1 m) g mb env ih = forGo (.rng 0 1 j.toNat) g mb (j.toNat + 1) 0 env ih1 := by
  unfold ms_for mi_rng1
  rw [hm, Res.bind_ok]
  dsimp only
  rw [if_pos hj]
  rfl
theorem for_rng2 {g : IV → Env → IH → Option Env} {mb : Env → IH → RS} {m : Env → IH → Res (List IV)} {env : Env} {ih ih1 : IH} {i j : Int} (hm : m env ih = .ok [.int i, .int j] ih1) (hi : smallI i = true) (hj : smallI j = true) : ms_for (mi_rng2 m) g mb env ih = forGo (.rng i 1 (j - i).toNat) g mb ((j - i).toNat + 1) 0 env ih1 := by
  unfold ms_for mi_rng2
  rw [hm, Res.bind_ok]
  dsimp only
  rw [if_pos ⟨hi, hj⟩]
  rfl
theorem for_lst {g : IV → Env → IH → Option Env} {mb : Env → IH → RS} {m : Env → IH → Res IV} {env : Env} {ih ih1 : IH} {n : Nat} {o : MO} (hm : m env ih = .ok (.ref n) ih1) (h : ih1[n]? = some o) (hl : o.isL = true) : ms_for (mi_lst m) g mb env ih = forGo (.lst n) g mb (o.xs.length + 1) 0 env ih1 := by
  unfold ms_for mi_lst
  rw [hm, Res.bind_ok]
  dsimp only
  rw [lAt_of h hl]
  show forGo (.lst n) g mb ((Src.lst n).size ih1 + 1) 0 env ih1 = _
  unfold Src.size
  dsimp only
  rw [h]
theorem for_enm {g : IV → Env → IH → Option Env} {mb : Env → IH → RS} {m : Env → IH → Res (List IV)} {env : Env} {ih ih1 : IH} {n : Nat} {o : MO} (hm : m env ih = .ok [.ref n] ih1) (h : ih1[n]? = some o) (hl : o.isL = true) : ms_for (mi_enm m) g mb env ih = forGo (.enm n) g mb (o.xs.length + 1) 0 env ih1 := by
  unfold ms_for mi_enm
  rw [hm, Res.bind_ok]
  dsimp only
  rw [lAt_of h hl]
  show forGo (.enm n) g mb ((Src.enm n).size ih1 + 1) 0 env ih1 = _
  unfold Src.size
  dsimp only
  rw [h]
theorem smallI_mk {i : Int} (h : -(2 ^ 62) ≤ i) (h2 : i < 2 ^ 62) : smallI i = true := by
  unfold smallI
  rw [decide_eq_true h, decide_eq_true h2]
  rfl

/-! ### comprehensions -/
theorem lcGo_ind {s : Src} {g : IV → Env → IH → Option Env} {n : Env → IH → Res Bool} {me : Env → IH → Res IV} {d : Nat} {env : Env} (k : Nat) (P : Nat → List IV → IH → Prop)
    (turn : ∀ i acc ih, i < k → P i acc ih → ih[d]? = some (.lst acc) → ∃ v ih1 env1 b ih2, s.turn i ih = .item v ih1 ∧ g v env ih1 = some env1 ∧ n env1 ih1 = .ok b ih2 ∧ (b = false → ih2[d]? = some (.lst acc) ∧ P (i + 1) acc ih2) ∧
      (b = true → ∃ y ih3, me env1 ih2 = .ok y ih3 ∧ ih3[d]? = some (.lst acc) ∧ acc.length < 100000 ∧ P (i + 1) (acc ++ [y]) (ih3.set d (.lst (acc ++ [y])))))
    (stop : ∀ acc ih, P k acc ih → ih[d]? = some (.lst acc) → s.turn k ih = .stop) :
    ∀ (f i : Nat) (acc : List IV) (ih : IH), i ≤ k → k - i < f → P i acc ih → ih[d]? = some (.lst acc) → ∃ acc' ih', lcGo s g n me d env f i ih = .ok (.ref d) ih' ∧ ih'[d]? = some (.lst acc') ∧ P k acc' ih' := by
  intro f
  induction f with
  | zero => intro i acc ih h1 h2; omega
  | succ f ihf =>
    intro i acc ih h1 h2 hp hd
    unfold lcGo
    by_cases hk : i = k
    · subst hk
      rw [stop acc ih hp hd]
      exact ⟨acc, ih, rfl, hd, hp⟩
    · obtain ⟨v, ih1, env1, b, ih2, t1, t2, t3, t4, t5⟩ := turn i acc ih (by omega) hp hd
      rw [t1]
      dsimp only
      rw [t2]
      dsimp only
      rw [t3]
      cases b with
      | false =>
        obtain ⟨h3, h4⟩ := t4 rfl
        exact ihf (i + 1) acc ih2 (by omega) (by omega) h4 h3
      | true =>
        obtain ⟨y, ih3, h3, h4, h5, h6⟩ := t5 rfl
        dsimp only
        rw [h3]
        dsimp only
        rw [h4]
        dsimp only
        rw [if_pos h5]
        exact ihf (i + 1) (acc ++ [y]) _ (by omega) (by omega) h6 (get_set h4)
theorem set_append_last (a : IH) (o u : MO) : (a ++ [o]).set a.length u = a ++ [u] := by
  rw [List.set_append_right _ _ (Nat.le_refl _), Nat.sub_self]
  rfl
/-- [me for x in xs if n], over a list; the parts leave the heap -/
theorem lc_lst {vs : List Nat} {m : Env → IH → Res IV} {i : Nat} {n : Env → IH → Res Bool} {me : Env → IH → Res IV} {env : Env} {ih ih1 : IH} {p : Nat} {o : MO} (F : IV → IV) (T : IV → Bool) (hm : m env ih = .ok (.ref p) ih1) (ho : ih1[p]? = some o) (hl : o.isL = true) (hz : o.xs.length < 100000)
    (ht : ∀ x ∈ o.xs, ∀ ih', Ext ih1 ih' → n ((wipeI env vs).set i (some x)) ih' = .ok (T x) ih') (he : ∀ x ∈ o.xs, T x = true → ∀ ih', Ext ih1 ih' → me ((wipeI env vs).set i (some x)) ih' = .ok (F x) ih') :
    m_lc vs (mi_lst m) (g_nm i) n me env ih = .ok (.ref ih1.length) (ih1 ++ [.lst ((o.xs.filter T).map F)]) := by
  unfold m_lc mi_lst
  rw [hm, Res.bind_ok]
  dsimp only
  rw [lAt_of ho hl]
  dsimp only
  rw [Res.bind_ok]
  have hs : (Src.lst p).size ih1 = o.xs.length := by
    unfold Src.size
    dsimp only
    rw [ho]
  rw [hs]
  obtain ⟨acc', ih', e1, e2, e3⟩ := lcGo_ind (s := .lst p) (g := g_nm i) (n := n) (me := me) (d := ih1.length) (env := wipeI env vs) o.xs.length (fun k acc ih => acc = ((o.xs.take k).filter T).map F ∧ ih = ih1 ++ [.lst acc])
    (fun k acc ih hk ⟨ha, hi⟩ hd => by
      subst hi
      have hx : (ih1 ++ [MO.lst acc])[p]? = some o := Ext.app _ _ _ _ ho
      have hxk : o.xs[k]? = some o.xs[k] := List.getElem?_eq_getElem hk
      have hmem : o.xs[k] ∈ o.xs := List.getElem_mem hk
      have etk : (o.xs.take (k + 1)) = o.xs.take k ++ [o.xs[k]] := by rw [List.take_add_one, hxk]; rfl
      refine ⟨o.xs[k], _, _, T o.xs[k], _, turn_lst hx hl hxk, rfl, ht _ hmem _ (Ext.app _ _), fun hb => ⟨hd, ?_, rfl⟩, fun hb => ⟨_, _, he _ hmem hb _ (Ext.app _ _), hd, ?_, ?_, ?_⟩⟩
      · rw [etk, List.filter_append, ha, List.filter_cons, hb]
        simp
      · rw [ha, List.length_map]
        exact Nat.lt_of_le_of_lt (List.length_filter_le _ _) (Nat.lt_of_le_of_lt (List.length_take_le' _ _) hz)
      · rw [etk, List.filter_append, ha, List.filter_cons, hb]
        simp
      · rw [set_append_last])
    (fun acc ih ⟨ha, hi⟩ hd => by
      subst hi
      exact stop_lst (Ext.app _ _ _ _ ho) hl)
    (o.xs.length + 1) 0 [] (ih1 ++ [.lst []]) (Nat.zero_le _) (by omega) ⟨by simp, rfl⟩ (get_new _ _)
  rw [e1]
  obtain ⟨h1, h2⟩ := e3
  rw [h2, h1, List.take_length]
theorem filter_true (xs : List IV) : xs.filter (fun _ => true) = xs := List.filter_eq_self.mpr fun _ _ => rfl
/-- without a test -/
theorem lc_map {vs : List Nat} {m : Env → IH → Res IV} {i : Nat} {me : Env → IH → Res IV} {env : Env} {ih ih1 : IH} {p : Nat} {o : MO} (F : IV → IV) (hm : m env ih = .ok (.ref p) ih1) (ho : ih1[p]? = some o) (hl : o.isL = true) (hz : o.xs.length < 100000)
    (he : ∀ x ∈ o.xs, ∀ ih', Ext ih1 ih' → me ((wipeI env vs).set i (some x)) ih' = .ok (F x) ih') :
    m_lc vs (mi_lst m) (g_nm i) n_yes me env ih = .ok (.ref ih1.length) (ih1 ++ [.lst (o.xs.map F)]) := by
  have h := lc_lst (n := n_yes) F (fun _ => true) hm ho hl hz (fun x _ ih' _ => rfl) (fun x hx _ ih' e => he x hx ih' e)
  rw [filter_true] at h
  exact h
/-- over a range -/
theorem lc_rng {vs : List Nat} {m : Env → IH → Res (List IV)} {i : Nat} {me : Env → IH → Res IV} {env : Env} {ih ih1 : IH} {j : Int} (F : Nat → IV) (hm : m env ih = .ok [.int j] ih1) (hj : smallI j = true) (hz : j < 100000)
    (he : ∀ k : Nat, (k : Int) < j → ∀ ih', Ext ih1 ih' → me ((wipeI env vs).set i (some (.int (k : Int)))) ih' = .ok (F k) ih') :
    m_lc vs (mi_rng1 m) (g_nm i) n_yes me env ih = .ok (.ref ih1.length) (ih1 ++ [.lst ((List.range j.toNat).map F)]) := by
  unfold m_lc mi_rng1
  rw [hm, Res.bind_ok]
  dsimp only
  rw [if_pos hj, Res.bind_ok]
  show lcGo (.rng 0 1 j.toNat) (g_nm i) n_yes me ih1.length (wipeI env vs) (j.toNat + 1) 0 (ih1 ++ [.lst []]) = _
  obtain ⟨acc', ih', e1, e2, e3⟩ := lcGo_ind (s := .rng 0 1 j.toNat) (g := g_nm i) (n := n_yes) (me := me) (d := ih1.length) (env := wipeI env vs) j.toNat (fun k acc ih => acc = (List.range k).map F ∧ ih = ih1 ++ [.lst acc])
    (fun k acc ih hk ⟨ha, hi⟩ hd => by
      subst hi
      have e0 : (0 : Int) + (k : Int) * 1 = (k : Int) := by omega
      refine ⟨.int (k : Int), _, _, true, _, by rw [turn_rng hk, e0], rfl, rfl, (fun hb => nomatch hb), fun _ => ⟨_, _, he k (by omega) _ (Ext.app _ _), hd, ?_, ?_, ?_⟩⟩
      · rw [ha, List.length_map, List.length_range]
        omega
      · rw [ha, List.range_succ, List.map_append]
        rfl
      · rw [set_append_last])
    (fun acc ih _ hd => stop_rng) (j.toNat + 1) 0 [] (ih1 ++ [.lst []]) (Nat.zero_le _) (by omega) ⟨by simp, rfl⟩ (get_new _ _)
  rw [e1]
  obtain ⟨h1, h2⟩ := e3
  rw [h2, h1]
theorem ExtP.of_set {a b : IH} {d : Nat} {o : MO} (h : Ext a b) (hd : a.length ≤ d) : Ext a (b.set d o) := fun n u e => by
  have := (List.getElem?_eq_some_iff.mp e).1
  rw [List.getElem?_set_ne (by omega)]
  exact h n u e
/-- [me for a, b in zip(xs, ys)]: the pairs stay behind -/
theorem lc_zip {vs : List Nat} {m : Env → IH → Res (List IV)} {i j : Nat} {me : Env → IH → Res IV} {env : Env} {ih ih1 : IH} {p q : Nat} {o u : MO} (F : IV → IV → IV) (hm : m env ih = .ok [.ref p, .ref q] ih1) (ho : ih1[p]? = some o) (hl : o.isL = true) (hu : ih1[q]? = some u) (hl2 : u.isL = true) (hz : o.xs.length < 100000)
    (he : ∀ (k : Nat) (x y : IV), o.xs[k]? = some x → u.xs[k]? = some y → ∀ ih', Ext ih1 ih' → me (((wipeI env vs).set i (some x)).set j (some y)) ih' = .ok (F x y) ih') :
    ∃ ih', m_lc vs (mi_zip m) (g_tup 2 (g_cons (g_nm i) (g_cons (g_nm j) g_nil))) n_yes me env ih = .ok (.ref ih1.length) ih' ∧ Ext ih1 ih' ∧ ih'[ih1.length]? = some (.lst (List.zipWith F o.xs u.xs)) := by
  unfold m_lc mi_zip
  rw [hm, Res.bind_ok]
  dsimp only
  rw [lAt_of ho hl, lAt_of hu hl2]
  dsimp only
  rw [Res.bind_ok]
  have hs : (Src.zip p q).size ih1 = o.xs.length := by
    unfold Src.size
    dsimp only
    rw [ho]
  rw [hs]
  obtain ⟨acc', ih', e1, e2, e3⟩ := lcGo_ind (s := .zip p q) (g := g_tup 2 (g_cons (g_nm i) (g_cons (g_nm j) g_nil))) (n := n_yes) (me := me) (d := ih1.length) (env := wipeI env vs) (min o.xs.length u.xs.length) (fun k acc ih => acc = List.zipWith F (o.xs.take k) (u.xs.take k) ∧ Ext ih1 ih)
    (fun k acc ih hk ⟨ha, hi⟩ hd => by
      have hk1 : k < o.xs.length := by omega
      have hk2 : k < u.xs.length := by omega
      have hx : o.xs[k]? = some o.xs[k] := List.getElem?_eq_getElem hk1
      have hy : u.xs[k]? = some u.xs[k] := List.getElem?_eq_getElem hk2
      have e0 : Ext ih (ih ++ [.tup [o.xs[k], u.xs[k]]]) := Ext.app _ _
      refine ⟨.ref ih.length, _, _, true, _, turn_zip (hi _ _ ho) hl hx (hi _ _ hu) hl2 hy, ?_, rfl, (fun hb => nomatch hb), fun _ => ⟨_, _, he k _ _ hx hy _ (hi.trans e0), e0 _ _ hd, ?_, ?_, ?_⟩⟩
      · unfold g_tup
        dsimp only
        rw [get_new]
        rfl
      · rw [ha, List.length_zipWith, List.length_take, List.length_take]
        omega
      · have e3 : o.xs.take (k + 1) = o.xs.take k ++ [o.xs[k]] := by rw [List.take_add_one, hx]; rfl
        have e4 : u.xs.take (k + 1) = u.xs.take k ++ [u.xs[k]] := by rw [List.take_add_one, hy]; rfl
        rw [ha, e3, e4, List.zipWith_append (by rw [List.length_take, List.length_take]; omega)]
        rfl
      · exact ExtP.of_set (hi.trans e0) (Nat.le_refl _))
    (fun acc ih ⟨ha, hi⟩ hd => stop_zip (hi _ _ ho) hl (hi _ _ hu) hl2 (by omega))
    (o.xs.length + 1) 0 [] (ih1 ++ [.lst []]) (Nat.zero_le _) (by omega) ⟨by simp, Ext.app _ _⟩ (get_new _ _)
  refine ⟨ih', e1, e3.2, ?_⟩
  rw [e2, e3.1]
  congr 2
  exact (List.zipWith_eq_zipWith_take_min (f := F)).symm

/-! ### built-ins over lists -/
theorem a_ints {g : List Int → IH → Res IV} {n : Nat} {ih : IH} {o : MO} {ns : List Int} (h : ih[n]? = some o) (hl : o.isL = true) (hx : o.xs = ns.map IV.int) : f_ints g [.ref n] ih = g ns ih := by
  unfold f_ints
  dsimp only
  rw [h]
  dsimp only
  rw [if_pos hl, hx, ints?_map]
theorem a_bls {g : List Bool → IH → Res IV} {n : Nat} {ih : IH} {o : MO} {ns : List Bool} (h : ih[n]? = some o) (hl : o.isL = true) (hx : o.xs = ns.map IV.bl) : f_bls g [.ref n] ih = g ns ih := by
  unfold f_bls
  dsimp only
  rw [h]
  dsimp only
  rw [if_pos hl, hx, bls?_map]
theorem a_sum {n : Nat} {ih : IH} {o : MO} {ns : List Int} (h : ih[n]? = some o) (hl : o.isL = true) (hx : o.xs = ns.map IV.int) : f_sum [.ref n] ih = .ok (.int ns.sum) ih := a_ints h hl hx
theorem a_all {n : Nat} {ih : IH} {o : MO} {ns : List Bool} (h : ih[n]? = some o) (hl : o.isL = true) (hx : o.xs = ns.map IV.bl) : f_all [.ref n] ih = .ok (.bl (ns.all id)) ih := a_bls h hl hx
theorem a_any {n : Nat} {ih : IH} {o : MO} {ns : List Bool} (h : ih[n]? = some o) (hl : o.isL = true) (hx : o.xs = ns.map IV.bl) : f_any [.ref n] ih = .ok (.bl (ns.any id)) ih := a_bls h hl hx
theorem a_slL {n : Nat} {ih : IH} {xs : List IV} {lo hi : Option Int} (h : ih[n]? = some (.lst xs)) : f_sl (.ref n) lo hi ih = .ok (.ref ih.length) (ih ++ [.lst (cutI xs lo hi)]) := by
  unfold f_sl
  dsimp only
  rw [h]
theorem cutI_1 (xs : List IV) : cutI xs (some 1) none = xs.drop 1 := by
  unfold cutI
  rw [show HT.sIx xs.length 0 (some 1) = min 1 xs.length from HT.sIx_nat xs.length 0 1, HT.sIx_none]
  cases xs with
  | nil => rfl
  | cons x r =>
    rw [show min 1 (x :: r).length = 1 by rw [List.length_cons]; omega]
    show (List.take ((x :: r).length - 1) r) = r
    rw [List.length_cons, Nat.add_sub_cancel]
    exact List.take_length
/-! ### equal data -/
theorem Is.ext {a b : IH} (e : Ext a b) : ∀ (d : PyData) (v : IV), Is a v d → Is b v d := by
  intro d
  have both : (∀ (d : PyData) (v : IV), Is a v d → Is b v d) ∧ (∀ (ds : List PyData) (vs : List IV), IsAll a vs ds → IsAll b vs ds) := by
    constructor
    · intro d v h
      exact Is.rec (motive_1 := fun v d _ => Is b v d) (motive_2 := fun vs ds _ => IsAll b vs ds) .non .bl .int .str (fun h1 h2 _ h3 => .lst (e _ _ h1) h2 h3) (fun h1 h2 _ h3 => .tup (e _ _ h1) h2 h3) .nil (fun _ _ h1 h2 => .cons h1 h2) h
    · intro ds vs h
      exact IsAll.rec (motive_1 := fun v d _ => Is b v d) (motive_2 := fun vs ds _ => IsAll b vs ds) .non .bl .int .str (fun h1 h2 _ h3 => .lst (e _ _ h1) h2 h3) (fun h1 h2 _ h3 => .tup (e _ _ h1) h2 h3) .nil (fun _ _ h1 h2 => .cons h1 h2) h
  exact both.1 d
theorem IsAll.ints (ih : IH) : ∀ ns : List Int, IsAll ih (ns.map IV.int) (ns.map PyData.int)
  | [] => .nil
  | n :: r => .cons (.int n) (IsAll.ints ih r)
theorem Is.ints {ih : IH} {n : Nat} {o : MO} {ns : List Int} (h : ih[n]? = some o) (hl : o.isL = true) (hx : o.xs = ns.map IV.int) : Is ih (.ref n) (.list (ns.map .int)) := .lst h hl (hx ▸ IsAll.ints ih ns)
theorem shaped_int (i : Int) : SeqAt.shaped (.int i) = true := by
  unfold SeqAt.shaped
  simp [PyData.canLay0, PyData.depth]
theorem canLay_ints : ∀ ns : List Int, PyData.canLayAll0 (ns.map PyData.int) = true
  | [] => by simp [PyData.canLayAll0]
  | n :: r => by
    rw [List.map_cons]
    simp [PyData.canLayAll0, PyData.canLay0, canLay_ints r]
theorem depth_ints : ∀ ns : List Int, PyData.depthAll (ns.map PyData.int) = 0
  | [] => by simp [PyData.depthAll]
  | n :: r => by
    rw [List.map_cons]
    simp [PyData.depthAll, PyData.depth, depth_ints r]
theorem shaped_ints (ns : List Int) : SeqAt.shaped (.list (ns.map .int)) = true := by
  unfold SeqAt.shaped
  simp [PyData.canLay0, PyData.depth, canLay_ints, depth_ints]
theorem eqv_ints : ∀ ns ms : List Int, PyData.eqvAll (ns.map .int) (ms.map .int) = decide (ns = ms)
  | [], [] => by simp [PyData.eqvAll]
  | [], _ :: _ => by simp [PyData.eqvAll]
  | _ :: _, [] => by simp [PyData.eqvAll]
  | n :: r, m :: s => by
    rw [List.map_cons, List.map_cons]
    simp only [PyData.eqvAll, PyData.eqv, eqv_ints r s]
    by_cases h : n = m
    · subst h
      simp
    · simp [h]
theorem eqv_list (ns ms : List Int) : PyData.eqv (.list (ns.map .int)) (.list (ms.map .int)) = decide (ns = ms) := by
  simp only [PyData.eqv, eqv_ints]
theorem eqv_same {d : PyData} (h : SeqAt.shaped d = true) : PyData.eqv d d = true := by
  unfold SeqAt.shaped at h
  rw [Bool.and_eq_true] at h
  exact PySem.SeqAt.eqv_refl d h.1
theorem a_eq_int {i j : Int} {ih : IH} : f_eq (.int i) (.int j) ih = .ok (.bl (decide (i = j))) ih := by
  rw [f_eq_of (.int i) (.int j) (shaped_int i) (shaped_int j)]
  simp only [PyData.eqv]
  rfl
theorem a_ne_int {i j : Int} {ih : IH} : f_ne (.int i) (.int j) ih = .ok (.bl (!decide (i = j))) ih := by
  rw [f_ne_of (.int i) (.int j) (shaped_int i) (shaped_int j)]
  simp only [PyData.eqv]
  rfl
/-- equal things: != is False, == is True -/
theorem a_ne_same {x y : IV} {ih : IH} {d : PyData} (h1 : Is ih x d) (h2 : Is ih y d) (s : SeqAt.shaped d = true) : f_ne x y ih = .ok (.bl false) ih := by
  rw [f_ne_of h1 h2 s s, eqv_same s]
  rfl
theorem a_eq_same {x y : IV} {ih : IH} {d : PyData} (h1 : Is ih x d) (h2 : Is ih y d) (s : SeqAt.shaped d = true) : f_eq x y ih = .ok (.bl true) ih := by
  rw [f_eq_of h1 h2 s s, eqv_same s]
end L3
/-! L7: mirrors, run backwards: what is wanted behind a mirror. -/
namespace L3
open PySem PySem.Spec PyProof.Rows L2

abbrev PQ (α : Type) := α → IH → Prop
abbrev EQ := Addr → IH → Prop
abbrev SQ := Fl → IH → Prop
abbrev ES := Addr → Env → IH → Prop
def wp {α : Type} (r : Res α) (Q : PQ α) (E : EQ) : Prop := match r with
  | .ok v ih => Q v ih
  | .exc c ih => E c ih
  | .stuck => False
def ws (r : RS) (Q : SQ) (E : ES) : Prop := match r with
  | .ok f ih => Q f ih
  | .exc c env ih => E c env ih
  | .stuck => False
def E0 : EQ := fun _ _ => False
def S0 : ES := fun _ _ _ => False
def kE (E : ES) (env : Env) : EQ := fun c ih => E c env ih
section
variable {α β : Type} {v : α} {ih : IH} {Q Q' : PQ α} {E E' : EQ} {c : Addr} {r : Res α} {env : Env} {f : Fl} {S : SQ} {F : ES}
theorem wp_ok : wp (.ok v ih) Q E = Q v ih := rfl
theorem wp_exc : wp (.exc c ih) Q E = E c ih := rfl
theorem wp_stuck : wp (.stuck) Q E = False := rfl
theorem ws_ok : ws (.ok f ih) S F = S f ih := rfl
theorem ws_exc : ws (.exc c env ih) S F = F c env ih := rfl
theorem ws_stuck : ws .stuck S F = False := rfl
theorem wp.imp (h : wp r Q E) (q : ∀ v ih, Q v ih → Q' v ih) (e : ∀ c ih, E c ih → E' c ih) : wp r Q' E' := by
  cases r with
  | ok v ih => exact q _ _ h
  | exc c ih => exact e _ _ h
  | stuck => exact h
theorem ws.imp {r : RS} {S' : SQ} {F' : ES} (h : ws r S F) (q : ∀ v ih, S v ih → S' v ih) (e : ∀ c env ih, F c env ih → F' c env ih) : ws r S' F' := by
  cases r with
  | ok v ih => exact q _ _ h
  | exc c env ih => exact e _ _ _ h
  | stuck => exact h
theorem wp_bind {r : Res α} {k : α → IH → Res β} {Q : PQ β} : wp (r.bind k) Q E = wp r (fun v ih => wp (k v ih) Q E) E := by
  cases r <;> rfl
theorem ws_stm {r : Res α} {k : α → IH → RS} : ws (r.stm env k) S F = wp r (fun v ih => ws (k v ih) S F) (kE F env) := by
  cases r <;> rfl
/-- an outcome -/
theorem wp.out (h : wp r Q E0) : ∃ v ih', r = .ok v ih' ∧ Q v ih' := by
  cases r with
  | ok v ih => exact ⟨v, ih, rfl, h⟩
  | exc c ih => exact h.elim
  | stuck => exact h.elim
theorem wp.eq {a : α} {b : IH} (h : wp r (fun v ih' => v = a ∧ ih' = b) E0) : r = .ok a b := by
  obtain ⟨v, ih', e, rfl, rfl⟩ := h.out
  exact e
theorem wp.of {a : α} {b : IH} (h : r = .ok a b) (q : Q a b) : wp r Q E := by
  rw [h]
  exact q
theorem ws.out {r : RS} (h : ws r S S0) : ∃ f ih', r = .ok f ih' ∧ S f ih' := by
  cases r with
  | ok v ih => exact ⟨v, ih, rfl, h⟩
  | exc c env ih => exact h.elim
  | stuck => exact h.elim
end

/-! ### what is left, as constants -/
section
variable {α β γ : Type}
def k_un (f : α → IH → Res β) (Q : PQ β) (E : EQ) : PQ α := fun x ih => wp (f x ih) Q E
def k_op (f : IV → IV → IH → Res IV) (mb : Env → IH → Res IV) (env : Env) (Q : PQ IV) (E : EQ) : PQ IV := fun x ih => wp (mb env ih) (k_un (f x) Q E) E
def k_cons2 (x : IV) (Q : PQ (List IV)) : PQ (List IV) := fun xs ih => Q (x :: xs) ih
def k_cons (mr : Env → IH → Res (List IV)) (env : Env) (Q : PQ (List IV)) (E : EQ) : PQ IV := fun x ih => wp (mr env ih) (k_cons2 x Q) E
def k_if (ma mb : Env → IH → Res α) (env : Env) (Q : PQ α) (E : EQ) : PQ Bool := fun b ih => if b = true then wp (ma env ih) Q E else wp (mb env ih) Q E
def k_and (mb : Env → IH → Res Bool) (env : Env) (Q : PQ Bool) (E : EQ) : PQ Bool := fun b ih => if b = true then wp (mb env ih) Q E else Q false ih
def k_or (mb : Env → IH → Res Bool) (env : Env) (Q : PQ Bool) (E : EQ) : PQ Bool := fun b ih => if b = true then Q true ih else wp (mb env ih) Q E
def k_not (Q : PQ Bool) : PQ Bool := fun b ih => Q (!b) ih
def k_tb (Q : PQ Bool) : PQ IV := fun v ih => match v with
  | .bl b => Q b ih
  | _ => False
def k_andV (mb : Env → IH → Res IV) (env : Env) (Q : PQ IV) (E : EQ) : PQ Bool := fun b ih => if b = true then wp (mb env ih) Q E else Q (.bl false) ih
def k_orV (mb : Env → IH → Res IV) (env : Env) (Q : PQ IV) (E : EQ) : PQ Bool := fun b ih => if b = true then Q (.bl true) ih else wp (mb env ih) Q E
def k_notV (Q : PQ IV) : PQ Bool := fun b ih => Q (.bl !b) ih
def k_some (Q : PQ (Option Int)) : PQ IV := fun v ih => match v with
  | .int i => Q (some i) ih
  | _ => False
def k_sl3 (x : IV) (l : Option Int) (Q : PQ IV) (E : EQ) : PQ (Option Int) := fun h ih => wp (f_sl x l h ih) Q E
def k_sl2 (x : IV) (mh : Env → IH → Res (Option Int)) (env : Env) (Q : PQ IV) (E : EQ) : PQ (Option Int) := fun l ih => wp (mh env ih) (k_sl3 x l Q E) E
def k_sl (ml mh : Env → IH → Res (Option Int)) (env : Env) (Q : PQ IV) (E : EQ) : PQ IV := fun x ih => wp (ml env ih) (k_sl2 x mh env Q E) E
def k_mL2 (f : IV → List IV → IH → Res IV) (x : IV) (Q : PQ IV) (E : EQ) : PQ (List IV) := fun xs ih => wp (f x xs ih) Q E
def k_mL (f : IV → List IV → IH → Res IV) (mr : Env → IH → Res (List IV)) (env : Env) (Q : PQ IV) (E : EQ) : PQ IV := fun x ih => isLst x ih = true ∧ wp (mr env ih) (k_mL2 f x Q E) E
def k_mL0 (f : IV → List IV → IH → Res IV) (Q : PQ IV) (E : EQ) : PQ IV := fun x ih => isLst x ih = true ∧ wp (f x [] ih) Q E
def k_ch3 (g : IV → IV → IH → Res IV) (y : IV) (mc : Env → IH → Res IV) (env : Env) (Q : PQ IV) (E : EQ) : PQ Bool := fun k ih => if k = true then wp (mc env ih) (k_un (g y) Q E) E else Q (.bl false) ih
def k_ch2 (f g : IV → IV → IH → Res IV) (x : IV) (mc : Env → IH → Res IV) (env : Env) (Q : PQ IV) (E : EQ) : PQ IV := fun y ih => wp (f x y ih) (k_tb (k_ch3 g y mc env Q E)) E
def k_ch (f g : IV → IV → IH → Res IV) (mb mc : Env → IH → Res IV) (env : Env) (Q : PQ IV) (E : EQ) : PQ IV := fun x ih => wp (mb env ih) (k_ch2 f g x mc env Q E) E
def ks_set (g : IV → Env → IH → Option Env) (env : Env) (S : SQ) : PQ IV := fun v ih => match g v env ih with
  | some env' => S (.next env') ih
  | none => False
def ks_expr (env : Env) (S : SQ) : PQ IV := fun _ ih => S (.next env) ih
def ks_ret (S : SQ) : PQ IV := fun v ih => S (.ret v) ih
def ks_if (ma mb : Env → IH → RS) (env : Env) (S : SQ) (F : ES) : PQ Bool := fun b ih => if b = true then ws (ma env ih) S F else ws (mb env ih) S F
def ks_seq (mb : Env → IH → RS) (S : SQ) (F : ES) : SQ := fun f ih => match f with
  | .next env => ws (mb env ih) S F
  | z => S z ih
def ks_aug2 (i : Nat) (env : Env) (S : SQ) : PQ IV := fun z ih => S (.next (env.set i (some z))) ih
def ks_aug (i : Nat) (f : IV → IV → IH → Res IV) (x : IV) (env : Env) (S : SQ) (F : ES) : PQ IV := fun y ih => wp (f x y ih) (ks_aug2 i env S) (kE F env)
def ks_par (i j : Nat) (env : Env) (S : SQ) : PQ (List IV) := fun vs ih => match vs with
  | [v, w] => S (.next ((env.set i (some v)).set j (some w))) ih
  | _ => False
def ks_sl4 (o i v : IV) (env : Env) (S : SQ) (ih : IH) : Prop := match f_setL o i v ih with
  | some ih4 => S (.next env) ih4
  | none => False
def ks_sl3 (v o : IV) (env : Env) (S : SQ) : PQ IV := fun i ih => ks_sl4 o i v env S ih
def ks_sl2 (v : IV) (mi : Env → IH → Res IV) (env : Env) (S : SQ) (F : ES) : PQ IV := fun o ih => wp (mi env ih) (ks_sl3 v o env S) (kE F env)
def ks_sl (mo mi : Env → IH → Res IV) (env : Env) (S : SQ) (F : ES) : PQ IV := fun v ih => wp (mo env ih) (ks_sl2 v mi env S F) (kE F env)
def kd (Q : PQ IV) : SQ := fun f ih => match f with
  | .ret v => Q v ih
  | .next _ => Q .non ih
  | _ => False
def kdE (E : EQ) : ES := fun c _ ih => E c ih
/-- of a source: the loop -/
def ks_for (g : IV → Env → IH → Option Env) (mb : Env → IH → RS) (env : Env) (S : SQ) (F : ES) : PQ Src := fun s ih => ws (forGo s g mb (s.size ih + 1) 0 env ih) S F
def k_lc (vs : List Nat) (g : IV → Env → IH → Option Env) (n : Env → IH → Res Bool) (me : Env → IH → Res IV) (env : Env) (Q : PQ IV) (E : EQ) : PQ Src := fun s ih => wp (lcGo s g n me ih.length (wipeI env vs) (s.size ih + 1) 0 (ih ++ [.lst []])) Q E
def k_r1 (Q : PQ Src) : PQ (List IV) := fun vs ih => match vs with
  | [.int j] => smallI j = true ∧ Q (.rng 0 1 j.toNat) ih
  | _ => False
def k_r2 (Q : PQ Src) : PQ (List IV) := fun vs ih => match vs with
  | [.int i, .int j] => (smallI i = true ∧ smallI j = true) ∧ Q (.rng i 1 (j - i).toNat) ih
  | _ => False
def k_il2 (n : Nat) (Q : PQ Src) (ih : IH) : Option (List IV) → Prop
  | some _ => Q (.lst n) ih
  | none => False
def k_il (Q : PQ Src) : PQ IV := fun v ih => match v with
  | .ref n => k_il2 n Q ih (lAt ih n true)
  | _ => False
def k_it2 (n : Nat) (Q : PQ Src) (ih : IH) : Option (List IV) → Prop
  | some _ => Q (.tup n) ih
  | none => False
def k_it (Q : PQ Src) : PQ IV := fun v ih => match v with
  | .ref n => k_it2 n Q ih (lAt ih n false)
  | _ => False
def k_ie2 (n : Nat) (Q : PQ Src) (ih : IH) : Option (List IV) → Prop
  | some _ => Q (.enm n) ih
  | none => False
def k_ie (Q : PQ Src) : PQ (List IV) := fun v ih => match v with
  | [.ref n] => k_ie2 n Q ih (lAt ih n true)
  | _ => False
def k_iz2 (n k : Nat) (Q : PQ Src) (ih : IH) : Option (List IV) → Option (List IV) → Prop
  | some _, some _ => Q (.zip n k) ih
  | _, _ => False
def k_iz (Q : PQ Src) : PQ (List IV) := fun v ih => match v with
  | [.ref n, .ref k] => k_iz2 n k Q ih (lAt ih n true) (lAt ih k true)
  | _ => False
/-- reading at a place -/
def k_ix2 (Q : PQ IV) (ih : IH) : Option IV → Prop
  | some v => Q v ih
  | none => False
def k_ix (i : Int) (Q : PQ IV) (ih : IH) : Option MO → Prop
  | some o => k_ix2 Q ih (atI o.xs i)
  | none => False
def k_len (Q : PQ IV) (ih : IH) : Option MO → Prop
  | some .dct => False
  | some (.dk _) => False
  | some .clo => False
  | some o => Q (.int o.xs.length) ih
  | none => False
def k_app1 (n : Nat) (y : IV) (Q : PQ IV) (ih : IH) : Option MO → Prop
  | some (.lst xs) => xs.length < 100000 ∧ Q .non (ih.set n (.lst (xs ++ [y])))
  | _ => False
def k_setL (n : Nat) (i : Int) (v : IV) (env : Env) (S : SQ) (ih : IH) : Option MO → Prop
  | some (.lst xs) => match ixN xs.length i with
    | some j => S (.next env) (ih.set n (.lst (xs.set j v)))
    | none => False
  | _ => False
end

/-! ### the steps -/
section
variable {α β : Type} {ma mb mc mr2 : Env → IH → Res IV} {mt nb : Env → IH → Res Bool} {mr : Env → IH → Res (List IV)} {ml mh : Env → IH → Res (Option Int)} {sa sb : Env → IH → RS} {env env' : Env} {ih ih' : IH} {Q : PQ IV} {QB : PQ Bool} {QL : PQ (List IV)} {QO : PQ (Option Int)} {QS : PQ Src} {E : EQ} {S : SQ} {F : ES} {f g : IV → IV → IH → Res IV} {x y v w : IV} {xs : List IV} {i j : Int} {n m : Nat} {b : Bool} {p q : Prop} {o : MO} {c : Addr}
theorem wp_op : wp (m_op f ma mb env ih) Q E = wp (ma env ih) (k_op f mb env Q E) E := by
  unfold m_op
  rw [wp_bind]
  simp only [wp_bind]
  rfl
theorem kk_op : k_op f mb env Q E x ih = wp (mb env ih) (k_un (f x) Q E) E := rfl
theorem kk_un {f : α → IH → Res β} {Q : PQ β} {x : α} : k_un f Q E x ih = wp (f x ih) Q E := rfl
theorem wp_un {f : IV → IH → Res IV} : wp (m_un f ma env ih) Q E = wp (ma env ih) (k_un f Q E) E := by
  unfold m_un
  rw [wp_bind]
  rfl
theorem wp_cons : wp (m_cons ma mr env ih) QL E = wp (ma env ih) (k_cons mr env QL E) E := by
  unfold m_cons
  rw [wp_bind]
  simp only [wp_bind]
  rfl
theorem kk_cons : k_cons mr env QL E x ih = wp (mr env ih) (k_cons2 x QL) E := rfl
theorem kk_cons2 : k_cons2 x QL xs ih = QL (x :: xs) ih := rfl
theorem wp_nil : wp (m_nil env ih) QL E = QL [] ih := rfl
theorem wp_c : wp (m_c v env ih) Q E = Q v ih := rfl
theorem wp_app {f : List IV → IH → Res IV} : wp (m_app f mr env ih) Q E = wp (mr env ih) (k_un f Q E) E := by
  unfold m_app
  rw [wp_bind]
  rfl
theorem wp_if : wp (m_if mt ma mb env ih) Q E = wp (mt env ih) (k_if ma mb env Q E) E := by
  unfold m_if
  rw [wp_bind]
  congr 1
  funext b ih
  cases b <;> rfl
theorem kk_if1 {ma mb : Env → IH → Res α} {Q : PQ α} : k_if ma mb env Q E true ih = wp (ma env ih) Q E := rfl
theorem kk_if0 {ma mb : Env → IH → Res α} {Q : PQ α} : k_if ma mb env Q E false ih = wp (mb env ih) Q E := rfl
theorem wp_and : wp (m_and mt nb env ih) QB E = wp (mt env ih) (k_and nb env QB E) E := by
  unfold m_and
  rw [wp_bind]
  congr 1
  funext b ih
  cases b <;> rfl
theorem kk_and1 : k_and nb env QB E true ih = wp (nb env ih) QB E := rfl
theorem kk_and0 : k_and nb env QB E false ih = QB false ih := rfl
theorem wp_or : wp (m_or mt nb env ih) QB E = wp (mt env ih) (k_or nb env QB E) E := by
  unfold m_or
  rw [wp_bind]
  congr 1
  funext b ih
  cases b <;> rfl
theorem kk_or1 : k_or nb env QB E true ih = QB true ih := rfl
theorem kk_or0 : k_or nb env QB E false ih = wp (nb env ih) QB E := rfl
theorem wp_not : wp (m_not mt env ih) QB E = wp (mt env ih) (k_not QB) E := by
  unfold m_not
  rw [wp_bind]
  rfl
theorem kk_not : k_not QB b ih = QB (!b) ih := rfl
theorem wp_tb : wp (m_tb ma env ih) QB E = wp (ma env ih) (k_tb QB) E := by
  unfold m_tb
  rw [wp_bind]
  congr 1
  funext v ih
  cases v <;> rfl
theorem kk_tb : k_tb QB (.bl b) ih = QB b ih := rfl
theorem wp_andV : wp (m_andV ma mb env ih) Q E = wp (ma env ih) (k_tb (k_andV mb env Q E)) E := by
  unfold m_andV
  rw [wp_bind]
  congr 1
  funext v ih
  cases v with
  | bl b => cases b <;> rfl
  | _ => rfl
theorem kk_andV1 : k_andV mb env Q E true ih = wp (mb env ih) Q E := rfl
theorem kk_andV0 : k_andV mb env Q E false ih = Q (.bl false) ih := rfl
theorem wp_orV : wp (m_orV ma mb env ih) Q E = wp (ma env ih) (k_tb (k_orV mb env Q E)) E := by
  unfold m_orV
  rw [wp_bind]
  congr 1
  funext v ih
  cases v with
  | bl b => cases b <;> rfl
  | _ => rfl
theorem kk_orV1 : k_orV mb env Q E true ih = Q (.bl true) ih := rfl
theorem kk_orV0 : k_orV mb env Q E false ih = wp (mb env ih) Q E := rfl
theorem wp_notV : wp (m_notV ma env ih) Q E = wp (ma env ih) (k_tb (k_notV Q)) E := by
  unfold m_notV
  rw [wp_bind]
  congr 1
  funext v ih
  cases v <;> rfl
theorem kk_notV : k_notV Q b ih = Q (.bl !b) ih := rfl
theorem wp_noneS : wp (m_none env ih) QO E = QO none ih := rfl
theorem wp_some : wp (m_some ma env ih) QO E = wp (ma env ih) (k_some QO) E := by
  unfold m_some
  rw [wp_bind]
  congr 1
  funext v ih
  cases v <;> rfl
theorem kk_some : k_some QO (.int i) ih = QO (some i) ih := rfl
theorem wp_sl : wp (m_sl ma ml mh env ih) Q E = wp (ma env ih) (k_sl ml mh env Q E) E := by
  unfold m_sl
  rw [wp_bind]
  simp only [wp_bind]
  rfl
theorem kk_sl : k_sl ml mh env Q E x ih = wp (ml env ih) (k_sl2 x mh env Q E) E := rfl
theorem kk_sl2 {l : Option Int} : k_sl2 x mh env Q E l ih = wp (mh env ih) (k_sl3 x l Q E) E := rfl
theorem kk_sl3 {l h : Option Int} : k_sl3 x l Q E h ih = wp (f_sl x l h ih) Q E := rfl
theorem wp_mL {f : IV → List IV → IH → Res IV} : wp (m_mL f ma mr env ih) Q E = wp (ma env ih) (k_mL f mr env Q E) E := by
  unfold m_mL
  rw [wp_bind]
  congr 1
  funext v ih
  unfold k_mL
  by_cases h : isLst v ih = true
  · rw [if_pos h, wp_bind, eq_true h, true_and]
    rfl
  · rw [if_neg h, eq_false h, false_and]
    rfl
theorem kk_mL {f : IV → List IV → IH → Res IV} : k_mL f mr env Q E x ih = (isLst x ih = true ∧ wp (mr env ih) (k_mL2 f x Q E) E) := rfl
theorem kk_mL2 {f : IV → List IV → IH → Res IV} : k_mL2 f x Q E xs ih = wp (f x xs ih) Q E := rfl
theorem wp_mL0 {f : IV → List IV → IH → Res IV} : wp (m_mL0 f ma env ih) Q E = wp (ma env ih) (k_mL0 f Q E) E := by
  unfold m_mL0
  rw [wp_bind]
  congr 1
  funext v ih
  unfold k_mL0
  by_cases h : isLst v ih = true
  · rw [if_pos h, eq_true h, true_and]
  · rw [if_neg h, eq_false h, false_and]
    rfl
theorem kk_mL0 {f : IV → List IV → IH → Res IV} : k_mL0 f Q E x ih = (isLst x ih = true ∧ wp (f x [] ih) Q E) := rfl
theorem wp_chain : wp (m_chain f g ma mb mc env ih) Q E = wp (ma env ih) (k_ch f g mb mc env Q E) E := by
  unfold m_chain
  rw [wp_bind]
  congr 1
  funext x ih
  rw [wp_bind]
  unfold k_ch
  congr 1
  funext y ih
  rw [wp_bind]
  unfold k_ch2
  congr 1
  funext z ih
  cases z with
  | bl k =>
    cases k with
    | true =>
      show wp (if true = true then (mc env ih).bind _ else _) Q E = _
      rw [if_pos rfl, wp_bind]
      rfl
    | false => rfl
  | _ => rfl
theorem kk_ch : k_ch f g mb mc env Q E x ih = wp (mb env ih) (k_ch2 f g x mc env Q E) E := rfl
theorem kk_ch2 : k_ch2 f g x mc env Q E y ih = wp (f x y ih) (k_tb (k_ch3 g y mc env Q E)) E := rfl
theorem kk_ch31 : k_ch3 g y mc env Q E true ih = wp (mc env ih) (k_un (g y) Q E) E := rfl
theorem kk_ch30 : k_ch3 g y mc env Q E false ih = Q (.bl false) ih := rfl
-- statements
theorem ws_set {g : IV → Env → IH → Option Env} : ws (ms_set g ma env ih) S F = wp (ma env ih) (ks_set g env S) (kE F env) := by
  unfold ms_set
  rw [ws_stm]
  congr 1
  funext v ih
  unfold ks_set
  cases g v env ih <;> rfl
theorem kks_nm : ks_set (g_nm n) env S v ih = S (.next (env.set n (some v))) ih := rfl
def ks_g (S : SQ) (ih : IH) : Option Env → Prop
  | some env => S (.next env) ih
  | none => False
theorem kks_g {S : SQ} {env : Env} : ks_g S ih (some env) = S (.next env) ih := rfl
theorem kks_tup {f : List IV → Env → IH → Option Env} : ks_set (g_tup n f) env S v ih = ks_g S ih (g_tup n f v env ih) := by
  unfold ks_set
  cases g_tup n f v env ih <;> rfl
theorem kks_lst {f : List IV → Env → IH → Option Env} : ks_set (g_lst n f) env S v ih = ks_g S ih (g_lst n f v env ih) := by
  unfold ks_set
  cases g_lst n f v env ih <;> rfl
theorem ws_expr : ws (ms_expr ma env ih) S F = wp (ma env ih) (ks_expr env S) (kE F env) := by
  unfold ms_expr
  rw [ws_stm]
  rfl
theorem kks_expr : ks_expr env S v ih = S (.next env) ih := rfl
theorem ws_ret : ws (ms_ret ma env ih) S F = wp (ma env ih) (ks_ret S) (kE F env) := by
  unfold ms_ret
  rw [ws_stm]
  rfl
theorem kks_ret : ks_ret S v ih = S (.ret v) ih := rfl
theorem ws_retN : ws (ms_retN env ih) S F = S (.ret .non) ih := rfl
theorem ws_pass : ws (ms_pass env ih) S F = S (.next env) ih := rfl
theorem ws_brk : ws (ms_brk env ih) S F = S (.brk env) ih := rfl
theorem ws_cont : ws (ms_cont env ih) S F = S (.cont env) ih := rfl
theorem ws_raise : ws (ms_raise c env ih) S F = F c env ih := rfl
theorem ws_if : ws (ms_if mt sa sb env ih) S F = wp (mt env ih) (ks_if sa sb env S F) (kE F env) := by
  unfold ms_if
  rw [ws_stm]
  congr 1
  funext b ih
  cases b <;> rfl
theorem kks_if1 : ks_if sa sb env S F true ih = ws (sa env ih) S F := rfl
theorem kks_if0 : ks_if sa sb env S F false ih = ws (sb env ih) S F := rfl
theorem ws_seq : ws (ms_seq sa sb env ih) S F = ws (sa env ih) (ks_seq sb S F) F := by
  unfold ms_seq
  cases sa env ih with
  | ok f ih =>
    cases f <;> rfl
  | exc c env ih => rfl
  | stuck => rfl
theorem kks_next : ks_seq sb S F (.next env) ih = ws (sb env ih) S F := rfl
theorem kks_retS : ks_seq sb S F (.ret v) ih = S (.ret v) ih := rfl
theorem kks_brk : ks_seq sb S F (.brk env) ih = S (.brk env) ih := rfl
theorem kks_cont : ks_seq sb S F (.cont env) ih = S (.cont env) ih := rfl
def k_augE (i : Nat) (f : IV → IV → IH → Res IV) (m : Env → IH → Res IV) (env : Env) (ih : IH) (S : SQ) (F : ES) : Option (Option IV) → Prop
  | some (some x) => wp (m env ih) (ks_aug i f x env S F) (kE F env)
  | _ => False
theorem kk_augE : k_augE n f ma env ih S F (some (some x)) = wp (ma env ih) (ks_aug n f x env S F) (kE F env) := rfl
theorem ws_aug : ws (ms_aug n f ma env ih) S F = k_augE n f ma env ih S F env[n]? := by
  unfold ms_aug
  cases e : env[n]? with
  | none => rfl
  | some a =>
    cases a with
    | none => rfl
    | some x =>
      show ws ((ma env ih).stm env _) S F = _
      rw [ws_stm]
      simp only [ws_stm]
      rfl
theorem kks_aug : ks_aug n f x env S F y ih = wp (f x y ih) (ks_aug2 n env S) (kE F env) := rfl
theorem kks_aug2 : ks_aug2 n env S v ih = S (.next (env.set n (some v))) ih := rfl
theorem ws_par : ws (ms_par n m mr env ih) S F = wp (mr env ih) (ks_par n m env S) (kE F env) := by
  unfold ms_par
  rw [ws_stm]
  congr 1
  funext vs ih
  rcases vs with _ | ⟨a, _ | ⟨z, _ | ⟨y, r⟩⟩⟩ <;> rfl
theorem kks_par : ks_par n m env S [v, w] ih = S (.next ((env.set n (some v)).set m (some w))) ih := rfl
theorem ws_setL {m mo mi : Env → IH → Res IV} : ws (ms_setL m mo mi env ih) S F = wp (m env ih) (ks_sl mo mi env S F) (kE F env) := by
  unfold ms_setL
  rw [ws_stm]
  congr 1
  funext v ih
  rw [ws_stm]
  unfold ks_sl
  congr 1
  funext o ih
  rw [ws_stm]
  unfold ks_sl2
  congr 1
  funext i ih
  unfold ks_sl3 ks_sl4
  cases f_setL o i v ih <;> rfl
theorem kks_sl {mo mi : Env → IH → Res IV} : ks_sl mo mi env S F v ih = wp (mo env ih) (ks_sl2 v mi env S F) (kE F env) := rfl
theorem kks_sl2 {mi : Env → IH → Res IV} : ks_sl2 v mi env S F w ih = wp (mi env ih) (ks_sl3 v w env S) (kE F env) := rfl
theorem kks_sl3 : ks_sl3 v (.ref n) env S (.int i) ih = k_setL n i v env S ih ih[n]? := by
  unfold ks_sl3 ks_sl4 f_setL k_setL
  dsimp only
  cases ih[n]? with
  | none => rfl
  | some o =>
    cases o with
    | lst xs =>
      dsimp only
      cases ixN xs.length i <;> rfl
    | _ => rfl
theorem kk_setL : k_setL n i v env S ih (some (.lst xs)) = k_setL n i v env S ih (some (.lst xs)) := rfl
theorem wp_def {sm : Env → IH → RS} : wp (defRun n sm xs ih) Q E = ws (sm (startI n xs) ih) (kd Q) (kdE E) := by
  unfold defRun
  cases sm (startI n xs) ih with
  | ok f ih =>
    cases f <;> rfl
  | exc c env ih => rfl
  | stuck => rfl
theorem kkd_ret : kd Q (.ret v) ih = Q v ih := rfl
theorem kkd_next : kd Q (.next env) ih = Q .non ih := rfl
theorem kkdE : kdE E c env ih = E c ih := rfl
theorem kkE : kE F env c ih = F c env ih := rfl
-- loops
theorem ws_for {mi : Env → IH → Res Src} {g : IV → Env → IH → Option Env} : ws (ms_for mi g sa env ih) S F = wp (mi env ih) (ks_for g sa env S F) (kE F env) := by
  unfold ms_for
  rw [ws_stm]
  rfl
theorem wp_lc {vs : List Nat} {mi : Env → IH → Res Src} {g : IV → Env → IH → Option Env} : wp (m_lc vs mi g mt ma env ih) Q E = wp (mi env ih) (k_lc vs g mt ma env Q E) E := by
  unfold m_lc
  rw [wp_bind]
  rfl
theorem wp_r1 : wp (mi_rng1 mr env ih) QS E = wp (mr env ih) (k_r1 QS) E := by
  unfold mi_rng1
  rw [wp_bind]
  congr 1
  funext vs ih
  rcases vs with _ | ⟨a, _ | ⟨z, r⟩⟩
  · rfl
  · cases a with
    | int j =>
      show wp (if smallI j = true then _ else _) QS E = (smallI j = true ∧ _)
      by_cases h : smallI j = true
      · rw [if_pos h, eq_true h, true_and]
        rfl
      · rw [if_neg h, eq_false h, false_and]
        rfl
    | _ => rfl
  · cases a <;> rfl
theorem kk_r1 : k_r1 QS [.int j] ih = (smallI j = true ∧ QS (.rng 0 1 j.toNat) ih) := rfl
theorem wp_r2 : wp (mi_rng2 mr env ih) QS E = wp (mr env ih) (k_r2 QS) E := by
  unfold mi_rng2
  rw [wp_bind]
  congr 1
  funext vs ih
  rcases vs with _ | ⟨a, _ | ⟨z, _ | ⟨y, r⟩⟩⟩
  · rfl
  · cases a <;> rfl
  · cases a with
    | int i =>
      cases z with
      | int j =>
        show wp (if smallI i = true ∧ smallI j = true then _ else _) QS E = ((smallI i = true ∧ smallI j = true) ∧ _)
        by_cases h : smallI i = true ∧ smallI j = true
        · rw [if_pos h, eq_true h, true_and]
          rfl
        · rw [if_neg h, eq_false h, false_and]
          rfl
      | _ => rfl
    | _ => rfl
  · cases a <;> cases z <;> rfl
theorem kk_r2 : k_r2 QS [.int i, .int j] ih = ((smallI i = true ∧ smallI j = true) ∧ QS (.rng i 1 (j - i).toNat) ih) := rfl
def k_r3 (Q : PQ Src) : PQ (List IV) := fun vs ih => match vs with
  | [.int i, .int j, .int k] => (k = -1 ∧ smallI i = true ∧ smallI j = true) ∧ Q (.rng i (-1) (i - j).toNat) ih
  | _ => False
theorem wp_r3 : wp (mi_rng3 mr env ih) QS E = wp (mr env ih) (k_r3 QS) E := by
  unfold mi_rng3
  rw [wp_bind]
  congr 1
  funext vs ih
  rcases vs with _ | ⟨a, _ | ⟨z, _ | ⟨y, _ | ⟨x, r⟩⟩⟩⟩
  · rfl
  · cases a <;> rfl
  · cases a <;> cases z <;> rfl
  · cases a with
    | int i =>
      cases z with
      | int j =>
        cases y with
        | int k =>
          show wp (if k = -1 ∧ smallI i = true ∧ smallI j = true then _ else _) QS E = ((k = -1 ∧ smallI i = true ∧ smallI j = true) ∧ _)
          by_cases h : k = -1 ∧ smallI i = true ∧ smallI j = true
          · rw [if_pos h, eq_true h, true_and]
            rfl
          · rw [if_neg h, eq_false h, false_and]
            rfl
        | _ => rfl
      | _ => rfl
    | _ => rfl
  · cases a <;> cases z <;> cases y <;> rfl
theorem kk_r3 {k : Int} : k_r3 QS [.int i, .int j, .int k] ih = ((k = -1 ∧ smallI i = true ∧ smallI j = true) ∧ ∀ n, n = (i - j).toNat → QS (.rng i (-1) n) ih) := by
  rw [forall_eq]
  rfl
theorem wp_il : wp (mi_lst ma env ih) QS E = wp (ma env ih) (k_il QS) E := by
  unfold mi_lst
  rw [wp_bind]
  congr 1
  funext v ih
  cases v with
  | ref n =>
    show wp (match lAt ih n true with
      | some _ => _
      | none => _) QS E = k_il2 n QS ih (lAt ih n true)
    cases lAt ih n true <;> rfl
  | _ => rfl
theorem wp_it : wp (mi_tup ma env ih) QS E = wp (ma env ih) (k_it QS) E := by
  unfold mi_tup
  rw [wp_bind]
  congr 1
  funext v ih
  cases v with
  | ref n =>
    show wp (match lAt ih n false with
      | some _ => _
      | none => _) QS E = k_it2 n QS ih (lAt ih n false)
    cases lAt ih n false <;> rfl
  | _ => rfl
theorem wp_ie : wp (mi_enm mr env ih) QS E = wp (mr env ih) (k_ie QS) E := by
  unfold mi_enm
  rw [wp_bind]
  congr 1
  funext v ih
  rcases v with _ | ⟨a, _ | ⟨z, r⟩⟩
  · rfl
  · cases a with
    | ref n =>
      show wp (match lAt ih n true with
        | some _ => _
        | none => _) QS E = k_ie2 n QS ih (lAt ih n true)
      cases lAt ih n true <;> rfl
    | _ => rfl
  · cases a <;> rfl
theorem wp_iz : wp (mi_zip mr env ih) QS E = wp (mr env ih) (k_iz QS) E := by
  unfold mi_zip
  rw [wp_bind]
  congr 1
  funext v ih
  rcases v with _ | ⟨a, _ | ⟨z, _ | ⟨y, r⟩⟩⟩
  · rfl
  · cases a <;> rfl
  · cases a with
    | ref n =>
      cases z with
      | ref k =>
        show wp (match lAt ih n true, lAt ih k true with
          | some _, some _ => _
          | _, _ => _) QS E = k_iz2 n k QS ih (lAt ih n true) (lAt ih k true)
        cases lAt ih n true <;> cases lAt ih k true <;> rfl
      | _ => rfl
    | _ => rfl
  · cases a <;> cases z <;> rfl
theorem kk_il : k_il QS (.ref n) ih = k_il2 n QS ih (lAt ih n true) := rfl
theorem kk_il2 : k_il2 n QS ih (some xs) = QS (.lst n) ih := rfl
theorem kk_it : k_it QS (.ref n) ih = k_it2 n QS ih (lAt ih n false) := rfl
theorem kk_it2 : k_it2 n QS ih (some xs) = QS (.tup n) ih := rfl
theorem kk_ie : k_ie QS [.ref n] ih = k_ie2 n QS ih (lAt ih n true) := rfl
theorem kk_ie2 : k_ie2 n QS ih (some xs) = QS (.enm n) ih := rfl
theorem kk_iz : k_iz QS [.ref n, .ref m] ih = k_iz2 n m QS ih (lAt ih n true) (lAt ih m true) := rfl
theorem kk_iz2 {ys : List IV} : k_iz2 n m QS ih (some xs) (some ys) = QS (.zip n m) ih := rfl
def k_lAt (l : Bool) : Option MO → Option (List IV)
  | some o => if o.isK l = true then some o.xs else none
  | none => none
theorem lAt_k {l : Bool} : lAt ih n l = k_lAt l ih[n]? := by
  unfold lAt k_lAt
  cases ih[n]? <;> rfl
theorem k_lAtL : k_lAt true (some (.lst xs)) = some xs := rfl
theorem k_lAtO : k_lAt true (some (.ro xs)) = some xs := rfl
theorem k_lAtT : k_lAt false (some (.tup xs)) = some xs := rfl
-- operations
theorem wp_int : wp (f_int [.int i] ih) Q E = Q (.int i) ih := rfl
theorem wp_add : wp (f_add (.int i) (.int j) ih) Q E = Q (.int (i + j)) ih := rfl
theorem wp_addI : wp (f_addI (.int i) (.int j) ih) Q E = Q (.int (i + j)) ih := rfl
theorem wp_sub : wp (f_sub (.int i) (.int j) ih) Q E = Q (.int (i - j)) ih := rfl
theorem wp_neg : wp (f_neg (.int i) ih) Q E = Q (.int (-i)) ih := rfl
theorem wp_lt : wp (f_lt (.int i) (.int j) ih) Q E = Q (.bl (decide (i < j))) ih := rfl
theorem wp_le : wp (f_le (.int i) (.int j) ih) Q E = Q (.bl (decide (i ≤ j))) ih := rfl
theorem wp_gt : wp (f_gt (.int i) (.int j) ih) Q E = Q (.bl (decide (j < i))) ih := rfl
theorem wp_ge : wp (f_ge (.int i) (.int j) ih) Q E = Q (.bl (decide (j ≤ i))) ih := rfl
theorem wp_max2 : wp (f_max2 [.int i, .int j] ih) Q E = Q (.int (if j > i then j else i)) ih := rfl
theorem wp_min2 : wp (f_min2 [.int i, .int j] ih) Q E = Q (.int (if j < i then j else i)) ih := rfl
theorem wp_abs : wp (f_abs [.int i] ih) Q E = Q (.int (if i < 0 then -i else i)) ih := rfl
theorem wp_I {C : Int → Int → Bool} {g : Int → Int → IV} : wp (f_I C g (.int i) (.int j) ih) Q E = (C i j = true ∧ Q (g i j) ih) := by
  unfold f_I
  dsimp only
  by_cases h : C i j = true
  · rw [if_pos h, eq_true h, true_and]
    rfl
  · rw [if_neg h, eq_false h, false_and]
    rfl
theorem wp_mulI : wp (f_mul (.int i) (.int j) ih) Q E = (cMul i j = true ∧ Q (.int (i * j)) ih) := wp_I
theorem wp_mul : wp (f_mulA (.int i) (.int j) ih) Q E = (cMul i j = true ∧ Q (.int (i * j)) ih) := by
  show wp (if cMul i j = true then _ else _) Q E = _
  by_cases h : cMul i j = true
  · rw [if_pos h, eq_true h, true_and]
    rfl
  · rw [if_neg h, eq_false h, false_and]
    rfl
theorem wp_fdiv : wp (f_fdiv (.int i) (.int j) ih) Q E = (cDiv i j = true ∧ Q (.int (i / j)) ih) := wp_I
theorem wp_mod : wp (f_mod (.int i) (.int j) ih) Q E = (0 < j ∧ Q (.int (i % j)) ih) := by
  refine wp_I.trans ?_
  unfold cMod
  rw [decide_eq_true_eq]
theorem wp_shl : wp (f_shl (.int i) (.int j) ih) Q E = (cShl i j = true ∧ Q (.int (i * 2 ^ j.toNat)) ih) := wp_I
theorem wp_shr : wp (f_shr (.int i) (.int j) ih) Q E = (0 ≤ j ∧ Q (.int (i / 2 ^ j.toNat)) ih) := by
  refine wp_I.trans ?_
  unfold cShr
  rw [decide_eq_true_eq]
theorem wp_pow : wp (f_pow (.int i) (.int j) ih) Q E = (cPow i j = true ∧ Q (.int (i ^ j.toNat)) ih) := wp_I
theorem wp_isN : wp (f_isN x .non ih) Q E = Q (.bl (decide (x = .non))) ih := rfl
theorem wp_notN : wp (f_notN x .non ih) Q E = Q (.bl (!decide (x = .non))) ih := rfl
theorem wp_eqI : wp (f_eq (.int i) (.int j) ih) Q E = Q (.bl (decide (i = j))) ih := by
  rw [a_eq_int]
  rfl
theorem wp_neI : wp (f_ne (.int i) (.int j) ih) Q E = Q (.bl (!decide (i = j))) ih := by
  rw [a_ne_int]
  rfl
theorem wp_ix : wp (f_ix (.ref n) (.int i) ih) Q E = k_ix i Q ih ih[n]? := by
  unfold f_ix
  dsimp only
  cases ih[n]? with
  | none => rfl
  | some o =>
    show wp (match atI o.xs i with
      | some v => _
      | none => _) Q E = k_ix2 Q ih (atI o.xs i)
    cases atI o.xs i <;> rfl
theorem kk_ix : k_ix i Q ih (some o) = k_ix2 Q ih (atI o.xs i) := rfl
theorem kk_ix2 : k_ix2 Q ih (some v) = Q v ih := rfl
theorem wp_len : wp (f_len [.ref n] ih) Q E = k_len Q ih ih[n]? := by
  unfold f_len
  dsimp only
  cases ih[n]? with
  | none => rfl
  | some o => cases o <;> rfl
theorem kk_lenL : k_len Q ih (some (.lst xs)) = Q (.int xs.length) ih := rfl
theorem kk_lenT : k_len Q ih (some (.tup xs)) = Q (.int xs.length) ih := rfl
theorem kk_lenO : k_len Q ih (some (.ro xs)) = Q (.int xs.length) ih := rfl
theorem kk_lenP : k_len Q ih (some (.rot xs)) = Q (.int xs.length) ih := rfl
theorem wp_appd : wp (f_append (.ref n) [y] ih) Q E = k_app1 n y Q ih ih[n]? := by
  unfold f_append
  dsimp only
  cases ih[n]? with
  | none => rfl
  | some o =>
    cases o with
    | lst xs =>
      show wp (if xs.length < 100000 then _ else _) Q E = (xs.length < 100000 ∧ _)
      by_cases h : xs.length < 100000
      · rw [if_pos h, eq_true h, true_and]
        rfl
      · rw [if_neg h, eq_false h, false_and]
        rfl
    | _ => rfl
theorem kk_app1 : k_app1 n y Q ih (some (.lst xs)) = (xs.length < 100000 ∧ Q .non (ih.set n (.lst (xs ++ [y])))) := rfl
def k_isL : Option MO → Bool
  | some o => o.isL
  | none => false
theorem isL_k : isLst (.ref n) ih = k_isL ih[n]? := by
  show (match ih[n]? with
    | some o => o.isL
    | none => false) = k_isL ih[n]?
  cases ih[n]? <;> rfl
theorem kk_isL : k_isL (some o) = o.isL := rfl
-- by hand: new objects
theorem wp_lst (hl : xs.length ≤ 100000) (k : Q (.ref ih.length) (ih ++ [.lst xs])) : wp (f_lst xs ih) Q E := by
  rw [a_lst hl]
  exact k
theorem wp_tup (hl : xs.length ≤ 100000) (k : Q (.ref ih.length) (ih ++ [.tup xs])) : wp (f_tup xs ih) Q E := by
  rw [a_tup hl]
  exact k
theorem wp_list (h : ih[n]? = some o) (k : Q (.ref ih.length) (ih ++ [.lst o.xs])) (hd : o.isS = true := by rfl) : wp (f_list [.ref n] ih) Q E := by
  rw [a_list h hd]
  exact k
/-- a choice out of a list -/
theorem wp_pick (h : ih[n]? = some o) (h0 : 0 ≤ i) (h1 : i < (o.xs.length : Int)) (k : ∀ v ∈ o.xs, Q v ih) : wp (f_ix (.ref n) (.int i) ih) Q E := by
  obtain ⟨m, rfl⟩ := Int.eq_ofNat_of_zero_le h0
  have hm : m < o.xs.length := by omega
  rw [a_ix h (v := o.xs[m]) (by rw [atI_nn]; exact List.getElem?_eq_getElem hm)]
  exact k _ (List.getElem_mem hm)
theorem wp_eq {d e : PyData} (h1 : Is ih x d) (h2 : Is ih y e) (s1 : SeqAt.shaped d = true) (s2 : SeqAt.shaped e = true) (k : Q (.bl (PyData.eqv d e)) ih) : wp (f_eq x y ih) Q E := by
  rw [f_eq_of h1 h2 s1 s2]
  exact k
theorem wp_ne {d e : PyData} (h1 : Is ih x d) (h2 : Is ih y e) (s1 : SeqAt.shaped d = true) (s2 : SeqAt.shaped e = true) (k : Q (.bl (!PyData.eqv d e)) ih) : wp (f_ne x y ih) Q E := by
  rw [f_ne_of h1 h2 s1 s2]
  exact k
theorem wp_isi {T t : String} (h : tyN x ih = some t) (k : kitB t T = some b) (q : Q (.bl b) ih) : wp (f_isi [x, .ty T] ih) Q E := by
  unfold f_isi
  dsimp only
  rw [h]
  dsimp only
  rw [k]
  exact q
-- both ways
theorem dec_if [Decidable p] {ma mb : Env → IH → Res α} {Q : PQ α} (h1 : p → k_if ma mb env Q E true ih) (h0 : ¬ p → k_if ma mb env Q E false ih) : k_if ma mb env Q E (decide p) ih := by
  by_cases h : p
  · rw [decide_eq_true h]; exact h1 h
  · rw [decide_eq_false h]; exact h0 h
theorem dec_ifs [Decidable p] (h1 : p → ks_if sa sb env S F true ih) (h0 : ¬ p → ks_if sa sb env S F false ih) : ks_if sa sb env S F (decide p) ih := by
  by_cases h : p
  · rw [decide_eq_true h]; exact h1 h
  · rw [decide_eq_false h]; exact h0 h
end
end L3
/-! L8: loops and lists, run backwards. -/
namespace L3
open PySem PySem.Spec PyProof.Rows L2
/-- a fact that the walk does not see -/
structure Hide (p : Prop) : Prop where
  get : p
/-- all but p, and what is new, is as before -/
abbrev Fr (p : Nat) (ih ih' : IH) : Prop := ∀ n, n < ih.length → n ≠ p → ih'[n]? = ih[n]?
abbrev Fx (ih ih' : IH) : Prop := ∀ n, n < ih.length → ih'[n]? = ih[n]?
theorem g_new {ih : IH} {o : MO} : (ih ++ [o])[ih.length]? = some o := get_new _ _
theorem g_nw {ih : IH} {o : MO} {n : Nat} (h : n = ih.length) : (ih ++ [o])[n]? = some o := h ▸ get_new _ _
theorem g_old {ih : IH} {o : MO} {n : Nat} (h : n < ih.length) : (ih ++ [o])[n]? = ih[n]? := List.getElem?_append_left h
theorem g_set {ih : IH} {o : MO} {n : Nat} (h : n < ih.length) : (ih.set n o)[n]? = some o := List.getElem?_set_self h
theorem g_sne {ih : IH} {o : MO} {n m : Nat} (h : m ≠ n) : (ih.set m o)[n]? = ih[n]? := List.getElem?_set_ne h
theorem Fr.refl {p : Nat} {ih : IH} : Fr p ih ih := fun _ _ _ => rfl
theorem Fx.refl {ih : IH} : Fx ih ih := fun _ _ => rfl
theorem Fx.fr {p : Nat} {a b : IH} (h : Fx a b) : Fr p a b := fun n l _ => h n l
theorem Fr.trans {p : Nat} {a b c : IH} (h : Fr p a b) (k : Fr p b c) (l : a.length ≤ b.length) : Fr p a c := fun n h1 h2 => by rw [k n (by omega) h2, h n h1 h2]
theorem Fx.trans {a b c : IH} (h : Fx a b) (k : Fx b c) (l : a.length ≤ b.length) : Fx a c := fun n h1 => by rw [k n (by omega), h n h1]
theorem Fx.app {a : IH} {o : MO} : Fx a (a ++ [o]) := fun n h => g_old h
theorem Fx.ext {a b : IH} (h : Fx a b) : Ext a b := fun n o e => by rw [h n (lt_of_get e)]; exact e
theorem Ext.fx {a b : IH} (h : Ext a b) : Fx a b := fun n l => by
  rw [List.getElem?_eq_getElem l]
  exact h n _ (List.getElem?_eq_getElem l)
theorem Fx.set {a b : IH} {n : Nat} {o : MO} (h : Fx a b) (l : a.length ≤ n) : Fx a (b.set n o) := fun m hm => by
  rw [g_sne (by omega)]
  exact h m hm
theorem Fr.set {p : Nat} {a b : IH} {n : Nat} {o : MO} (h : Fr p a b) (l : a.length ≤ n) : Fr p a (b.set n o) := fun m hm hp => by
  rw [g_sne (by omega)]
  exact h m hm hp
theorem Fr.setp {p : Nat} {a b : IH} {o : MO} (h : Fr p a b) : Fr p a (b.set p o) := fun m hm hp => by
  rw [g_sne (by omega)]
  exact h m hm hp
/-- a loop's body -/
def kf (P : Env → IH → Prop) (S : SQ) : SQ := fun f ih => match f with
  | .next e => P e ih
  | .cont e => P e ih
  | .brk e => S (.next e) ih
  | .ret v => S (.ret v) ih
section
variable {P : Env → IH → Prop} {S : SQ} {F : ES} {env : Env} {ih : IH} {v : IV}
/-- what holds behind a turn -/
def Inv (P : Env → IH → Prop) (env : Env) (ih : IH) : Prop := P env ih
theorem Inv.mk (h : P env ih) : Inv P env ih := h
theorem kf_next : kf P S (.next env) ih = Inv P env ih := rfl
theorem kf_cont : kf P S (.cont env) ih = Inv P env ih := rfl
theorem kf_brk : kf P S (.brk env) ih = S (.next env) ih := rfl
theorem kf_ret : kf P S (.ret v) ih = S (.ret v) ih := rfl
theorem ws_loop {r : RS} {k : Env → IH → RS} (h : ws r (kf P S) F) (hk : ∀ env ih, P env ih → ws (k env ih) S F) : ws (r.loop k) S F := by
  cases r with
  | ok f ih =>
    cases f with
    | next e => exact hk _ _ h
    | cont e => exact hk _ _ h
    | brk e => exact h
    | ret v => exact h
  | exc c e ih => exact h
  | stuck => exact h
theorem go_ind {s : Src} {g : IV → Env → IH → Option Env} {mb : Env → IH → RS} (k : Nat) (P : Nat → Env → IH → Prop)
    (turn : ∀ i env ih, i < k → P i env ih → ∃ v ih1 env1, s.turn i ih = .item v ih1 ∧ g v env ih1 = some env1 ∧ ws (mb env1 ih1) (kf (P (i + 1)) S) F)
    (stop : ∀ env ih, P k env ih → s.turn k ih = .stop ∧ S (.next env) ih) : ∀ (f i : Nat) (env : Env) (ih : IH), i ≤ k → k - i < f → P i env ih → ws (forGo s g mb f i env ih) S F := by
  intro f
  induction f with
  | zero => intro i env ih h1 h2; omega
  | succ f hf =>
    intro i env ih h1 h2 hP
    unfold forGo
    by_cases hi : i = k
    · subst hi
      obtain ⟨e1, e2⟩ := stop env ih hP
      rw [e1]
      exact e2
    · obtain ⟨v, ih1, env1, e1, e2, e3⟩ := turn i env ih (by omega) hP
      rw [e1]
      dsimp only
      rw [e2]
      exact ws_loop e3 fun env2 ih2 h => hf (i + 1) env2 ih2 (by omega) (by omega) h
/-- for x in range -/
theorem for_rng {mb : Env → IH → RS} {x : Nat} {lo d : Int} {k : Nat} (P : Nat → Env → IH → Prop) (h0 : P 0 env ih)
    (step : ∀ i env ih, i < k → P i env ih → ws (mb (env.set x (some (.int (lo + (i : Int) * d)))) ih) (kf (P (i + 1)) S) F) (fin : ∀ env ih, P k env ih → S (.next env) ih) : ks_for (g_nm x) mb env S F (.rng lo d k) ih :=
  go_ind k P (fun i env ih hi h => ⟨_, _, _, turn_rng hi, rfl, step i env ih hi h⟩) (fun env ih h => ⟨stop_rng, fin env ih h⟩) _ 0 env ih (Nat.zero_le _) (by show k - 0 < k + 1; omega) h0
theorem for_rng0 {mb : Env → IH → RS} {x : Nat} {k : Nat} (P : Nat → Env → IH → Prop) (h0 : P 0 env ih)
    (step : ∀ i env ih, i < k → P i env ih → ws (mb (env.set x (some (.int (i : Int)))) ih) (kf (P (i + 1)) S) F) (fin : ∀ env ih, P k env ih → S (.next env) ih) : ks_for (g_nm x) mb env S F (.rng 0 1 k) ih :=
  for_rng P h0 (fun i env ih hi h => by rw [show (0 : Int) + (i : Int) * 1 = (i : Int) by omega]; exact step i env ih hi h) fin
theorem for_rng1' {mb : Env → IH → RS} {x : Nat} {lo : Int} {k : Nat} (P : Nat → Env → IH → Prop) (h0 : P 0 env ih)
    (step : ∀ i env ih, i < k → P i env ih → ws (mb (env.set x (some (.int (lo + (i : Int))))) ih) (kf (P (i + 1)) S) F) (fin : ∀ env ih, P k env ih → S (.next env) ih) : ks_for (g_nm x) mb env S F (.rng lo 1 k) ih :=
  for_rng P h0 (fun i env ih hi h => by rw [show lo + (i : Int) * 1 = lo + (i : Int) by omega]; exact step i env ih hi h) fin
/-- for x in a list that stays -/
theorem for_lstG {g : IV → Env → IH → Option Env} {mb : Env → IH → RS} {n : Nat} {o : MO} (P : Nat → Env → IH → Prop) (hg : ih[n]? = some o) (hl : o.isL = true) (h0 : P 0 env ih) (ho : ∀ i env ih, P i env ih → ih[n]? = some o)
    (step : ∀ i v env ih, o.xs[i]? = some v → P i env ih → ∃ env1, g v env ih = some env1 ∧ ws (mb env1 ih) (kf (P (i + 1)) S) F) (fin : ∀ env ih, P o.xs.length env ih → S (.next env) ih) : ks_for g mb env S F (.lst n) ih :=
  go_ind o.xs.length P (fun i env ih hi h => by
    obtain ⟨env1, e1, e2⟩ := step i _ env ih (List.getElem?_eq_getElem hi) h
    exact ⟨_, _, env1, turn_lst (ho _ _ _ h) hl (List.getElem?_eq_getElem hi), e1, e2⟩) (fun env ih h => ⟨stop_lst (ho _ _ _ h) hl, fin env ih h⟩) _ 0 env ih (Nat.zero_le _) (by
    show _ < (Src.lst n).size ih + 1
    unfold Src.size
    dsimp only
    rw [hg]
    dsimp only
    omega) h0
theorem for_lst1 {mb : Env → IH → RS} {x n : Nat} {o : MO} (P : Nat → Env → IH → Prop) (hg : ih[n]? = some o) (hl : o.isL = true) (h0 : P 0 env ih) (ho : ∀ i env ih, P i env ih → ih[n]? = some o)
    (step : ∀ i v env ih, o.xs[i]? = some v → P i env ih → ws (mb (env.set x (some v)) ih) (kf (P (i + 1)) S) F) (fin : ∀ env ih, P o.xs.length env ih → S (.next env) ih) : ks_for (g_nm x) mb env S F (.lst n) ih :=
  for_lstG P hg hl h0 ho (fun i v env ih e h => ⟨_, rfl, step i v env ih e h⟩) fin
theorem for_enum {g : IV → Env → IH → Option Env} {mb : Env → IH → RS} {n : Nat} {o : MO} (P : Nat → Env → IH → Prop) (hg : ih[n]? = some o) (hl : o.isL = true) (h0 : P 0 env ih) (ho : ∀ i env ih, P i env ih → ih[n]? = some o)
    (step : ∀ i v env ih, o.xs[i]? = some v → P i env ih → ∃ env1, g (.ref ih.length) env (ih ++ [.tup [.int (i : Int), v]]) = some env1 ∧ ws (mb env1 (ih ++ [.tup [.int (i : Int), v]])) (kf (P (i + 1)) S) F) (fin : ∀ env ih, P o.xs.length env ih → S (.next env) ih) : ks_for g mb env S F (.enm n) ih :=
  go_ind o.xs.length P (fun i env ih hi h => by
    obtain ⟨env1, e1, e2⟩ := step i _ env ih (List.getElem?_eq_getElem hi) h
    exact ⟨_, _, env1, turn_enm (ho _ _ _ h) hl (List.getElem?_eq_getElem hi), e1, e2⟩) (fun env ih h => ⟨stop_enm (ho _ _ _ h) hl, fin env ih h⟩) _ 0 env ih (Nat.zero_le _) (by
    show _ < (Src.enm n).size ih + 1
    unfold Src.size
    dsimp only
    rw [hg]
    dsimp only
    omega) h0
theorem for_zip2 {g : IV → Env → IH → Option Env} {mb : Env → IH → RS} {n m : Nat} {o u : MO} (P : Nat → Env → IH → Prop) (hg : ih[n]? = some o) (hl : o.isL = true) (hl2 : u.isL = true) (h0 : P 0 env ih) (ho : ∀ i env ih, P i env ih → ih[n]? = some o ∧ ih[m]? = some u)
    (step : ∀ i v w env ih, o.xs[i]? = some v → u.xs[i]? = some w → P i env ih → ∃ env1, g (.ref ih.length) env (ih ++ [.tup [v, w]]) = some env1 ∧ ws (mb env1 (ih ++ [.tup [v, w]])) (kf (P (i + 1)) S) F) (fin : ∀ env ih, P (min o.xs.length u.xs.length) env ih → S (.next env) ih) : ks_for g mb env S F (.zip n m) ih :=
  go_ind (min o.xs.length u.xs.length) P (fun i env ih hi h => by
    obtain ⟨env1, e1, e2⟩ := step i _ _ env ih (List.getElem?_eq_getElem (by omega)) (List.getElem?_eq_getElem (by omega)) h
    exact ⟨_, _, env1, turn_zip (ho _ _ _ h).1 hl (List.getElem?_eq_getElem (by omega)) (ho _ _ _ h).2 hl2 (List.getElem?_eq_getElem (by omega)), e1, e2⟩) (fun env ih h => ⟨stop_zip (ho _ _ _ h).1 hl (ho _ _ _ h).2 hl2 (by omega), fin env ih h⟩) _ 0 env ih (Nat.zero_le _) (by
    show _ < (Src.zip n m).size ih + 1
    unfold Src.size
    dsimp only
    rw [hg]
    dsimp only
    omega) h0
/-- while, with what gets less -/
theorem while_ind {n : Env → IH → Res Bool} {mb : Env → IH → RS} (P : Env → IH → Prop) (μ : Env → IH → Nat → Prop)
    (step : ∀ k env ih, P env ih → μ env ih k → wp (n env ih) (fun b ih1 => if b = true then ws (mb env ih1) (kf (fun e i => P e i ∧ ∃ j, j < k ∧ μ e i j) S) F else S (.next env) ih1) (kE F env)) :
    ∀ (f k : Nat) (env : Env) (ih : IH), P env ih → μ env ih k → k < f → ws (whileGo n mb f env ih) S F := by
  intro f
  induction f with
  | zero => intro k env ih _ _ h; omega
  | succ f hf =>
    intro k env ih hP hm hk
    unfold whileGo
    rw [ws_stm]
    refine wp.imp (step k env ih hP hm) (fun b ih1 h => ?_) fun _ _ h => h
    cases b with
    | true =>
      rw [if_pos rfl] at h ⊢
      exact ws_loop h fun env2 ih2 ⟨h1, j, h2, h3⟩ => hf j env2 ih2 h1 h3 (by omega)
    | false => exact h
end
section
variable {Q : PQ IV} {E : EQ} {env : Env} {ih : IH}
theorem k_lAt_of {ih : IH} {n : Nat} {o : MO} (h : ih[n]? = some o) (hl : o.isL = true) : lAt ih n true = some o.xs := lAt_of h hl
/-- [me for x in xs if n] -/
theorem lc_flt {vs : List Nat} {i n : Nat} {mt : Env → IH → Res Bool} {me : Env → IH → Res IV} {o : MO} (F : IV → IV) (T : IV → Bool) (ho : ih[n]? = some o) (hl : o.isL = true) (hz : o.xs.length < 100000)
    (ht : ∀ x ∈ o.xs, ∀ ih', Fx ih ih' → wp (mt ((wipeI env vs).set i (some x)) ih') (fun b ih'' => b = T x ∧ ih'' = ih') E0)
    (he : ∀ x ∈ o.xs, T x = true → ∀ ih', Fx ih ih' → wp (me ((wipeI env vs).set i (some x)) ih') (fun v ih'' => v = F x ∧ ih'' = ih') E0)
    (q : Q (.ref ih.length) (ih ++ [.lst ((o.xs.filter T).map F)])) : k_lc vs (g_nm i) mt me env Q E (.lst n) ih := by
  have h := lc_lst (vs := vs) (m := m_c (.ref n)) (i := i) (n := mt) (me := me) (env := env) (ih := ih) F T rfl ho hl hz (fun x hx ih' e => (ht x hx ih' e.fx).eq) fun x hx t ih' e => (he x hx t ih' e.fx).eq
  have k := wp.of (E := E) h q
  rw [wp_lc, wp_il, wp_c, kk_il, lAt_of ho hl, kk_il2] at k
  exact k
/-- [me for x in xs] -/
theorem lc_all {vs : List Nat} {i n : Nat} {me : Env → IH → Res IV} {o : MO} (F : IV → IV) (ho : ih[n]? = some o) (hl : o.isL = true) (hz : o.xs.length < 100000)
    (he : ∀ x ∈ o.xs, ∀ ih', Fx ih ih' → wp (me ((wipeI env vs).set i (some x)) ih') (fun v ih'' => v = F x ∧ ih'' = ih') E0)
    (q : Q (.ref ih.length) (ih ++ [.lst (o.xs.map F)])) : k_lc vs (g_nm i) n_yes me env Q E (.lst n) ih := by
  have h := lc_map (vs := vs) (m := m_c (.ref n)) (i := i) (me := me) (env := env) (ih := ih) F rfl ho hl hz fun x hx ih' e => (he x hx ih' e.fx).eq
  have k := wp.of (E := E) h q
  rw [wp_lc, wp_il, wp_c, kk_il, lAt_of ho hl, kk_il2] at k
  exact k
/-- over a list of ints -/
theorem lc_int {vs : List Nat} {i n : Nat} {me : Env → IH → Res IV} {o : MO} {ns : List Int} (F : Int → IV) (ho : ih[n]? = some o) (hl : o.isL = true) (hx : o.xs = ns.map IV.int) (hz : ns.length < 100000)
    (he : ∀ x ∈ ns, ∀ ih', Fx ih ih' → wp (me ((wipeI env vs).set i (some (.int x))) ih') (fun v ih'' => v = F x ∧ ih'' = ih') E0)
    (q : Q (.ref ih.length) (ih ++ [.lst (ns.map F)])) : k_lc vs (g_nm i) n_yes me env Q E (.lst n) ih := by
  have e : (ns.map IV.int).map (fun | .int k => F k | _ => .non) = ns.map F := by rw [List.map_map]; rfl
  refine lc_all (fun | .int k => F k | _ => .non) ho hl (by rw [hx, List.length_map]; exact hz) (fun x hx' ih' f => ?_) (by rw [hx, e]; exact q)
  rw [hx] at hx'
  obtain ⟨k, hk, rfl⟩ := List.mem_map.mp hx'
  exact he k hk ih' f
/-- [me for i in range(j)] -/
theorem lc_rngW {vs : List Nat} {i : Nat} {me : Env → IH → Res IV} {j : Nat} (F : Nat → IV) (hz : j < 100000)
    (he : ∀ k, k < j → ∀ ih', Fx ih ih' → wp (me ((wipeI env vs).set i (some (.int (k : Int)))) ih') (fun v ih'' => v = F k ∧ ih'' = ih') E0)
    (q : Q (.ref ih.length) (ih ++ [.lst ((List.range j).map F)])) : k_lc vs (g_nm i) n_yes me env Q E (.rng 0 1 j) ih := by
  have sj : smallI (j : Int) = true := smallI_mk (by omega) (by omega)
  have h := lc_rng (vs := vs) (m := fun _ ih => .ok [.int (j : Int)] ih) (i := i) (me := me) (env := env) (ih := ih) (j := (j : Int)) F rfl sj (by omega) fun x hx ih' e => (he x (by omega) ih' e.fx).eq
  rw [Int.toNat_natCast] at h
  have k : wp (m_lc vs (mi_rng1 fun _ ih => .ok [.int (j : Int)] ih) (g_nm i) n_yes me env ih) Q E := by
    rw [h, wp_ok]
    exact q
  rw [wp_lc, wp_r1] at k
  have k2 := k.2
  rw [Int.toNat_natCast] at k2
  exact k2
theorem lc_zipW {vs : List Nat} {i j n m : Nat} {me : Env → IH → Res IV} {o u : MO} (F : IV → IV → IV) (ho : ih[n]? = some o) (hl : o.isL = true) (hu : ih[m]? = some u) (hl2 : u.isL = true) (hz : o.xs.length < 100000)
    (he : ∀ (k : Nat) (x y : IV), o.xs[k]? = some x → u.xs[k]? = some y → ∀ ih', Fx ih ih' → wp (me (((wipeI env vs).set i (some x)).set j (some y)) ih') (fun v ih'' => v = F x y ∧ ih'' = ih') E0)
    (q : ∀ ih', Fx ih ih' → ih.length < ih'.length → ih'[ih.length]? = some (.lst (List.zipWith F o.xs u.xs)) → Q (.ref ih.length) ih') : k_lc vs (g_tup 2 (g_cons (g_nm i) (g_cons (g_nm j) g_nil))) n_yes me env Q E (.zip n m) ih := by
  obtain ⟨ih', h, x, g⟩ := lc_zip (vs := vs) (m := fun _ ih => .ok [.ref n, .ref m] ih) (i := i) (j := j) (me := me) (env := env) (ih := ih) F rfl ho hl hu hl2 hz fun k x y h1 h2 ih' e => (he k x y h1 h2 ih' e.fx).eq
  have k := wp.of (E := E) h (q ih' x.fx (lt_of_get g) g)
  rw [wp_lc, wp_iz] at k
  have k2 : k_iz (k_lc vs (g_tup 2 (g_cons (g_nm i) (g_cons (g_nm j) g_nil))) n_yes me env Q E) [.ref n, .ref m] ih := k
  rw [kk_iz, lAt_of ho hl, lAt_of hu hl2, kk_iz2] at k2
  exact k2
theorem wp_sumW {n : Nat} {o : MO} {ns : List Int} (h : ih[n]? = some o) (hl : o.isL = true) (hx : o.xs = ns.map IV.int) (q : Q (.int ns.sum) ih) : wp (f_sum [.ref n] ih) Q E := wp.of (a_sum h hl hx) q
theorem wp_allW {n : Nat} {o : MO} {ns : List Bool} (h : ih[n]? = some o) (hl : o.isL = true) (hx : o.xs = ns.map IV.bl) (q : Q (.bl (ns.all id)) ih) : wp (f_all [.ref n] ih) Q E := wp.of (a_all h hl hx) q
theorem wp_anyW {n : Nat} {o : MO} {ns : List Bool} (h : ih[n]? = some o) (hl : o.isL = true) (hx : o.xs = ns.map IV.bl) (q : Q (.bl (ns.any id)) ih) : wp (f_any [.ref n] ih) Q E := wp.of (a_any h hl hx) q
theorem wp_slL {n : Nat} {xs : List IV} {lo hi : Option Int} (h : ih[n]? = some (.lst xs)) (q : Q (.ref ih.length) (ih ++ [.lst (cutI xs lo hi)])) : wp (f_sl (.ref n) lo hi ih) Q E := wp.of (a_slL h) q
end
/-- a choice -/
theorem k_pick {Q : PQ IV} {ih : IH} {xs : List IV} {i : Int} (h0 : 0 ≤ i) (h1 : i < (xs.length : Int)) (k : ∀ v ∈ xs, Q v ih) : k_ix2 Q ih (atI xs i) := by
  obtain ⟨m, rfl⟩ := Int.eq_ofNat_of_zero_le h0
  have hm : m < xs.length := by omega
  rw [atI_nn, List.getElem?_eq_getElem hm]
  exact k _ (List.getElem_mem hm)
def allI (P : Int → Prop) : List IV → Prop
  | [] => True
  | .int z :: r => P z ∧ allI P r
  | _ :: _ => False
theorem allI_mem {P : Int → Prop} : ∀ {xs : List IV}, allI P xs → ∀ v ∈ xs, ∃ z, v = .int z ∧ P z
  | [], _, v, h => nomatch h
  | .int z :: r, h, v, hv => by
    rcases List.mem_cons.mp hv with e | e
    · exact ⟨z, e, h.1⟩
    · exact allI_mem h.2 v e
theorem k_pickI (P : Int → Prop) {Q : PQ IV} {ih : IH} {xs : List IV} {i : Int} (h0 : 0 ≤ i) (h1 : i < (xs.length : Int)) (ha : allI P xs) (k : ∀ z, P z → Q (.int z) ih) : k_ix2 Q ih (atI xs i) := k_pick h0 h1 fun v hv => by
  obtain ⟨z, rfl, hz⟩ := allI_mem ha v hv
  exact k z hz
theorem wp_allL {Q : PQ IV} {E : EQ} {ih : IH} {n : Nat} (ns : List Bool) (h : ih[n]? = some (.lst (ns.map IV.bl))) (q : Q (.bl (ns.all id)) ih) : wp (f_all [.ref n] ih) Q E := wp.of (a_all h rfl rfl) q
theorem wp_anyL {Q : PQ IV} {E : EQ} {ih : IH} {n : Nat} (ns : List Bool) (h : ih[n]? = some (.lst (ns.map IV.bl))) (q : Q (.bl (ns.any id)) ih) : wp (f_any [.ref n] ih) Q E := wp.of (a_any h rfl rfl) q
theorem wp_sumL {Q : PQ IV} {E : EQ} {ih : IH} {n : Nat} (ns : List Int) (h : ih[n]? = some (.lst (ns.map IV.int))) (q : Q (.int ns.sum) ih) : wp (f_sum [.ref n] ih) Q E := wp.of (a_sum h rfl rfl) q
/-- over a list of ints -/
theorem lc_intL {Q : PQ IV} {E : EQ} {env : Env} {ih : IH} {vs : List Nat} {i n : Nat} {me : Env → IH → Res IV} (ns : List Int) (F : Int → IV) (ho : ih[n]? = some (.lst (ns.map IV.int))) (hz : ns.length < 100000)
    (he : ∀ x ∈ ns, ∀ ih', Fx ih ih' → wp (me ((wipeI env vs).set i (some (.int x))) ih') (fun v ih'' => v = F x ∧ ih'' = ih') E0)
    (q : Q (.ref ih.length) (ih ++ [.lst (ns.map F)])) : k_lc vs (g_nm i) n_yes me env Q E (.lst n) ih := lc_int F ho rfl rfl hz he q
/-- over a list of ints, with a test -/
theorem lc_intT {Q : PQ IV} {E : EQ} {env : Env} {ih : IH} {vs : List Nat} {i n : Nat} {mt : Env → IH → Res Bool} {me : Env → IH → Res IV} (ns : List Int) (T : Int → Bool) (F : Int → IV) (ho : ih[n]? = some (.lst (ns.map IV.int))) (hz : ns.length < 100000)
    (ht : ∀ x ∈ ns, ∀ ih', Fx ih ih' → wp (mt ((wipeI env vs).set i (some (.int x))) ih') (fun v ih'' => v = T x ∧ ih'' = ih') E0)
    (he : ∀ x ∈ ns, T x = true → ∀ ih', Fx ih ih' → wp (me ((wipeI env vs).set i (some (.int x))) ih') (fun v ih'' => v = F x ∧ ih'' = ih') E0)
    (q : Q (.ref ih.length) (ih ++ [.lst ((ns.filter T).map F)])) : k_lc vs (g_nm i) mt me env Q E (.lst n) ih := by
  refine lc_flt (fun | .int k => F k | _ => .non) (fun | .int k => T k | _ => false) ho rfl (by rw [xs_lst, List.length_map]; exact hz) (fun x hx ih' f => ?_) (fun x hx t ih' f => ?_) ?_
  · obtain ⟨k, hk, rfl⟩ := List.mem_map.mp hx
    exact ht k hk ih' f
  · obtain ⟨k, hk, rfl⟩ := List.mem_map.mp hx
    exact he k hk t ih' f
  · rw [xs_lst, List.filter_map, List.map_map]
    exact q
/-- what is new, by a name of its own -/
theorem newN {P : IV → IH → Prop} {ih : IH} {o : MO} (k : ∀ n ih', ih.length ≤ n → n < ih'.length → ih'.length ≤ ih.length + 1 → Fx ih ih' → ih'[n]? = some o → P (.ref n) ih') : P (.ref ih.length) (ih ++ [o]) := k _ _ (Nat.le_refl _) (by simp) (by simp) Fx.app g_new
/-- both ways give the same -/
theorem if_join {α : Type} {ma mb : Env → IH → Res α} {env : Env} {ih : IH} {Q : PQ α} {E : EQ} {b : Bool} (v : α) (h1 : b = true → wp (ma env ih) (fun x ih' => x = v ∧ ih' = ih) E0) (h0 : b = false → wp (mb env ih) (fun x ih' => x = v ∧ ih' = ih) E0) (q : Q v ih) : k_if ma mb env Q E b ih := by
  cases b with
  | true => exact wp.of (h1 rfl).eq q
  | false => exact wp.of (h0 rfl).eq q
theorem ws_while {n : Nat} {mt : Env → IH → Res Bool} {mb : Env → IH → RS} {env : Env} {ih : IH} {S : SQ} {F : ES} : ws (ms_while n mt mb env ih) S F = ws (whileGo mt mb n env ih) S F := rfl
theorem ws_whileA {n : Nat} {mt : Env → IH → Res Bool} {mb : Env → IH → RS} {env : Env} {ih : IH} {S : SQ} {F : ES} : ws (ms_while n mt mb env ih) S F = ∀ fu, fu = n → ws (whileGo mt mb fu env ih) S F := by
  rw [forall_eq]
  rfl
theorem g_pair {i j : Nat} {v w : IV} {env : Env} {ih : IH} : g_tup 2 (g_cons (g_nm i) (g_cons (g_nm j) g_nil)) (.ref ih.length) env (ih ++ [.tup [v, w]]) = some ((env.set i (some v)).set j (some w)) := by
  unfold g_tup
  dsimp only
  rw [g_new]
  rfl
theorem cutI_m1 (xs : List IV) (x : IV) : cutI (xs ++ [x]) none (some (-1)) = xs := by
  unfold cutI
  rw [HT.sIx_none]
  have e : HT.sIx (xs ++ [x]).length (xs ++ [x]).length (some (-1)) = xs.length := by
    have h := HT.clip_eq (-1) (xs ++ [x]).length (xs ++ [x]).length
    rw [if_pos (by decide)] at h
    simp only [List.length_append, List.length_singleton] at h ⊢
    omega
  rw [e, List.drop_zero, Nat.sub_zero, List.take_left']
  rfl
/-! ### isinstance -/
section
variable {Q : PQ IV} {E : EQ} {ih : IH} {n : Nat} {i : Int} {xs : List IV}
theorem kit_ii : kitB "int" "int" = some true := by decide +kernel
theorem kit_ib : kitB "int" "bool" = some false := by decide +kernel
theorem kit_ll : kitB "list" "list" = some true := by decide +kernel
theorem kit_tt : kitB "tuple" "tuple" = some true := by decide +kernel
theorem kit_lt : kitB "list" "tuple" = some false := by decide +kernel
theorem kit_tl : kitB "tuple" "list" = some false := by decide +kernel
theorem kit2_NoneType_int : kitB "NoneType" "int" = some false := by decide +kernel
theorem kit2_NoneType_bool : kitB "NoneType" "bool" = some false := by decide +kernel
theorem kit2_NoneType_list : kitB "NoneType" "list" = some false := by decide +kernel
theorem kit2_NoneType_tuple : kitB "NoneType" "tuple" = some false := by decide +kernel
theorem kit2_NoneType_str : kitB "NoneType" "str" = some false := by decide +kernel
theorem kit2_bool_int : kitB "bool" "int" = some true := by decide +kernel
theorem kit2_bool_bool : kitB "bool" "bool" = some true := by decide +kernel
theorem kit2_bool_list : kitB "bool" "list" = some false := by decide +kernel
theorem kit2_bool_tuple : kitB "bool" "tuple" = some false := by decide +kernel
theorem kit2_bool_str : kitB "bool" "str" = some false := by decide +kernel
theorem kit2_str_int : kitB "str" "int" = some false := by decide +kernel
theorem kit2_str_bool : kitB "str" "bool" = some false := by decide +kernel
theorem kit2_str_list : kitB "str" "list" = some false := by decide +kernel
theorem kit2_str_tuple : kitB "str" "tuple" = some false := by decide +kernel
theorem kit2_str_str : kitB "str" "str" = some true := by decide +kernel
theorem kit2_dict_int : kitB "dict" "int" = some false := by decide +kernel
theorem kit2_dict_bool : kitB "dict" "bool" = some false := by decide +kernel
theorem kit2_dict_list : kitB "dict" "list" = some false := by decide +kernel
theorem kit2_dict_tuple : kitB "dict" "tuple" = some false := by decide +kernel
theorem kit2_dict_str : kitB "dict" "str" = some false := by decide +kernel
theorem kit2_list_int : kitB "list" "int" = some false := by decide +kernel
theorem kit2_list_bool : kitB "list" "bool" = some false := by decide +kernel
theorem kit2_list_str : kitB "list" "str" = some false := by decide +kernel
theorem kit2_tuple_int : kitB "tuple" "int" = some false := by decide +kernel
theorem kit2_tuple_bool : kitB "tuple" "bool" = some false := by decide +kernel
theorem kit2_tuple_str : kitB "tuple" "str" = some false := by decide +kernel
theorem kit2_int_list : kitB "int" "list" = some false := by decide +kernel
theorem kit2_int_tuple : kitB "int" "tuple" = some false := by decide +kernel
theorem kit2_int_str : kitB "int" "str" = some false := by decide +kernel
theorem wp_isiII : wp (f_isi [.int i, .ty "int"] ih) Q E = Q (.bl true) ih := by
  rw [show f_isi [.int i, .ty "int"] ih = .ok (.bl true) ih by
    unfold f_isi
    dsimp only [tyN]
    rw [kit_ii]]
  rfl
theorem wp_isiIB : wp (f_isi [.int i, .ty "bool"] ih) Q E = Q (.bl false) ih := by
  rw [show f_isi [.int i, .ty "bool"] ih = .ok (.bl false) ih by
    unfold f_isi
    dsimp only [tyN]
    rw [kit_ib]]
  rfl
def tyO : Option MO → Option String
  | some (.lst _) => some "list"
  | some (.tup _) => some "tuple"
  | some .dct => some "dict"
  | some (.dk _) => some "dict"
  | _ => none
def k_isi2 (Q : PQ IV) (ih : IH) : Option Bool → Prop
  | some b => Q (.bl b) ih
  | none => False
def k_isi (T : String) (Q : PQ IV) (ih : IH) : Option String → Prop
  | some t => k_isi2 Q ih (kitB t T)
  | none => False
theorem wp_isiN {T : String} : wp (f_isi [.non, .ty T] ih) Q E = k_isi2 Q ih (kitB "NoneType" T) := by
  unfold f_isi
  dsimp only [tyN]
  show wp (match kitB "NoneType" T with
    | some b => _
    | none => _) Q E = k_isi2 Q ih (kitB "NoneType" T)
  cases kitB "NoneType" T <;> rfl
theorem wp_isiBl {T : String} {b : Bool} : wp (f_isi [.bl b, .ty T] ih) Q E = k_isi2 Q ih (kitB "bool" T) := by
  unfold f_isi
  dsimp only [tyN]
  show wp (match kitB "bool" T with
    | some b => _
    | none => _) Q E = k_isi2 Q ih (kitB "bool" T)
  cases kitB "bool" T <;> rfl
theorem wp_isiS {T : String} {z : Str} : wp (f_isi [.str z, .ty T] ih) Q E = k_isi2 Q ih (kitB "str" T) := by
  unfold f_isi
  dsimp only [tyN]
  show wp (match kitB "str" T with
    | some b => _
    | none => _) Q E = k_isi2 Q ih (kitB "str" T)
  cases kitB "str" T <;> rfl
theorem wp_isiR {T : String} : wp (f_isi [.ref n, .ty T] ih) Q E = k_isi T Q ih (tyO ih[n]?) := by
  unfold f_isi
  dsimp only [tyN]
  cases ih[n]? with
  | none => rfl
  | some o =>
    cases o with
    | lst xs =>
      show wp (match kitB "list" T with
        | some b => _
        | none => _) Q E = k_isi2 Q ih (kitB "list" T)
      cases kitB "list" T <;> rfl
    | tup xs =>
      show wp (match kitB "tuple" T with
        | some b => _
        | none => _) Q E = k_isi2 Q ih (kitB "tuple" T)
      cases kitB "tuple" T <;> rfl
    | dct =>
      show wp (match kitB "dict" T with
        | some b => _
        | none => _) Q E = k_isi2 Q ih (kitB "dict" T)
      cases kitB "dict" T <;> rfl
    | dk kvs =>
      show wp (match kitB "dict" T with
        | some b => _
        | none => _) Q E = k_isi2 Q ih (kitB "dict" T)
      cases kitB "dict" T <;> rfl
    | _ => rfl
theorem tyO_l : tyO (some (.lst xs)) = some "list" := rfl
theorem tyO_d : tyO (some .dct) = some "dict" := rfl
theorem tyO_t : tyO (some (.tup xs)) = some "tuple" := rfl
theorem kk_isi {T t : String} : k_isi T Q ih (some t) = k_isi2 Q ih (kitB t T) := rfl
theorem kk_isi2 {b : Bool} : k_isi2 Q ih (some b) = Q (.bl b) ih := rfl
end
/-- over a range, with a test -/
theorem lc_rngT {Q : PQ IV} {E : EQ} {env : Env} {ih : IH} {vs : List Nat} {i : Nat} {mt : Env → IH → Res Bool} {me : Env → IH → Res IV} {j : Nat} {lo : Int} (T : Nat → Bool) (F : Nat → IV) (hz : j < 100000)
    (ht : ∀ k, k < j → ∀ ih', Fx ih ih' → wp (mt ((wipeI env vs).set i (some (.int (lo + (k : Int))))) ih') (fun v ih'' => v = T k ∧ ih'' = ih') E0)
    (he : ∀ k, k < j → T k = true → ∀ ih', Fx ih ih' → wp (me ((wipeI env vs).set i (some (.int (lo + (k : Int))))) ih') (fun v ih'' => v = F k ∧ ih'' = ih') E0)
    (q : Q (.ref ih.length) (ih ++ [.lst (((List.range j).filter T).map F)])) : k_lc vs (g_nm i) mt me env Q E (.rng lo 1 j) ih := by
  show wp (lcGo (.rng lo 1 j) (g_nm i) mt me ih.length (wipeI env vs) (j + 1) 0 (ih ++ [.lst []])) Q E
  obtain ⟨acc', ih', e1, e2, e3⟩ := lcGo_ind (s := .rng lo 1 j) (g := g_nm i) (n := mt) (me := me) (d := ih.length) (env := wipeI env vs) j (fun k acc ih' => acc = ((List.range k).filter T).map F ∧ ih' = ih ++ [.lst acc])
    (fun k acc ih2 hk ⟨ha, hi⟩ hd => by
      subst hi
      have e0 : lo + (k : Int) * 1 = lo + (k : Int) := by omega
      refine ⟨.int (lo + (k : Int)), _, _, T k, _, by rw [turn_rng hk, e0], rfl, (ht k hk _ Fx.app).eq, fun hb => ⟨hd, ?_, rfl⟩, fun hb => ⟨_, _, (he k hk hb _ Fx.app).eq, hd, ?_, ?_, ?_⟩⟩
      · rw [List.range_succ, List.filter_append, ha, List.filter_cons, hb]
        simp
      · rw [ha, List.length_map]
        exact Nat.lt_of_le_of_lt (List.length_filter_le _ _) (by rw [List.length_range]; omega)
      · rw [List.range_succ, List.filter_append, ha, List.filter_cons, hb]
        simp
      · rw [set_append_last])
    (fun acc ih _ hd => stop_rng) (j + 1) 0 [] (ih ++ [.lst []]) (Nat.zero_le _) (by omega) ⟨by simp, rfl⟩ (get_new _ _)
  obtain ⟨h1, h2⟩ := e3
  rw [h2, h1] at e1
  exact wp.of e1 q
/-- over a range from 0, with a test -/
theorem lc_rngT0 {Q : PQ IV} {E : EQ} {env : Env} {ih : IH} {vs : List Nat} {i : Nat} {mt : Env → IH → Res Bool} {me : Env → IH → Res IV} {j : Nat} (T : Nat → Bool) (F : Nat → IV) (hz : j < 100000)
    (ht : ∀ k, k < j → ∀ ih', Fx ih ih' → wp (mt ((wipeI env vs).set i (some (.int (k : Int)))) ih') (fun v ih'' => v = T k ∧ ih'' = ih') E0)
    (he : ∀ k, k < j → T k = true → ∀ ih', Fx ih ih' → wp (me ((wipeI env vs).set i (some (.int (k : Int)))) ih') (fun v ih'' => v = F k ∧ ih'' = ih') E0)
    (q : Q (.ref ih.length) (ih ++ [.lst (((List.range j).filter T).map F)])) : k_lc vs (g_nm i) mt me env Q E (.rng 0 1 j) ih :=
  lc_rngT T F hz (fun k hk ih' f => by rw [Int.zero_add]; exact ht k hk ih' f) (fun k hk t ih' f => by rw [Int.zero_add]; exact he k hk t ih' f) q
/-- lists put together -/
theorem wp_cat {Q : PQ IV} {E : EQ} {ih : IH} {n m : Nat} {xs ys : List IV} (h1 : ih[n]? = some (.lst xs)) (h2 : ih[m]? = some (.lst ys)) (hl : xs.length + ys.length ≤ 100000) (q : Q (.ref ih.length) (ih ++ [.lst (xs ++ ys)])) : wp (f_add (.ref n) (.ref m) ih) Q E := by
  have e : f_add (.ref n) (.ref m) ih = .ok (.ref ih.length) (ih ++ [.lst (xs ++ ys)]) := by
    unfold f_add
    dsimp only
    rw [h1, h2]
    dsimp only
    rw [if_pos hl]
  exact wp.of e q
end L3
namespace L3
open PySem PySem.Spec PyProof.Rows L2

noncomputable def b_law_mixed (c : Cs) : Env → IH → RS := (ms_seq (ms_set (g_nm 2) (m_op f_add (m_op f_mod (m_app f_int (m_cons (m_var 0) m_nil)) (m_c (.int 2147483629))) (m_op f_mulA (m_op f_fdiv (m_var 0) (m_c (.int 2147483629))) (m_c (.int 30011)))))
 (ms_seq (ms_set (g_nm 2) (m_op f_mod (m_app f_int (m_cons (m_op f_mulA (m_op f_add (m_op f_add (m_var 2) (m_op f_mulA (m_c (.int 69621)) (m_var 1))) (m_c (.int 1))) (m_c (.int 48271))) m_nil)) (m_c (.int 2147483629))))
 (ms_seq (ms_set (g_nm 2) (m_op f_mod (m_app f_int (m_cons (m_op f_mulA (m_var 2) (m_op f_add (m_op f_add (m_op f_fdiv (m_var 2) (m_c (.int 907))) (m_c (.int 16831))) (m_var 1))) m_nil)) (m_c (.int 2147483587))))
 (ms_ret (m_op f_mod (m_app f_int (m_cons (m_op f_mulA (m_var 2) (m_op f_add (m_op f_fdiv (m_var 2) (m_c (.int 1201))) (m_c (.int 30011)))) m_nil)) (m_c (.int 2147483563)))))))
noncomputable def m_law_mixed (c : Cs) : List IV → IH → Res IV := defRun 3 (b_law_mixed c)
noncomputable def b_law_next (c : Cs) : Env → IH → RS := (ms_seq (ms_if (m_tb (m_op f_ge (m_op f_ix (m_var 0) (m_c (.int 0))) (m_op f_pow (m_c (.int 10)) (m_c (.int 18)))))
 (ms_seq (ms_set (g_nm 2) (m_op f_mod (m_app f_int (m_cons (m_op f_ix (m_var 0) (m_c (.int 0))) m_nil)) (m_var 1)))
 (ms_seq (ms_setL (m_op f_fdiv (m_op f_ix (m_var 0) (m_c (.int 0))) (m_var 1)) (m_var 0) (m_c (.int 0)))
 (ms_ret (m_var 2))))
 ms_pass)
 (ms_seq (ms_setL (m_op f_add (m_op f_ix (m_var 0) (m_c (.int 2))) (m_c (.int 1))) (m_var 0) (m_c (.int 2)))
 (ms_ret (m_op f_mod (m_app f_int (m_cons (m_app (f_call 2 [] (m_law_mixed c)) (m_cons (m_op f_ix (m_var 0) (m_c (.int 1))) (m_cons (m_op f_ix (m_var 0) (m_c (.int 2))) m_nil))) m_nil)) (m_var 1)))))
noncomputable def m_law_next (c : Cs) : List IV → IH → Res IV := defRun 3 (b_law_next c)
noncomputable def b_law_bad_list (c : Cs) : Env → IH → RS := (ms_seq (ms_set (g_nm 3) (m_app (f_call 2 [] (m_law_next c)) (m_cons (m_var 0) (m_cons (m_app f_len (m_cons (m_var 1) m_nil)) m_nil))))
 (ms_seq (ms_set (g_nm 4) (m_op f_ix (m_app f_lst (m_cons (m_c .non) (m_cons (m_un f_neg (m_c (.int 1))) (m_cons (m_c (.bl true)) (m_cons (m_c (.str "1")) (m_cons (m_app f_lst (m_cons (m_c (.int 1)) m_nil)) (m_cons (m_app f_tup (m_cons (m_c (.int 1)) m_nil)) (m_cons m_dct (m_cons (m_var 2) (m_cons (m_op f_sub (m_c (.int 0)) (m_op f_pow (m_c (.int 10)) (m_c (.int 40)))) m_nil)))))))))) (m_app (f_call 2 [] (m_law_next c)) (m_cons (m_var 0) (m_cons (m_c (.int 9)) m_nil)))))
 (ms_seq (ms_set (g_nm 5) (m_app f_lst (m_cons (m_c .non) (m_cons (m_app f_lst m_nil) (m_cons (m_app f_tuple (m_cons (m_var 1) m_nil)) (m_cons (m_c (.str "12")) (m_cons m_dct (m_cons (m_c (.int 5)) (m_cons (m_disp1 (m_c (.int 1)) (m_c (.int 2))) (m_cons (m_c (.bl true)) (m_cons (m_op f_add (m_op f_add (m_sl (m_var 1) m_none (m_some (m_var 3))) (m_app f_lst (m_cons (m_var 4) m_nil))) (m_sl (m_var 1) (m_some (m_op f_add (m_var 3) (m_c (.int 1)))) m_none)) m_nil)))))))))))
 (ms_ret (m_op f_ix (m_op f_add (m_var 5) (m_op f_mulA (m_app f_lst (m_cons (m_op f_add (m_op f_add (m_sl (m_var 1) m_none (m_some (m_var 3))) (m_app f_lst (m_cons (m_var 4) m_nil))) (m_sl (m_var 1) (m_some (m_op f_add (m_var 3) (m_c (.int 1)))) m_none)) m_nil)) (m_c (.int 4)))) (m_app (f_call 2 [] (m_law_next c)) (m_cons (m_var 0) (m_cons (m_c (.int 13)) m_nil))))))))
noncomputable def m_law_bad_list (c : Cs) : List IV → IH → Res IV := defRun 6 (b_law_bad_list c)
noncomputable def b_law_gap (c : Cs) : Env → IH → RS := (ms_seq (ms_set (g_nm 2) (m_op f_shl (m_c (.int 1)) (m_var 1)))
 (ms_seq (ms_set (g_nm 3) (m_op f_ix (m_app f_lst (m_cons (m_c (.int 0)) (m_cons (m_c (.int 1)) (m_cons (m_c (.int 2)) (m_cons (m_app (f_call 2 [] (m_law_next c)) (m_cons (m_var 0) (m_cons (m_op f_pow (m_c (.int 10)) (m_c (.int 9))) m_nil))) m_nil))))) (m_app (f_call 2 [] (m_law_next c)) (m_cons (m_var 0) (m_cons (m_c (.int 4)) m_nil)))))
 (ms_seq (ms_set (g_nm 4) (m_app f_max2 (m_cons (m_c (.int 0)) (m_cons (m_op f_sub (m_op f_add (m_op f_mulA (m_var 3) (m_var 2)) (m_app (f_call 2 [] (m_law_next c)) (m_cons (m_var 0) (m_cons (m_c (.int 5)) m_nil)))) (m_c (.int 2))) m_nil))))
 (ms_ret (m_op f_ix (m_app f_lst (m_cons (m_c (.int 0)) (m_cons (m_var 4) (m_cons (m_app (f_call 2 [] (m_law_next c)) (m_cons (m_var 0) (m_cons (m_var 2) m_nil))) (m_cons (m_op f_fdiv (m_op f_mulA (m_app (f_call 2 [] (m_law_next c)) (m_cons (m_var 0) (m_cons (m_op f_pow (m_c (.int 10)) (m_c (.int 9))) m_nil))) (m_var 2)) (m_c (.int 7))) m_nil))))) (m_app (f_call 2 [] (m_law_next c)) (m_cons (m_var 0) (m_cons (m_c (.int 4)) m_nil))))))))
noncomputable def m_law_gap (c : Cs) : List IV → IH → Res IV := defRun 5 (b_law_gap c)
noncomputable def lb_law_looks_1 (c : Cs) : Env → IH → RS := (ms_expr (m_mL f_append (m_var 2) (m_cons (m_op f_add (m_op f_ix (m_var 2) (m_un f_neg (m_c (.int 1)))) (m_app (f_call 2 [] (m_law_gap c)) (m_cons (m_var 0) (m_cons (m_var 1) m_nil)))) m_nil)))
noncomputable def b_law_looks (c : Cs) : Env → IH → RS := (ms_seq (ms_set (g_nm 2) (m_app f_lst (m_cons (m_app (f_call 2 [] (m_law_gap c)) (m_cons (m_var 0) (m_cons (m_var 1) m_nil))) m_nil)))
 (ms_seq (ms_for (mi_rng1 (m_cons (m_app (f_call 2 [] (m_law_next c)) (m_cons (m_var 0) (m_cons (m_c (.int 12)) m_nil))) m_nil)) (g_nm 3)
 (lb_law_looks_1 c))
 (ms_ret (m_var 2))))
noncomputable def m_law_looks (c : Cs) : List IV → IH → Res IV := defRun 4 (b_law_looks c)
noncomputable def b_law_cell_at (c : Cs) : Env → IH → RS := (ms_seq (ms_if (m_tb (m_op f_lt (m_var 1) (m_app f_len (m_cons (m_var 0) m_nil))))
 (ms_ret (m_op f_ix (m_var 0) (m_var 1)))
 ms_pass)
 (ms_ret (m_c (.int 0))))
noncomputable def m_law_cell_at (c : Cs) : List IV → IH → Res IV := defRun 2 (b_law_cell_at c)
noncomputable def b_law_source (c : Cs) : Env → IH → RS := (ms_seq (ms_if (m_tb (m_op f_lt (m_var 1) (m_app f_len (m_cons (m_var 0) m_nil))))
 (ms_ret (m_app f_lst (m_cons (m_op f_ix (m_var 0) (m_var 1)) (m_cons (m_op f_ix (m_var 0) (m_var 1)) (m_cons (m_c (.int 0)) m_nil)))))
 ms_pass)
 (ms_seq (ms_set (g_nm 2) (m_app (f_call 2 [] (m_law_mixed c)) (m_cons (m_app (f_call 2 [] (m_law_cell_at c)) (m_cons (m_var 0) (m_cons (m_c (.int 0)) m_nil))) (m_cons (m_op f_add (m_c (.int 1000)) (m_var 1)) m_nil))))
 (ms_ret (m_app f_lst (m_cons (m_var 2) (m_cons (m_var 2) (m_cons (m_c (.int 0)) m_nil)))))))
noncomputable def m_law_source (c : Cs) : List IV → IH → Res IV := defRun 3 (b_law_source c)
noncomputable def b_law_width (c : Cs) : Env → IH → RS := (ms_ret (m_op f_ix (m_app f_lst (m_cons (m_c (.int 1)) (m_cons (m_c (.int 2)) (m_cons (m_c (.int 3)) (m_cons (m_c (.int 4)) (m_cons (m_c (.int 8)) (m_cons (m_c (.int 16)) (m_cons (m_c (.int 32)) (m_cons (m_c (.int 63)) (m_cons (m_c (.int 64)) (m_cons (m_op f_add (m_c (.int 1)) (m_app (f_call 2 [] (m_law_next c)) (m_cons (m_var 0) (m_cons (m_c (.int 64)) m_nil)))) m_nil))))))))))) (m_app (f_call 2 [] (m_law_next c)) (m_cons (m_var 0) (m_cons (m_c (.int 10)) m_nil)))))
noncomputable def m_law_width (c : Cs) : List IV → IH → Res IV := defRun 1 (b_law_width c)
noncomputable def b_power (c : Cs) : Env → IH → RS := (ms_ret (m_op f_shl (m_c (.int 1)) (m_var 0)))
noncomputable def m_power (c : Cs) : List IV → IH → Res IV := defRun 1 (b_power c)
noncomputable def b_is_whole (c : Cs) : Env → IH → RS := (ms_ret (m_andV (m_app f_isi (m_cons (m_var 0) (m_cons (m_c (.ty "int")) m_nil))) (m_andV (m_notV (m_app f_isi (m_cons (m_var 0) (m_cons (m_c (.ty "bool")) m_nil)))) (m_orV (m_op f_isN (m_var 1) (m_c .non)) (m_op f_ge (m_var 0) (m_var 1))))))
noncomputable def m_is_whole (c : Cs) : List IV → IH → Res IV := defRun 2 (b_is_whole c)
noncomputable def le_is_cycles_1 (c : Cs) : Env → IH → Res IV := (m_app (f_call 2 [] (m_is_whole c)) (m_cons (m_var 2) (m_cons (m_var 1) m_nil)))
noncomputable def lc_is_cycles_1 (c : Cs) : Env → IH → Res IV := m_lc [2] (mi_lst (m_var 0)) (g_nm 2) n_yes (le_is_cycles_1 c)
noncomputable def le_is_cycles_2 (c : Cs) : Env → IH → Res IV := (m_op f_le (m_var 2) (m_var 3))
noncomputable def lc_is_cycles_2 (c : Cs) : Env → IH → Res IV := m_lc [2, 3] (mi_zip (m_cons (m_var 0) (m_cons (m_sl (m_var 0) (m_some (m_c (.int 1))) m_none) m_nil))) (g_tup 2 (g_cons (g_nm 2) (g_cons (g_nm 3) g_nil))) n_yes (le_is_cycles_2 c)
noncomputable def b_is_cycles (c : Cs) : Env → IH → RS := (ms_seq (ms_if (m_or (m_not (m_tb (m_app f_isi (m_cons (m_var 0) (m_cons (m_c (.ty "list")) m_nil))))) (m_not (m_tb (m_app f_all (m_cons (lc_is_cycles_1 c) m_nil)))))
 (ms_ret (m_c (.bl false)))
 ms_pass)
 (ms_ret (m_app f_all (m_cons (lc_is_cycles_2 c) m_nil))))
noncomputable def m_is_cycles (c : Cs) : List IV → IH → Res IV := defRun 4 (b_is_cycles c)
noncomputable def b_check_looks (c : Cs) : Env → IH → RS := (ms_if (m_or (m_not (m_tb (m_app (f_call 2 [(.int 0)] (m_is_cycles c)) (m_cons (m_var 0) m_nil)))) (m_tb (m_op f_eq (m_var 0) (m_app f_lst m_nil))))
 (ms_raise c.NoLooks)
 ms_pass)
noncomputable def m_check_looks (c : Cs) : List IV → IH → Res IV := defRun 1 (b_check_looks c)
noncomputable def b_check_width (c : Cs) : Env → IH → RS := (ms_if (m_or (m_not (m_tb (m_app (f_call 2 [] (m_is_whole c)) (m_cons (m_var 0) (m_cons (m_c (.int 1)) m_nil))))) (m_tb (m_op f_gt (m_var 0) (m_c (.int 64)))))
 (ms_raise c.NoWidth)
 ms_pass)
noncomputable def m_check_width (c : Cs) : List IV → IH → Res IV := defRun 1 (b_check_width c)
noncomputable def le_shown_1 (c : Cs) : Env → IH → Res IV := (m_op f_mod (m_var 2) (m_app (f_call 1 [] (m_power c)) (m_cons (m_var 0) m_nil)))
noncomputable def lc_shown_1 (c : Cs) : Env → IH → Res IV := m_lc [2] (mi_lst (m_var 1)) (g_nm 2) n_yes (le_shown_1 c)
noncomputable def b_shown (c : Cs) : Env → IH → RS := (ms_seq (ms_expr (m_app (f_call 1 [] (m_check_width c)) (m_cons (m_var 0) m_nil)))
 (ms_seq (ms_expr (m_app (f_call 1 [] (m_check_looks c)) (m_cons (m_var 1) m_nil)))
 (ms_ret (lc_shown_1 c))))
noncomputable def m_shown (c : Cs) : List IV → IH → Res IV := defRun 3 (b_shown c)
noncomputable def le_counted_1 (c : Cs) : Env → IH → Res IV := (m_op f_mod (m_op f_sub (m_var 4) (m_var 3)) (m_app (f_call 1 [] (m_power c)) (m_cons (m_var 0) m_nil)))
noncomputable def lc_counted_1 (c : Cs) : Env → IH → Res IV := m_lc [3, 4] (mi_zip (m_cons (m_var 2) (m_cons (m_sl (m_var 2) (m_some (m_c (.int 1))) m_none) m_nil))) (g_tup 2 (g_cons (g_nm 3) (g_cons (g_nm 4) g_nil))) n_yes (le_counted_1 c)
noncomputable def b_counted (c : Cs) : Env → IH → RS := (ms_seq (ms_set (g_nm 2) (m_app (f_call 2 [] (m_shown c)) (m_cons (m_var 0) (m_cons (m_var 1) m_nil))))
 (ms_ret (m_app f_sum (m_cons (lc_counted_1 c) m_nil))))
noncomputable def m_counted (c : Cs) : List IV → IH → Res IV := defRun 5 (b_counted c)
noncomputable def b_check_cycle (c : Cs) : Env → IH → RS := (ms_if (m_not (m_tb (m_app (f_call 2 [] (m_is_whole c)) (m_cons (m_var 0) (m_cons (m_var 1) m_nil)))))
 (ms_raise c.NoCycle)
 ms_pass)
noncomputable def m_check_cycle (c : Cs) : List IV → IH → Res IV := defRun 2 (b_check_cycle c)
noncomputable def le_check_values_1 (c : Cs) : Env → IH → Res IV := (m_app (f_call 2 [] (m_is_whole c)) (m_cons (m_var 2) (m_cons (m_c (.int 0)) m_nil)))
noncomputable def lc_check_values_1 (c : Cs) : Env → IH → Res IV := m_lc [2] (mi_lst (m_var 1)) (g_nm 2) n_yes (le_check_values_1 c)
noncomputable def le_check_values_2 (c : Cs) : Env → IH → Res IV := (m_op f_lt (m_var 2) (m_app (f_call 1 [] (m_power c)) (m_cons (m_var 0) m_nil)))
noncomputable def lc_check_values_2 (c : Cs) : Env → IH → Res IV := m_lc [2] (mi_lst (m_var 1)) (g_nm 2) n_yes (le_check_values_2 c)
noncomputable def b_check_values (c : Cs) : Env → IH → RS := (ms_seq (ms_expr (m_app (f_call 1 [] (m_check_width c)) (m_cons (m_var 0) m_nil)))
 (ms_seq (ms_if (m_or (m_not (m_tb (m_app f_isi (m_cons (m_var 1) (m_cons (m_c (.ty "list")) m_nil))))) (m_or (m_tb (m_op f_eq (m_var 1) (m_app f_lst m_nil))) (m_not (m_tb (m_app f_all (m_cons (lc_check_values_1 c) m_nil))))))
 (ms_raise c.NoLooks)
 ms_pass)
 (ms_if (m_not (m_tb (m_app f_all (m_cons (lc_check_values_2 c) m_nil))))
 (ms_raise c.NoLooks)
 ms_pass)))
noncomputable def m_check_values (c : Cs) : List IV → IH → Res IV := defRun 3 (b_check_values c)
noncomputable def lb_least_history_1 (c : Cs) : Env → IH → RS := (ms_expr (m_mL f_append (m_var 2) (m_cons (m_op f_add (m_op f_ix (m_var 2) (m_un f_neg (m_c (.int 1)))) (m_op f_mod (m_op f_sub (m_var 3) (m_op f_ix (m_var 2) (m_un f_neg (m_c (.int 1))))) (m_app (f_call 1 [] (m_power c)) (m_cons (m_var 0) m_nil)))) m_nil)))
noncomputable def b_least_history (c : Cs) : Env → IH → RS := (ms_seq (ms_expr (m_app (f_call 2 [] (m_check_values c)) (m_cons (m_var 0) (m_cons (m_var 1) m_nil))))
 (ms_seq (ms_set (g_nm 2) (m_app f_lst (m_cons (m_op f_ix (m_var 1) (m_c (.int 0))) m_nil)))
 (ms_seq (ms_for (mi_lst (m_sl (m_var 1) (m_some (m_c (.int 1))) m_none)) (g_nm 3)
 (lb_least_history_1 c))
 (ms_ret (m_var 2)))))
noncomputable def m_least_history (c : Cs) : List IV → IH → Res IV := defRun 4 (b_least_history c)
noncomputable def lb_histories_many_1 (c : Cs) : Env → IH → RS := (ms_set (g_nm 4) (m_op f_fdiv (m_op f_mulA (m_var 4) (m_op f_add (m_var 3) (m_var 5))) (m_var 5)))
noncomputable def b_histories_many (c : Cs) : Env → IH → RS := (ms_seq (ms_expr (m_app (f_call 2 [] (m_check_values c)) (m_cons (m_var 0) (m_cons (m_var 1) m_nil))))
 (ms_seq (ms_expr (m_app (f_call 2 [(.int 0)] (m_check_cycle c)) (m_cons (m_var 2) m_nil)))
 (ms_seq (ms_set (g_nm 3) (m_op f_fdiv (m_op f_sub (m_var 2) (m_op f_ix (m_app (f_call 2 [] (m_least_history c)) (m_cons (m_var 0) (m_cons (m_var 1) m_nil))) (m_un f_neg (m_c (.int 1))))) (m_app (f_call 1 [] (m_power c)) (m_cons (m_var 0) m_nil))))
 (ms_seq (ms_if (m_tb (m_op f_lt (m_var 3) (m_c (.int 0))))
 (ms_ret (m_c (.int 0)))
 ms_pass)
 (ms_seq (ms_set (g_nm 4) (m_c (.int 1)))
 (ms_seq (ms_for (mi_rng2 (m_cons (m_c (.int 1)) (m_cons (m_op f_add (m_app f_len (m_cons (m_var 1) m_nil)) (m_c (.int 1))) m_nil))) (g_nm 5)
 (lb_histories_many_1 c))
 (ms_ret (m_var 4))))))))
noncomputable def m_histories_many (c : Cs) : List IV → IH → Res IV := defRun 6 (b_histories_many c)
noncomputable def lb_lost_1 (c : Cs) : Env → IH → RS := (ms_seq (ms_set (g_nm 4) (m_op f_sub (m_op f_ix (m_var 1) (m_var 3)) (m_op f_ix (m_var 1) (m_op f_sub (m_var 3) (m_c (.int 1))))))
 (ms_if (m_tb (m_op f_ge (m_var 4) (m_app (f_call 1 [] (m_power c)) (m_cons (m_var 0) m_nil))))
 (ms_expr (m_mL f_append (m_var 2) (m_cons (m_app f_tup (m_cons (m_var 3) (m_cons (m_op f_sub (m_var 4) (m_op f_mod (m_var 4) (m_app (f_call 1 [] (m_power c)) (m_cons (m_var 0) m_nil)))) m_nil))) m_nil)))
 ms_pass))
noncomputable def b_lost (c : Cs) : Env → IH → RS := (ms_seq (ms_expr (m_app (f_call 1 [] (m_check_width c)) (m_cons (m_var 0) m_nil)))
 (ms_seq (ms_expr (m_app (f_call 1 [] (m_check_looks c)) (m_cons (m_var 1) m_nil)))
 (ms_seq (ms_set (g_nm 2) (m_app f_lst m_nil))
 (ms_seq (ms_for (mi_rng2 (m_cons (m_c (.int 1)) (m_cons (m_app f_len (m_cons (m_var 1) m_nil)) m_nil))) (g_nm 3)
 (lb_lost_1 c))
 (ms_ret (m_var 2))))))
noncomputable def m_lost (c : Cs) : List IV → IH → Res IV := defRun 5 (b_lost c)
noncomputable def tb_law_word_1 (c : Cs) : Env → IH → RS := (ms_if (m_tb (m_op f_eq (m_var 0) (m_c (.int 0))))
 (ms_expr (m_app (f_call 2 [] (m_shown c)) (m_cons (m_var 1) (m_cons (m_var 2) m_nil))))
 (ms_if (m_tb (m_op f_eq (m_var 0) (m_c (.int 1))))
 (ms_expr (m_app (f_call 2 [] (m_counted c)) (m_cons (m_var 1) (m_cons (m_var 2) m_nil))))
 (ms_if (m_tb (m_op f_eq (m_var 0) (m_c (.int 2))))
 (ms_expr (m_app (f_call 2 [] (m_lost c)) (m_cons (m_var 1) (m_cons (m_var 2) m_nil))))
 (ms_if (m_tb (m_op f_eq (m_var 0) (m_c (.int 3))))
 (ms_expr (m_app (f_call 2 [] (m_least_history c)) (m_cons (m_var 1) (m_cons (m_var 2) m_nil))))
 (ms_expr (m_app (f_call 3 [] (m_histories_many c)) (m_cons (m_var 1) (m_cons (m_var 2) (m_cons (m_var 3) m_nil)))))))))
noncomputable def ts_law_word_1 (c : Cs) (ea ec : Addr) : Env → IH → RS := (ms_seq (ms_set (g_nm 5) (m_app f_lst (m_cons (m_app (f_isE c.K ea ec) (m_cons (m_var 4) (m_cons (m_c (.gl c.NoWidth)) m_nil))) (m_cons (m_app (f_isE c.K ea ec) (m_cons (m_var 4) (m_cons (m_c (.gl c.NoLooks)) m_nil))) (m_cons (m_app (f_isE c.K ea ec) (m_cons (m_var 4) (m_cons (m_c (.gl c.NoCycle)) m_nil))) (m_cons (m_app (f_isE c.K ea ec) (m_cons (m_var 4) (m_cons (m_c (.gl c.NoRate)) m_nil))) m_nil))))))
 (ms_seq (ms_set (g_nm 5) (m_op f_add (m_var 5) (m_app f_lst (m_cons (m_app (f_isE c.K ea ec) (m_cons (m_var 4) (m_cons (m_c (.gl c.NoReading)) m_nil))) (m_cons (m_app (f_isE c.K ea ec) (m_cons (m_var 4) (m_cons (m_c (.gl c.TooMany)) m_nil))) m_nil)))))
 (ms_seq (ms_if (m_or (m_tb (m_op f_ne (m_mL f_count (m_var 5) (m_cons (m_c (.bl true)) m_nil)) (m_c (.int 1)))) (m_not (m_tb (m_app (f_isE c.K ea ec) (m_cons (m_var 4) (m_cons (m_c (.ty "ValueError")) m_nil))))))
 (ms_ret (m_c (.str "several")))
 ms_pass)
 (ms_ret (m_op f_ix (m_app f_lst (m_cons (m_c (.str "width")) (m_cons (m_c (.str "looks")) (m_cons (m_c (.str "cycle")) (m_cons (m_c (.str "rate")) (m_cons (m_c (.str "reading")) (m_cons (m_c (.str "many")) m_nil))))))) (m_mL f_index (m_var 5) (m_cons (m_c (.bl true)) m_nil)))))))
noncomputable def b_law_word (c : Cs) : Env → IH → RS := (ms_seq (ms_try 4 (fun cl => PySem.W.exmOne c.K (.ref cl) (.ref c.KernelError)) (tb_law_word_1 c)
 (fun ea ec => (ts_law_word_1 c ea ec)))
 (ms_ret (m_c (.str "none"))))
noncomputable def m_law_word (c : Cs) : List IV → IH → Res IV := defRun 6 (b_law_word c)
noncomputable def le_law_1 (c : Cs) : Env → IH → Res IV := (m_app (f_call 2 [] (m_law_next c)) (m_cons (m_var 2) (m_cons (m_op f_shl (m_c (.int 1)) (m_var 3)) m_nil)))
noncomputable def lc_law_1 (c : Cs) : Env → IH → Res IV := m_lc [13] (mi_rng1 (m_cons (m_op f_add (m_c (.int 1)) (m_app (f_call 2 [] (m_law_next c)) (m_cons (m_var 2) (m_cons (m_c (.int 5)) m_nil)))) m_nil)) (g_nm 13) n_yes (le_law_1 c)
noncomputable def lb_law_1 (c : Cs) : Env → IH → RS := (ms_seq (ms_set (g_nm 11) (m_op f_ix (m_app f_lst (m_cons (m_var 4) (m_cons (m_var 5) m_nil))) (m_app f_int (m_cons (m_op f_gt (m_var 10) (m_c (.int 2))) m_nil))))
 (ms_seq (ms_set (g_nm 12) (m_op f_ix (m_app f_lst (m_cons (m_var 8) (m_cons (m_op f_add (m_var 5) (m_app f_lst (m_cons (m_op f_shl (m_c (.int 1)) (m_var 3)) m_nil))) m_nil))) (m_app f_int (m_cons (m_op f_gt (m_var 10) (m_c (.int 2))) m_nil))))
 (ms_seq (ms_if (m_tb (m_op f_gt (m_app (f_call 2 [] (m_law_next c)) (m_cons (m_var 2) (m_cons (m_c (.int 3)) m_nil))) (m_c (.int 0))))
 (ms_set (g_nm 12) (m_app (f_call 3 [] (m_law_bad_list c)) (m_cons (m_var 2) (m_cons (m_sl (m_var 11) m_none (m_some (m_c (.int 1)))) (m_cons (m_op f_ix (m_app f_lst (m_cons (m_un f_neg (m_c (.int 2))) (m_cons (m_op f_shl (m_c (.int 1)) (m_var 3)) m_nil))) (m_app f_int (m_cons (m_op f_gt (m_var 10) (m_c (.int 2))) m_nil))) m_nil)))))
 ms_pass)
 (ms_seq (ms_if (m_or (m_tb (m_op f_ne (m_app (f_call 4 [] (m_law_word c)) (m_cons (m_var 10) (m_cons (m_var 6) (m_cons (m_var 12) (m_cons (m_var 7) m_nil))))) (m_c (.str "width")))) (m_tb (m_op f_ne (m_app (f_call 4 [] (m_law_word c)) (m_cons (m_var 10) (m_cons (m_var 6) (m_cons (m_var 11) (m_cons (m_c (.int 0)) m_nil))))) (m_c (.str "width")))))
 (ms_ret (m_c (.bl false)))
 ms_pass)
 (ms_seq (ms_if (m_or (m_tb (m_op f_ne (m_app (f_call 4 [] (m_law_word c)) (m_cons (m_var 10) (m_cons (m_var 3) (m_cons (m_var 12) (m_cons (m_var 7) m_nil))))) (m_c (.str "looks")))) (m_tb (m_op f_ne (m_app (f_call 4 [] (m_law_word c)) (m_cons (m_var 10) (m_cons (m_var 3) (m_cons (m_var 12) (m_cons (m_op f_pow (m_c (.int 10)) (m_c (.int 50))) m_nil))))) (m_c (.str "looks")))))
 (ms_ret (m_c (.bl false)))
 ms_pass)
 (ms_seq (ms_if (m_tb (m_op f_ne (m_app (f_call 4 [] (m_law_word c)) (m_cons (m_var 10) (m_cons (m_var 3) (m_cons (m_var 11) (m_cons (m_var 7) m_nil))))) (m_op f_ix (m_app f_lst (m_cons (m_c (.str "none")) (m_cons (m_c (.str "cycle")) m_nil))) (m_app f_int (m_cons (m_op f_eq (m_var 10) (m_c (.int 4))) m_nil)))))
 (ms_ret (m_c (.bl false)))
 ms_pass)
 (ms_if (m_or (m_tb (m_op f_ne (m_app (f_call 4 [] (m_law_word c)) (m_cons (m_var 10) (m_cons (m_var 3) (m_cons (m_var 11) (m_cons (m_op f_pow (m_c (.int 10)) (m_c (.int 50))) m_nil))))) (m_c (.str "none")))) (m_tb (m_op f_ne (m_app f_tup (m_cons (m_var 4) (m_cons (m_var 5) m_nil))) (m_var 9))))
 (ms_ret (m_c (.bl false)))
 ms_pass)))))))
noncomputable def lb_law_2 (c : Cs) : Env → IH → RS := (ms_if (m_tb (m_op f_ne (m_app f_lst (m_cons (m_app (f_call 4 [] (m_law_word c)) (m_cons (m_var 10) (m_cons (m_c (.int 1)) (m_cons (m_app f_lst (m_cons (m_c (.int 0)) (m_cons (m_c (.int 0)) (m_cons (m_c (.int 1)) m_nil)))) (m_cons (m_c (.int 0)) m_nil))))) (m_cons (m_app (f_call 4 [] (m_law_word c)) (m_cons (m_var 10) (m_cons (m_c (.int 64)) (m_cons (m_app f_lst (m_cons (m_c (.int 0)) (m_cons (m_c (.int 0)) (m_cons (m_c (.int 1)) m_nil)))) (m_cons (m_c (.int 0)) m_nil))))) m_nil))) (m_op f_mulA (m_app f_lst (m_cons (m_c (.str "none")) m_nil)) (m_c (.int 2)))))
 (ms_ret (m_c (.bl false)))
 ms_pass)
noncomputable def lb_law_3 (c : Cs) : Env → IH → RS := (ms_seq (ms_set (g_nm 2) (m_app (f_call 2 [] (m_law_source c)) (m_cons (m_var 0) (m_cons (m_var 1) m_nil))))
 (ms_seq (ms_set (g_nm 3) (m_app (f_call 1 [] (m_law_width c)) (m_cons (m_var 2) m_nil)))
 (ms_seq (ms_set (g_nm 4) (m_op f_add (m_app (f_call 2 [] (m_law_looks c)) (m_cons (m_var 2) (m_cons (m_var 3) m_nil))) (m_app f_lst (m_cons (m_op f_pow (m_c (.int 10)) (m_c (.int 50))) m_nil))))
 (ms_seq (ms_set (g_nm 5) (lc_law_1 c))
 (ms_seq (ms_set (g_nm 6) (m_op f_ix (m_app f_lst (m_cons (m_c .non) (m_cons (m_c (.int 0)) (m_cons (m_un f_neg (m_c (.int 1))) (m_cons (m_c (.int 65)) (m_cons (m_c (.bl true)) (m_cons (m_c (.str "8")) (m_cons (m_app f_lst (m_cons (m_c (.int 8)) m_nil)) (m_cons (m_app f_tup (m_cons (m_c (.int 8)) m_nil)) (m_cons m_dct (m_cons (m_op f_pow (m_c (.int 10)) (m_c (.int 30))) m_nil))))))))))) (m_app (f_call 2 [] (m_law_next c)) (m_cons (m_var 2) (m_cons (m_c (.int 10)) m_nil)))))
 (ms_seq (ms_set (g_nm 7) (m_op f_ix (m_app f_lst (m_cons (m_c .non) (m_cons (m_un f_neg (m_c (.int 1))) (m_cons (m_c (.bl true)) (m_cons (m_c (.str "8")) (m_cons (m_app f_lst (m_cons (m_c (.int 8)) m_nil)) (m_cons (m_app f_tup (m_cons (m_c (.int 8)) m_nil)) (m_cons m_dct (m_cons (m_op f_sub (m_c (.int 0)) (m_op f_pow (m_c (.int 10)) (m_c (.int 40)))) m_nil))))))))) (m_app (f_call 2 [] (m_law_next c)) (m_cons (m_var 2) (m_cons (m_c (.int 8)) m_nil)))))
 (ms_seq (ms_set (g_nm 8) (m_op f_add (m_var 4) (m_app f_lst (m_cons (m_op f_sub (m_op f_sub (m_op f_ix (m_var 4) (m_un f_neg (m_c (.int 1)))) (m_c (.int 1))) (m_app (f_call 2 [] (m_law_next c)) (m_cons (m_var 2) (m_cons (m_c (.int 9)) m_nil)))) m_nil))))
 (ms_seq (ms_set (g_nm 9) (m_app f_tup (m_cons (m_app f_list (m_cons (m_var 4) m_nil)) (m_cons (m_app f_list (m_cons (m_var 5) m_nil)) m_nil))))
 (ms_seq (ms_for (mi_rng1 (m_cons (m_c (.int 5)) m_nil)) (g_nm 10)
 (lb_law_1 c))
 (ms_for (mi_rng1 (m_cons (m_c (.int 5)) m_nil)) (g_nm 10)
 (lb_law_2 c)))))))))))
noncomputable def b_law (c : Cs) : Env → IH → RS := (ms_seq (ms_for (mi_rng1 (m_cons (m_app f_max2 (m_cons (m_c (.int 1)) (m_cons (m_app f_min2 (m_cons (m_c (.int 8)) (m_cons (m_app f_len (m_cons (m_var 0) m_nil)) m_nil))) m_nil))) m_nil)) (g_nm 1)
 (lb_law_3 c))
 (ms_ret (m_c (.bl true))))
noncomputable def m_law (c : Cs) : List IV → IH → Res IV := defRun 14 (b_law c)
structure CsOk (c : Cs) : Prop where
  xm_NoCycle_KernelError : PySem.W.exmOne c.K (.ref c.NoCycle) (.ref c.KernelError) = some true
  xi_NoCycle_NoCycle : PySem.W.kitOne c.K (.ref c.NoCycle) (.ref c.NoCycle) = some true
  xi_NoCycle_NoLooks : PySem.W.kitOne c.K (.ref c.NoCycle) (.ref c.NoLooks) = some false
  xi_NoCycle_NoRate : PySem.W.kitOne c.K (.ref c.NoCycle) (.ref c.NoRate) = some false
  xi_NoCycle_NoReading : PySem.W.kitOne c.K (.ref c.NoCycle) (.ref c.NoReading) = some false
  xi_NoCycle_NoWidth : PySem.W.kitOne c.K (.ref c.NoCycle) (.ref c.NoWidth) = some false
  xi_NoCycle_TooMany : PySem.W.kitOne c.K (.ref c.NoCycle) (.ref c.TooMany) = some false
  xi_NoCycle_ValueError : PySem.W.kitOne c.K (.ref c.NoCycle) (.type "ValueError") = some true
  xc_NoCycle : ExcC c.K c.NoCycle
  xm_NoLooks_KernelError : PySem.W.exmOne c.K (.ref c.NoLooks) (.ref c.KernelError) = some true
  xi_NoLooks_NoCycle : PySem.W.kitOne c.K (.ref c.NoLooks) (.ref c.NoCycle) = some false
  xi_NoLooks_NoLooks : PySem.W.kitOne c.K (.ref c.NoLooks) (.ref c.NoLooks) = some true
  xi_NoLooks_NoRate : PySem.W.kitOne c.K (.ref c.NoLooks) (.ref c.NoRate) = some false
  xi_NoLooks_NoReading : PySem.W.kitOne c.K (.ref c.NoLooks) (.ref c.NoReading) = some false
  xi_NoLooks_NoWidth : PySem.W.kitOne c.K (.ref c.NoLooks) (.ref c.NoWidth) = some false
  xi_NoLooks_TooMany : PySem.W.kitOne c.K (.ref c.NoLooks) (.ref c.TooMany) = some false
  xi_NoLooks_ValueError : PySem.W.kitOne c.K (.ref c.NoLooks) (.type "ValueError") = some true
  xc_NoLooks : ExcC c.K c.NoLooks
  xm_NoWidth_KernelError : PySem.W.exmOne c.K (.ref c.NoWidth) (.ref c.KernelError) = some true
  xi_NoWidth_NoCycle : PySem.W.kitOne c.K (.ref c.NoWidth) (.ref c.NoCycle) = some false
  xi_NoWidth_NoLooks : PySem.W.kitOne c.K (.ref c.NoWidth) (.ref c.NoLooks) = some false
  xi_NoWidth_NoRate : PySem.W.kitOne c.K (.ref c.NoWidth) (.ref c.NoRate) = some false
  xi_NoWidth_NoReading : PySem.W.kitOne c.K (.ref c.NoWidth) (.ref c.NoReading) = some false
  xi_NoWidth_NoWidth : PySem.W.kitOne c.K (.ref c.NoWidth) (.ref c.NoWidth) = some true
  xi_NoWidth_TooMany : PySem.W.kitOne c.K (.ref c.NoWidth) (.ref c.TooMany) = some false
  xi_NoWidth_ValueError : PySem.W.kitOne c.K (.ref c.NoWidth) (.type "ValueError") = some true
  xc_NoWidth : ExcC c.K c.NoWidth
end L3
/-! L5: the draws that every law makes. -/
namespace L3
open PySem PySem.Spec PyProof.Rows L2
local macro_rules | `(tactic| walk_at "run") => `(tactic| simp only [m_op, m_var, m_c, m_un, m_nil, m_cons, m_if, m_and, m_or, m_not, m_tb, m_andV, m_orV, m_notV, m_app, m_sl, m_none, m_some, m_mL, m_mL0, ms_set, ms_expr, ms_ret, ms_retN, ms_pass, ms_brk, ms_cont, ms_if, ms_seq, ms_aug, ms_par, ms_setL, ms_raise,
  Res.bind_ok, Res.bind_exc, Res.bind_stuck, Res.stm_ok, Res.stm_exc, Res.stm_stuck, RS.seq_next, RS.seq_ret, RS.seq_brk, RS.seq_cont, RS.seq_exc, RS.seq_stuck, RS.out_ret, RS.out_next, RS.out_exc,
  startI_cons, startI_nil, rep_succ, rep_zero, List.getElem?_cons_zero, List.getElem?_cons_succ, List.set_cons_zero, List.set_cons_succ, defRun, g_nm, f_call, List.append_nil, List.nil_append, List.cons_append, List.length_cons, List.length_nil, if_true, if_false,
  a_int, a_add, a_addI, a_sub, a_neg, a_lt, a_le, a_gt, a_ge, a_max2, a_min2, a_abs, a_isN, a_notN, a_mul, a_mulI, a_fdiv, a_mod, a_shl, a_shr, a_pow, a_lst, a_tup, f_ix, f_len, f_list, f_append, f_setL, isLst, atI_0, atI_1, atI_2, atI_3, atI_4, atI_5, atI_6, atI_7, atI_8, atI_9, atI_10, atI_11, atI_12, ixN_30, ixN_31, ixN_32, Int.toNat_zero, Int.reduceToNat, Int.reduceNeg, xs_lst, xs_tup, xs_ro, xs_rot, isL_lst, isL_tup, isL_ro, isL_rot,
  Bool.false_eq_true, Bool.true_eq_false, Bool.not_true, Bool.not_false, decide_true, decide_false, ↓reduceIte, Int.reduceLT, Int.reduceLE, Nat.reduceLT, Nat.reduceLeDiff, Nat.reduceAdd, *])
/-- the script stands at 0 -/
def Scr (ns : List Int) (ih : IH) : Prop := ih[0]? = some (.ro (ns.map IV.int))
theorem atI_map {ns : List Int} {k : Nat} {i : Int} (hi : i = (k : Int)) (h : k < ns.length) : atI (ns.map IV.int) i = some (.int (ns.getD k 0)) := by
  refine atI_ok hi ?_
  rw [List.getElem?_map, List.getElem?_eq_getElem h, List.getD_eq_getElem?_getD, List.getElem?_eq_getElem h]
  rfl
theorem run_cell_at (c : Cs) {ns : List Int} {k : Nat} {ih : IH} (h : Scr ns ih) : m_law_cell_at c [.ref 0, .int (k : Int)] ih = .ok (.int (ns.getD k 0)) ih := by
  have e : (ns.map IV.int).length = ns.length := List.length_map _
  unfold m_law_cell_at b_law_cell_at
  have h' : ih[0]? = some (.ro (ns.map IV.int)) := h
  clear h
  by_cases hk : k < ns.length
  · have e1 : decide ((k : Int) < (ns.length : Int)) = true := decide_eq_true (by omega)
    have e2 := atI_map (i := (k : Int)) rfl hk
    clear hk
    walk_at "run"
  · have e1 : decide ((k : Int) < (ns.length : Int)) = false := decide_eq_false (by omega)
    have e2 : ns.getD k 0 = 0 := by
      rw [List.getD_eq_getElem?_getD, List.getElem?_eq_none (by omega)]
      rfl
    clear hk
    walk_at "run"
theorem lit {i : Int} (n : Nat) (h : i.natAbs < 2 ^ n := by decide) : B n i := h
theorem run_mixed (c : Cs) {a k : Int} (ih : IH) (ha : B 1100000 a) (hk : B 64 k) : ∃ v : Int, m_law_mixed c [.int a, .int k] ih = .ok (.int v) ih ∧ 0 ≤ v ∧ v < 2147483563 := by
  unfold m_law_mixed b_law_mixed
  have h1 : B 31 (a % 2147483629) := B.mod (by decide) (lit 31)
  have h2 : B 1100000 (a / 2147483629) := B.div ha (by decide)
  have h3 : B 1100016 (a / 2147483629 * 30011) := B.mul (m := 16) h2 (lit 16)
  have h4 : B 1100017 (a % 2147483629 + a / 2147483629 * 30011) := B.add (h1.mono (by decide)) h3
  have h5 : B 81 (69621 * k) := B.mul (n := 17) (lit 17) hk
  have h6 : B 1100018 (a % 2147483629 + a / 2147483629 * 30011 + 69621 * k) := B.add h4 (h5.mono (by decide))
  have h7 : B 1100019 (a % 2147483629 + a / 2147483629 * 30011 + 69621 * k + 1) := B.add h6 ((lit 1 : B 1 1).mono (by decide))
  have c1 : cDiv a 2147483629 = true := cDiv_of (by decide) (lit 32) (by decide) (by decide)
  have c2 : cMul (a / 2147483629) 30011 = true := B.cmul h2 (lit 16 : B 16 30011) (by decide)
  have c3 : cMul 69621 k = true := B.cmul (lit 17 : B 17 69621) hk (by decide)
  have c4 : cMul (a % 2147483629 + a / 2147483629 * 30011 + 69621 * k + 1) 48271 = true := B.cmul h7 (lit 16 : B 16 48271) (by decide)
  obtain ⟨x, ex⟩ : ∃ x, (a % 2147483629 + a / 2147483629 * 30011 + 69621 * k + 1) * 48271 % 2147483629 = x := ⟨_, rfl⟩
  have g1 : B 31 x := ex ▸ B.mod (by decide) (lit 31)
  have g2 : B 66 (x / 907 + 16831 + k) := B.add (B.add (n := 64) ((B.div g1 (by decide)).mono (by decide)) ((lit 15 : B 15 16831).mono (by decide))) (hk.mono (by decide))
  have c5 : cDiv x 907 = true := cDiv_of (by decide) (lit 10 : B 10 907) (by decide) (by decide)
  have c6 : cMul x (x / 907 + 16831 + k) = true := B.cmul g1 g2 (by decide)
  obtain ⟨y, ey⟩ : ∃ y, x * (x / 907 + 16831 + k) % 2147483587 = y := ⟨_, rfl⟩
  have k1 : B 31 y := ey ▸ B.mod (by decide) (lit 31)
  have k2 : B 32 (y / 1201 + 30011) := B.add ((B.div k1 (by decide)).mono (by decide)) ((lit 15 : B 15 30011).mono (by decide))
  have c7 : cDiv y 1201 = true := cDiv_of (by decide) (lit 11 : B 11 1201) (by decide) (by decide)
  have c8 : cMul y (y / 1201 + 30011) = true := B.cmul k1 k2 (by decide)
  clear h1 h2 h3 h4 h5 h6 h7 g1 g2 k1 k2 ha hk
  walk_at "run"
  exact ⟨_, rfl, Int.emod_nonneg _ (by decide), Int.emod_lt_of_pos _ (by decide)⟩
/-- a source of draws at p; so many draws were made off it at most -/
def Src0 (p : Nat) (m : Nat) (ih : IH) : Prop := ∃ a b k : Int, ih[p]? = some (.lst [.int a, .int b, .int k]) ∧ B 1100000 a ∧ B 1100000 b ∧ 0 ≤ k ∧ k ≤ (m : Int)
theorem Src0.mono {p m n : Nat} {ih : IH} (h : Src0 p m ih) (e : m ≤ n) : Src0 p n ih := by
  obtain ⟨a, b, k, h1, h2, h3, h4, h5⟩ := h
  exact ⟨a, b, k, h1, h2, h3, h4, by omega⟩
theorem Src0.ext {p m : Nat} {ih ih' : IH} (h : Src0 p m ih) (e : Ext ih ih') : Src0 p m ih' := by
  obtain ⟨a, b, k, h1, h2⟩ := h
  exact ⟨a, b, k, e _ _ h1, h2⟩
theorem B64 {k : Int} {m : Nat} (h0 : 0 ≤ k) (h : k ≤ (m : Int)) (hm : m ≤ 1000000000) : B 64 k := B.lt h0 (by omega)
theorem at3_0 {a b k : IV} : atI [a, b, k] (0 : Int) = some a := rfl
theorem at3_1 {a b k : IV} : atI [a, b, k] (1 : Int) = some b := rfl
theorem at3_2 {a b k : IV} : atI [a, b, k] (2 : Int) = some k := rfl
theorem run_next (c : Cs) {p m : Nat} {many : Int} {ih : IH} (h : Src0 p m ih) (hm : m ≤ 1000000) (h0 : 0 < many) (hb : B 8000 many) : ∃ (v : Int) (ih' : IH), m_law_next c [.ref p, .int many] ih = .ok (.int v) ih' ∧ 0 ≤ v ∧ v < many ∧ Src0 p (m + 1) ih' ∧ ExtP p ih ih' ∧ ih'.length = ih.length := by
  obtain ⟨a, b, k, h1, ha, hbb, hk0, hk⟩ := h
  unfold m_law_next b_law_next
  have p1 : cPow 10 18 = true := by decide
  by_cases hc : (10 : Int) ^ 18 ≤ a
  · refine ⟨a % many, ih.set p (.lst [.int (a / many), .int b, .int k]), ?_, Int.emod_nonneg _ (Int.ne_of_gt h0), Int.emod_lt_of_pos _ h0, ⟨_, b, k, get_set h1, B.div ha h0, hbb, hk0, by omega⟩, ExtP.set _ _ _, List.length_set⟩
    have c1 := decide_eq_true hc
    have c2 : cDiv a many = true := cDiv_of h0 hb (by decide) (by decide)
    clear hc hb ha hbb hk0 hk hm
    walk_at "run"
  · obtain ⟨v, e3, v0, v1⟩ := run_mixed c (ih.set p (MO.lst [.int a, .int b, .int (k + 1)])) hbb (B64 (k := k + 1) (m := m + 1) (by omega) (by omega) (by omega))
    have e2 := get_set (o := MO.lst [.int a, .int b, .int (k + 1)]) h1
    refine ⟨v % many, ih.set p (MO.lst [.int a, .int b, .int (k + 1)]), ?_, Int.emod_nonneg _ (Int.ne_of_gt h0), Int.emod_lt_of_pos _ h0, ⟨a, b, k + 1, e2, ha, hbb, by omega, by omega⟩, ExtP.set _ _ _, List.length_set⟩
    have c1 := decide_eq_false hc
    clear hc hb ha hbb hk0 hk hm v0 v1
    walk_at "run"
theorem run_source (c : Cs) {ns : List Int} {k : Nat} {ih : IH} (h : Scr ns ih) (hb : ∀ z ∈ ns, ibits z ≤ 1048576) (hk : k ≤ 1000000) : ∃ ih', m_law_source c [.ref 0, .int (k : Int)] ih = .ok (.ref ih.length) ih' ∧ Src0 ih.length 0 ih' ∧ Ext ih ih' ∧ ih'.length = ih.length + 1 := by
  have e : (MO.ro (ns.map IV.int)).xs.length = ns.length := List.length_map _
  have bz : ∀ j, B 1100000 (ns.getD j 0) := fun j => by
    by_cases hj : j < ns.length
    · rw [List.getD_eq_getElem?_getD, List.getElem?_eq_getElem hj]
      exact (B.of_ib (hb _ (List.getElem_mem hj))).mono (by decide)
    · rw [List.getD_eq_getElem?_getD, List.getElem?_eq_none (by omega)]
      exact lit 1100000 (Nat.two_pow_pos _)
  unfold m_law_source b_law_source
  have h' : ih[0]? = some (.ro (ns.map IV.int)) := h
  have e : (ns.map IV.int).length = ns.length := List.length_map _
  have l3 : ∀ a b k : IV, [a, b, k].length ≤ 100000 := fun _ _ _ => by simp
  by_cases hk2 : k < ns.length
  · refine ⟨_, ?_, ⟨_, _, 0, get_new _ _, bz k, bz k, by omega, by omega⟩, Ext.app _ _, by simp⟩
    have e1 : decide ((k : Int) < (ns.length : Int)) = true := decide_eq_true (by omega)
    have e2 := atI_map (i := (k : Int)) rfl hk2
    clear hk hk2 h bz hb
    walk_at "run"
  · obtain ⟨v, e3, v0, v1⟩ := run_mixed c (a := ns.getD 0 0) (k := 1000 + (k : Int)) ih (bz 0) (B.lt (by omega) (by omega))
    refine ⟨_, ?_, ⟨v, v, 0, get_new _ _, (B.lt (n := 40) v0 (by omega)).mono (by decide), (B.lt (n := 40) v0 (by omega)).mono (by decide), by omega, by omega⟩, Ext.app _ _, by simp⟩
    have e1 : decide ((k : Int) < (ns.length : Int)) = false := decide_eq_false (by omega)
    have e4 : m_law_cell_at c [.ref 0, .int 0] ih = .ok (.int (ns.getD 0 0)) ih := run_cell_at (k := 0) c h
    clear hk hk2 h bz hb v0 v1
    walk_at "run"
end L3
/-! D1: the draws, backwards. -/
namespace L3
open PySem PySem.Spec PyProof.Rows L2
theorem ExtP.fr {p : Nat} {a b : IH} (h : ExtP p a b) : Fr p a b := fun n l ne => by
  rw [List.getElem?_eq_getElem l]
  exact h n _ ne (List.getElem?_eq_getElem l)
theorem Src0.lt {p m : Nat} {ih : IH} (h : Src0 p m ih) : p < ih.length := by
  obtain ⟨_, _, _, g, _⟩ := h
  exact lt_of_get g
theorem Src0.fx {p m : Nat} {a b : IH} (h : Src0 p m a) (e : Fx a b) : Src0 p m b := h.ext e.ext
theorem Src0.app {p m : Nat} {a : IH} {o : MO} (h : Src0 p m a) : Src0 p m (a ++ [o]) := h.fx Fx.app
theorem Src0.set {p m n : Nat} {a : IH} {o : MO} (h : Src0 p m a) (e : n ≠ p) : Src0 p m (a.set n o) := by
  obtain ⟨x, y, k, g, r⟩ := h
  exact ⟨x, y, k, by rw [g_sne e]; exact g, r⟩
theorem w_next (c : Cs) {p m : Nat} {many : Int} {ih : IH} {Q : PQ IV} {E : EQ} (h : Src0 p m ih) (h0 : 0 < many) (hb : B 8000 many) (hm : m ≤ 1000000)
    (k : ∀ v ih', 0 ≤ v → v < many → Src0 p (m + 1) ih' → Fr p ih ih' → ih'.length = ih.length → Q (.int v) ih') : wp (m_law_next c [.ref p, .int many] ih) Q E := by
  obtain ⟨v, ih', e, a, b, s, x, l⟩ := run_next c h hm h0 hb
  exact wp.of e (k v ih' a b s x.fr l)
theorem w_source (c : Cs) {ns : List Int} {k : Nat} {ih : IH} {Q : PQ IV} {E : EQ} (h : Scr ns ih) (hb : ∀ z ∈ ns, ibits z ≤ 1048576) (hk : k ≤ 1000000)
    (q : ∀ ih', Src0 ih.length 0 ih' → Fx ih ih' → ih'.length = ih.length + 1 → Q (.ref ih.length) ih') : wp (m_law_source c [.ref 0, .int (k : Int)] ih) Q E := by
  obtain ⟨ih', e, s, x, l⟩ := run_source c h hb hk
  exact wp.of e (q ih' s x.fx l)
end L3
/-! L9: comprehensions whose parts allocate or draw; rows of pairs. -/
namespace L3
open PySem PySem.Spec PyProof.Rows L2
section
variable {Q : PQ IV} {E : EQ} {env : Env} {ih : IH}
/-- a comprehension, with an invariant -/
theorem lc_gen {vs : List Nat} {g : IV → Env → IH → Option Env} {mt : Env → IH → Res Bool} {me : Env → IH → Res IV} {s : Src} (k : Nat) (P : Nat → List IV → IH → Prop) (hk : k ≤ s.size ih) (h0 : P 0 [] (ih ++ [.lst []]))
    (turn : ∀ i acc ih', i < k → P i acc ih' → ih'[ih.length]? = some (.lst acc) → ∃ v ih1 env1, s.turn i ih' = .item v ih1 ∧ g v (wipeI env vs) ih1 = some env1 ∧ wp (mt env1 ih1) (fun b ih2 => (b = false → ih2[ih.length]? = some (.lst acc) ∧ P (i + 1) acc ih2) ∧
      (b = true → wp (me env1 ih2) (fun y ih3 => ih3[ih.length]? = some (.lst acc) ∧ acc.length < 100000 ∧ P (i + 1) (acc ++ [y]) (ih3.set ih.length (.lst (acc ++ [y])))) E0)) E0)
    (stop : ∀ acc ih', P k acc ih' → ih'[ih.length]? = some (.lst acc) → s.turn k ih' = .stop)
    (fin : ∀ acc ih', P k acc ih' → ih'[ih.length]? = some (.lst acc) → Q (.ref ih.length) ih') : k_lc vs g mt me env Q E s ih := by
  obtain ⟨acc', ih', e1, e2, e3⟩ := lcGo_ind (s := s) (g := g) (n := mt) (me := me) (d := ih.length) (env := wipeI env vs) k P
    (fun i acc ih' hi hp hd => by
      obtain ⟨v, ih1, env1, t1, t2, t3⟩ := turn i acc ih' hi hp hd
      obtain ⟨b, ih2, e1, e2, e3⟩ := t3.out
      refine ⟨v, ih1, env1, b, ih2, t1, t2, e1, e2, fun hb => ?_⟩
      obtain ⟨y, ih3, f1, f2, f3, f4⟩ := (e3 hb).out
      exact ⟨y, ih3, f1, f2, f3, f4⟩)
    stop (s.size ih + 1) 0 [] (ih ++ [.lst []]) (Nat.zero_le _) (by omega) h0 (get_new _ _)
  exact wp.of e1 (fin acc' ih' e3 e2)
/-- over a range, with a test that allocates -/
theorem lc_rngA {vs : List Nat} {i : Nat} {mt : Env → IH → Res Bool} {me : Env → IH → Res IV} {j : Nat} {lo : Int} (T : Nat → Bool) (F : Nat → IV) (hz : j < 100000)
    (ht : ∀ k, k < j → ∀ ih', Fx ih ih' → ih.length ≤ ih'.length → wp (mt ((wipeI env vs).set i (some (.int (lo + (k : Int))))) ih') (fun v ih'' => v = T k ∧ Fx ih' ih'' ∧ ih'.length ≤ ih''.length) E0)
    (he : ∀ k, k < j → T k = true → ∀ ih', Fx ih ih' → ih.length ≤ ih'.length → wp (me ((wipeI env vs).set i (some (.int (lo + (k : Int))))) ih') (fun v ih'' => v = F k ∧ Fx ih' ih'' ∧ ih'.length ≤ ih''.length) E0)
    (q : ∀ ih', Fx ih ih' → ih.length < ih'.length → ih'[ih.length]? = some (.lst (((List.range j).filter T).map F)) → Q (.ref ih.length) ih') : k_lc vs (g_nm i) mt me env Q E (.rng lo 1 j) ih := by
  refine lc_gen j (fun k acc ih' => acc = ((List.range k).filter T).map F ∧ Fx ih ih' ∧ ih.length < ih'.length) (Nat.le_refl _) ⟨by simp, Fx.app, by simp⟩ (fun k acc ih' hk ⟨ha, fx, lx⟩ hd => ?_) (fun acc ih' _ _ => stop_rng) fun acc ih' ⟨ha, fx, lx⟩ hd => q ih' fx lx (by rw [← ha]; exact hd)
  have e0 : lo + (k : Int) * 1 = lo + (k : Int) := by omega
  refine ⟨.int (lo + (k : Int)), _, _, by rw [turn_rng hk, e0], rfl, (ht k hk ih' fx (by omega)).imp (fun v ih2 ⟨hv, f2, l2⟩ => ⟨fun hb => ⟨by rw [f2 _ lx]; exact hd, ?_, fx.trans f2 (by omega), by omega⟩, fun hb => (he k hk (by rw [← hv]; exact hb) ih2 (fx.trans f2 (by omega)) (by omega)).imp (fun y ih3 ⟨hy, f3, l3⟩ => ⟨by rw [f3 _ (by omega), f2 _ lx]; exact hd, ?_, ?_, ?_, ?_⟩) fun _ _ h => h⟩) fun _ _ h => h⟩
  · rw [List.range_succ, List.filter_append, ha, List.filter_cons, ← hv, hb]
    simp
  · rw [ha, List.length_map]
    exact Nat.lt_of_le_of_lt (List.length_filter_le _ _) (by rw [List.length_range]; omega)
  · rw [List.range_succ, List.filter_append, ha, List.filter_cons, ← hv, hb, hy]
    simp
  · exact ((fx.trans f2 (by omega)).trans f3 (by omega)).set (Nat.le_refl _)
  · rw [List.length_set]
    omega
end
/-- rows: references to pairs of ints -/
def PR (ih : IH) : List IV → List (Int × Int) → Prop
  | [], [] => True
  | .ref t :: xs, r :: rs => ih[t]? = some (.tup [.int r.1, .int r.2]) ∧ PR ih xs rs
  | _, _ => False
theorem PR.len {ih : IH} : ∀ {xs : List IV} {rs : List (Int × Int)}, PR ih xs rs → xs.length = rs.length
  | [], [], _ => rfl
  | .ref t :: xs, r :: rs, h => by
    rw [List.length_cons, List.length_cons, PR.len h.2]
theorem PR.mono {a b : IH} (f : ∀ (t : Nat) (i j : Int), a[t]? = some (.tup [.int i, .int j]) → b[t]? = some (.tup [.int i, .int j])) : ∀ {xs : List IV} {rs : List (Int × Int)}, PR a xs rs → PR b xs rs
  | [], [], _ => trivial
  | .ref t :: xs, r :: rs, h => ⟨f _ _ _ h.1, PR.mono f h.2⟩
theorem PR.fx {a b : IH} {xs : List IV} {rs : List (Int × Int)} (h : PR a xs rs) (f : Fx a b) : PR b xs rs := h.mono fun t i j e => by rw [f t (lt_of_get e)]; exact e
theorem PR.fr {a b : IH} {p : Nat} {o : List IV} {xs : List IV} {rs : List (Int × Int)} (h : PR a xs rs) (f : Fr p a b) (hp : a[p]? = some (.lst o)) : PR b xs rs := h.mono fun t i j e => by
  by_cases ht : t = p
  · subst ht
    rw [hp] at e
    cases e
  · rw [f t (lt_of_get e) ht]
    exact e
theorem PR.get {ih : IH} : ∀ {xs : List IV} {rs : List (Int × Int)} {i : Nat} {x : IV}, PR ih xs rs → xs[i]? = some x → ∃ t r, x = .ref t ∧ rs[i]? = some r ∧ ih[t]? = some (.tup [.int r.1, .int r.2])
  | .ref t :: xs, r :: rs, 0, x, h, e => ⟨t, r, (Option.some.inj e).symm, rfl, h.1⟩
  | .ref t :: xs, r :: rs, i + 1, x, h, e => PR.get (i := i) h.2 e
theorem PR.take {ih : IH} : ∀ {xs : List IV} {rs : List (Int × Int)} (n : Nat), PR ih xs rs → PR ih (xs.take n) (rs.take n)
  | _, _, 0, _ => trivial
  | [], [], n + 1, _ => trivial
  | .ref t :: xs, r :: rs, n + 1, h => ⟨h.1, PR.take n h.2⟩
theorem PR.app {ih : IH} {t : Nat} {r : Int × Int} (ht : ih[t]? = some (.tup [.int r.1, .int r.2])) : ∀ {xs : List IV} {rs : List (Int × Int)}, PR ih xs rs → PR ih (xs ++ [.ref t]) (rs ++ [r])
  | [], [], _ => ⟨ht, trivial⟩
  | .ref _ :: xs, _ :: rs, h => ⟨h.1, PR.app ht h.2⟩
theorem PR.append {ih : IH} : ∀ {xs ys : List IV} {rs ss : List (Int × Int)}, PR ih xs rs → PR ih ys ss → PR ih (xs ++ ys) (rs ++ ss)
  | [], _, [], _, _, k => k
  | .ref _ :: xs, _, _ :: rs, _, h, k => ⟨h.1, PR.append h.2 k⟩
theorem g_pairR {i j n : Nat} {v w : IV} {env : Env} {ih : IH} (h : ih[n]? = some (.tup [v, w])) : g_tup 2 (g_cons (g_nm i) (g_cons (g_nm j) g_nil)) (.ref n) env ih = some ((env.set i (some v)).set j (some w)) := by
  unfold g_tup
  dsimp only
  rw [h]
  rfl
/-- [me for a, b in rows], the element leaves the heap -/
theorem lc_rows {Q : PQ IV} {E : EQ} {env : Env} {ih : IH} {vs : List Nat} {i j n : Nat} {me : Env → IH → Res IV} {o : MO} {rs : List (Int × Int)} (F : Int × Int → IV) (ho : ih[n]? = some o) (hl : o.isL = true) (pr : PR ih o.xs rs) (hz : rs.length < 100000)
    (he : ∀ r ∈ rs, ∀ ih', Fx ih ih' → wp (me (((wipeI env vs).set i (some (.int r.1))).set j (some (.int r.2))) ih') (fun v ih'' => v = F r ∧ ih'' = ih') E0)
    (q : Q (.ref ih.length) (ih ++ [.lst (rs.map F)])) : k_lc vs (g_tup 2 (g_cons (g_nm i) (g_cons (g_nm j) g_nil))) n_yes me env Q E (.lst n) ih := by
  have hs : (Src.lst n).size ih = o.xs.length := by
    unfold Src.size
    dsimp only
    rw [ho]
  refine lc_gen o.xs.length (fun k acc ih' => acc = (rs.take k).map F ∧ ih' = ih ++ [.lst acc]) (by rw [hs]; exact Nat.le_refl _) ⟨by simp, rfl⟩ (fun k acc ih' hk ⟨ha, ei⟩ hd => ?_) (fun acc ih' ⟨_, ei⟩ _ => ?_) fun acc ih' ⟨ha, ei⟩ hd => ?_
  · subst ei
    have hx : o.xs[k]? = some o.xs[k] := List.getElem?_eq_getElem hk
    obtain ⟨t, r, e1, e2, e3⟩ := pr.get hx
    have ho' : (ih ++ [MO.lst acc])[n]? = some o := by rw [g_old (lt_of_get ho)]; exact ho
    have e3' : (ih ++ [MO.lst acc])[t]? = some (.tup [.int r.1, .int r.2]) := by rw [g_old (lt_of_get e3)]; exact e3
    have hr : r ∈ rs := List.mem_of_getElem? e2
    have hkr : k < rs.length := (List.getElem?_eq_some_iff.mp e2).1
    refine ⟨.ref t, _, _, by rw [turn_lst ho' hl hx, e1], g_pairR e3', ⟨(fun h => nomatch h), fun _ => wp.imp (he r hr _ Fx.app) (fun v ih2 hvi => ?_) fun _ _ h => h⟩⟩
    obtain ⟨hv, hi⟩ := hvi
    subst hi hv
    refine ⟨hd, ?_, ?_, ?_⟩
    · rw [ha, List.length_map, List.length_take]
      omega
    · rw [List.take_add_one, e2, ha, List.map_append]
      rfl
    · rw [set_append_last]
  · subst ei
    exact stop_lst (by rw [g_old (lt_of_get ho)]; exact ho) hl
  · rw [pr.len, List.take_length] at ha
    rw [ei, ha]
    exact q
/-- sorted of two rows -/
theorem wp_sortP2 {Q : PQ IV} {E : EQ} {ih : IH} {n s t : Nat} {a b x y : Int} (h : ih[n]? = some (.lst [.ref s, .ref t])) (hs : ih[s]? = some (.tup [.int a, .int b])) (ht : ih[t]? = some (.tup [.int x, .int y]))
    (q1 : (x < a ∨ (x = a ∧ y < b)) → Q (.ref ih.length) (ih ++ [.lst [.ref t, .ref s]])) (q2 : ¬ (x < a ∨ (x = a ∧ y < b)) → Q (.ref ih.length) (ih ++ [.lst [.ref s, .ref t]])) : wp (f_sortP [.ref n] ih) Q E := by
  have k1 : kI ih (.ref s) = (a, b) := by
    unfold kI
    dsimp only
    rw [hs]
  have k2 : kI ih (.ref t) = (x, y) := by
    unfold kI
    dsimp only
    rw [ht]
  have p1 : isPr ih (.ref s) = true := by
    unfold isPr
    dsimp only
    rw [hs]
  have p2 : isPr ih (.ref t) = true := by
    unfold isPr
    dsimp only
    rw [ht]
  have e : f_sortP [.ref n] ih = .ok (.ref ih.length) (ih ++ [.lst (isB (ltI ih) [] [.ref s, .ref t])]) := by
    unfold f_sortP
    dsimp only
    rw [h]
    dsimp only
    rw [if_pos ⟨rfl, by rw [xs_lst]; simp [p1, p2]⟩]
    rfl
  refine wp.of e ?_
  have e2 : isB (ltI ih) [] [.ref s, .ref t] = if SrtO.lexB (x, y) (a, b) = true then [.ref t, .ref s] else [.ref s, .ref t] := by
    show insB (ltI ih) (.ref t) [.ref s] = _
    unfold insB
    show (if SrtO.lexB (kI ih (.ref t)) (kI ih (.ref s)) = true then _ else _) = _
    rw [k1, k2]
    rfl
  rw [e2]
  by_cases hh : SrtO.lexB (x, y) (a, b) = true
  · rw [if_pos hh]
    exact q1 (by simpa using SrtO.lexB_iff.mp hh)
  · rw [if_neg hh]
    refine q2 fun hc => hh (SrtO.lexB_iff.mpr (by simpa using hc))
theorem wp_max1 {Q : PQ IV} {E : EQ} {ih : IH} {n : Nat} (ns : List Int) (h : ih[n]? = some (.lst (ns.map IV.int))) (hn : 0 < ns.length) (q : ∀ m, m ∈ ns → (∀ y ∈ ns, y ≤ m) → Q (.int m) ih) : wp (f_max1 [.ref n] ih) Q E := by
  have e : f_max1 [.ref n] ih = .ok (.int (maxI ns)) ih := by
    unfold f_max1 f_ints
    dsimp only
    rw [h]
    dsimp only
    rw [if_pos (isL_lst _), xs_lst, ints?_map]
    dsimp only
    rw [if_pos hn]
  exact wp.of e (q _ (maxI_spec hn).1 (maxI_spec hn).2)
theorem wp_min1 {Q : PQ IV} {E : EQ} {ih : IH} {n : Nat} (ns : List Int) (h : ih[n]? = some (.lst (ns.map IV.int))) (hn : 0 < ns.length) (q : ∀ m, m ∈ ns → (∀ y ∈ ns, m ≤ y) → Q (.int m) ih) : wp (f_min1 [.ref n] ih) Q E := by
  have e : f_min1 [.ref n] ih = .ok (.int (minI ns)) ih := by
    unfold f_min1 f_ints
    dsimp only
    rw [h]
    dsimp only
    rw [if_pos (isL_lst _), xs_lst, ints?_map]
    dsimp only
    rw [if_pos hn]
  exact wp.of e (q _ (minI_spec hn).1 (minI_spec hn).2)
/-! ### an int or None -/
def ofO : Option Int → IV
  | some i => .int i
  | none => .non
def oD : Option Int → PyData
  | some i => .int i
  | none => .none
theorem Is.ofO {ih : IH} : ∀ x : Option Int, Is ih (ofO x) (oD x)
  | some i => .int i
  | none => .non
theorem shaped_oD : ∀ x : Option Int, SeqAt.shaped (oD x) = true
  | some i => shaped_int i
  | none => by simp [oD, SeqAt.shaped, PyData.canLay0, PyData.depth]
theorem Is.fx {a b : IH} {d : PyData} {v : IV} (h : Is a v d) (f : Fx a b) : Is b v d := Is.ext f.ext d v h
theorem cutI_take {xs : List IV} {k : Nat} (h : k ≤ xs.length) : cutI xs none (some (k : Int)) = xs.take k := by
  unfold cutI
  rw [HT.sIx_none]
  have e : HT.sIx xs.length xs.length (some (k : Int)) = k := by
    have h2 := HT.clip_eq (k : Int) xs.length xs.length
    rw [if_neg (by omega)] at h2
    omega
  rw [e, List.drop_zero, Nat.sub_zero]
def prD (r : Int × Int) : PyData := .tuple [.int r.1, .int r.2]
theorem canLay_prs : ∀ rs : List (Int × Int), PyData.canLayAll0 (rs.map prD) = true
  | [] => by simp [PyData.canLayAll0]
  | r :: rs => by simp [prD, PyData.canLayAll0, PyData.canLay0, canLay_prs rs]
theorem depth_prs : ∀ rs : List (Int × Int), PyData.depthAll (rs.map prD) ≤ 3
  | [] => by simp [PyData.depthAll]
  | r :: rs => by
    have := depth_prs rs
    simp only [List.map_cons, PyData.depthAll, prD, PyData.depth]
    omega
theorem PR.is {ih : IH} : ∀ {xs : List IV} {rs : List (Int × Int)}, PR ih xs rs → IsAll ih xs (rs.map prD)
  | [], [], _ => .nil
  | .ref t :: xs, r :: rs, h => .cons (.tup h.1 rfl (.cons (.int r.1) (.cons (.int r.2) .nil))) (PR.is h.2)
end L3
/-! L13: dicts, backwards. -/
namespace L3
open PySem PySem.Spec PyProof.Rows L2
section
variable {Q : PQ IV} {E : EQ} {ih : IH} {n : Nat} {kvs : List (Key × IV)}
theorem wp_dnew {env : Env} (q : Q (.ref ih.length) (ih ++ [.dk []])) : wp (m_dnew env ih) Q E := q
theorem wp_dgetI {i : Int} {v : IV} (h : ih[n]? = some (.dk kvs)) (e : getM kvs (.inl i) = some v) (q : Q v ih) : wp (f_dget (.ref n) (.int i) ih) Q E := by
  have : f_dget (.ref n) (.int i) ih = .ok v ih := by
    unfold f_dget
    dsimp only [keyM]
    rw [h]
    dsimp only
    rw [e]
  exact wp.of this q
theorem wp_sortedD {ks : List Int} (h : ih[n]? = some (.dk kvs)) (e : keysI kvs = some ks) (hl : ks.length < 64) (q : Q (.ref ih.length) (ih ++ [.lst ((isI ks).map IV.int)])) : wp (f_sortedD [.ref n] ih) Q E := by
  have : f_sortedD [.ref n] ih = .ok (.ref ih.length) (ih ++ [.lst ((isI ks).map IV.int)]) := by
    unfold f_sortedD
    dsimp only
    rw [h]
    dsimp only
    rw [e]
    dsimp only
    rw [if_pos hl]
  exact wp.of this q
theorem wp_sumV {ns : List Int} (h : ih[n]? = some (.dk kvs)) (e : valsI kvs = some ns) (hl : okSum ns = true) (q : Q (.int ns.sum) ih) : wp (f_sumV (.ref n) ih) Q E := by
  have : f_sumV (.ref n) ih = .ok (.int ns.sum) ih := by
    unfold f_sumV
    dsimp only
    rw [h]
    dsimp only
    rw [e]
    dsimp only
    rw [if_pos hl]
  exact wp.of this q
/-- d.get(i, z), names and a constant -/
theorem wp_dget2V {a b : Nat} {i z : Int} {env : Env} (ea : env[a]? = some (some (.ref n))) (eb : env[b]? = some (some (.int i))) (h : ih[n]? = some (.dk kvs)) (q : Q ((getM kvs (.inl i)).getD (.int z)) ih) : wp (m_dget2 (m_var a) (m_var b) (m_c (.int z)) env ih) Q E := by
  have : m_dget2 (m_var a) (m_var b) (m_c (.int z)) env ih = .ok ((getM kvs (.inl i)).getD (.int z)) ih := by
    unfold m_dget2 m_var m_c
    rw [ea, eb]
    dsimp only [Res.bind]
    rw [h]
    dsimp only [keyM]
  exact wp.of this q
/-- {i: z} -/
theorem wp_disp1 {i z : Int} {env : Env} (q : Q (.ref ih.length) (ih ++ [.dk [(.inl i, .int z)]])) : wp (m_disp1 (m_c (.int i)) (m_c (.int z)) env ih) Q E := by
  have : m_disp1 (m_c (.int i)) (m_c (.int z)) env ih = .ok (.ref ih.length) (ih ++ [.dk [(.inl i, .int z)]]) := by
    unfold m_disp1 m_c
    dsimp only [Res.bind, keyM]
    rw [g_new]
    dsimp only
    rw [List.set_append_right _ _ (Nat.le_refl _), Nat.sub_self]
    rfl
  exact wp.of this q
end
/-! ### a dict with keys a step apart -/
def dkS (h s : Int) (g : Nat → Int) (m : Nat) : List (Key × IV) := (List.range m).map fun j : Nat => (.inl (h + s * j), .int (g j))
section
variable {h s : Int} {g : Nat → Int} {m : Nat}
theorem dkS_len : (dkS h s g m).length = m := by
  unfold dkS
  rw [List.length_map, List.length_range]
theorem dkS_succ : dkS h s g (m + 1) = dkS h s g m ++ [(.inl (h + s * m), .int (g m))] := by
  unfold dkS
  rw [List.range_succ, List.map_append]
  rfl
theorem key_ne (hs : 0 < s) {j k : Nat} (e : j ≠ k) : (Sum.inl (h + s * (j : Int)) : Key) ≠ Sum.inl (h + s * (k : Int)) := fun z => by
  have z1 : h + s * (j : Int) = h + s * (k : Int) := Sum.inl.inj z
  have z2 : s * (j : Int) = s * (k : Int) := by omega
  have := Int.eq_of_mul_eq_mul_left (by omega) z2
  omega
theorem dkS_get (hs : 0 < s) : ∀ (m k : Nat), getM (dkS h s g m) (.inl (h + s * k)) = if k < m then some (.int (g k)) else none
  | 0, k => by
    rw [if_neg (by omega)]
    rfl
  | m + 1, k => by
    rw [dkS_succ]
    have e : ∀ (a b : List (Key × IV)) (x : Key), getM (a ++ b) x = (getM a x).or (getM b x) := fun a b x => by
      unfold getM
      rw [List.find?_append]
      cases List.find? _ a <;> rfl
    rw [e, dkS_get hs m k]
    by_cases z : k < m
    · rw [if_pos z, if_pos (by omega)]
      rfl
    · rw [if_neg z]
      by_cases z2 : k = m
      · subst z2
        rw [if_pos (by omega)]
        unfold getM
        simp
      · rw [if_neg (by omega)]
        unfold getM
        rw [List.find?_cons, decide_eq_false (key_ne hs (fun y => z2 y.symm))]
        rfl
theorem dkS_any (hs : 0 < s) (m k : Nat) : ((dkS h s g m).any fun kv => decide (kv.1 = .inl (h + s * k))) = decide (k < m) := by
  rw [Bool.eq_iff_iff, List.any_eq_true, decide_eq_true_eq]
  unfold dkS
  constructor
  · rintro ⟨x, hx, e⟩
    obtain ⟨j, hj, rfl⟩ := List.mem_map.mp hx
    rw [List.mem_range] at hj
    have : j = k := by
      by_cases z : j = k
      · exact z
      · exact absurd (of_decide_eq_true e) (key_ne hs z)
    omega
  · intro hk
    exact ⟨_, List.mem_map.mpr ⟨k, List.mem_range.mpr hk, rfl⟩, decide_eq_true rfl⟩
theorem dkS_put (hs : 0 < s) {k : Nat} {v : Int} (hk : k ≤ m) : putM (dkS h s g m) (.inl (h + s * k)) (.int v) = dkS h s (fun j => if j = k then v else g j) (if k < m then m else m + 1) := by
  unfold putM
  rw [dkS_any hs]
  by_cases z : k < m
  · rw [decide_eq_true z, if_pos rfl, if_pos z]
    unfold dkS
    rw [List.map_map]
    refine List.map_congr_left fun j _ => ?_
    show (if (Sum.inl (h + s * (j : Int)) : Key) = Sum.inl (h + s * (k : Int)) then _ else _) = _
    by_cases y : j = k
    · subst y
      rw [if_pos rfl]
      simp
    · rw [if_neg (key_ne hs y)]
      simp [y]
  · have : k = m := by omega
    subst this
    rw [decide_eq_false z, if_neg (by decide), if_neg z, dkS_succ, if_pos rfl]
    congr 1
    unfold dkS
    refine List.map_congr_left fun j hj => ?_
    rw [List.mem_range] at hj
    simp [show ¬ j = k by omega]
theorem dkS_keys : keysI (dkS h s g m) = some ((List.range m).map fun j : Nat => h + s * (j : Int)) := by
  unfold dkS
  generalize List.range m = l
  induction l with
  | nil => rfl
  | cons j l ih =>
    rw [List.map_cons, List.map_cons]
    unfold keysI
    rw [ih]
    rfl
theorem dkS_vals : valsI (dkS h s g m) = some ((List.range m).map g) := by
  unfold dkS
  generalize List.range m = l
  induction l with
  | nil => rfl
  | cons j l ih =>
    rw [List.map_cons, List.map_cons]
    unfold valsI
    rw [ih]
    rfl
end
end L3
/-! P1: numbers and counters, good arguments. -/
namespace L3
open PySem PySem.Spec PyProof.Rows L2
local macro_rules | `(tactic| walk_at "run") => `(tactic| simp only [m_op, m_var, m_c, m_un, m_nil, m_cons, m_if, m_and, m_or, m_not, m_tb, m_andV, m_orV, m_notV, m_app, m_sl, m_none, m_some, m_mL, m_mL0, ms_set, ms_expr, ms_ret, ms_retN, ms_pass, ms_brk, ms_cont, ms_if, ms_seq, ms_aug, ms_par, ms_setL, ms_raise,
  Res.bind_ok, Res.bind_exc, Res.bind_stuck, Res.stm_ok, Res.stm_exc, Res.stm_stuck, RS.seq_next, RS.seq_ret, RS.seq_brk, RS.seq_cont, RS.seq_exc, RS.seq_stuck, RS.out_ret, RS.out_next, RS.out_exc,
  startI_cons, startI_nil, rep_succ, rep_zero, List.getElem?_cons_zero, List.getElem?_cons_succ, List.set_cons_zero, List.set_cons_succ, defRun, g_nm, f_call, List.append_nil, List.nil_append, List.cons_append, List.length_cons, List.length_nil, if_true, if_false,
  a_int, a_add, a_addI, a_sub, a_neg, a_lt, a_le, a_gt, a_ge, a_max2, a_min2, a_abs, a_isN, a_notN, a_mul, a_mulI, a_fdiv, a_mod, a_shl, a_shr, a_pow, a_lst, a_tup, f_ix, f_len, f_list, f_append, f_setL, isLst, atI_0, atI_1, atI_2, atI_3, atI_4, atI_5, atI_6, atI_7, atI_8, atI_9, atI_10, atI_11, atI_12, ixN_30, ixN_31, ixN_32, Int.toNat_zero, Int.reduceToNat, Int.reduceNeg, xs_lst, xs_tup, xs_ro, xs_rot, isL_lst, isL_tup, isL_ro, isL_rot,
  Bool.false_eq_true, Bool.true_eq_false, Bool.not_true, Bool.not_false, decide_true, decide_false, ↓reduceIte, Int.reduceLT, Int.reduceLE, Nat.reduceLT, Nat.reduceLeDiff, Nat.reduceAdd, *])
theorem kit_int_int : kitB "int" "int" = some true := by decide +kernel
theorem kit_int_bool : kitB "int" "bool" = some false := by decide +kernel
theorem kit_list_list : kitB "list" "list" = some true := by decide +kernel
theorem a_isi {x : IV} {T t : String} {b : Bool} {ih : IH} (h : tyN x ih = some t) (k : kitB t T = some b) : f_isi [x, .ty T] ih = .ok (.bl b) ih := by
  unfold f_isi
  dsimp only
  rw [h]
  dsimp only
  rw [k]
theorem isi_int_int {i : Int} {ih : IH} : f_isi [.int i, .ty "int"] ih = .ok (.bl true) ih := a_isi rfl kit_int_int
theorem isi_int_bool {i : Int} {ih : IH} : f_isi [.int i, .ty "bool"] ih = .ok (.bl false) ih := a_isi rfl kit_int_bool
theorem isi_list {n : Nat} {xs : List IV} {ih : IH} (h : ih[n]? = some (.lst xs)) : f_isi [.ref n, .ty "list"] ih = .ok (.bl true) ih := a_isi (by unfold tyN; dsimp only; rw [h]) kit_list_list
theorem run_whole (c : Cs) (i l : Int) (ih : IH) : m_is_whole c [.int i, .int l] ih = .ok (.bl (decide (l ≤ i))) ih := by
  have a1 := @isi_int_int i ih
  have a2 := @isi_int_bool i ih
  have a3 : decide (IV.int l = IV.non) = false := rfl
  unfold m_is_whole b_is_whole
  walk_at "run"
theorem run_whole0 (c : Cs) (i : Int) (ih : IH) : m_is_whole c [.int i, .non] ih = .ok (.bl true) ih := by
  have a1 := @isi_int_int i ih
  have a2 := @isi_int_bool i ih
  have a3 : decide (IV.non = IV.non) = true := rfl
  unfold m_is_whole b_is_whole
  walk_at "run"
def Sorted : List Int → Prop
  | [] => True
  | [_] => True
  | a :: b :: r => a ≤ b ∧ Sorted (b :: r)
theorem sorted_zip : ∀ {ns : List Int}, Sorted ns → ∀ b ∈ List.zipWith (fun a b => decide (a ≤ b)) ns (ns.drop 1), b = true
  | [], _ => fun b h => nomatch h
  | [_], _ => fun b h => nomatch h
  | a :: b :: r, h => fun x hx => by
    rcases List.mem_cons.mp (show x ∈ decide (a ≤ b) :: List.zipWith _ (b :: r) ((b :: r).drop 1) from hx) with e | e
    · rw [e]
      exact decide_eq_true h.1
    · exact sorted_zip h.2 x e
theorem zip_ints (f : Int → Int → IV) (g : IV → IV → IV) (h : ∀ a b, g (.int a) (.int b) = f a b) (xs ys : List Int) : List.zipWith g (xs.map IV.int) (ys.map IV.int) = List.zipWith f xs ys := by
  rw [List.zipWith_map]
  congr 1
  funext a b
  exact h a b
theorem map_zip {α : Type} (f : Int → Int → α) (g : α → IV) (xs ys : List Int) : List.zipWith (fun a b => g (f a b)) xs ys = (List.zipWith f xs ys).map g := by
  rw [List.map_zipWith]
theorem run_is_cycles (c : Cs) {p : Nat} {ns : List Int} {ih : IH} (h : ih[p]? = some (.lst (ns.map IV.int))) (hn : ∀ n ∈ ns, 0 ≤ n) (hs : Sorted ns) (hz : ns.length < 100000) :
    ∃ ih', m_is_cycles c [.ref p, .int 0] ih = .ok (.bl true) ih' ∧ Ext ih ih' := by
  have a1 := isi_list h
  have l1 : (MO.lst (ns.map IV.int)).xs.length < 100000 := by rw [xs_lst, List.length_map]; exact hz
  have e1 : lc_is_cycles_1 c [some (.ref p), some (.int 0), none, none] ih = .ok (.ref ih.length) (ih ++ [.lst ((ns.map IV.int).map fun _ => .bl true)]) := by
    unfold lc_is_cycles_1
    refine lc_map (fun _ => .bl true) (p := p) rfl h rfl l1 fun x hx ih' e => ?_
    obtain ⟨n, hn1, rfl⟩ := List.mem_map.mp hx
    have e2 := run_whole c n 0 ih'
    have e3 : decide (0 ≤ n) = true := decide_eq_true (hn n hn1)
    rw [e3] at e2
    unfold le_is_cycles_1
    show (f_call 2 [] (m_is_whole c) [.int n, .int 0] ih') = _
    exact e2
  have e2 : f_all [.ref ih.length] (ih ++ [.lst ((ns.map IV.int).map fun _ => .bl true)]) = .ok (.bl true) (ih ++ [.lst ((ns.map IV.int).map fun _ => .bl true)]) := by
    rw [a_all (ns := ns.map fun _ => true) (get_new _ _) rfl (by rw [xs_lst, List.map_map, List.map_map]; rfl)]
    congr 2
    rw [List.all_eq_true]
    intro b hb
    obtain ⟨_, _, rfl⟩ := List.mem_map.mp hb
    rfl
  obtain ⟨ih1, ei⟩ : ∃ ih1, ih ++ [.lst ((ns.map IV.int).map fun _ => .bl true)] = ih1 := ⟨_, rfl⟩
  have x1 : Ext ih ih1 := ei ▸ Ext.app _ _
  rw [ei] at e1 e2
  obtain ⟨ih2, ej⟩ : ∃ ih2, ih1 ++ [.lst ((ns.map IV.int).drop 1)] = ih2 := ⟨_, rfl⟩
  have x2 : Ext ih1 ih2 := ej ▸ Ext.app _ _
  have g1 : f_sl (.ref p) (some 1) none ih1 = .ok (.ref ih1.length) ih2 := by rw [a_slL (x1 _ _ h), cutI_1, ej]
  have g2 : ih2[ih1.length]? = some (.lst ((ns.map IV.int).drop 1)) := ej ▸ get_new _ _
  obtain ⟨ih3, e3, x3, e4⟩ := lc_zip (vs := [2, 3]) (i := 2) (j := 3) (m := m_cons (m_var 0) (m_cons (m_sl (m_var 0) (m_some (m_c (.int 1))) m_none) m_nil)) (me := le_is_cycles_2 c) (env := [some (.ref p), some (.int 0), none, none]) (ih := ih1) (ih1 := ih2) (p := p) (q := ih1.length)
    (fun x y => match x, y with
      | .int a, .int b => .bl (decide (a ≤ b))
      | _, _ => .non) (by walk_at "run") (x2 _ _ (x1 _ _ h)) rfl g2 rfl l1 fun k x y hx hy ih' e => by
      obtain ⟨a, ha, rfl⟩ := List.mem_map.mp (List.mem_of_getElem? hx)
      rw [xs_lst, ← List.map_drop] at hy
      obtain ⟨b, hb, rfl⟩ := List.mem_map.mp (List.mem_of_getElem? hy)
      rfl
  have e5 : f_all [.ref ih2.length] ih3 = .ok (.bl true) ih3 := by
    rw [a_all (ns := List.zipWith (fun a b => decide (a ≤ b)) ns (ns.drop 1)) e4 rfl (by
      rw [xs_lst, xs_lst, xs_lst, ← List.map_drop, zip_ints (fun a b => .bl (decide (a ≤ b))) _ (fun _ _ => rfl), map_zip (fun a b => decide (a ≤ b)) IV.bl])]
    congr 2
    rw [List.all_eq_true]
    exact sorted_zip hs
  have e6 : lc_is_cycles_2 c [some (.ref p), some (.int 0), none, none] ih1 = .ok (.ref ih2.length) ih3 := e3
  refine ⟨ih3, ?_, x1.trans (x2.trans x3)⟩
  clear e3 e4 x3 x2 x1 g1 g2 hs hn l1 hz h
  unfold m_is_cycles b_is_cycles
  walk_at "run"
theorem pow_B {w : Int} (h0 : 0 ≤ w) (h1 : w ≤ 64) : B 65 ((2 : Int) ^ w.toNat) := by
  unfold B
  rw [Int.natAbs_pow]
  exact Nat.pow_lt_pow_right (by decide) (by omega)
theorem pow_pos (w : Int) : (0 : Int) < 2 ^ w.toNat := Int.pow_pos (by decide)
theorem run_power (c : Cs) {w : Int} (ih : IH) (h0 : 0 ≤ w) (h1 : w ≤ 100000) : m_power c [.int w] ih = .ok (.int (2 ^ w.toNat)) ih := by
  obtain ⟨k, rfl⟩ := Int.eq_ofNat_of_zero_le h0
  have c1 : cShl 1 (k : Int) = true := cShl_of (lit 1 : B 1 1) (by omega)
  unfold m_power b_power
  walk_at "run"
  rw [Int.one_mul]
theorem run_check_width (c : Cs) {w : Int} (ih : IH) (h0 : 1 ≤ w) (h1 : w ≤ 64) : m_check_width c [.int w] ih = .ok .non ih := by
  have e1 := run_whole c w 1 ih
  rw [decide_eq_true h0] at e1
  have e2 : decide (64 < w) = false := decide_eq_false (by omega)
  clear h0 h1
  unfold m_check_width b_check_width
  walk_at "run"
theorem run_check_looks (c : Cs) {p : Nat} {ns : List Int} {ih : IH} (h : ih[p]? = some (.lst (ns.map IV.int))) (hn : ∀ n ∈ ns, 0 ≤ n) (hs : Sorted ns) (hz : ns.length < 100000) (hne : ns ≠ []) :
    ∃ ih', m_check_looks c [.ref p] ih = .ok .non ih' ∧ Ext ih ih' := by
  obtain ⟨ih1, e1, x1⟩ := run_is_cycles c h hn hs hz
  have e2 : f_eq (.ref p) (.ref ih1.length) (ih1 ++ [.lst []]) = .ok (.bl false) (ih1 ++ [.lst []]) := by
    rw [f_eq_of (d := .list (ns.map .int)) (e := .list (([] : List Int).map .int)) (Is.ints (Ext.app _ _ _ _ (x1 _ _ h)) rfl rfl) (Is.ints (get_new _ _) rfl rfl) (shaped_ints _) (shaped_ints _), eqv_list, decide_eq_false hne]
  refine ⟨ih1 ++ [.lst []], ?_, x1.trans (Ext.app _ _)⟩
  have l0 : ([] : List IV).length ≤ 100000 := by simp
  clear hn hs hz hne h x1
  unfold m_check_looks b_check_looks
  walk_at "run"
theorem run_shown (c : Cs) {p : Nat} {w : Int} {ns : List Int} {ih : IH} (h : ih[p]? = some (.lst (ns.map IV.int))) (hn : ∀ n ∈ ns, 0 ≤ n) (hs : Sorted ns) (hz : ns.length < 100000) (hne : ns ≠ []) (h0 : 1 ≤ w) (h1 : w ≤ 64) :
    ∃ q ih', m_shown c [.int w, .ref p] ih = .ok (.ref q) ih' ∧ Ext ih ih' ∧ ih.length ≤ q ∧ ih'[q]? = some (.lst ((ns.map (· % 2 ^ w.toNat)).map IV.int)) := by
  have e1 := run_check_width c ih h0 h1
  obtain ⟨ih1, e2, x1⟩ := run_check_looks c h hn hs hz hne
  have l1 : (MO.lst (ns.map IV.int)).xs.length < 100000 := by rw [xs_lst, List.length_map]; exact hz
  have e3 : lc_shown_1 c [some (.int w), some (.ref p), none] ih1 = .ok (.ref ih1.length) (ih1 ++ [.lst ((ns.map IV.int).map fun x => match x with
      | .int n => .int (n % 2 ^ w.toNat)
      | y => y)]) := by
    unfold lc_shown_1
    refine lc_map (fun x => match x with
      | .int n => .int (n % 2 ^ w.toNat)
      | y => y) (p := p) rfl (x1 _ _ h) rfl l1 fun x hx ih' e => ?_
    obtain ⟨n, hn1, rfl⟩ := List.mem_map.mp hx
    have g1 := run_power c (w := w) ih' (by omega) (by omega)
    have g2 := pow_pos w
    clear hn hs hz hne h x1 hn1 hx e l1 h0 h1 e1 e2
    unfold le_shown_1
    simp only [wipeI]
    walk_at "run"
  refine ⟨ih1.length, ih1 ++ [.lst ((ns.map (· % 2 ^ w.toNat)).map IV.int)], ?_, x1.trans (Ext.app _ _), ?_, get_new _ _⟩
  · rw [List.map_map] at e3 ⊢
    have e4 : (fun x : IV => (match x with
      | .int n => .int (n % 2 ^ w.toNat)
      | y => y)) ∘ IV.int = IV.int ∘ fun n => n % 2 ^ w.toNat := rfl
    rw [e4] at e3
    clear hn hs hz hne h x1 l1 h0 h1 e4
    unfold m_shown b_shown
    walk_at "run"
  · rcases Nat.lt_or_ge ih1.length ih.length with hl | hl
    · have := x1 (ih.length - 1) _ (List.getElem?_eq_getElem (by omega))
      have := lt_of_get this
      omega
    · exact hl
end L3
/-! P1b: counted, lost. -/
namespace L3
open PySem PySem.Spec PyProof.Rows L2
local macro_rules | `(tactic| walk_at "run") => `(tactic| simp only [m_op, m_var, m_c, m_un, m_nil, m_cons, m_if, m_and, m_or, m_not, m_tb, m_andV, m_orV, m_notV, m_app, m_sl, m_none, m_some, m_mL, m_mL0, ms_set, ms_expr, ms_ret, ms_retN, ms_pass, ms_brk, ms_cont, ms_if, ms_seq, ms_aug, ms_par, ms_setL, ms_raise,
  Res.bind_ok, Res.bind_exc, Res.bind_stuck, Res.stm_ok, Res.stm_exc, Res.stm_stuck, RS.seq_next, RS.seq_ret, RS.seq_brk, RS.seq_cont, RS.seq_exc, RS.seq_stuck, RS.out_ret, RS.out_next, RS.out_exc,
  startI_cons, startI_nil, rep_succ, rep_zero, List.getElem?_cons_zero, List.getElem?_cons_succ, List.set_cons_zero, List.set_cons_succ, defRun, g_nm, f_call, List.append_nil, List.nil_append, List.cons_append, List.length_cons, List.length_nil, if_true, if_false,
  a_int, a_add, a_addI, a_sub, a_neg, a_lt, a_le, a_gt, a_ge, a_max2, a_min2, a_abs, a_isN, a_notN, a_mul, a_mulI, a_fdiv, a_mod, a_shl, a_shr, a_pow, a_lst, a_tup, f_ix, f_len, f_list, f_append, f_setL, isLst, atI_0, atI_1, atI_2, atI_3, atI_4, atI_5, atI_6, atI_7, atI_8, atI_9, atI_10, atI_11, atI_12, ixN_30, ixN_31, ixN_32, Int.toNat_zero, Int.reduceToNat, Int.reduceNeg, xs_lst, xs_tup, xs_ro, xs_rot, isL_lst, isL_tup, isL_ro, isL_rot,
  Bool.false_eq_true, Bool.true_eq_false, Bool.not_true, Bool.not_false, decide_true, decide_false, ↓reduceIte, Int.reduceLT, Int.reduceLE, Nat.reduceLT, Nat.reduceLeDiff, Nat.reduceAdd, *])
def counts (s : Int) (ns : List Int) : Int := (List.zipWith (fun a b => (b - a) % s) (ns.map (· % s)) ((ns.map (· % s)).drop 1)).sum
theorem run_counted (c : Cs) {p : Nat} {w : Int} {ns : List Int} {ih : IH} (h : ih[p]? = some (.lst (ns.map IV.int))) (hn : ∀ n ∈ ns, 0 ≤ n) (hs : Sorted ns) (hz : ns.length < 100000) (hne : ns ≠ []) (h0 : 1 ≤ w) (h1 : w ≤ 64) :
    ∃ ih', m_counted c [.int w, .ref p] ih = .ok (.int (counts (2 ^ w.toNat) ns)) ih' ∧ Ext ih ih' := by
  obtain ⟨q, ih1, e1, x1, lq, g1⟩ := run_shown c h hn hs hz hne h0 h1
  obtain ⟨s, es⟩ : ∃ s : Int, 2 ^ w.toNat = s := ⟨_, rfl⟩
  have s0 := pow_pos w
  rw [es] at g1 s0 ⊢
  obtain ⟨vs, ev⟩ : ∃ vs, ns.map (· % s) = vs := ⟨_, rfl⟩
  have hv : vs.length = ns.length := by rw [← ev, List.length_map]
  rw [ev] at g1
  obtain ⟨ih2, ej⟩ : ∃ ih2, ih1 ++ [.lst ((vs.map IV.int).drop 1)] = ih2 := ⟨_, rfl⟩
  have x2 : Ext ih1 ih2 := ej ▸ Ext.app _ _
  have g2 : f_sl (.ref q) (some 1) none ih1 = .ok (.ref ih1.length) ih2 := by rw [a_slL g1, cutI_1, ej]
  have g3 : ih2[ih1.length]? = some (.lst ((vs.map IV.int).drop 1)) := ej ▸ get_new _ _
  have l1 : (MO.lst (vs.map IV.int)).xs.length < 100000 := by rw [xs_lst, List.length_map, hv]; exact hz
  obtain ⟨ih3, e3, x3, e4⟩ := lc_zip (vs := [3, 4]) (i := 3) (j := 4) (m := m_cons (m_var 2) (m_cons (m_sl (m_var 2) (m_some (m_c (.int 1))) m_none) m_nil)) (me := le_counted_1 c) (env := [some (.int w), some (.ref p), some (.ref q), none, none]) (ih := ih1) (ih1 := ih2) (p := q) (q := ih1.length)
    (fun x y => match x, y with
      | .int a, .int b => .int ((b - a) % s)
      | _, _ => .non) (by walk_at "run") (x2 _ _ g1) rfl g3 rfl l1 fun k x y hx hy ih' e => by
      obtain ⟨a, ha, rfl⟩ := List.mem_map.mp (List.mem_of_getElem? hx)
      rw [xs_lst, ← List.map_drop] at hy
      obtain ⟨b, hb, rfl⟩ := List.mem_map.mp (List.mem_of_getElem? hy)
      have g4 := run_power c (w := w) ih' (by omega) (by omega)
      rw [es] at g4
      clear hx hy ha hb e l1 g3 g2 x2 ej hv g1 ev e1 x1 lq h hn hs hz hne h0 h1 es
      unfold le_counted_1
      simp only [wipeI]
      walk_at "run"
  have e5 : f_sum [.ref ih2.length] ih3 = .ok (.int (List.zipWith (fun a b => (b - a) % s) vs (vs.drop 1)).sum) ih3 := by
    rw [a_sum (ns := List.zipWith (fun a b => (b - a) % s) vs (vs.drop 1)) e4 rfl (by
      rw [xs_lst, xs_lst, xs_lst, ← List.map_drop, zip_ints (fun a b => .int ((b - a) % s)) _ (fun _ _ => rfl), map_zip (fun a b => (b - a) % s) IV.int])]
  have e6 : lc_counted_1 c [some (.int w), some (.ref p), some (.ref q), none, none] ih1 = .ok (.ref ih2.length) ih3 := e3
  refine ⟨ih3, ?_, x1.trans (x2.trans x3)⟩
  unfold counts
  rw [ev]
  clear e3 e4 x3 x2 x1 g1 g2 g3 hs hn l1 hz h hne h0 h1 es s0 ev hv ej lq
  unfold m_counted b_counted
  walk_at "run"
/-- a list of new tuples -/
def TupAll (ih : IH) : List IV → List (List IV) → Prop := Paired fun v xs => ∃ q, v = .ref q ∧ ih[q]? = some (.tup xs)
theorem Paired.app {α β : Type} {R : α → β → Prop} : ∀ {xs : List α} {ys : List β} {us : List α} {ws : List β}, Paired R xs ys → Paired R us ws → Paired R (xs ++ us) (ys ++ ws)
  | _, _, _, _, .nil, s => s
  | _, _, _, _, .cons q t, s => .cons q (Paired.app t s)
theorem TupAll.mono {ih ih' : IH} {n : Nat} {l : List IV} {a : List IV} {b : List (List IV)} (h : TupAll ih a b) (hn : ih[n]? = some (.lst l)) (e : ExtP n ih ih') : TupAll ih' a b := Paired.mapP h fun v xs ⟨q, hq, g⟩ => ⟨q, hq, e q _ (fun z => by
    rw [z, hn] at g
    cases g) g⟩
theorem TupAll.ext {ih ih' : IH} {a : List IV} {b : List (List IV)} (h : TupAll ih a b) (e : Ext ih ih') : TupAll ih' a b := Paired.mapP h fun v xs ⟨q, hq, g⟩ => ⟨q, hq, e q _ g⟩
/-- rows of two ints -/
def row2 (r : Int × Int) : List IV := [.int r.1, .int r.2]
def dat2 (r : Int × Int) : PyData := .tuple [.int r.1, .int r.2]
theorem rows_is {ih : IH} : ∀ {a : List IV} {rs : List (Int × Int)}, TupAll ih a (rs.map row2) → IsAll ih a (rs.map dat2)
  | _, [], h => by cases h; exact .nil
  | _, r :: rs, h => by
    cases h with
    | cons h1 h2 =>
      obtain ⟨q, rfl, g⟩ := h1
      exact .cons (.tup g rfl (.cons (.int _) (.cons (.int _) .nil))) (rows_is h2)
theorem shaped_rows : ∀ rs : List (Int × Int), PyData.canLayAll0 (rs.map dat2) = true ∧ PyData.depthAll (rs.map dat2) ≤ 1
  | [] => by simp [PyData.canLayAll0, PyData.depthAll]
  | r :: rs => by
    obtain ⟨h1, h2⟩ := shaped_rows rs
    rw [List.map_cons]
    constructor
    · simp [PyData.canLayAll0, PyData.canLay0, dat2, h1]
    · simp only [PyData.depthAll, PyData.depth, dat2]
      omega
theorem shaped_rows2 (rs : List (Int × Int)) : SeqAt.shaped (.list (rs.map dat2)) = true := by
  obtain ⟨h1, h2⟩ := shaped_rows rs
  unfold SeqAt.shaped
  rw [Bool.and_eq_true]
  refine ⟨by simpa only [PyData.canLay0] using h1, decide_eq_true ?_⟩
  rw [PyData.depth]
  omega
/-- what is lost, by index -/
def lostRow (s : Int) (ns : List Int) (i : Nat) : Option (Int × Int) := if s ≤ ns.getD (i + 1) 0 - ns.getD i 0 then some ((i : Int) + 1, ns.getD (i + 1) 0 - ns.getD i 0 - (ns.getD (i + 1) 0 - ns.getD i 0) % s) else none
def lostRows (s : Int) (ns : List Int) (k : Nat) : List (Int × Int) := (List.range k).filterMap (lostRow s ns)
theorem lostRows_succ (s : Int) (ns : List Int) (k : Nat) : lostRows s ns (k + 1) = lostRows s ns k ++ (lostRow s ns k).toList := by
  unfold lostRows
  rw [List.range_succ, List.filterMap_append]
  cases h : lostRow s ns k <;> simp [h]
theorem lostRows_len (s : Int) (ns : List Int) (k : Nat) : (lostRows s ns k).length ≤ k := by
  unfold lostRows
  have := List.length_filterMap_le (lostRow s ns) (List.range k)
  rw [List.length_range] at this
  exact this
theorem getI {ns : List Int} {k : Nat} {i : Int} (hi : i = (k : Int)) (h : k < ns.length) : atI (ns.map IV.int) i = some (.int (ns.getD k 0)) := atI_map hi h
theorem run_lost (c : Cs) {p : Nat} {w : Int} {ns : List Int} {ih : IH} (h : ih[p]? = some (.lst (ns.map IV.int))) (hn : ∀ n ∈ ns, 0 ≤ n) (hs : Sorted ns) (hz : ns.length < 100000) (hne : ns ≠ []) (h0 : 1 ≤ w) (h1 : w ≤ 64) :
    ∃ q ih' acc, m_lost c [.int w, .ref p] ih = .ok (.ref q) ih' ∧ Ext ih ih' ∧ ih.length ≤ q ∧ ih'[q]? = some (.lst acc) ∧ TupAll ih' acc ((lostRows (2 ^ w.toNat) ns (ns.length - 1)).map row2) := by
  have e1 := run_check_width c ih h0 h1
  obtain ⟨ih1, e2, x1⟩ := run_check_looks c h hn hs hz hne
  obtain ⟨s, es⟩ : ∃ s : Int, 2 ^ w.toNat = s := ⟨_, rfl⟩
  have s0 := pow_pos w
  rw [es] at s0 ⊢
  have hlen : 0 < ns.length := List.length_pos_iff.mpr hne
  have l0 : ([] : List IV).length ≤ 100000 := by simp
  have x2 : Ext ih (ih1 ++ [.lst []]) := x1.trans (Ext.app _ _)
  have lq : ih.length ≤ ih1.length := by
    rcases Nat.lt_or_ge ih1.length ih.length with hl | hl
    · have := lt_of_get (x1 (ih.length - 1) _ (List.getElem?_eq_getElem (by omega)))
      omega
    · exact hl
  have hpq : p < ih1.length := lt_of_get (x1 _ _ h)
  obtain ⟨q, eq⟩ : ∃ q, ih1.length = q := ⟨_, rfl⟩
  have gq : (ih1 ++ [.lst []])[q]? = some (.lst []) := eq ▸ get_new _ _
  rw [eq] at lq hpq
  have ejj : ((ns.length : Int) - 1).toNat = ns.length - 1 := by omega
  obtain ⟨env', ih', e3, hP⟩ := forGo_ind (s := .rng 1 1 (ns.length - 1)) (g := g_nm 3) (mb := lb_lost_1 c) (ns.length - 1)
    (fun i env ih' => (∃ t u, env = [some (.int w), some (.ref p), some (.ref q), t, u]) ∧ ∃ acc, ih'[q]? = some (.lst acc) ∧ TupAll ih' acc ((lostRows s ns i).map row2) ∧ acc.length ≤ i ∧ Ext ih ih')
    (fun i env ih3 hi ⟨⟨t, u, et⟩, acc, g1, g2, g3, x3⟩ => by
      subst et
      have g5 := x3 _ _ h
      have i1 : atI (ns.map IV.int) (1 + (i : Int) * 1) = some (.int (ns.getD (i + 1) 0)) := getI (by omega) (by omega)
      have i2 : atI (ns.map IV.int) (1 + (i : Int) * 1 - 1) = some (.int (ns.getD i 0)) := getI (by omega) (by omega)
      obtain ⟨a, ea⟩ : ∃ a, ns.getD (i + 1) 0 = a := ⟨_, rfl⟩
      obtain ⟨b, eb⟩ : ∃ b, ns.getD i 0 = b := ⟨_, rfl⟩
      have lr : lostRow s ns i = if s ≤ a - b then some ((i : Int) + 1, a - b - (a - b) % s) else none := by
        unfold lostRow
        rw [ea, eb]
      rw [ea] at i1
      rw [eb] at i2
      have pw : ∀ ih'', m_power c [.int w] ih'' = .ok (.int s) ih'' := fun ih'' => by
        rw [run_power c ih'' (by omega) (by omega), es]
      have tl : acc.length < 100000 := by omega
      by_cases hc : s ≤ a - b
      · have c1 := decide_eq_true hc
        have gq' : (ih3 ++ [MO.tup [.int (1 + (i : Int) * 1), .int (a - b - (a - b) % s)]])[q]? = some (.lst acc) := Ext.app _ _ _ _ g1
        refine ⟨_, _, _, [some (.int w), some (.ref p), some (.ref q), some (.int (1 + (i : Int) * 1)), some (.int (a - b))], (ih3 ++ [MO.tup [.int (1 + (i : Int) * 1), .int (a - b - (a - b) % s)]]).set q (.lst (acc ++ [.ref ih3.length])), turn_rng hi, rfl, ?_, ⟨_, _, rfl⟩, acc ++ [.ref ih3.length], get_set gq', ?_, ?_, ?_⟩
        · have l2 : ([.int (1 + (i : Int) * 1), .int (a - b - (a - b) % s)] : List IV).length ≤ 100000 := by simp
          clear g2 g3 x3 h hn hs hz hne h0 h1 e1 e2 x1 es hlen l0 x2 lq hpq eq gq ejj ea eb lr hc hi
          simp only [List.set_cons_zero, List.set_cons_succ]
          unfold lb_lost_1
          walk_at "run"
        · rw [lostRows_succ, lr, if_pos hc, List.map_append]
          refine Paired.app (TupAll.mono (n := q) (l := acc) g2 g1 (((Ext.app _ _).p _).trans (ExtP.set _ _ _))) (.cons ⟨_, rfl, ?_⟩ .nil)
          have : q < ih3.length := lt_of_get g1
          rw [List.getElem?_set_ne (by omega), get_new]
          have e9 : (1 : Int) + (i : Int) * 1 = (i : Int) + 1 := by omega
          rw [e9]
          rfl
        · rw [List.length_append, List.length_singleton]
          omega
        · exact ExtP.of_set (x3.trans (Ext.app _ _)) lq
      · have c1 := decide_eq_false hc
        refine ⟨_, _, _, [some (.int w), some (.ref p), some (.ref q), some (.int (1 + (i : Int) * 1)), some (.int (a - b))], ih3, turn_rng hi, rfl, ?_, ⟨_, _, rfl⟩, acc, g1, ?_, by omega, x3⟩
        · clear g2 g3 x3 h hn hs hz hne h0 h1 e1 e2 x1 es hlen l0 x2 lq hpq eq gq ejj ea eb lr hc hi
          simp only [List.set_cons_zero, List.set_cons_succ]
          unfold lb_lost_1
          walk_at "run"
        · rw [lostRows_succ, lr, if_neg hc]
          simpa using g2)
    (fun env ih' _ => stop_rng) (ns.length - 1 + 1) 0 [some (.int w), some (.ref p), some (.ref q), none, none] (ih1 ++ [.lst []]) (Nat.zero_le _) (by omega)
    ⟨⟨_, _, rfl⟩, [], gq, .nil, Nat.le_refl _, x2⟩
  obtain ⟨⟨t, u, et⟩, acc, g1, g2, g3, x3⟩ := hP
  subst et
  refine ⟨q, ih', acc, ?_, x3, lq, g1, g2⟩
  have hj : smallI (ns.length : Int) = true := smallI_mk (by omega) (by omega)
  have h11 : smallI 1 = true := by decide
  have gp := x2 _ _ h
  have lm : (ns.map IV.int).length = ns.length := List.length_map _
  have e4 : ms_for (mi_rng2 (m_cons (m_c (.int 1)) (m_cons (m_app f_len (m_cons (m_var 1) m_nil)) m_nil))) (g_nm 3) (lb_lost_1 c) [some (.int w), some (.ref p), some (.ref q), none, none] (ih1 ++ [.lst []]) = .ok (.next [some (.int w), some (.ref p), some (.ref q), t, u]) ih' := by
    rw [for_rng2 (ih1 := ih1 ++ [.lst []]) (i := 1) (j := (ns.length : Int)) (by clear e3; walk_at "run") h11 hj, ejj]
    exact e3
  clear e3 g1 g2 g3 x3 h hn hs hz hne h0 h1 x1 es s0 hlen x2 lq hpq gq ejj hj h11 gp lm
  unfold m_lost b_lost
  walk_at "run"
end L3
/-! P2: counters, backwards. -/
namespace L3
open PySem PySem.Spec PyProof.Rows L2
local macro_rules | `(tactic| walk_at "get") => `(tactic| simp (disch := first | assumption | omega | (simp only [List.length_append, List.length_set, List.length_cons, List.length_nil, List.length_map] <;> omega) | fail) only [g_new, g_nw, g_old, g_set, g_sne, List.length_append, List.length_set, List.length_cons, List.length_nil, List.length_map, List.map_map, Function.comp_def, xs_lst, xs_tup, isL_lst, isL_tup, ↓reduceIte, *])
local macro_rules | `(tactic| walk_at "fr") => `(tactic| first | (intro _ _ _; simp (disch := first | assumption | omega | (simp only [List.length_append, List.length_set, List.length_cons, List.length_nil, List.length_map] <;> omega) | fail) only [g_new, g_nw, g_old, g_set, g_sne, List.length_append, List.length_set, List.length_cons, List.length_nil, List.length_map, List.map_map, Function.comp_def, xs_lst, xs_tup, isL_lst, isL_tup, ↓reduceIte, *]) | (intro _ _; simp (disch := first | assumption | omega | (simp only [List.length_append, List.length_set, List.length_cons, List.length_nil, List.length_map] <;> omega) | fail) only [g_new, g_nw, g_old, g_set, g_sne, List.length_append, List.length_set, List.length_cons, List.length_nil, List.length_map, List.map_map, Function.comp_def, xs_lst, xs_tup, isL_lst, isL_tup, ↓reduceIte, *]))
local macro_rules | `(tactic| walk_at "run") => `(tactic| simp -implicitDefEqProofs (disch := first | assumption | omega | (simp only [List.length_append, List.length_set, List.length_cons, List.length_nil, List.length_map] <;> omega) | fail) only [wp_ok, wp_exc, wp_stuck, ws_ok, ws_exc, ws_stuck, wp_op, kk_op, kk_un, wp_un, wp_cons, kk_cons, kk_cons2, wp_nil, wp_c, wp_app, wp_if, kk_if1, kk_if0, wp_and, kk_and1, kk_and0, wp_or, kk_or1, kk_or0, wp_not, kk_not, wp_tb, kk_tb, wp_andV, kk_andV1, kk_andV0, wp_orV, kk_orV1, kk_orV0, wp_notV, kk_notV, wp_noneS, wp_some, kk_some, wp_sl, kk_sl, kk_sl2, kk_sl3, wp_mL, kk_mL, kk_mL2, wp_mL0, kk_mL0, wp_chain, kk_ch, kk_ch2, kk_ch31, kk_ch30, ws_set, kks_nm, kks_g, kks_tup, kks_lst, ws_expr, kks_expr, ws_ret, kks_ret, ws_retN, ws_pass, ws_brk, ws_cont, ws_raise, ws_if, kks_if1, kks_if0, ws_seq, kks_next, kks_retS, kks_brk, kks_cont, kk_augE, ws_aug, kks_aug, kks_aug2, ws_par, kks_par, ws_setL, kks_sl, kks_sl2, kks_sl3, wp_def, kkd_ret, kkd_next, kkdE, kkE, ws_for, wp_lc, wp_r1, kk_r1, wp_r2, kk_r2, wp_il, wp_it, wp_ie, wp_iz, kk_il, kk_il2, kk_it, kk_it2, kk_ie, kk_ie2, kk_iz, kk_iz2, lAt_k, k_lAtL, k_lAtO, k_lAtT, wp_int, wp_add, wp_addI, wp_sub, wp_neg, wp_lt, wp_le, wp_gt, wp_ge, wp_max2, wp_min2, wp_abs, wp_mulI, wp_mul, wp_fdiv, wp_mod, wp_shl, wp_shr, wp_pow, wp_isN, wp_notN, wp_eqI, wp_neI, wp_ix, kk_ix, kk_ix2, wp_len, kk_lenL, kk_lenT, kk_lenO, kk_lenP, wp_appd, kk_app1, isL_k, kk_isL, startI_cons, startI_nil, rep_succ, rep_zero, List.getElem?_cons_zero, List.getElem?_cons_succ, List.set_cons_zero, List.set_cons_succ, f_call, m_var, List.append_nil, List.nil_append, List.cons_append, List.length_cons, List.length_nil, if_true, if_false, g_tup, g_lst, g_cons, g_nil, g_nm, Option.bind_some, kks_g, atI_0, atI_1, atI_2, atI_3, atI_4, atI_5, atI_6, atI_7, atI_8, atI_9, atI_10, atI_11, atI_12, atI_last, cutI_1, ixN_30, ixN_31, ixN_32, Int.toNat_zero, Int.reduceToNat, Int.reduceNeg, xs_lst, xs_tup, xs_ro, xs_rot, isL_lst, isL_tup, isL_ro, isL_rot, isT_tup, isT_rot, Bool.false_eq_true, Bool.true_eq_false, Bool.not_true, Bool.not_false, decide_true, decide_false, Int.reduceLT, Int.reduceLE, Nat.reduceLT, Nat.reduceLeDiff, Nat.reduceAdd, Nat.reduceEqDiff, Bool.not_eq_true, true_and, and_true, and_self, eq_self, g_new, g_nw, g_old, g_set, g_sne, List.length_set, List.length_append, wp_r3, kk_r3, Int.cast_ofNat_Int, Int.reduceEq, Int.natCast_zero, Int.natCast_one, ws_whileA, wp_isiII, wp_isiIB, wp_isiR, tyO_l, tyO_t, kk_isi, kk_isi2, kit_ll, kit_tt, kit_lt, kit_tl, wp_isiN, wp_isiBl, wp_isiS, tyO_d, kit2_NoneType_int, kit2_NoneType_bool, kit2_NoneType_list, kit2_NoneType_tuple, kit2_NoneType_str, kit2_bool_int, kit2_bool_bool, kit2_bool_list, kit2_bool_tuple, kit2_bool_str, kit2_str_int, kit2_str_bool, kit2_str_list, kit2_str_tuple, kit2_str_str, kit2_dict_int, kit2_dict_bool, kit2_dict_list, kit2_dict_tuple, kit2_dict_str, kit2_list_int, kit2_list_bool, kit2_list_str, kit2_tuple_int, kit2_tuple_bool, kit2_tuple_str, kit2_int_list, kit2_int_tuple, kit2_int_str, kf_next, kf_cont, kf_brk, kf_ret, wipeI, ↓reduceIte, *])
section
variable {Q : PQ IV} {E : EQ} {ih : IH} {w : Int}
theorem q_whole (c : Cs) (i l : Int) (ih : IH) (Q : PQ IV) (E : EQ) : wp (m_is_whole c [.int i, .int l] ih) Q E = Q (.bl (decide (l ≤ i))) ih := by
  rw [run_whole]
  rfl
theorem q_whole0 (c : Cs) (i : Int) (ih : IH) (Q : PQ IV) (E : EQ) : wp (m_is_whole c [.int i, .non] ih) Q E = Q (.bl true) ih := by
  rw [run_whole0]
  rfl
theorem q_power (c : Cs) (h0 : 0 ≤ w) (h1 : w ≤ 64) (ih : IH) (Q : PQ IV) (E : EQ) : wp (m_power c [.int w] ih) Q E = Q (.int (2 ^ w.toNat)) ih := by
  rw [run_power c ih h0 (by omega)]
  rfl
theorem q_width (c : Cs) (h0 : 1 ≤ w) (h1 : w ≤ 64) (ih : IH) (Q : PQ IV) (E : EQ) : wp (m_check_width c [.int w] ih) Q E = Q .non ih := by
  rw [run_check_width c ih h0 h1]
  rfl
theorem shl_w {w : Int} (h0 : 0 ≤ w) (h1 : w ≤ 64) : cShl 1 w = true ∧ (1 : Int) * 2 ^ w.toNat = 2 ^ w.toNat := by
  obtain ⟨k, rfl⟩ := Int.eq_ofNat_of_zero_le h0
  exact ⟨cShl_of (lit 1 : B 1 1) (by omega), Int.one_mul _⟩
theorem w_shown (c : Cs) {p : Nat} {ns : List Int} (h : ih[p]? = some (.lst (ns.map IV.int))) (hn : ∀ n ∈ ns, 0 ≤ n) (hs : Sorted ns) (hz : ns.length < 100000) (hne : ns ≠ []) (h0 : 1 ≤ w) (h1 : w ≤ 64)
    (k : ∀ q ih', ih.length ≤ q → q < ih'.length → Fx ih ih' → ih'[q]? = some (.lst ((ns.map (· % 2 ^ w.toNat)).map IV.int)) → Q (.ref q) ih') : wp (m_shown c [.int w, .ref p] ih) Q E := by
  obtain ⟨q, ih', e, x, l, g⟩ := run_shown c h hn hs hz hne h0 h1
  exact wp.of e (k q ih' l (lt_of_get g) x.fx g)
theorem Fx.len {a b : IH} (h : Fx a b) : a.length ≤ b.length := by
  rcases Nat.lt_or_ge b.length a.length with hl | hl
  · have := h b.length hl
    rw [List.getElem?_eq_none (Nat.le_refl _), List.getElem?_eq_getElem hl] at this
    cases this
  · exact hl
theorem w_counted (c : Cs) {p : Nat} {ns : List Int} (h : ih[p]? = some (.lst (ns.map IV.int))) (hn : ∀ n ∈ ns, 0 ≤ n) (hs : Sorted ns) (hz : ns.length < 100000) (hne : ns ≠ []) (h0 : 1 ≤ w) (h1 : w ≤ 64)
    (k : ∀ ih', ih.length ≤ ih'.length → Fx ih ih' → Q (.int (counts (2 ^ w.toNat) ns)) ih') : wp (m_counted c [.int w, .ref p] ih) Q E := by
  obtain ⟨ih', e, x⟩ := run_counted c h hn hs hz hne h0 h1
  exact wp.of e (k ih' x.fx.len x.fx)
theorem w_lost (c : Cs) {p : Nat} {ns : List Int} (h : ih[p]? = some (.lst (ns.map IV.int))) (hn : ∀ n ∈ ns, 0 ≤ n) (hs : Sorted ns) (hz : ns.length < 100000) (hne : ns ≠ []) (h0 : 1 ≤ w) (h1 : w ≤ 64)
    (k : ∀ q ih' acc, ih.length ≤ q → q < ih'.length → Fx ih ih' → ih'[q]? = some (.lst acc) → TupAll ih' acc ((lostRows (2 ^ w.toNat) ns (ns.length - 1)).map row2) → Q (.ref q) ih') : wp (m_lost c [.int w, .ref p] ih) Q E := by
  obtain ⟨q, ih', acc, e, x, l, g, t⟩ := run_lost c h hn hs hz hne h0 h1
  exact wp.of e (k q ih' acc l (lt_of_get g) x.fx g t)
theorem all_ge {P : Int → Bool} : ∀ {ns : List Int}, (∀ n ∈ ns, P n = true) → ((ns.map P).all id) = true := fun h => by
  rw [List.all_eq_true]
  intro b hb
  obtain ⟨n, hn, rfl⟩ := List.mem_map.mp hb
  exact h n hn
theorem w_check_values (c : Cs) {p : Nat} {vs : List Int} (h : ih[p]? = some (.lst (vs.map IV.int))) (hn : ∀ n ∈ vs, 0 ≤ n ∧ n < 2 ^ w.toNat) (hz : vs.length < 100000) (hne : vs ≠ []) (h0 : 1 ≤ w) (h1 : w ≤ 64)
    (k : ∀ ih', ih.length ≤ ih'.length → Fx ih ih' → Q .non ih') : wp (m_check_values c [.int w, .ref p] ih) Q E := by
  have q1 := q_width c h0 h1
  have hl := lt_of_get h
  have a1 : ∀ ih Q E, wp (m_is_whole c [.int w, .int 1] ih) Q E = Q (.bl (decide (1 ≤ w))) ih := fun ih Q E => q_whole c w 1 ih Q E
  unfold m_check_values b_check_values
  walk_at "run"
  refine wp_lst (by simp) ?_
  walk_at "run"
  refine wp_eq (Is.ints (ns := vs) (by rw [g_old hl]; exact h) rfl rfl) (Is.ints (ns := []) g_new rfl rfl) (shaped_ints _) (shaped_ints _) ?_
  rw [eqv_list, decide_eq_false hne]
  walk_at "run"
  unfold lc_check_values_1
  walk_at "run"
  refine lc_intL vs (fun x => .bl (decide (0 ≤ x))) (by walk_at "get") hz (fun x hx ih' f => ?_) ?_
  · have a2 := q_whole c x 0
    unfold le_check_values_1
    walk_at "run"
  walk_at "run"
  refine wp_allL (vs.map fun x => decide (0 ≤ x)) (by walk_at "get") ?_
  rw [all_ge fun n hm => decide_eq_true (hn n hm).1]
  walk_at "run"
  unfold lc_check_values_2
  walk_at "run"
  refine lc_intL vs (fun x => .bl (decide (x < 2 ^ w.toNat))) (by walk_at "get") hz (fun x hx ih' f => ?_) ?_
  · have a2 := q_power c (w := w) (by omega) h1
    unfold le_check_values_2
    walk_at "run"
  walk_at "run"
  refine wp_allL (vs.map fun x => decide (x < 2 ^ w.toNat)) (by walk_at "get") ?_
  rw [all_ge fun n hm => decide_eq_true (hn n hm).2]
  walk_at "run"
  exact k _ (by simp) ((Fx.app.trans Fx.app (by simp)).trans Fx.app (by simp))
end
end L3
/-! GL: looks drawn (the first part of K01). -/
namespace L3
open PySem PySem.Spec PyProof.Rows L2
local macro_rules | `(tactic| walk_at "run") => `(tactic| simp only [m_op, m_var, m_c, m_un, m_nil, m_cons, m_if, m_and, m_or, m_not, m_tb, m_andV, m_orV, m_notV, m_app, m_sl, m_none, m_some, m_mL, m_mL0, ms_set, ms_expr, ms_ret, ms_retN, ms_pass, ms_brk, ms_cont, ms_if, ms_seq, ms_aug, ms_par, ms_setL, ms_raise,
  Res.bind_ok, Res.bind_exc, Res.bind_stuck, Res.stm_ok, Res.stm_exc, Res.stm_stuck, RS.seq_next, RS.seq_ret, RS.seq_brk, RS.seq_cont, RS.seq_exc, RS.seq_stuck, RS.out_ret, RS.out_next, RS.out_exc,
  startI_cons, startI_nil, rep_succ, rep_zero, List.getElem?_cons_zero, List.getElem?_cons_succ, List.set_cons_zero, List.set_cons_succ, defRun, g_nm, f_call, List.append_nil, List.nil_append, List.cons_append, List.length_cons, List.length_nil, if_true, if_false,
  a_int, a_add, a_addI, a_sub, a_neg, a_lt, a_le, a_gt, a_ge, a_max2, a_min2, a_abs, a_isN, a_notN, a_mul, a_mulI, a_fdiv, a_mod, a_shl, a_shr, a_pow, a_lst, a_tup, f_ix, f_len, f_list, f_append, f_setL, isLst, atI_0, atI_1, atI_2, atI_3, atI_4, atI_5, atI_6, atI_7, atI_8, atI_9, atI_10, atI_11, atI_12, ixN_30, ixN_31, ixN_32, Int.toNat_zero, Int.reduceToNat, Int.reduceNeg, xs_lst, xs_tup, xs_ro, xs_rot, isL_lst, isL_tup, isL_ro, isL_rot,
  Bool.false_eq_true, Bool.true_eq_false, Bool.not_true, Bool.not_false, decide_true, decide_false, ↓reduceIte, Int.reduceLT, Int.reduceLE, Nat.reduceLT, Nat.reduceLeDiff, Nat.reduceAdd, *])
theorem pick {xs : List IV} {i : Int} (h0 : 0 ≤ i) (h1 : i < (xs.length : Int)) : ∃ v, v ∈ xs ∧ atI xs i = some v := by
  obtain ⟨k, rfl⟩ := Int.eq_ofNat_of_zero_le h0
  have hk : k < xs.length := by omega
  refine ⟨xs[k], List.getElem_mem hk, ?_⟩
  rw [atI_nn]
  exact List.getElem?_eq_getElem hk
theorem Src0.lst {p m n : Nat} {ih : IH} {x y : List IV} (h : Src0 p m ih) : Src0 p m (ih ++ [.lst x]) := h.ext (Ext.app _ _)
theorem ExtP.app {p : Nat} {a b : IH} (h : ExtP p a b) (x : IH) : ExtP p a (b ++ x) := h.trans ((Ext.app _ _).p _)
theorem B9 : B 8000 (10 ^ 9 : Int) := (lit 40 : B 40 (10 ^ 9)).mono (by decide)
theorem run_width (c : Cs) {p m : Nat} {ih : IH} (h : Src0 p m ih) (hm : m + 2 ≤ 1000000) : ∃ (v : Int) (ih' : IH), m_law_width c [.ref p] ih = .ok (.int v) ih' ∧ 1 ≤ v ∧ v ≤ 64 ∧ Src0 p (m + 2) ih' ∧ ExtP p ih ih' ∧ ih.length ≤ ih'.length := by
  obtain ⟨x, ih1, e1, x0, x1, s1, p1, l1⟩ := run_next c (many := 64) h (by omega) (by decide) ((lit 7 : B 7 64).mono (by decide))
  obtain ⟨L, eL⟩ : ∃ L : List IV, [.int 1, .int 2, .int 3, .int 4, .int 8, .int 16, .int 32, .int 63, .int 64, .int (1 + x)] = L := ⟨_, rfl⟩
  have s2 : Src0 p (m + 1) (ih1 ++ [.lst L]) := s1.ext (Ext.app _ _)
  obtain ⟨y, ih2, e2, y0, y1, s3, p3, l3⟩ := run_next c (many := 10) s2 (by omega) (by decide) ((lit 7 : B 7 10).mono (by decide))
  have hg : ih2[ih1.length]? = some (.lst L) := p3 _ _ (fun z => by
    obtain ⟨_, _, _, g, _⟩ := s1
    have := lt_of_get g
    omega) (get_new _ _)
  obtain ⟨v, hv, ev⟩ := pick (xs := L) y0 (by rw [← eL]; exact y1)
  rw [← eL] at hv
  simp only [List.mem_cons, List.not_mem_nil, or_false] at hv
  have hz : ∃ z : Int, v = .int z ∧ 1 ≤ z ∧ z ≤ 64 := by
    rcases hv with e | e | e | e | e | e | e | e | e | e <;> exact ⟨_, e, by omega, by omega⟩
  obtain ⟨z, rfl, z0, z1⟩ := hz
  refine ⟨z, ih2, ?_, z0, z1, s3, (p1.app _).trans p3, by rw [l3, List.length_append]; omega⟩
  clear x0 x1 y0 y1 s1 s2 s3 p1 p3 l1 l3 hv z0 z1 h hm
  have l11 : L.length ≤ 100000 := by rw [← eL]; simp
  unfold m_law_width b_law_width
  walk_at "run"
theorem run_gap (c : Cs) {p m : Nat} {w : Int} {ih : IH} (h : Src0 p m ih) (hm : m + 6 ≤ 1000000) (h0 : 1 ≤ w) (h1 : w ≤ 64) : ∃ (v : Int) (ih' : IH), m_law_gap c [.ref p, .int w] ih = .ok (.int v) ih' ∧ 0 ≤ v ∧ B 110 v ∧ Src0 p (m + 6) ih' ∧ ExtP p ih ih' ∧ ih.length ≤ ih'.length := by
  have hpl : ∀ {m : Nat} {ih : IH}, Src0 p m ih → p < ih.length := fun ⟨_, _, _, g, _⟩ => lt_of_get g
  obtain ⟨k, rfl⟩ := Int.eq_ofNat_of_zero_le (show 0 ≤ w by omega)
  have c1 : cShl 1 (k : Int) = true := cShl_of (lit 1 : B 1 1) (by omega)
  have sz0 := pow_pos (k : Int)
  have szB := pow_B (w := (k : Int)) (by omega) h1
  obtain ⟨s, es⟩ : ∃ s : Int, 2 ^ (k : Int).toNat = s := ⟨_, rfl⟩
  rw [es] at sz0 szB
  have c2 : cPow 10 9 = true := by decide
  have one : (1 : Int) * 2 ^ (k : Int).toNat = s := by rw [es, Int.one_mul]
  -- wraps
  obtain ⟨x, ih1, e1, x0, x1, s1, p1, l1⟩ := run_next c (many := 10 ^ 9) h (by omega) (by decide) B9
  obtain ⟨L, eL⟩ : ∃ L : List IV, [.int 0, .int 1, .int 2, .int x] = L := ⟨_, rfl⟩
  have s2 : Src0 p (m + 1) (ih1 ++ [.lst L]) := s1.ext (Ext.app _ _)
  obtain ⟨y, ih2, e2, y0, y1, s3, p3, l3⟩ := run_next c (many := 4) s2 (by omega) (by decide) ((lit 7 : B 7 4).mono (by decide))
  have hg : ih2[ih1.length]? = some (.lst L) := p3 _ _ (fun z => by have := hpl s1; omega) (get_new _ _)
  obtain ⟨v, hv, ev⟩ := pick (xs := L) y0 (by rw [← eL]; exact y1)
  rw [← eL] at hv
  simp only [List.mem_cons, List.not_mem_nil, or_false] at hv
  have hz : ∃ z : Int, v = .int z ∧ 0 ≤ z ∧ z < 10 ^ 9 := by
    rcases hv with e | e | e | e <;> exact ⟨_, e, by omega, by omega⟩
  obtain ⟨z, rfl, z0, z1⟩ := hz
  have zB : B 40 z := B.lt z0 (by omega)
  -- near
  obtain ⟨u, ih3, e3, u0, u1, s4, p4, l4⟩ := run_next c (many := 5) s3 (by omega) (by decide) ((lit 7 : B 7 5).mono (by decide))
  have c3 : cMul z s = true := B.cmul zB szB (by decide)
  obtain ⟨q, eq⟩ : ∃ q : Int, (if z * s + u - 2 > 0 then z * s + u - 2 else 0) = q := ⟨_, rfl⟩
  have zsB : B 105 (z * s) := B.mul zB szB
  have q0 : 0 ≤ q := by rw [← eq]; split <;> omega
  have qB : B 110 q := by
    rw [← eq]
    have b1 : B 106 (z * s + u) := B.add zsB ((B.lt (n := 10) u0 (by omega)).mono (by decide))
    have b2 : B 107 (z * s + u - 2) := B.sub b1 ((lit 7 : B 7 2).mono (by decide))
    split
    · exact b2.mono (by decide)
    · exact (lit 7 : B 7 0).mono (by decide)
  -- the end
  obtain ⟨a, ih4, e4, a0, a1, s5, p5, l5⟩ := run_next c (many := s) s4 (by omega) sz0 (szB.mono (by decide))
  obtain ⟨b, ih5, e5, b0, b1, s6, p6, l6⟩ := run_next c (many := 10 ^ 9) s5 (by omega) (by decide) B9
  have bB : B 40 b := B.lt b0 (by omega)
  have c4 : cMul b s = true := B.cmul bB szB (by decide)
  have c5 : cDiv (b * s) 7 = true := cDiv_of (by decide) (lit 7 : B 7 7) (by decide) (by decide)
  obtain ⟨M, eM⟩ : ∃ L : List IV, [.int 0, .int q, .int a, .int (b * s / 7)] = L := ⟨_, rfl⟩
  have s7 : Src0 p (m + 5) (ih5 ++ [.lst M]) := s6.ext (Ext.app _ _)
  obtain ⟨d, ih6, e6, d0, d1, s8, p8, l8⟩ := run_next c (many := 4) s7 (by omega) (by decide) ((lit 7 : B 7 4).mono (by decide))
  have hg2 : ih6[ih5.length]? = some (.lst M) := p8 _ _ (fun z => by have := hpl s6; omega) (get_new _ _)
  obtain ⟨f, hf, ef⟩ := pick (xs := M) d0 (by rw [← eM]; exact d1)
  rw [← eM] at hf
  simp only [List.mem_cons, List.not_mem_nil, or_false] at hf
  have hz : ∃ z : Int, f = .int z ∧ 0 ≤ z ∧ B 110 z := by
    rcases hf with e | e | e | e
    · exact ⟨_, e, Int.le_refl _, lit 110⟩
    · exact ⟨_, e, q0, qB⟩
    · exact ⟨_, e, a0, B.le a0 (Int.le_of_lt a1) (szB.mono (by decide))⟩
    · refine ⟨_, e, Int.ediv_nonneg (Int.mul_nonneg b0 (Int.le_of_lt sz0)) (by decide), (B.div (B.mul bB szB) (by decide)).mono (by decide)⟩
  obtain ⟨g, rfl, g0, g1⟩ := hz
  refine ⟨g, ih6, ?_, g0, g1, s8, ((p1.app _).trans (p3.trans (p4.trans (p5.trans (p6.app _))))).trans p8, by rw [List.length_append] at l3 l8; omega⟩
  have l41 : L.length ≤ 100000 := by rw [← eL]; simp
  have l42 : M.length ≤ 100000 := by rw [← eM]; simp
  clear hf hv x0 x1 y0 y1 z0 z1 zB u0 u1 zsB q0 qB a0 a1 b0 b1 bB d0 d1 s1 s2 s3 s4 s5 s6 s7 s8 p1 p3 p4 p5 p6 p8 l1 l3 l4 l5 l6 l8 g0 g1 h hm h0 h1 sz0 szB es hpl
  unfold m_law_gap b_law_gap
  walk_at "run"

/-! ### looks -/
theorem sorted_app : ∀ {ns : List Int} {l x : Int}, Sorted (ns ++ [l]) → l ≤ x → Sorted (ns ++ [l] ++ [x])
  | [], l, x, _, h => ⟨h, trivial⟩
  | [a], l, x, hs, h => ⟨hs.1, h, trivial⟩
  | a :: b :: r, l, x, hs, h => ⟨hs.1, sorted_app (ns := b :: r) hs.2 h⟩
/-- a list of looks stands at q -/
def Lk (q : Nat) (k b : Nat) (ns : List Int) (ih : IH) : Prop := ih[q]? = some (.lst (ns.map IV.int)) ∧ ns.length = k ∧ (∀ n ∈ ns, 0 ≤ n ∧ B b n) ∧ Sorted ns
theorem run_looks (c : Cs) {p m : Nat} {w : Int} {ih : IH} (h : Src0 p m ih) (hm : m + 90 ≤ 1000000) (h0 : 1 ≤ w) (h1 : w ≤ 64) :
    ∃ (q k : Nat) (ns : List Int) (ih' : IH), m_law_looks c [.ref p, .int w] ih = .ok (.ref q) ih' ∧ ih.length ≤ q ∧ k ≤ 12 ∧ ns ≠ [] ∧ Lk q k 130 ns ih' ∧ Src0 p (m + 90) ih' ∧ ExtP p ih ih' := by
  have hpl : ∀ {m : Nat} {ih : IH}, Src0 p m ih → p < ih.length := fun ⟨_, _, _, g, _⟩ => lt_of_get g
  obtain ⟨x, ih1, e1, x0, xB, s1, p1, l1⟩ := run_gap c h (by omega) h0 h1
  have s2 : Src0 p (m + 6) (ih1 ++ [.lst [.int x]]) := s1.ext (Ext.app _ _)
  obtain ⟨j, ih2, e2, j0, j1, s3, p3, l3⟩ := run_next c (many := 12) s2 (by omega) (by decide) ((lit 7 : B 7 12).mono (by decide))
  have hq : p < ih1.length := hpl s1
  have hg : ih2[ih1.length]? = some (.lst [.int x]) := p3 _ _ (by omega) (get_new _ _)
  obtain ⟨q, eq⟩ : ∃ q, ih1.length = q := ⟨_, rfl⟩
  rw [eq] at hg hq
  obtain ⟨env', ih', e3, hP⟩ := forGo_ind (s := .rng 0 1 j.toNat) (g := g_nm 3) (mb := lb_law_looks_1 c) j.toNat
    (fun i env ih' => (∃ t, env = [some (.ref p), some (.int w), some (.ref q), t]) ∧ (∃ ns l, Lk q (i + 1) (110 + i) (ns ++ [l]) ih') ∧ Src0 p (m + 7 + 6 * i) ih' ∧ ExtP p ih ih')
    (fun i env ih3 hi ⟨⟨t, et⟩, ⟨ns, l, g1, g2, g3, g4⟩, s4, p4⟩ => by
      subst et
      obtain ⟨y, ih4, f1, y0, yB, s5, p5, l5⟩ := run_gap c s4 (by omega) h0 h1
      have hl : atI ((ns ++ [l]).map IV.int) (-1) = some (.int l) := by
        rw [List.map_append]
        exact atI_last _ _
      have g5 := p5 _ _ (by omega) g1
      have hlen : ((ns ++ [l]).map IV.int).length < 100000 := by rw [List.length_map, g2]; omega
      refine ⟨_, _, _, [some (.ref p), some (.int w), some (.ref q), some (.int (0 + (i : Int) * 1))], ih4.set q (.lst ((ns ++ [l]).map IV.int ++ [.int (l + y)])), turn_rng hi, rfl, ?_, ⟨_, rfl⟩, ⟨ns ++ [l], l + y, ?_, ?_, ?_, ?_⟩, ?_, ?_⟩
      · clear g2 g3 g4 s4 p4 y0 yB s5 p5 l5 h hm h0 h1 hpl e1 x0 xB s1 p1 l1 s2 e2 j0 j1 s3 p3 l3 hq hg eq hi
        simp only [List.set_cons_zero, List.set_cons_succ]
        unfold lb_law_looks_1
        walk_at "run"
      · rw [List.map_append (l₁ := ns ++ [l])]
        exact get_set g5
      · rw [List.length_append, g2]
        rfl
      · intro n hn
        rcases List.mem_append.mp hn with hn | hn
        · exact ⟨(g3 n hn).1, (g3 n hn).2.mono (by omega)⟩
        · rw [List.mem_singleton.mp hn]
          have hl := g3 l (by simp)
          exact ⟨by omega, (B.add hl.2 (yB.mono (by omega))).mono (by omega)⟩
      · exact sorted_app g4 (by omega)
      · obtain ⟨a, b, d, z1, z2⟩ := s5
        exact ⟨a, b, d, by rw [List.getElem?_set_ne (by omega)]; exact z1, z2.1, z2.2.1, z2.2.2.1, by omega⟩
      · intro n o hn ho
        have := lt_of_get ho
        rw [List.getElem?_set_ne (by omega)]
        exact p5 _ _ hn (p4 _ _ hn ho))
    (fun env ih' _ => stop_rng) (j.toNat + 1) 0 [some (.ref p), some (.int w), some (.ref q), none] ih2 (Nat.zero_le _) (by omega)
    ⟨⟨_, rfl⟩, ⟨[], x, hg, rfl, fun n hn => by rw [List.mem_singleton.mp hn]; exact ⟨x0, xB⟩, trivial⟩, s3, (p1.app _).trans p3⟩
  obtain ⟨⟨t, et⟩, ⟨ns, l, g1, g2, g3, g4⟩, s4, p4⟩ := hP
  subst et
  refine ⟨q, _, ns ++ [l], ih', ?_, by omega, ?_, by simp, ⟨g1, g2, fun n hn => ⟨(g3 n hn).1, (g3 n hn).2.mono (by omega)⟩, g4⟩, s4.mono (by omega), p4⟩
  · have hj : smallI j = true := smallI_mk (by omega) (by omega)
    have l10 : ([.int x] : List IV).length ≤ 100000 := by simp
    have e4 : ms_for (mi_rng1 (m_cons (m_app (f_call 2 [] (m_law_next c)) (m_cons (m_var 0) (m_cons (m_c (.int 12)) m_nil))) m_nil)) (g_nm 3) (lb_law_looks_1 c) [some (.ref p), some (.int w), some (.ref q), none] (ih1 ++ [.lst [.int x]]) = .ok (.next [some (.ref p), some (.int w), some (.ref q), t]) ih' := by
      rw [for_rng1 (ih1 := ih2) (j := j) (by walk_at "run") hj]
      exact e3
    clear e3 g1 g2 g3 g4 s4 p4 h hm h0 h1 hpl x0 xB s1 p1 l1 s2 j0 j1 s3 p3 l3 hq hg hj e2
    unfold m_law_looks b_law_looks
    walk_at "run"
  · omega

end L3
/-! HL: histories (out of K02 and N02). -/
namespace L3
open PySem PySem.Spec PyProof.Rows L2
local macro_rules | `(tactic| walk_at "get") => `(tactic| simp (disch := first | assumption | omega | (simp only [List.length_append, List.length_set, List.length_cons, List.length_nil, List.length_map] <;> omega) | fail) only [g_new, g_nw, g_old, g_set, g_sne, List.length_append, List.length_set, List.length_cons, List.length_nil, List.length_map, List.map_map, Function.comp_def, xs_lst, xs_tup, isL_lst, isL_tup, ↓reduceIte, *])
local macro_rules | `(tactic| walk_at "fr") => `(tactic| first | (intro _ _ _; simp (disch := first | assumption | omega | (simp only [List.length_append, List.length_set, List.length_cons, List.length_nil, List.length_map] <;> omega) | fail) only [g_new, g_nw, g_old, g_set, g_sne, List.length_append, List.length_set, List.length_cons, List.length_nil, List.length_map, List.map_map, Function.comp_def, xs_lst, xs_tup, isL_lst, isL_tup, ↓reduceIte, *]) | (intro _ _; simp (disch := first | assumption | omega | (simp only [List.length_append, List.length_set, List.length_cons, List.length_nil, List.length_map] <;> omega) | fail) only [g_new, g_nw, g_old, g_set, g_sne, List.length_append, List.length_set, List.length_cons, List.length_nil, List.length_map, List.map_map, Function.comp_def, xs_lst, xs_tup, isL_lst, isL_tup, ↓reduceIte, *]))
local macro_rules | `(tactic| walk_at "run") => `(tactic| simp -implicitDefEqProofs (disch := first | assumption | omega | (simp only [List.length_append, List.length_set, List.length_cons, List.length_nil, List.length_map] <;> omega) | fail) only [wp_ok, wp_exc, wp_stuck, ws_ok, ws_exc, ws_stuck, wp_op, kk_op, kk_un, wp_un, wp_cons, kk_cons, kk_cons2, wp_nil, wp_c, wp_app, wp_if, kk_if1, kk_if0, wp_and, kk_and1, kk_and0, wp_or, kk_or1, kk_or0, wp_not, kk_not, wp_tb, kk_tb, wp_andV, kk_andV1, kk_andV0, wp_orV, kk_orV1, kk_orV0, wp_notV, kk_notV, wp_noneS, wp_some, kk_some, wp_sl, kk_sl, kk_sl2, kk_sl3, wp_mL, kk_mL, kk_mL2, wp_mL0, kk_mL0, wp_chain, kk_ch, kk_ch2, kk_ch31, kk_ch30, ws_set, kks_nm, kks_g, kks_tup, kks_lst, ws_expr, kks_expr, ws_ret, kks_ret, ws_retN, ws_pass, ws_brk, ws_cont, ws_raise, ws_if, kks_if1, kks_if0, ws_seq, kks_next, kks_retS, kks_brk, kks_cont, kk_augE, ws_aug, kks_aug, kks_aug2, ws_par, kks_par, ws_setL, kks_sl, kks_sl2, kks_sl3, wp_def, kkd_ret, kkd_next, kkdE, kkE, ws_for, wp_lc, wp_r1, kk_r1, wp_r2, kk_r2, wp_il, wp_it, wp_ie, wp_iz, kk_il, kk_il2, kk_it, kk_it2, kk_ie, kk_ie2, kk_iz, kk_iz2, lAt_k, k_lAtL, k_lAtO, k_lAtT, wp_int, wp_add, wp_addI, wp_sub, wp_neg, wp_lt, wp_le, wp_gt, wp_ge, wp_max2, wp_min2, wp_abs, wp_mulI, wp_mul, wp_fdiv, wp_mod, wp_shl, wp_shr, wp_pow, wp_isN, wp_notN, wp_eqI, wp_neI, wp_ix, kk_ix, kk_ix2, wp_len, kk_lenL, kk_lenT, kk_lenO, kk_lenP, wp_appd, kk_app1, isL_k, kk_isL, startI_cons, startI_nil, rep_succ, rep_zero, List.getElem?_cons_zero, List.getElem?_cons_succ, List.set_cons_zero, List.set_cons_succ, f_call, m_var, List.append_nil, List.nil_append, List.cons_append, List.length_cons, List.length_nil, if_true, if_false, g_tup, g_lst, g_cons, g_nil, g_nm, Option.bind_some, kks_g, atI_0, atI_1, atI_2, atI_3, atI_4, atI_5, atI_6, atI_7, atI_8, atI_9, atI_10, atI_11, atI_12, atI_last, cutI_1, ixN_30, ixN_31, ixN_32, Int.toNat_zero, Int.reduceToNat, Int.reduceNeg, xs_lst, xs_tup, xs_ro, xs_rot, isL_lst, isL_tup, isL_ro, isL_rot, isT_tup, isT_rot, Bool.false_eq_true, Bool.true_eq_false, Bool.not_true, Bool.not_false, decide_true, decide_false, Int.reduceLT, Int.reduceLE, Nat.reduceLT, Nat.reduceLeDiff, Nat.reduceAdd, Nat.reduceEqDiff, Bool.not_eq_true, true_and, and_true, and_self, eq_self, g_new, g_nw, g_old, g_set, g_sne, List.length_set, List.length_append, wp_r3, kk_r3, Int.cast_ofNat_Int, Int.reduceEq, Int.natCast_zero, Int.natCast_one, ws_whileA, wp_isiII, wp_isiIB, wp_isiR, tyO_l, tyO_t, kk_isi, kk_isi2, kit_ll, kit_tt, kit_lt, kit_tl, wp_isiN, wp_isiBl, wp_isiS, tyO_d, kit2_NoneType_int, kit2_NoneType_bool, kit2_NoneType_list, kit2_NoneType_tuple, kit2_NoneType_str, kit2_bool_int, kit2_bool_bool, kit2_bool_list, kit2_bool_tuple, kit2_bool_str, kit2_str_int, kit2_str_bool, kit2_str_list, kit2_str_tuple, kit2_str_str, kit2_dict_int, kit2_dict_bool, kit2_dict_list, kit2_dict_tuple, kit2_dict_str, kit2_list_int, kit2_list_bool, kit2_list_str, kit2_tuple_int, kit2_tuple_bool, kit2_tuple_str, kit2_int_list, kit2_int_tuple, kit2_int_str, kf_next, kf_cont, kf_brk, kf_ret, wipeI, ↓reduceIte, *])
def H (s : Int) (vs : List Int) : Nat → Int
  | 0 => vs.getD 0 0
  | i + 1 => H s vs i + (vs.getD (i + 1) 0 - H s vs i) % s
def hist (s : Int) (vs : List Int) (k : Nat) : List Int := (List.range k).map (H s vs)
theorem hist_succ (s : Int) (vs : List Int) (k : Nat) : hist s vs (k + 1) = hist s vs k ++ [H s vs k] := by
  unfold hist
  rw [List.range_succ, List.map_append]
  rfl
theorem hist_len (s : Int) (vs : List Int) (k : Nat) : (hist s vs k).length = k := by simp [hist]
theorem getI0 {vs : List Int} {i : Nat} (h : i < vs.length) : (vs.map IV.int)[i]? = some (.int (vs.getD i 0)) := by
  rw [List.getElem?_map, List.getElem?_eq_getElem h, List.getD_eq_getElem?_getD, List.getElem?_eq_getElem h]
  rfl
theorem getI1 {vs : List Int} {i : Nat} {v : IV} (h : ((vs.map IV.int).drop 1)[i]? = some v) : v = .int (vs.getD (i + 1) 0) ∧ i + 1 < vs.length := by
  rw [List.getElem?_drop] at h
  have hl : 1 + i < vs.length := by
    have := (List.getElem?_eq_some_iff.mp h).1
    rwa [List.length_map] at this
  rw [Nat.add_comm 1 i, getI0 (by omega)] at h
  exact ⟨(Option.some.inj h).symm, by omega⟩
theorem w_least (c : Cs) {p : Nat} {w : Int} {vs : List Int} {ih : IH} {Q : PQ IV} {E : EQ} (h : ih[p]? = some (.lst (vs.map IV.int))) (hn : ∀ n ∈ vs, 0 ≤ n ∧ n < 2 ^ w.toNat) (hz : vs.length < 100) (hne : vs ≠ []) (h0 : 1 ≤ w) (h1 : w ≤ 64)
    (k : ∀ q ih', ih.length ≤ q → q < ih'.length → Fx ih ih' → ih'[q]? = some (.lst ((hist (2 ^ w.toNat) vs vs.length).map IV.int)) → Q (.ref q) ih') : wp (m_least_history c [.int w, .ref p] ih) Q E := by
  have hp := q_power c (w := w) (by omega) h1
  have s0 := pow_pos w
  have hl : 0 < vs.length := List.length_pos_iff.mpr hne
  have v0 := getI0 hl
  have lp := lt_of_get h
  unfold m_least_history b_least_history
  walk_at "run"
  refine w_check_values c h hn (by omega) hne h0 h1 fun ih1 l1 f1 => ?_
  obtain ⟨s, es⟩ : ∃ s : Int, 2 ^ w.toNat = s := ⟨_, rfl⟩
  rw [es] at hp k s0
  clear hn es
  walk_at "run"
  refine wp_lst (by simp) (newN fun q ih2 q1 q2 l2 f2 g2 => ?_)
  walk_at "run"
  refine wp_slL (xs := vs.map IV.int) (by walk_at "get") (newN fun d ih3 d1 d2 l3 f3 g3 => ?_)
  rw [cutI_1] at g3
  walk_at "run"
  refine for_lst1 (o := .lst ((vs.map IV.int).drop 1)) (fun i env ih' => (∃ a, env = [some (.int w), some (.ref p), some (.ref q), a]) ∧ ih'[q]? = some (.lst ((hist s vs i).map IV.int ++ [.int (H s vs i)])) ∧ ih'[d]? = some (.lst ((vs.map IV.int).drop 1)) ∧ Fx ih ih' ∧ q < ih'.length) g3 rfl
    ⟨⟨_, rfl⟩, by rw [show (MO.lst ((hist s vs 0).map IV.int ++ [.int (H s vs 0)])) = .lst [.int (vs.getD 0 0)] from rfl]; walk_at "get", g3, by walk_at "fr", by omega⟩ (fun i env ih' h => h.2.2.1) (fun i v env ih4 hv ⟨⟨a, ea⟩, g4, g5, f4, l4⟩ => ?_) fun env ih4 ⟨⟨a, ea⟩, g4, g5, f4, l4⟩ => ?_
  · subst ea
    obtain ⟨rfl, hi⟩ := getI1 hv
    unfold lb_least_history_1
    walk_at "run"
    refine ⟨by rw [List.length_map, hist_len]; omega, Inv.mk ⟨⟨_, rfl⟩, ?_, by walk_at "get", by walk_at "fr", by simpa using l4⟩⟩
    rw [hist_succ, List.map_append, g_set l4]
    rfl
  · subst ea
    walk_at "run"
    refine k q ih4 (by omega) l4 f4 ?_
    rw [xs_lst, List.length_drop, List.length_map] at g4
    rw [g4, ← List.map_singleton, ← List.map_append, ← hist_succ, Nat.sub_add_cancel hl]

theorem hit {s v a : Int} (v0 : 0 ≤ v) (v1 : v < s) : (a + (v - a) % s) % s = v := by
  rw [Int.add_emod_emod, show a + (v - a) = v by omega]
  exact Int.emod_eq_of_lt v0 v1
theorem miss {s v a x : Int} (v0 : 0 ≤ v) (v1 : v < s) (h0 : a ≤ x) (h1 : x < a + (v - a) % s) : x % s ≠ v := by
  intro h
  have s0 : 0 < s := by omega
  have e : (x - a) % s = (v - a) % s := by
    rw [Int.sub_emod x a, h, Int.sub_emod v a, Int.emod_eq_of_lt v0 v1]
  have := Int.emod_lt_of_pos (v - a) s0
  rw [Int.emod_eq_of_lt (by omega) (by omega)] at e
  omega
theorem H_step (s : Int) (vs : List Int) (i : Nat) (s0 : 0 < s) : 0 ≤ H s vs (i + 1) - H s vs i ∧ H s vs (i + 1) - H s vs i < s := by
  have a := Int.emod_nonneg (vs.getD (i + 1) 0 - H s vs i) (Int.ne_of_gt s0)
  have b := Int.emod_lt_of_pos (vs.getD (i + 1) 0 - H s vs i) s0
  have e : H s vs (i + 1) = H s vs i + (vs.getD (i + 1) 0 - H s vs i) % s := rfl
  rw [e]
  omega
theorem mem_getD {vs : List Int} {i : Nat} (h : i < vs.length) : vs.getD i 0 ∈ vs := by
  rw [List.getD_eq_getElem?_getD, List.getElem?_eq_getElem h]
  exact List.getElem_mem h
def addTo (s : Int) (vs : List Int) (k : Nat) : Int := ((List.range k).map fun i => (vs.getD (i + 1) 0 - vs.getD i 0) % s).sum
theorem addTo_succ (s : Int) (vs : List Int) (k : Nat) : addTo s vs (k + 1) = addTo s vs k + (vs.getD (k + 1) 0 - vs.getD k 0) % s := by
  unfold addTo
  rw [List.range_succ, List.map_append, List.sum_append]
  simp
theorem addTo_all (s : Int) (vs : List Int) : addTo s vs (vs.length - 1) = (List.zipWith (fun a b => (b - a) % s) vs (vs.drop 1)).sum := by
  unfold addTo
  congr 1
  apply List.ext_getElem
  · simp
  · intro i h1 h2
    simp only [List.length_map, List.length_range] at h1
    simp only [List.getElem_map, List.getElem_range, List.getElem_zipWith, List.getElem_drop, List.getD_eq_getElem?_getD]
    rw [List.getElem?_eq_getElem (by omega), List.getElem?_eq_getElem (by omega)]
    simp only [Option.getD_some, Nat.add_comm 1 i]
section
variable {s : Int} {vs : List Int}
theorem H_mod (hv : ∀ n ∈ vs, 0 ≤ n ∧ n < s) : ∀ {i : Nat}, i < vs.length → H s vs i % s = vs.getD i 0
  | 0, h => by
    obtain ⟨a, b⟩ := hv _ (mem_getD h)
    exact Int.emod_eq_of_lt a b
  | i + 1, h => by
    obtain ⟨a, b⟩ := hv _ (mem_getD h)
    exact hit a b
theorem H_nn (s0 : 0 < s) (hv : ∀ n ∈ vs, 0 ≤ n ∧ n < s) (hl : 0 < vs.length) : ∀ i : Nat, 0 ≤ H s vs i ∧ H s vs i ≤ ((i : Int) + 1) * s
  | 0 => by
    obtain ⟨a, b⟩ := hv _ (mem_getD hl)
    have e : (((0 : Nat) : Int) + 1) * s = s := by simp
    refine ⟨a, ?_⟩
    rw [e]
    exact Int.le_of_lt b
  | i + 1 => by
    obtain ⟨a, b⟩ := H_nn s0 hv hl i
    obtain ⟨d, e⟩ := H_step s vs i s0
    refine ⟨by omega, ?_⟩
    have : ((i : Int) + 1 + 1) * s = ((i : Int) + 1) * s + s := by rw [Int.add_mul, Int.one_mul]
    push_cast
    omega
theorem hist_mod (hv : ∀ n ∈ vs, 0 ≤ n ∧ n < s) : (hist s vs vs.length).map (· % s) = vs := by
  unfold hist
  rw [List.map_map]
  apply List.ext_getElem
  · simp
  · intro i h1 h2
    simp only [List.getElem_map, List.getElem_range, Function.comp_apply]
    rw [H_mod hv h2, List.getD_eq_getElem?_getD, List.getElem?_eq_getElem h2]
    rfl
theorem hist_sorted (s0 : 0 < s) : ∀ k : Nat, Sorted (hist s vs k)
  | 0 => trivial
  | 1 => trivial
  | k + 2 => by
    rw [hist_succ, hist_succ]
    refine sorted_app ?_ (by have := (H_step s vs k s0).1; omega)
    rw [← hist_succ]
    exact hist_sorted s0 (k + 1)
theorem hist_mem {k : Nat} {x : Int} (h : x ∈ hist s vs k) : ∃ i, i < k ∧ x = H s vs i := by
  obtain ⟨i, hi, rfl⟩ := List.mem_map.mp h
  exact ⟨i, List.mem_range.mp hi, rfl⟩
theorem addTo_hist (s0 : 0 < s) (hv : ∀ n ∈ vs, 0 ≤ n ∧ n < s) : ∀ k : Nat, k < vs.length → addTo s vs k = H s vs k - H s vs 0
  | 0, _ => by rw [Int.sub_self]; rfl
  | k + 1, h => by
    rw [addTo_succ, addTo_hist s0 hv k (by omega)]
    have e : H s vs (k + 1) = H s vs k + (vs.getD (k + 1) 0 - H s vs k) % s := rfl
    have m := H_mod hv (i := k) (by omega)
    rw [e, ← m, Int.sub_emod_emod]
    omega
theorem counts_of {ns : List Int} (s0 : 0 < s) (hv : ∀ n ∈ vs, 0 ≤ n ∧ n < s) (hl : 0 < vs.length) (h : ns.map (· % s) = vs) : counts s ns = H s vs (vs.length - 1) - H s vs 0 := by
  unfold counts
  rw [h, ← addTo_all, addTo_hist s0 hv _ (by omega)]
theorem hist_getD {i k : Nat} (h : i < k) : (hist s vs k).getD i 0 = H s vs i := by
  rw [List.getD_eq_getElem?_getD]
  unfold hist
  rw [List.getElem?_map, List.getElem?_range h]
  rfl
theorem lost_none (s0 : 0 < s) (k : Nat) : lostRows s (hist s vs k) (k - 1) = [] := by
  unfold lostRows
  rw [List.filterMap_eq_nil_iff]
  intro i hi
  have hi := List.mem_range.mp hi
  unfold lostRow
  rw [hist_getD (by omega), hist_getD (by omega), if_neg]
  have := (H_step s vs i s0).2
  omega
end
end L3
/-! L15: a caught exception by its name, count and index, texts, values of all kinds; backwards. -/
namespace L3
open PySem PySem.Spec PyProof.Rows L2
open Classical in
noncomputable def tryH (i : Nat) (exm : Addr → Option Bool) (ms : Addr → Addr → Env → IH → RS) (c : Addr) (env1 : Env) (ih1 : IH) : RS := match exm c with
  | some true => if ∀ a, (ms a c (env1.set i (some (.gl a))) ih1).unset i = (ms 0 c (env1.set i (some (.gl 0))) ih1).unset i then (ms 0 c (env1.set i (some (.gl 0))) ih1).unset i else .stuck
  | some false => .exc c env1 ih1
  | none => .stuck
def k_try (i : Nat) (exm : Addr → Option Bool) (ms : Addr → Addr → Env → IH → RS) (S : SQ) (F : ES) : ES := fun c env ih => ws (tryH i exm ms c env ih) S F
section
variable {i : Nat} {exm : Addr → Option Bool} {ms : Addr → Addr → Env → IH → RS} {mb : Env → IH → RS} {S : SQ} {F : ES} {Q : PQ IV} {E : EQ} {env : Env} {ih ih' : IH} {c a d : Addr} {v x y : IV} {K : PySem.W.Frag} {T : String} {b : Bool} {n p : Nat} {xs : List IV}
theorem ws_try : ws (ms_try i exm mb ms env ih) S F = ws (mb env ih) S (k_try i exm ms S F) := by
  unfold ms_try
  cases mb env ih <;> rfl
theorem kk_try (he : exm c = some true) (h : ∀ a, ms a c (env.set i (some (.gl a))) ih = .ok (.ret v) ih') (q : S (.ret v) ih') : k_try i exm ms S F c env ih := by
  unfold k_try tryH
  rw [he]
  dsimp only
  rw [if_pos (fun a => by rw [h a, h 0]), h 0]
  exact q
theorem kk_tryF (he : exm c = some false) (q : F c env ih) : k_try i exm ms S F c env ih := by
  unfold k_try tryH
  rw [he]
  exact q
def k_isE (Q : PQ IV) (ih : IH) : Option Bool → Prop
  | some b => Q (.bl b) ih
  | none => False
theorem kk_isE : k_isE Q ih (some b) = Q (.bl b) ih := rfl
theorem wp_isEg (h : ExcC K c) : wp (f_isE K a c [.gl a, .gl d] ih) Q E = k_isE Q ih (PySem.W.kitOne K (.ref c) (.ref d)) := by
  unfold f_isE
  dsimp only
  rw [if_pos ⟨rfl, h⟩]
  dsimp only [clsOf]
  cases PySem.W.kitOne K (.ref c) (.ref d) <;> rfl
theorem wp_isEt (h : ExcC K c) : wp (f_isE K a c [.gl a, .ty T] ih) Q E = k_isE Q ih (PySem.W.kitOne K (.ref c) (.type T)) := by
  unfold f_isE
  dsimp only
  rw [if_pos ⟨rfl, h⟩]
  dsimp only [clsOf]
  cases PySem.W.kitOne K (.ref c) (.type T) <;> rfl
theorem wp_count {k : Int} (h : ih[n]? = some (.lst xs)) (f : (flatI y && xs.all flatI) = true) (e : ((xs.countP (eqI y) : Nat) : Int) = k) (q : Q (.int k) ih) : wp (f_count (.ref n) [y] ih) Q E := by
  rw [Bool.and_eq_true] at f
  have : f_count (.ref n) [y] ih = .ok (.int k) ih := by
    unfold f_count
    dsimp only
    rw [h]
    dsimp only
    rw [if_pos ⟨rfl, f.1, f.2⟩]
    show Res.ok (IV.int ((xs.countP (eqI y) : Nat) : Int)) ih = _
    rw [e]
  exact wp.of this q
theorem wp_index {j : Nat} (h : ih[n]? = some (.lst xs)) (f : (flatI y && xs.all flatI) = true) (e : xs.findIdx? (eqI y) = some j) (q : Q (.int (j : Int)) ih) : wp (f_index (.ref n) [y] ih) Q E := by
  rw [Bool.and_eq_true] at f
  have : f_index (.ref n) [y] ih = .ok (.int (j : Int)) ih := by
    unfold f_index
    dsimp only
    rw [h]
    dsimp only
    rw [if_pos ⟨rfl, f.1, f.2⟩]
    show (match xs.findIdx? (eqI y) with
      | some j => Res.ok (IV.int (j : Nat)) ih
      | none => .stuck) = _
    rw [e]
  exact wp.of this q
def b2i (b : Bool) : Int := if b = true then 1 else 0
theorem wp_int2 : wp (f_int [.bl b] ih) Q E = Q (.int (b2i b)) ih := rfl
theorem pick2 : atI [x, y] (b2i b) = some (if b = true then y else x) := by cases b <;> rfl
theorem wp_dct (q : Q (.ref ih.length) (ih ++ [.dct])) : wp (m_dct env ih) Q E := q
theorem wp_mulL {k : Int} (h : ih[n]? = some (.lst xs)) (h0 : 0 ≤ k) (h1 : k ≤ 100000) (h2 : xs.length * k.toNat ≤ 100000) (q : Q (.ref ih.length) (ih ++ [.lst (List.replicate k.toNat xs).flatten])) : wp (f_mulA (.ref n) (.int k) ih) Q E := by
  have : f_mulA (.ref n) (.int k) ih = .ok (.ref ih.length) (ih ++ [.lst (List.replicate k.toNat xs).flatten]) := by
    unfold f_mulA
    dsimp only
    rw [h]
    dsimp only
    rw [if_pos ⟨h0, h1, h2⟩]
  exact wp.of this q
theorem wp_tupleL (h : ih[n]? = some (.lst xs)) (q : Q (.ref ih.length) (ih ++ [.tup xs])) : wp (f_tuple [.ref n] ih) Q E := by
  have : f_tuple [.ref n] ih = .ok (.ref ih.length) (ih ++ [.tup xs]) := by
    unfold f_tuple
    dsimp only
    rw [h]
    rfl
  exact wp.of this q
theorem wp_eqLen {m : Nat} {ys : List IV} (h1 : ih[n]? = some (.lst xs)) (h2 : ih[m]? = some (.lst ys)) (hl : xs.length ≠ ys.length) (q : Q (.bl false) ih) : wp (f_eq (.ref n) (.ref m) ih) Q E :=
  wp.of (f_eqn_len h1 h2 rfl rfl hl) q
end
/-! ### values of all kinds -/
def KV (p : Nat) (ih : IH) : IV → Prop
  | .ref k => k ≠ p ∧ ∃ t, tyO ih[k]? = some t
  | .gl _ => False
  | .ty _ => False
  | _ => True
def whl (l : Int) : IV → Bool
  | .int i => decide (l ≤ i)
  | _ => false
theorem tyO_lt {ih : IH} {k : Nat} {t : String} (h : tyO ih[k]? = some t) : k < ih.length := by
  rcases Nat.lt_or_ge k ih.length with l | l
  · exact l
  · rw [List.getElem?_eq_none l] at h
    cases h
theorem KV.fr {p : Nat} {ih ih' : IH} {v : IV} (h : KV p ih v) (f : Fr p ih ih') : KV p ih' v := by
  cases v with
  | ref k =>
    obtain ⟨h1, t, h2⟩ := h
    exact ⟨h1, t, by rw [f k (tyO_lt h2) h1]; exact h2⟩
  | _ => exact h
theorem KV.fx {p : Nat} {ih ih' : IH} {v : IV} (h : KV p ih v) (f : Fx ih ih') : KV p ih' v := h.fr f.fr
theorem tyO_cases {ih : IH} {k : Nat} {t : String} (h : tyO ih[k]? = some t) : (t = "list" ∧ ∃ xs, ih[k]? = some (.lst xs)) ∨ t = "tuple" ∨ t = "dict" := by
  unfold tyO at h
  split at h
  · rename_i xs e
    cases h
    exact .inl ⟨rfl, xs, e⟩
  · cases h; exact .inr (.inl rfl)
  · cases h; exact .inr (.inr rfl)
  · cases h; exact .inr (.inr rfl)
  · cases h
/-- what is no good list; T: the good ones -/
def Bad (T : List IV → Bool) (p : Nat) (ih : IH) : IV → Prop
  | .ref k => k ≠ p ∧ ((∃ xs, ih[k]? = some (.lst xs) ∧ xs.length < 1000 ∧ (∀ x ∈ xs, KV p ih x) ∧ T xs = false) ∨ ∃ t, tyO ih[k]? = some t ∧ t ≠ "list")
  | .gl _ => False
  | .ty _ => False
  | _ => True
theorem Bad.fr {T : List IV → Bool} {p : Nat} {ih ih' : IH} {v : IV} (h : Bad T p ih v) (f : Fr p ih ih') : Bad T p ih' v := by
  cases v with
  | ref k =>
    obtain ⟨h1, h2⟩ := h
    refine ⟨h1, ?_⟩
    rcases h2 with ⟨xs, g, a, b, d⟩ | ⟨t, g, b⟩
    · exact .inl ⟨xs, by rw [f k (lt_of_get g) h1]; exact g, a, fun x hx => (b x hx).fr f, d⟩
    · exact .inr ⟨t, by rw [f k (tyO_lt g) h1]; exact g, b⟩
  | _ => exact h
theorem whl_int {xs : List IV} {l : Int} (h : xs.all (whl l) = true) : ∃ ns : List Int, xs = ns.map IV.int ∧ ∀ n ∈ ns, l ≤ n := by
  induction xs with
  | nil => exact ⟨[], rfl, fun _ h => nomatch h⟩
  | cons x r ih =>
    rw [List.all_cons, Bool.and_eq_true] at h
    obtain ⟨ns, e, hn⟩ := ih h.2
    cases x with
    | int i => exact ⟨i :: ns, by rw [e]; rfl, fun n hm => by
        rcases List.mem_cons.mp hm with e2 | e2
        · rw [e2]; exact of_decide_eq_true h.1
        · exact hn n e2⟩
    | _ => cases h.1
theorem strOk_sh (x : Str) (hx : PyData.strOk x = true) : SeqAt.shaped (.str x) = true := by
  simp [hx, SeqAt.shaped, PyData.canLay0, PyData.canLayAll0, PyData.depth, PyData.depthAll]
section
variable {Q : PQ IV} {E : EQ} {ih : IH} {x y : Str}
theorem wp_neS (hx : PyData.strOk x = true) (hy : PyData.strOk y = true) : wp (f_ne (.str x) (.str y) ih) Q E = Q (.bl (!decide (x = y))) ih := by
  rw [f_ne_of (.str x) (.str y) (strOk_sh x hx) (strOk_sh y hy)]
  show Q (.bl (!PyData.eqv (.str x) (.str y))) ih = _
  have : PyData.eqv (.str x) (.str y) = decide (x = y) := by
    unfold PyData.eqv
    by_cases h : x = y
    · subst h; simp
    · simp [h]
  rw [this]
end
/-! ### several objects that stay -/
/-- objects, none of them the source -/
structure Kp (p : Nat) (ih : IH) (L : List (Nat × MO)) : Prop where
  all : ∀ x ∈ L, ih[x.1]? = some x.2 ∧ x.1 ≠ p
theorem Kp.nil {p : Nat} {ih : IH} : Kp p ih [] := ⟨fun _ h => nomatch h⟩
theorem Kp.fr {p : Nat} {ih ih' : IH} {L : List (Nat × MO)} (h : Kp p ih L) (f : Fr p ih ih') : Kp p ih' L := ⟨fun x hx => by
  obtain ⟨a, b⟩ := h.all x hx
  exact ⟨(f x.1 (lt_of_get a) b).trans a, b⟩⟩
theorem Kp.fx {p : Nat} {ih ih' : IH} {L : List (Nat × MO)} (h : Kp p ih L) (f : Fx ih ih') : Kp p ih' L := h.fr f.fr
theorem Kp.put {p q : Nat} {ih : IH} {o : MO} {L : List (Nat × MO)} (h : Kp p ih L) (g : ih[q]? = some o) (e : q ≠ p) : Kp p ih ((q, o) :: L) := ⟨fun x hx => by
  rcases List.mem_cons.mp hx with rfl | hx
  · exact ⟨g, e⟩
  · exact h.all x hx⟩
theorem Kp.add {p q : Nat} {ih ih' : IH} {o : MO} {L : List (Nat × MO)} (h : Kp p ih L) (f : Fx ih ih') (g : ih'[q]? = some o) (l : ih.length ≤ q) (lp : p < ih.length) : Kp p ih' ((q, o) :: L) := (h.fx f).put g (by omega)
theorem Kp.get {p q : Nat} {ih : IH} {o : MO} {L : List (Nat × MO)} (h : Kp p ih L) (i : Nat) (e : L[i]? = some (q, o) := by rfl) : ih[q]? = some o := (h.all _ (List.mem_of_getElem? e)).1
theorem Kp.ne {p q : Nat} {ih : IH} {o : MO} {L : List (Nat × MO)} (h : Kp p ih L) (i : Nat) (e : L[i]? = some (q, o) := by rfl) : q ≠ p := (h.all _ (List.mem_of_getElem? e)).2
end L3
/-! PV0: is_whole of values of all kinds. -/
namespace L3
open PySem PySem.Spec PyProof.Rows L2
local macro_rules | `(tactic| walk_at "get") => `(tactic| simp (disch := first | assumption | omega | (simp only [List.length_append, List.length_set, List.length_cons, List.length_nil, List.length_map] <;> omega) | fail) only [g_new, g_nw, g_old, g_set, g_sne, List.length_append, List.length_set, List.length_cons, List.length_nil, List.length_map, List.map_map, Function.comp_def, xs_lst, xs_tup, isL_lst, isL_tup, ↓reduceIte, *])
local macro_rules | `(tactic| walk_at "fr") => `(tactic| first | (intro _ _ _; simp (disch := first | assumption | omega | (simp only [List.length_append, List.length_set, List.length_cons, List.length_nil, List.length_map] <;> omega) | fail) only [g_new, g_nw, g_old, g_set, g_sne, List.length_append, List.length_set, List.length_cons, List.length_nil, List.length_map, List.map_map, Function.comp_def, xs_lst, xs_tup, isL_lst, isL_tup, ↓reduceIte, *]) | (intro _ _; simp (disch := first | assumption | omega | (simp only [List.length_append, List.length_set, List.length_cons, List.length_nil, List.length_map] <;> omega) | fail) only [g_new, g_nw, g_old, g_set, g_sne, List.length_append, List.length_set, List.length_cons, List.length_nil, List.length_map, List.map_map, Function.comp_def, xs_lst, xs_tup, isL_lst, isL_tup, ↓reduceIte, *]))
local macro_rules | `(tactic| walk_at "run") => `(tactic| simp -implicitDefEqProofs (disch := first | assumption | omega | (simp only [List.length_append, List.length_set, List.length_cons, List.length_nil, List.length_map] <;> omega) | fail) only [wp_ok, wp_exc, wp_stuck, ws_ok, ws_exc, ws_stuck, wp_op, kk_op, kk_un, wp_un, wp_cons, kk_cons, kk_cons2, wp_nil, wp_c, wp_app, wp_if, kk_if1, kk_if0, wp_and, kk_and1, kk_and0, wp_or, kk_or1, kk_or0, wp_not, kk_not, wp_tb, kk_tb, wp_andV, kk_andV1, kk_andV0, wp_orV, kk_orV1, kk_orV0, wp_notV, kk_notV, wp_noneS, wp_some, kk_some, wp_sl, kk_sl, kk_sl2, kk_sl3, wp_mL, kk_mL, kk_mL2, wp_mL0, kk_mL0, wp_chain, kk_ch, kk_ch2, kk_ch31, kk_ch30, ws_set, kks_nm, kks_g, kks_tup, kks_lst, ws_expr, kks_expr, ws_ret, kks_ret, ws_retN, ws_pass, ws_brk, ws_cont, ws_raise, ws_if, kks_if1, kks_if0, ws_seq, kks_next, kks_retS, kks_brk, kks_cont, kk_augE, ws_aug, kks_aug, kks_aug2, ws_par, kks_par, ws_setL, kks_sl, kks_sl2, kks_sl3, wp_def, kkd_ret, kkd_next, kkdE, kkE, ws_for, wp_lc, wp_r1, kk_r1, wp_r2, kk_r2, wp_il, wp_it, wp_ie, wp_iz, kk_il, kk_il2, kk_it, kk_it2, kk_ie, kk_ie2, kk_iz, kk_iz2, lAt_k, k_lAtL, k_lAtO, k_lAtT, wp_int, wp_add, wp_addI, wp_sub, wp_neg, wp_lt, wp_le, wp_gt, wp_ge, wp_max2, wp_min2, wp_abs, wp_mulI, wp_mul, wp_fdiv, wp_mod, wp_shl, wp_shr, wp_pow, wp_isN, wp_notN, wp_eqI, wp_neI, wp_ix, kk_ix, kk_ix2, wp_len, kk_lenL, kk_lenT, kk_lenO, kk_lenP, wp_appd, kk_app1, isL_k, kk_isL, startI_cons, startI_nil, rep_succ, rep_zero, List.getElem?_cons_zero, List.getElem?_cons_succ, List.set_cons_zero, List.set_cons_succ, f_call, m_var, List.append_nil, List.nil_append, List.cons_append, List.length_cons, List.length_nil, if_true, if_false, g_tup, g_lst, g_cons, g_nil, g_nm, Option.bind_some, kks_g, atI_0, atI_1, atI_2, atI_3, atI_4, atI_5, atI_6, atI_7, atI_8, atI_9, atI_10, atI_11, atI_12, atI_last, cutI_1, ixN_30, ixN_31, ixN_32, Int.toNat_zero, Int.reduceToNat, Int.reduceNeg, xs_lst, xs_tup, xs_ro, xs_rot, isL_lst, isL_tup, isL_ro, isL_rot, isT_tup, isT_rot, Bool.false_eq_true, Bool.true_eq_false, Bool.not_true, Bool.not_false, decide_true, decide_false, Int.reduceLT, Int.reduceLE, Nat.reduceLT, Nat.reduceLeDiff, Nat.reduceAdd, Nat.reduceEqDiff, Bool.not_eq_true, true_and, and_true, and_self, eq_self, g_new, g_nw, g_old, g_set, g_sne, List.length_set, List.length_append, wp_r3, kk_r3, Int.cast_ofNat_Int, Int.reduceEq, Int.natCast_zero, Int.natCast_one, ws_whileA, wp_isiII, wp_isiIB, wp_isiR, tyO_l, tyO_t, kk_isi, kk_isi2, kit_ll, kit_tt, kit_lt, kit_tl, wp_isiN, wp_isiBl, wp_isiS, tyO_d, kit2_NoneType_int, kit2_NoneType_bool, kit2_NoneType_list, kit2_NoneType_tuple, kit2_NoneType_str, kit2_bool_int, kit2_bool_bool, kit2_bool_list, kit2_bool_tuple, kit2_bool_str, kit2_str_int, kit2_str_bool, kit2_str_list, kit2_str_tuple, kit2_str_str, kit2_dict_int, kit2_dict_bool, kit2_dict_list, kit2_dict_tuple, kit2_dict_str, kit2_list_int, kit2_list_bool, kit2_list_str, kit2_tuple_int, kit2_tuple_bool, kit2_tuple_str, kit2_int_list, kit2_int_tuple, kit2_int_str, kf_next, kf_cont, kf_brk, kf_ret, wipeI, ↓reduceIte, *])
theorem w_wholeV (c : Cs) {p : Nat} {ih : IH} {v : IV} {Q : PQ IV} {E : EQ} (h : KV p ih v) (l : Int) (q : Q (.bl (whl l v)) ih) : wp (m_is_whole c [v, .int l] ih) Q E := by
  have a3 : decide (IV.int l = IV.non) = false := rfl
  unfold m_is_whole b_is_whole
  cases v with
  | int i =>
    unfold whl at q
    walk_at "run"
    all_goals exact q
  | non => walk_at "run"; all_goals exact q
  | bl b => walk_at "run"; all_goals exact q
  | str x => walk_at "run"; all_goals exact q
  | gl a => exact h.elim
  | ty a => exact h.elim
  | ref k =>
    obtain ⟨_, t, ht⟩ := h
    unfold whl at q
    rcases tyO_cases ht with ⟨e, _⟩ | e | e <;> (subst e; walk_at "run"; all_goals exact q)
/-- None stands for no least one -/
def whl0 : IV → Bool
  | .int _ => true
  | _ => false
theorem w_wholeV0 (c : Cs) {p : Nat} {ih : IH} {v : IV} {Q : PQ IV} {E : EQ} (h : KV p ih v) (q : Q (.bl (whl0 v)) ih) : wp (m_is_whole c [v, .non] ih) Q E := by
  have a3 : decide (IV.non = IV.non) = true := rfl
  unfold m_is_whole b_is_whole
  cases v with
  | int i =>
    unfold whl0 at q
    walk_at "run"
    all_goals exact q
  | non => walk_at "run"; all_goals exact q
  | bl b => walk_at "run"; all_goals exact q
  | str x => walk_at "run"; all_goals exact q
  | gl a => exact h.elim
  | ty a => exact h.elim
  | ref k =>
    obtain ⟨_, t, ht⟩ := h
    unfold whl0 at q
    rcases tyO_cases ht with ⟨e, _⟩ | e | e <;> (subst e; walk_at "run"; all_goals exact q)
end L3
/-! PV: what the checks of counters refuse. -/
namespace L3
open PySem PySem.Spec PyProof.Rows L2
local macro_rules | `(tactic| walk_at "get") => `(tactic| simp (disch := first | assumption | omega | (simp only [List.length_append, List.length_set, List.length_cons, List.length_nil, List.length_map] <;> omega) | fail) only [g_new, g_nw, g_old, g_set, g_sne, List.length_append, List.length_set, List.length_cons, List.length_nil, List.length_map, List.map_map, Function.comp_def, xs_lst, xs_tup, isL_lst, isL_tup, ↓reduceIte, *])
local macro_rules | `(tactic| walk_at "fr") => `(tactic| first | (intro _ _ _; simp (disch := first | assumption | omega | (simp only [List.length_append, List.length_set, List.length_cons, List.length_nil, List.length_map] <;> omega) | fail) only [g_new, g_nw, g_old, g_set, g_sne, List.length_append, List.length_set, List.length_cons, List.length_nil, List.length_map, List.map_map, Function.comp_def, xs_lst, xs_tup, isL_lst, isL_tup, ↓reduceIte, *]) | (intro _ _; simp (disch := first | assumption | omega | (simp only [List.length_append, List.length_set, List.length_cons, List.length_nil, List.length_map] <;> omega) | fail) only [g_new, g_nw, g_old, g_set, g_sne, List.length_append, List.length_set, List.length_cons, List.length_nil, List.length_map, List.map_map, Function.comp_def, xs_lst, xs_tup, isL_lst, isL_tup, ↓reduceIte, *]))
local macro_rules | `(tactic| walk_at "run") => `(tactic| simp -implicitDefEqProofs (disch := first | assumption | omega | (simp only [List.length_append, List.length_set, List.length_cons, List.length_nil, List.length_map] <;> omega) | fail) only [wp_ok, wp_exc, wp_stuck, ws_ok, ws_exc, ws_stuck, wp_op, kk_op, kk_un, wp_un, wp_cons, kk_cons, kk_cons2, wp_nil, wp_c, wp_app, wp_if, kk_if1, kk_if0, wp_and, kk_and1, kk_and0, wp_or, kk_or1, kk_or0, wp_not, kk_not, wp_tb, kk_tb, wp_andV, kk_andV1, kk_andV0, wp_orV, kk_orV1, kk_orV0, wp_notV, kk_notV, wp_noneS, wp_some, kk_some, wp_sl, kk_sl, kk_sl2, kk_sl3, wp_mL, kk_mL, kk_mL2, wp_mL0, kk_mL0, wp_chain, kk_ch, kk_ch2, kk_ch31, kk_ch30, ws_set, kks_nm, kks_g, kks_tup, kks_lst, ws_expr, kks_expr, ws_ret, kks_ret, ws_retN, ws_pass, ws_brk, ws_cont, ws_raise, ws_if, kks_if1, kks_if0, ws_seq, kks_next, kks_retS, kks_brk, kks_cont, kk_augE, ws_aug, kks_aug, kks_aug2, ws_par, kks_par, ws_setL, kks_sl, kks_sl2, kks_sl3, wp_def, kkd_ret, kkd_next, kkdE, kkE, ws_for, wp_lc, wp_r1, kk_r1, wp_r2, kk_r2, wp_il, wp_it, wp_ie, wp_iz, kk_il, kk_il2, kk_it, kk_it2, kk_ie, kk_ie2, kk_iz, kk_iz2, lAt_k, k_lAtL, k_lAtO, k_lAtT, wp_int, wp_add, wp_addI, wp_sub, wp_neg, wp_lt, wp_le, wp_gt, wp_ge, wp_max2, wp_min2, wp_abs, wp_mulI, wp_mul, wp_fdiv, wp_mod, wp_shl, wp_shr, wp_pow, wp_isN, wp_notN, wp_eqI, wp_neI, wp_ix, kk_ix, kk_ix2, wp_len, kk_lenL, kk_lenT, kk_lenO, kk_lenP, wp_appd, kk_app1, isL_k, kk_isL, startI_cons, startI_nil, rep_succ, rep_zero, List.getElem?_cons_zero, List.getElem?_cons_succ, List.set_cons_zero, List.set_cons_succ, f_call, m_var, List.append_nil, List.nil_append, List.cons_append, List.length_cons, List.length_nil, if_true, if_false, g_tup, g_lst, g_cons, g_nil, g_nm, Option.bind_some, kks_g, atI_0, atI_1, atI_2, atI_3, atI_4, atI_5, atI_6, atI_7, atI_8, atI_9, atI_10, atI_11, atI_12, atI_last, cutI_1, ixN_30, ixN_31, ixN_32, Int.toNat_zero, Int.reduceToNat, Int.reduceNeg, xs_lst, xs_tup, xs_ro, xs_rot, isL_lst, isL_tup, isL_ro, isL_rot, isT_tup, isT_rot, Bool.false_eq_true, Bool.true_eq_false, Bool.not_true, Bool.not_false, decide_true, decide_false, Int.reduceLT, Int.reduceLE, Nat.reduceLT, Nat.reduceLeDiff, Nat.reduceAdd, Nat.reduceEqDiff, Bool.not_eq_true, true_and, and_true, and_self, eq_self, g_new, g_nw, g_old, g_set, g_sne, List.length_set, List.length_append, wp_r3, kk_r3, Int.cast_ofNat_Int, Int.reduceEq, Int.natCast_zero, Int.natCast_one, ws_whileA, wp_isiII, wp_isiIB, wp_isiR, tyO_l, tyO_t, kk_isi, kk_isi2, kit_ll, kit_tt, kit_lt, kit_tl, wp_isiN, wp_isiBl, wp_isiS, tyO_d, kit2_NoneType_int, kit2_NoneType_bool, kit2_NoneType_list, kit2_NoneType_tuple, kit2_NoneType_str, kit2_bool_int, kit2_bool_bool, kit2_bool_list, kit2_bool_tuple, kit2_bool_str, kit2_str_int, kit2_str_bool, kit2_str_list, kit2_str_tuple, kit2_str_str, kit2_dict_int, kit2_dict_bool, kit2_dict_list, kit2_dict_tuple, kit2_dict_str, kit2_list_int, kit2_list_bool, kit2_list_str, kit2_tuple_int, kit2_tuple_bool, kit2_tuple_str, kit2_int_list, kit2_int_tuple, kit2_int_str, kf_next, kf_cont, kf_brk, kf_ret, wipeI, ↓reduceIte, *])
section
variable {p : Nat} {ih : IH} {v : IV} {Q : PQ IV} {E : EQ}
/-- what is no width -/
def OddW (p : Nat) (ih : IH) (v : IV) : Prop := KV p ih v ∧ ∀ z, v = .int z → ¬ (1 ≤ z ∧ z ≤ 64)
theorem OddW.fr {ih' : IH} (h : OddW p ih v) (f : Fr p ih ih') : OddW p ih' v := ⟨h.1.fr f, h.2⟩
theorem w_widthO (c : Cs) (h : OddW p ih v) (q : E c.NoWidth ih) : wp (m_check_width c [v] ih) Q E := by
  obtain ⟨hk, ho⟩ := h
  unfold m_check_width b_check_width
  walk_at "run"
  refine w_wholeV c hk 1 ?_
  cases hw : whl 1 v with
  | false =>
    clear ho
    walk_at "run"
    all_goals exact q
  | true =>
    cases v with
    | int z =>
      have h1 : (1 : Int) ≤ z := of_decide_eq_true hw
      have h2 : 64 < z := by
        have := ho z rfl
        omega
      have d1 := decide_eq_true h2
      clear ho
      walk_at "run"
      all_goals exact q
    | _ => cases hw
theorem w_cycleO (c : Cs) (h : KV p ih v) (ho : whl 0 v = false) (q : E c.NoCycle ih) : wp (m_check_cycle c [v, .int 0] ih) Q E := by
  unfold m_check_cycle b_check_cycle
  walk_at "run"
  refine w_wholeV c h 0 ?_
  walk_at "run"
  all_goals exact q
def leI : IV → IV → Bool
  | .int a, .int b => decide (a ≤ b)
  | _, _ => false
def ascB (xs : List IV) : Bool := (List.zipWith leI xs (xs.drop 1)).all id
def goodL (xs : List IV) : Bool := !xs.isEmpty && (xs.all (whl 0) && ascB xs)
def ltW (s : Int) : IV → Bool
  | .int a => decide (a < s)
  | _ => false
def goodV (s : Int) (xs : List IV) : Bool := !xs.isEmpty && (xs.all (whl 0) && xs.all (ltW s))
theorem all_id {f : IV → Bool} {xs : List IV} : ((xs.map f).all id) = xs.all f := by
  rw [List.all_map]
  rfl
theorem w_cyclesL (c : Cs) {k : Nat} {xs : List IV} (h : ih[k]? = some (.lst xs)) (hk : ∀ x ∈ xs, KV p ih x) (hl : xs.length < 1000)
    (q : ∀ ih', ih.length ≤ ih'.length → Fx ih ih' → Q (.bl (xs.all (whl 0) && ascB xs)) ih') : wp (m_is_cycles c [.ref k, .int 0] ih) Q E := by
  have lk := lt_of_get h
  unfold m_is_cycles b_is_cycles
  walk_at "run"
  unfold lc_is_cycles_1
  walk_at "run"
  refine lc_all (o := .lst xs) (fun x => .bl (whl 0 x)) (by walk_at "get") rfl (by show xs.length < _; omega) (fun x hx ih' f => ?_) ?_
  · have hx' := (hk x hx).fx f
    unfold le_is_cycles_1
    walk_at "run"
    refine w_wholeV c hx' 0 ?_
    exact ⟨rfl, rfl⟩
  rw [show (MO.lst xs).xs.map (fun x => IV.bl (whl 0 x)) = (xs.map (whl 0)).map IV.bl by rw [List.map_map]; rfl]
  refine newN fun d ih1 d1 d2 l1 f1 g1 => ?_
  walk_at "run"
  refine wp_allL (xs.map (whl 0)) g1 ?_
  rw [all_id]
  cases ha : xs.all (whl 0) with
  | false =>
    have q1 := q ih1 (by omega) f1
    rw [ha] at q1
    clear g1 q
    walk_at "run"
    all_goals exact q1
  | true =>
    obtain ⟨ns, en0, _⟩ := whl_int ha
    have en := Hide.mk en0
    clear en0
    have h1 := (f1 k lk).trans h
    rw [ha] at q
    clear g1
    walk_at "run"
    unfold lc_is_cycles_2
    walk_at "run"
    refine wp_slL (xs := xs) (by walk_at "get") (newN fun e ih2 e1 e2 l2 f2 g2 => ?_)
    rw [cutI_1] at g2
    have h2 := (f2 k (by omega)).trans h1
    have F2 := f1.trans f2 (by omega)
    clear h1 f2 f1
    walk_at "run"
    refine lc_zipW (o := .lst xs) (u := .lst (xs.drop 1)) (fun x y => .bl (leI x y)) h2 rfl g2 rfl (by show xs.length < _; omega) (fun j x y hx hy ih' f => ?_) fun ih3 f3 l3 g3 => ?_
    · obtain ⟨a, _, rfl⟩ : ∃ a, a ∈ ns ∧ x = .int a := by
        have : x ∈ xs := List.mem_of_getElem? hx
        rw [en.get] at this
        obtain ⟨a, h1, h2⟩ := List.mem_map.mp this
        exact ⟨a, h1, h2.symm⟩
      obtain ⟨b, _, rfl⟩ : ∃ b, b ∈ ns ∧ y = .int b := by
        have hm : y ∈ xs.drop 1 := List.mem_of_getElem? hy
        have : y ∈ xs := List.mem_of_mem_drop hm
        rw [en.get] at this
        obtain ⟨a, h1, h2⟩ := List.mem_map.mp this
        exact ⟨a, h1, h2.symm⟩
      unfold le_is_cycles_2
      unfold leI
      walk_at "run"
    walk_at "run"
    refine wp_allL (List.zipWith leI xs (xs.drop 1)) (by rw [g3]; show some (MO.lst (List.zipWith _ xs (xs.drop 1))) = _; rw [List.map_zipWith]) ?_
    have q1 := q ih3 (by omega) (F2.trans f3 (by omega))
    clear g3 q h2 g2 F2 f3
    walk_at "run"
    all_goals exact q1
theorem w_looksBad (c : Cs) (hb : Bad goodL p ih v) (q : ∀ ih', ih.length ≤ ih'.length → Fx ih ih' → E c.NoLooks ih') : wp (m_check_looks c [v] ih) Q E := by
  have q0 := q ih (Nat.le_refl _) Fx.refl
  unfold m_check_looks b_check_looks
  cases v with
  | gl a => exact hb.elim
  | ty a => exact hb.elim
  | non =>
    clear q
    walk_at "run"
    unfold m_is_cycles b_is_cycles
    walk_at "run"
    all_goals exact q0
  | bl b =>
    clear q
    walk_at "run"
    unfold m_is_cycles b_is_cycles
    walk_at "run"
    all_goals exact q0
  | int b =>
    clear q
    walk_at "run"
    unfold m_is_cycles b_is_cycles
    walk_at "run"
    all_goals exact q0
  | str b =>
    clear q
    walk_at "run"
    unfold m_is_cycles b_is_cycles
    walk_at "run"
    all_goals exact q0
  | ref k =>
    obtain ⟨_, hb⟩ := hb
    rcases hb with ⟨xs, g, hl, hk, ht⟩ | ⟨t, ht, hn⟩
    · walk_at "run"
      refine w_cyclesL c g hk hl fun ih1 l1 f1 => ?_
      cases hc : (xs.all (whl 0) && ascB xs) with
      | false =>
        have q1 := q ih1 l1 f1
        clear q
        walk_at "run"
        all_goals exact q1
      | true =>
        obtain rfl : xs = [] := by
          unfold goodL at ht
          rw [hc] at ht
          simpa using ht
        have g1 := (f1 k (lt_of_get g)).trans g
        clear g
        have F1 := Hide.mk f1
        clear f1
        walk_at "run"
        refine wp_lst (by simp) (newN fun d ih2 d1 d2 l2 f2 g2 => ?_)
        have g3 := (f2 k (lt_of_get g1)).trans g1
        have q1 := q ih2 (by omega) (F1.get.trans f2 l1)
        clear q g1 f2
        walk_at "run"
        refine wp_eq (Is.ints (ns := []) g3 rfl rfl) (Is.ints (ns := []) g2 rfl rfl) (shaped_ints _) (shaped_ints _) ?_
        rw [eqv_list, decide_eq_true rfl]
        walk_at "run"
        all_goals exact q1
    · clear q
      rcases tyO_cases ht with ⟨e, _⟩ | e | e
      · exact absurd e hn
      · subst e
        walk_at "run"
        unfold m_is_cycles b_is_cycles
        walk_at "run"
        all_goals exact q0
      · subst e
        walk_at "run"
        unfold m_is_cycles b_is_cycles
        walk_at "run"
        all_goals exact q0
theorem w_valuesBad (c : Cs) {w : Int} (h0 : 1 ≤ w) (h1 : w ≤ 64) (hb : Bad (goodV (2 ^ w.toNat)) p ih v) (q : ∀ ih', ih.length ≤ ih'.length → Fx ih ih' → E c.NoLooks ih') : wp (m_check_values c [.int w, v] ih) Q E := by
  have qw := q_width c h0 h1
  have q0 := q ih (Nat.le_refl _) Fx.refl
  unfold m_check_values b_check_values
  cases v with
  | gl a => exact hb.elim
  | ty a => exact hb.elim
  | non =>
    clear q
    walk_at "run"
    all_goals exact q0
  | bl b =>
    clear q
    walk_at "run"
    all_goals exact q0
  | int b =>
    clear q
    walk_at "run"
    all_goals exact q0
  | str b =>
    clear q
    walk_at "run"
    all_goals exact q0
  | ref k =>
    obtain ⟨_, hb⟩ := hb
    rcases hb with ⟨xs, g, hl, hk, ht⟩ | ⟨t, ht, hn⟩
    · have lk := lt_of_get g
      walk_at "run"
      refine wp_lst (by simp) (newN fun d ih1 d1 d2 l1 f1 g1 => ?_)
      have g0 := (f1 k lk).trans g
      have hk1 : ∀ x ∈ xs, KV p ih1 x := fun x hx => (hk x hx).fx f1
      have F1 := Hide.mk f1
      clear f1 g hk
      walk_at "run"
      cases xs with
      | nil =>
        have q1 := q ih1 (by omega) F1.get
        clear q
        refine wp_eq (Is.ints (ns := []) g0 rfl rfl) (Is.ints (ns := []) g1 rfl rfl) (shaped_ints _) (shaped_ints _) ?_
        rw [eqv_list, decide_eq_true rfl]
        walk_at "run"
        all_goals exact q1
      | cons x0 xr =>
        obtain ⟨xs, ex⟩ : ∃ xs, x0 :: xr = xs := ⟨_, rfl⟩
        have hlen : xs.length ≠ 0 := by rw [← ex]; simp
        have ht2 : (xs.all (whl 0) && xs.all (ltW (2 ^ w.toNat))) = false := by
          unfold goodV at ht
          rw [ex] at ht
          cases xs with
          | nil => simp at hlen
          | cons a r => simpa using ht
        rw [ex] at g0 hk1 hl
        clear ht ex
        refine wp_eqLen g0 g1 (by simpa using hlen) ?_
        clear g1
        walk_at "run"
        unfold lc_check_values_1
        walk_at "run"
        refine lc_all (o := .lst xs) (fun x => .bl (whl 0 x)) (by walk_at "get") rfl (by show xs.length < _; omega) (fun x hx ih' f => ?_) ?_
        · have hx' := (hk1 x hx).fx f
          unfold le_check_values_1
          walk_at "run"
          refine w_wholeV c hx' 0 ?_
          exact ⟨rfl, rfl⟩
        rw [show (MO.lst xs).xs.map (fun x => IV.bl (whl 0 x)) = (xs.map (whl 0)).map IV.bl by rw [List.map_map]; rfl]
        refine newN fun e ih2 e1 e2 l2 f2 g2 => ?_
        walk_at "run"
        refine wp_allL (xs.map (whl 0)) g2 ?_
        rw [all_id]
        have h2 := (f2 k (lt_of_get g0)).trans g0
        have F2 := Hide.mk (F1.get.trans f2 (by omega))
        clear f2 F1 g0 g2
        cases ha : xs.all (whl 0) with
        | false =>
          have q1 := q ih2 (by omega) F2.get
          clear q
          walk_at "run"
          all_goals exact q1
        | true =>
          rw [ha] at ht2
          have hp := q_power c (w := w) (by omega) h1
          obtain ⟨s, es⟩ : ∃ s : Int, 2 ^ w.toNat = s := ⟨_, rfl⟩
          rw [es] at hp ht2
          obtain ⟨ns, en0, _⟩ := whl_int ha
          have en := Hide.mk en0
          clear en0
          clear es
          walk_at "run"
          unfold lc_check_values_2
          walk_at "run"
          refine lc_all (o := .lst xs) (fun x => .bl (ltW s x)) (by walk_at "get") rfl (by show xs.length < _; omega) (fun x hx ih' f => ?_) ?_
          · obtain ⟨a, _, rfl⟩ : ∃ a, a ∈ ns ∧ x = .int a := by
              have : x ∈ xs := hx
              rw [en.get] at this
              obtain ⟨a, h1, h2⟩ := List.mem_map.mp this
              exact ⟨a, h1, h2.symm⟩
            unfold le_check_values_2
            unfold ltW
            walk_at "run"
          rw [show (MO.lst xs).xs.map (fun x => IV.bl (ltW s x)) = (xs.map (ltW s)).map IV.bl by rw [List.map_map]; rfl]
          refine newN fun e' ih3 e3 e4 l3 f3 g3 => ?_
          walk_at "run"
          refine wp_allL (xs.map (ltW s)) g3 ?_
          rw [all_id, show xs.all (ltW s) = false by simpa using ht2]
          have q1 := q ih3 (by omega) (F2.get.trans f3 (by omega))
          clear q g3 f3 h2
          walk_at "run"
          all_goals exact q1
    · clear q
      rcases tyO_cases ht with ⟨e, _⟩ | e | e
      · exact absurd e hn
      · subst e
        walk_at "run"
        all_goals exact q0
      · subst e
        walk_at "run"
        all_goals exact q0
end
end L3
/-! K05: which error a call raises. (L15) -/
namespace L3
open PySem PySem.Spec PyProof.Rows L2
local macro_rules | `(tactic| walk_at "get") => `(tactic| simp (disch := first | assumption | omega | (simp only [List.length_append, List.length_set, List.length_cons, List.length_nil, List.length_map] <;> omega) | fail) only [g_new, g_nw, g_old, g_set, g_sne, List.length_append, List.length_set, List.length_cons, List.length_nil, List.length_map, List.map_map, Function.comp_def, xs_lst, xs_tup, isL_lst, isL_tup, ↓reduceIte, *])
local macro_rules | `(tactic| walk_at "fr") => `(tactic| first | (intro _ _ _; simp (disch := first | assumption | omega | (simp only [List.length_append, List.length_set, List.length_cons, List.length_nil, List.length_map] <;> omega) | fail) only [g_new, g_nw, g_old, g_set, g_sne, List.length_append, List.length_set, List.length_cons, List.length_nil, List.length_map, List.map_map, Function.comp_def, xs_lst, xs_tup, isL_lst, isL_tup, ↓reduceIte, *]) | (intro _ _; simp (disch := first | assumption | omega | (simp only [List.length_append, List.length_set, List.length_cons, List.length_nil, List.length_map] <;> omega) | fail) only [g_new, g_nw, g_old, g_set, g_sne, List.length_append, List.length_set, List.length_cons, List.length_nil, List.length_map, List.map_map, Function.comp_def, xs_lst, xs_tup, isL_lst, isL_tup, ↓reduceIte, *]))
local macro_rules | `(tactic| walk_at "run") => `(tactic| simp -implicitDefEqProofs (disch := first | assumption | omega | (simp only [List.length_append, List.length_set, List.length_cons, List.length_nil, List.length_map] <;> omega) | fail) only [wp_ok, wp_exc, wp_stuck, ws_ok, ws_exc, ws_stuck, wp_op, kk_op, kk_un, wp_un, wp_cons, kk_cons, kk_cons2, wp_nil, wp_c, wp_app, wp_if, kk_if1, kk_if0, wp_and, kk_and1, kk_and0, wp_or, kk_or1, kk_or0, wp_not, kk_not, wp_tb, kk_tb, wp_andV, kk_andV1, kk_andV0, wp_orV, kk_orV1, kk_orV0, wp_notV, kk_notV, wp_noneS, wp_some, kk_some, wp_sl, kk_sl, kk_sl2, kk_sl3, wp_mL, kk_mL, kk_mL2, wp_mL0, kk_mL0, wp_chain, kk_ch, kk_ch2, kk_ch31, kk_ch30, ws_set, kks_nm, kks_g, kks_tup, kks_lst, ws_expr, kks_expr, ws_ret, kks_ret, ws_retN, ws_pass, ws_brk, ws_cont, ws_raise, ws_if, kks_if1, kks_if0, ws_seq, kks_next, kks_retS, kks_brk, kks_cont, kk_augE, ws_aug, kks_aug, kks_aug2, ws_par, kks_par, ws_setL, kks_sl, kks_sl2, kks_sl3, wp_def, kkd_ret, kkd_next, kkdE, kkE, ws_for, wp_lc, wp_r1, kk_r1, wp_r2, kk_r2, wp_il, wp_it, wp_ie, wp_iz, kk_il, kk_il2, kk_it, kk_it2, kk_ie, kk_ie2, kk_iz, kk_iz2, lAt_k, k_lAtL, k_lAtO, k_lAtT, wp_int, wp_add, wp_addI, wp_sub, wp_neg, wp_lt, wp_le, wp_gt, wp_ge, wp_max2, wp_min2, wp_abs, wp_mulI, wp_mul, wp_fdiv, wp_mod, wp_shl, wp_shr, wp_pow, wp_isN, wp_notN, wp_eqI, wp_neI, wp_ix, kk_ix, kk_ix2, wp_len, kk_lenL, kk_lenT, kk_lenO, kk_lenP, wp_appd, kk_app1, isL_k, kk_isL, startI_cons, startI_nil, rep_succ, rep_zero, List.getElem?_cons_zero, List.getElem?_cons_succ, List.set_cons_zero, List.set_cons_succ, f_call, m_var, List.append_nil, List.nil_append, List.cons_append, List.length_cons, List.length_nil, if_true, if_false, g_tup, g_lst, g_cons, g_nil, g_nm, Option.bind_some, kks_g, atI_0, atI_1, atI_2, atI_3, atI_4, atI_5, atI_6, atI_7, atI_8, atI_9, atI_10, atI_11, atI_12, atI_last, cutI_1, ixN_30, ixN_31, ixN_32, Int.toNat_zero, Int.reduceToNat, Int.reduceNeg, xs_lst, xs_tup, xs_ro, xs_rot, isL_lst, isL_tup, isL_ro, isL_rot, isT_tup, isT_rot, Bool.false_eq_true, Bool.true_eq_false, Bool.not_true, Bool.not_false, decide_true, decide_false, Int.reduceLT, Int.reduceLE, Nat.reduceLT, Nat.reduceLeDiff, Nat.reduceAdd, Nat.reduceEqDiff, Bool.not_eq_true, true_and, and_true, and_self, eq_self, g_new, g_nw, g_old, g_set, g_sne, List.length_set, List.length_append, wp_r3, kk_r3, Int.cast_ofNat_Int, Int.reduceEq, Int.natCast_zero, Int.natCast_one, ws_whileA, wp_isiII, wp_isiIB, wp_isiR, tyO_l, tyO_t, kk_isi, kk_isi2, kit_ll, kit_tt, kit_lt, kit_tl, wp_isiN, wp_isiBl, wp_isiS, tyO_d, kit2_NoneType_int, kit2_NoneType_bool, kit2_NoneType_list, kit2_NoneType_tuple, kit2_NoneType_str, kit2_bool_int, kit2_bool_bool, kit2_bool_list, kit2_bool_tuple, kit2_bool_str, kit2_str_int, kit2_str_bool, kit2_str_list, kit2_str_tuple, kit2_str_str, kit2_dict_int, kit2_dict_bool, kit2_dict_list, kit2_dict_tuple, kit2_dict_str, kit2_list_int, kit2_list_bool, kit2_list_str, kit2_tuple_int, kit2_tuple_bool, kit2_tuple_str, kit2_int_list, kit2_int_tuple, kit2_int_str, kf_next, kf_cont, kf_brk, kf_ret, wipeI, ws_try, wp_isEg, wp_isEt, kk_isE, wp_neS, wp_int2, ↓reduceIte, *])
theorem ok_several : PyData.strOk "several" = true := by decide +kernel
theorem ok_width : PyData.strOk "width" = true := by decide +kernel
theorem ok_looks : PyData.strOk "looks" = true := by decide +kernel
theorem ok_cycle : PyData.strOk "cycle" = true := by decide +kernel
theorem ok_none : PyData.strOk "none" = true := by decide +kernel
abbrev wordsL : List IV := [.str "width", .str "looks", .str "cycle", .str "rate", .str "reading", .str "many"]
theorem ts_run (c : Cs) (cl : Addr) {b1 b2 b3 b4 b5 b6 : Bool} {x : Str} {j : Nat} {v0 v1 v2 v3 v5 : Option IV} (hE : ExcC c.K cl)
    (k1 : PySem.W.kitOne c.K (.ref cl) (.ref c.NoWidth) = some b1) (k2 : PySem.W.kitOne c.K (.ref cl) (.ref c.NoLooks) = some b2) (k3 : PySem.W.kitOne c.K (.ref cl) (.ref c.NoCycle) = some b3)
    (k4 : PySem.W.kitOne c.K (.ref cl) (.ref c.NoRate) = some b4) (k5 : PySem.W.kitOne c.K (.ref cl) (.ref c.NoReading) = some b5) (k6 : PySem.W.kitOne c.K (.ref cl) (.ref c.TooMany) = some b6)
    (k7 : PySem.W.kitOne c.K (.ref cl) (.type "ValueError") = some true) (ih : IH)
    (hc : (([b1, b2, b3, b4, b5, b6].map IV.bl).countP (eqI (.bl true)) : Int) = 1) (hi : ([b1, b2, b3, b4, b5, b6].map IV.bl).findIdx? (eqI (.bl true)) = some j) (hx : atI wordsL (j : Int) = some (.str x)) :
    ∃ ih', Fx ih ih' ∧ ih.length ≤ ih'.length ∧ ∀ a, ts_law_word_1 c a cl [v0, v1, v2, v3, some (.gl a), v5] ih = .ok (.ret (.str x)) ih' := by
  have key : ∀ a, ws (ts_law_word_1 c a cl [v0, v1, v2, v3, some (.gl a), v5] ih) (fun f ih' => f = .ret (.str x) ∧ ih' = ih ++ [.lst [.bl b1, .bl b2, .bl b3, .bl b4]] ++ [.lst [.bl b5, .bl b6]] ++ [.lst ([.bl b1, .bl b2, .bl b3, .bl b4] ++ [.bl b5, .bl b6])] ++ [.lst wordsL]) S0 := fun a => by
    unfold ts_law_word_1
    walk_at "run"
    refine wp_lst (by simp) ?_
    walk_at "run"
    refine wp_lst (by simp) ?_
    walk_at "run"
    refine wp_cat (xs := [.bl b1, .bl b2, .bl b3, .bl b4]) (ys := [.bl b5, .bl b6]) (by walk_at "get") (by walk_at "get") (by simp) ?_
    walk_at "run"
    refine wp_count (k := 1) (xs := [.bl b1, .bl b2, .bl b3, .bl b4, .bl b5, .bl b6]) (by walk_at "get") rfl hc ?_
    walk_at "run"
    refine wp_lst (by simp) ?_
    walk_at "run"
    refine wp_index (j := j) (xs := [.bl b1, .bl b2, .bl b3, .bl b4, .bl b5, .bl b6]) (by walk_at "get") rfl hi ?_
    walk_at "run"
  refine ⟨?w, ?_, ?_, fun a => ?_⟩
  rotate_left 3
  · obtain ⟨f, ih', e, e1, e2⟩ := (key a).out
    rw [e, e1, e2]
  · intro n hn
    rw [g_old (by simp; omega), g_old (by simp; omega), g_old (by simp; omega), g_old hn]
  · simp
section
variable {p : Nat} {ih : IH} {v : IV} {Q : PQ IV} {E : EQ}
/-- what a word stands for -/
def wordK (c : Cs) (Q : PQ IV) (ih : IH) (cl : Addr) (x : Str) : Prop := ∀ ih1, ih.length ≤ ih1.length → Fx ih ih1 → ∀ (v0 v1 v2 v3 v4 v5 : Option IV), k_try 4 (fun cl => PySem.W.exmOne c.K (.ref cl) (.ref c.KernelError)) (fun ea ec => ts_law_word_1 c ea ec) (ks_seq (ms_ret (m_c (.str "none"))) (kd Q) (kdE E)) (kdE E) cl [v0, v1, v2, v3, v4, v5] ih1
theorem word_of (c : Cs) (ok : CsOk c) {cl : Addr} {x : Str} (h : (cl = c.NoWidth ∧ x = "width") ∨ (cl = c.NoLooks ∧ x = "looks") ∨ (cl = c.NoCycle ∧ x = "cycle")) (ih : IH) (q : ∀ ih', ih.length ≤ ih'.length → Fx ih ih' → Q (.str x) ih')
    (v0 v1 v2 v3 v4 v5 : Option IV) : k_try 4 (fun cl => PySem.W.exmOne c.K (.ref cl) (.ref c.KernelError)) (fun ea ec => ts_law_word_1 c ea ec) (ks_seq (ms_ret (m_c (.str "none"))) (kd Q) (kdE E)) (kdE E) cl [v0, v1, v2, v3, v4, v5] ih := by
  rcases h with ⟨rfl, rfl⟩ | ⟨rfl, rfl⟩ | ⟨rfl, rfl⟩
  · obtain ⟨ih', f, l, e⟩ := ts_run c c.NoWidth (j := 0) (x := "width") (v0 := v0) (v1 := v1) (v2 := v2) (v3 := v3) (v5 := v5) ok.xc_NoWidth ok.xi_NoWidth_NoWidth ok.xi_NoWidth_NoLooks ok.xi_NoWidth_NoCycle ok.xi_NoWidth_NoRate ok.xi_NoWidth_NoReading ok.xi_NoWidth_TooMany ok.xi_NoWidth_ValueError ih (by decide) (by decide) rfl
    exact kk_try ok.xm_NoWidth_KernelError e (q ih' l f)
  · obtain ⟨ih', f, l, e⟩ := ts_run c c.NoLooks (j := 1) (x := "looks") (v0 := v0) (v1 := v1) (v2 := v2) (v3 := v3) (v5 := v5) ok.xc_NoLooks ok.xi_NoLooks_NoWidth ok.xi_NoLooks_NoLooks ok.xi_NoLooks_NoCycle ok.xi_NoLooks_NoRate ok.xi_NoLooks_NoReading ok.xi_NoLooks_TooMany ok.xi_NoLooks_ValueError ih (by decide) (by decide) rfl
    exact kk_try ok.xm_NoLooks_KernelError e (q ih' l f)
  · obtain ⟨ih', f, l, e⟩ := ts_run c c.NoCycle (j := 2) (x := "cycle") (v0 := v0) (v1 := v1) (v2 := v2) (v3 := v3) (v5 := v5) ok.xc_NoCycle ok.xi_NoCycle_NoWidth ok.xi_NoCycle_NoLooks ok.xi_NoCycle_NoCycle ok.xi_NoCycle_NoRate ok.xi_NoCycle_NoReading ok.xi_NoCycle_TooMany ok.xi_NoCycle_ValueError ih (by decide) (by decide) rfl
    exact kk_try ok.xm_NoCycle_KernelError e (q ih' l f)
/-- the calls, each by its way -/
theorem w_word (c : Cs) {j : Nat} (hj : j < 5) {v1 v2 v3 : IV} {R : ES} (hR : R = k_try 4 (fun cl => PySem.W.exmOne c.K (.ref cl) (.ref c.KernelError)) (fun ea ec => ts_law_word_1 c ea ec) (ks_seq (ms_ret (m_c (.str "none"))) (kd Q) (kdE E)) (kdE E))
    (h0 : j = 0 → wp (m_shown c [v1, v2] ih) (fun _ ih' => Q (.str "none") ih') (fun c ih' => R c [some (.int j), some v1, some v2, some v3, none, none] ih'))
    (h1 : j = 1 → wp (m_counted c [v1, v2] ih) (fun _ ih' => Q (.str "none") ih') (fun c ih' => R c [some (.int j), some v1, some v2, some v3, none, none] ih'))
    (h2 : j = 2 → wp (m_lost c [v1, v2] ih) (fun _ ih' => Q (.str "none") ih') (fun c ih' => R c [some (.int j), some v1, some v2, some v3, none, none] ih'))
    (h3 : j = 3 → wp (m_least_history c [v1, v2] ih) (fun _ ih' => Q (.str "none") ih') (fun c ih' => R c [some (.int j), some v1, some v2, some v3, none, none] ih'))
    (h4 : j = 4 → wp (m_histories_many c [v1, v2, v3] ih) (fun _ ih' => Q (.str "none") ih') (fun c ih' => R c [some (.int j), some v1, some v2, some v3, none, none] ih')) :
    wp (m_law_word c [.int j, v1, v2, v3] ih) Q E := by
  have fin : ∀ (m : Res IV) (env : Env), wp m (fun _ ih' => Q (.str "none") ih') (fun c ih' => R c env ih') → wp m (ks_expr env (ks_seq (ms_ret (m_c (.str "none"))) (kd Q) (kdE E))) (kE R env) := fun m env h =>
    wp.imp h (fun v ih2 q => by rw [kks_expr, kks_next, ws_ret, wp_c]; exact q) fun _ _ h => h
  unfold m_law_word b_law_word
  rw [wp_def, ws_seq, ws_try, ← hR]
  unfold tb_law_word_1
  rcases (show j = 0 ∨ j = 1 ∨ j = 2 ∨ j = 3 ∨ j = 4 by omega) with e | e | e | e | e <;> subst e
  · have k := fin _ _ (h0 rfl)
    clear h0 h1 h2 h3 h4 fin hR
    generalize ks_seq (ms_ret (m_c (.str "none"))) (kd Q) (kdE E) = S at k ⊢
    walk_at "run"
    exact k
  · have k := fin _ _ (h1 rfl)
    clear h0 h1 h2 h3 h4 fin hR
    generalize ks_seq (ms_ret (m_c (.str "none"))) (kd Q) (kdE E) = S at k ⊢
    walk_at "run"
    exact k
  · have k := fin _ _ (h2 rfl)
    clear h0 h1 h2 h3 h4 fin hR
    generalize ks_seq (ms_ret (m_c (.str "none"))) (kd Q) (kdE E) = S at k ⊢
    walk_at "run"
    exact k
  · have k := fin _ _ (h3 rfl)
    clear h0 h1 h2 h3 h4 fin hR
    generalize ks_seq (ms_ret (m_c (.str "none"))) (kd Q) (kdE E) = S at k ⊢
    walk_at "run"
    exact k
  · have k := fin _ _ (h4 rfl)
    clear h0 h1 h2 h3 h4 fin hR
    generalize ks_seq (ms_ret (m_c (.str "none"))) (kd Q) (kdE E) = S at k ⊢
    walk_at "run"
    exact k
/-- the width is none -/
theorem w_wordW (c : Cs) (ok : CsOk c) {j : Nat} (hj : j < 5) {v1 v2 v3 : IV} (h : OddW p ih v1) (q : ∀ ih', ih.length ≤ ih'.length → Fx ih ih' → Q (.str "width") ih') : wp (m_law_word c [.int j, v1, v2, v3] ih) Q E := by
  have fin := word_of (E := E) c ok (cl := c.NoWidth) (x := "width") (.inl ⟨rfl, rfl⟩) ih q (some (.int j)) (some v1) (some v2) (some v3) none none
  obtain ⟨R, hR⟩ : ∃ R, R = k_try 4 (fun cl => PySem.W.exmOne c.K (.ref cl) (.ref c.KernelError)) (fun ea ec => ts_law_word_1 c ea ec) (ks_seq (ms_ret (m_c (.str "none"))) (kd Q) (kdE E)) (kdE E) := ⟨_, rfl⟩
  rw [← hR] at fin
  refine w_word c hj hR (fun e => ?_) (fun e => ?_) (fun e => ?_) (fun e => ?_) (fun e => ?_) <;> (subst e; clear hR)
  · have fin := Hide.mk fin
    unfold m_shown b_shown
    walk_at "run"
    exact w_widthO c h fin.get
  · have fin := Hide.mk fin
    unfold m_counted b_counted
    walk_at "run"
    unfold m_shown b_shown
    walk_at "run"
    exact w_widthO c h fin.get
  · have fin := Hide.mk fin
    unfold m_lost b_lost
    walk_at "run"
    exact w_widthO c h fin.get
  · have fin := Hide.mk fin
    unfold m_least_history b_least_history
    walk_at "run"
    unfold m_check_values b_check_values
    walk_at "run"
    exact w_widthO c h fin.get
  · have fin := Hide.mk fin
    unfold m_histories_many b_histories_many
    walk_at "run"
    unfold m_check_values b_check_values
    walk_at "run"
    exact w_widthO c h fin.get
/-- the list is none -/
theorem w_wordL (c : Cs) (ok : CsOk c) {j : Nat} (hj : j < 5) {w : Int} {v2 v3 : IV} (w0 : 1 ≤ w) (w1 : w ≤ 64) (hl : j < 3 → Bad goodL p ih v2) (hv : 3 ≤ j → Bad (goodV (2 ^ w.toNat)) p ih v2)
    (q : ∀ ih', ih.length ≤ ih'.length → Fx ih ih' → Q (.str "looks") ih') : wp (m_law_word c [.int j, .int w, v2, v3] ih) Q E := by
  have fin := fun ih1 (l : ih.length ≤ ih1.length) (f : Fx ih ih1) => word_of (E := E) c ok (cl := c.NoLooks) (x := "looks") (.inr (.inl ⟨rfl, rfl⟩)) ih1 (fun ih2 l2 f2 => q ih2 (by omega) (f.trans f2 l)) (some (.int j)) (some (.int w)) (some v2) (some v3) none none
  obtain ⟨R, hR⟩ : ∃ R, R = k_try 4 (fun cl => PySem.W.exmOne c.K (.ref cl) (.ref c.KernelError)) (fun ea ec => ts_law_word_1 c ea ec) (ks_seq (ms_ret (m_c (.str "none"))) (kd Q) (kdE E)) (kdE E) := ⟨_, rfl⟩
  rw [← hR] at fin
  have qw := q_width c w0 w1
  clear q
  refine w_word c hj hR (fun e => ?_) (fun e => ?_) (fun e => ?_) (fun e => ?_) (fun e => ?_) <;> (subst e; clear hR)
  · have hl := Hide.mk (hl (by omega))
    have fin := Hide.mk fin
    clear hv
    unfold m_shown b_shown
    walk_at "run"
    exact w_looksBad c hl.get fin.get
  · have hl := Hide.mk (hl (by omega))
    have fin := Hide.mk fin
    clear hv
    unfold m_counted b_counted
    walk_at "run"
    unfold m_shown b_shown
    walk_at "run"
    exact w_looksBad c hl.get fin.get
  · have hl := Hide.mk (hl (by omega))
    have fin := Hide.mk fin
    clear hv
    unfold m_lost b_lost
    walk_at "run"
    exact w_looksBad c hl.get fin.get
  · have hv := Hide.mk (hv (by omega))
    have fin := Hide.mk fin
    clear hl
    unfold m_least_history b_least_history
    walk_at "run"
    exact w_valuesBad c w0 w1 hv.get fin.get
  · have hv := Hide.mk (hv (by omega))
    have fin := Hide.mk fin
    clear hl
    unfold m_histories_many b_histories_many
    walk_at "run"
    exact w_valuesBad c w0 w1 hv.get fin.get
/-- how many histories, small numbers -/
theorem w_hmB (c : Cs) {w last : Int} {vs : List Int} {k : Nat} (h : ih[k]? = some (.lst (vs.map IV.int))) (hn : ∀ n ∈ vs, 0 ≤ n ∧ n < 2 ^ w.toNat) (hz : vs.length ≤ 7) (hne : vs ≠ []) (h0 : 1 ≤ w) (h1 : w ≤ 64) (l0 : 0 ≤ last) (lB : B 170 last)
    (q : ∀ z ih', ih.length ≤ ih'.length → Fx ih ih' → Q (.int z) ih') : wp (m_histories_many c [.int w, .ref k, .int last] ih) Q E := by
  have hp := q_power c (w := w) (by omega) (by omega)
  have s0 := pow_pos w
  have sB := pow_B (w := w) (by omega) h1
  have hl : 0 < vs.length := List.length_pos_iff.mpr hne
  have hH := H_nn s0 hn hl (vs.length - 1)
  have lp := lt_of_get h
  unfold m_histories_many b_histories_many
  walk_at "run"
  refine w_check_values c h hn (by omega) hne h0 h1 fun ih1 l1 f1 => ?_
  have h1' := (f1 k lp).trans h
  have F1 := Hide.mk f1
  have d0 : whl 0 (.int last) = true := decide_eq_true l0
  clear f1
  walk_at "run"
  have qc : ∀ (Q : PQ IV) (E : EQ), Q .non ih1 → wp (m_check_cycle c [.int last, .int 0] ih1) Q E := fun Q E hq => by
    unfold m_check_cycle b_check_cycle
    walk_at "run"
    refine w_wholeV (p := ih1.length) c (v := .int last) trivial 0 ?_
    walk_at "run"
    all_goals exact hq
  refine qc _ _ ?_
  clear qc
  walk_at "run"
  refine w_least c h1' hn (by omega) hne h0 h1 fun e ih2 q1 q2 f2 g2 => ?_
  have F2 := Hide.mk (F1.get.trans f2 l1)
  have l2 : ih1.length ≤ ih2.length := f2.len
  have h2 := (f2 k (lt_of_get h1')).trans h1'
  obtain ⟨s, es⟩ : ∃ s : Int, 2 ^ w.toNat = s := ⟨_, rfl⟩
  rw [es] at hp s0 sB g2 hH hn
  have ea : atI ((hist s vs vs.length).map IV.int) (-1) = some (.int (H s vs (vs.length - 1))) := by
    obtain ⟨m, em⟩ : ∃ m, vs.length = m + 1 := ⟨vs.length - 1, by omega⟩
    rw [em, Nat.add_sub_cancel, hist_succ, List.map_append]
    exact atI_last _ _
  have cd : ∀ x, cDiv x s = true := fun x => cDiv_of s0 sB (by decide) (by decide)
  obtain ⟨hh, ehh⟩ : ∃ hh, H s vs (vs.length - 1) = hh := ⟨_, rfl⟩
  rw [ehh] at ea hH
  clear h1' F1 f2 hn es h d0
  walk_at "run"
  obtain ⟨f, ef⟩ : ∃ f, (last - hh) / s = f := ⟨_, rfl⟩
  have hB : B 171 hh := by
    have hs : s < 2 ^ 65 := by
      have := sB
      unfold B at this
      omega
    refine B.lt hH.1 ?_
    have h8 : ((vs.length - 1 : Nat) : Int) + 1 ≤ 8 := by omega
    have := Int.mul_le_mul_of_nonneg_right h8 (Int.le_of_lt s0)
    omega
  have fB : B 172 f := by
    rw [← ef]
    exact (B.div (B.sub (lB.mono (by omega : 170 ≤ 171)) hB) s0).mono (by omega)
  rw [ef]
  by_cases hf : f < 0
  · have d1 := decide_eq_true hf
    have kz := q 0 ih2 (by omega) F2.get
    clear q F2 g2 h2 hf
    walk_at "run"
    all_goals exact kz
  · have d1 := decide_eq_false hf
    have kz := Hide.mk fun z => q z ih2 (by omega) F2.get
    clear q F2 g2 hf ef
    walk_at "run"
    rw [List.length_map]
    refine ⟨⟨by decide, smallI_mk (by omega) (by omega)⟩, ?_⟩
    rw [show ((vs.length : Int) + 1 - 1).toNat = vs.length by rw [Int.add_sub_cancel]; exact Int.toNat_natCast _]
    refine for_rng1' (fun i env ih' => (∃ z a5, env = [some (.int w), some (.ref k), some (.int last), some (.int f), some (.int z), a5] ∧ B (180 * i + 10) z) ∧ ih' = ih2) ⟨⟨1, _, rfl, lit 10⟩, rfl⟩ (fun i env ih' hi hP => ?_) fun env ih' hP => ?_
    · obtain ⟨⟨z, a5, ee, zB⟩, rfl⟩ := hP
      subst ee
      have b2 : B 173 (f + (1 + (i : Int))) := B.add (n := 172) fB (B.lt (n := 172) (by omega) (by omega))
      have cm : cMul z (f + (1 + (i : Int))) = true := B.cmul zB b2 (by omega)
      have cd2 : ∀ x, cDiv x (1 + (i : Int)) = true := fun x => cDiv_of (by omega) (B.lt (n := 10) (by omega) (by omega)) (by decide) (by decide)
      have nz := Hide.mk ((B.div (B.mul zB b2) (show (0 : Int) < 1 + (i : Int) by omega)).mono (show 180 * i + 10 + 173 ≤ 180 * (i + 1) + 10 by omega))
      clear fB b2 h2 zB
      unfold lb_histories_many_1
      walk_at "run"
      exact Inv.mk ⟨⟨_, _, rfl, nz.get⟩, rfl⟩
    · obtain ⟨⟨z, a5, ee, zB⟩, rfl⟩ := hP
      subst ee
      clear fB h2 zB
      walk_at "run"
      exact kz.get z
/-- the last cycle is none -/
theorem w_wordC (c : Cs) (ok : CsOk c) {w : Int} {vs : List Int} {k : Nat} {v3 : IV} (h : ih[k]? = some (.lst (vs.map IV.int))) (hn : ∀ n ∈ vs, 0 ≤ n ∧ n < 2 ^ w.toNat) (hz : vs.length ≤ 7) (hne : vs ≠ []) (h0 : 1 ≤ w) (h1 : w ≤ 64)
    (hk : KV p ih v3) (ho : whl 0 v3 = false) (q : ∀ ih', ih.length ≤ ih'.length → Fx ih ih' → Q (.str "cycle") ih') : wp (m_law_word c [.int (4 : Nat), .int w, .ref k, v3] ih) Q E := by
  have fin := fun ih1 (l : ih.length ≤ ih1.length) (f : Fx ih ih1) => word_of (E := E) c ok (cl := c.NoCycle) (x := "cycle") (.inr (.inr ⟨rfl, rfl⟩)) ih1 (fun ih2 l2 f2 => q ih2 (by omega) (f.trans f2 l)) (some (.int (4 : Nat))) (some (.int w)) (some (.ref k)) (some v3) none none
  obtain ⟨R, hR⟩ : ∃ R, R = k_try 4 (fun cl => PySem.W.exmOne c.K (.ref cl) (.ref c.KernelError)) (fun ea ec => ts_law_word_1 c ea ec) (ks_seq (ms_ret (m_c (.str "none"))) (kd Q) (kdE E)) (kdE E) := ⟨_, rfl⟩
  rw [← hR] at fin
  clear q
  refine w_word c (j := 4) (by omega) hR (fun e => by omega) (fun e => by omega) (fun e => by omega) (fun e => by omega) (fun _ => ?_)
  clear hR
  have fin := Hide.mk fin
  unfold m_histories_many b_histories_many
  walk_at "run"
  refine w_check_values c h hn (by omega) hne h0 h1 fun ih1 l1 f1 => ?_
  have z := fin.get ih1 l1 f1
  have hk1 := hk.fx f1
  clear f1 hn
  walk_at "run"
  exact w_cycleO c hk1 ho z
/-- nothing is raised -/
theorem w_wordN (c : Cs) {j : Nat} (hj : j < 5) {w last : Int} {ns : List Int} {k : Nat} {v3 : IV} (h : ih[k]? = some (.lst (ns.map IV.int))) (hz : ns.length ≤ 30) (hne : ns ≠ []) (h0 : 1 ≤ w) (h1 : w ≤ 64)
    (hl : j < 3 → (∀ n ∈ ns, 0 ≤ n) ∧ Sorted ns) (hv : 3 ≤ j → ns.length ≤ 7 ∧ ∀ n ∈ ns, 0 ≤ n ∧ n < 2 ^ w.toNat) (h4 : j = 4 → ∃ last, v3 = .int last ∧ 0 ≤ last ∧ B 170 last)
    (q : ∀ ih', ih.length ≤ ih'.length → Fx ih ih' → Q (.str "none") ih') : wp (m_law_word c [.int j, .int w, .ref k, v3] ih) Q E := by
  refine w_word c hj rfl (fun e => ?_) (fun e => ?_) (fun e => ?_) (fun e => ?_) (fun e => ?_)
  · obtain ⟨a, b⟩ := hl (by omega)
    exact w_shown c h a b (by omega) hne h0 h1 fun d ih' l1 l2 f _ => q ih' (by omega) f
  · obtain ⟨a, b⟩ := hl (by omega)
    exact w_counted c h a b (by omega) hne h0 h1 fun ih' l1 f => q ih' (by omega) f
  · obtain ⟨a, b⟩ := hl (by omega)
    exact w_lost c h a b (by omega) hne h0 h1 fun d ih' acc l1 l2 f _ _ => q ih' (by omega) f
  · obtain ⟨a, b⟩ := hv (by omega)
    exact w_least c h b (by omega) hne h0 h1 fun d ih' l1 l2 f _ => q ih' (by omega) f
  · obtain ⟨a, b⟩ := hv (by omega)
    obtain ⟨last, rfl, l0, lB⟩ := h4 (by omega)
    exact w_hmB c h b a hne h0 h1 l0 lB fun z ih' l1 f => q ih' (by omega) f
end
end L3
/-! K05b: bad lists. (L15) -/
namespace L3
open PySem PySem.Spec PyProof.Rows L2
local macro_rules | `(tactic| walk_at "get") => `(tactic| simp (disch := first | assumption | omega | (simp only [List.length_append, List.length_set, List.length_cons, List.length_nil, List.length_map] <;> omega) | fail) only [g_new, g_nw, g_old, g_set, g_sne, List.length_append, List.length_set, List.length_cons, List.length_nil, List.length_map, List.map_map, Function.comp_def, xs_lst, xs_tup, isL_lst, isL_tup, ↓reduceIte, *])
local macro_rules | `(tactic| walk_at "fr") => `(tactic| first | (intro _ _ _; simp (disch := first | assumption | omega | (simp only [List.length_append, List.length_set, List.length_cons, List.length_nil, List.length_map] <;> omega) | fail) only [g_new, g_nw, g_old, g_set, g_sne, List.length_append, List.length_set, List.length_cons, List.length_nil, List.length_map, List.map_map, Function.comp_def, xs_lst, xs_tup, isL_lst, isL_tup, ↓reduceIte, *]) | (intro _ _; simp (disch := first | assumption | omega | (simp only [List.length_append, List.length_set, List.length_cons, List.length_nil, List.length_map] <;> omega) | fail) only [g_new, g_nw, g_old, g_set, g_sne, List.length_append, List.length_set, List.length_cons, List.length_nil, List.length_map, List.map_map, Function.comp_def, xs_lst, xs_tup, isL_lst, isL_tup, ↓reduceIte, *]))
local macro_rules | `(tactic| walk_at "run") => `(tactic| simp -implicitDefEqProofs (disch := first | assumption | omega | (simp only [List.length_append, List.length_set, List.length_cons, List.length_nil, List.length_map] <;> omega) | fail) only [wp_ok, wp_exc, wp_stuck, ws_ok, ws_exc, ws_stuck, wp_op, kk_op, kk_un, wp_un, wp_cons, kk_cons, kk_cons2, wp_nil, wp_c, wp_app, wp_if, kk_if1, kk_if0, wp_and, kk_and1, kk_and0, wp_or, kk_or1, kk_or0, wp_not, kk_not, wp_tb, kk_tb, wp_andV, kk_andV1, kk_andV0, wp_orV, kk_orV1, kk_orV0, wp_notV, kk_notV, wp_noneS, wp_some, kk_some, wp_sl, kk_sl, kk_sl2, kk_sl3, wp_mL, kk_mL, kk_mL2, wp_mL0, kk_mL0, wp_chain, kk_ch, kk_ch2, kk_ch31, kk_ch30, ws_set, kks_nm, kks_g, kks_tup, kks_lst, ws_expr, kks_expr, ws_ret, kks_ret, ws_retN, ws_pass, ws_brk, ws_cont, ws_raise, ws_if, kks_if1, kks_if0, ws_seq, kks_next, kks_retS, kks_brk, kks_cont, kk_augE, ws_aug, kks_aug, kks_aug2, ws_par, kks_par, ws_setL, kks_sl, kks_sl2, kks_sl3, wp_def, kkd_ret, kkd_next, kkdE, kkE, ws_for, wp_lc, wp_r1, kk_r1, wp_r2, kk_r2, wp_il, wp_it, wp_ie, wp_iz, kk_il, kk_il2, kk_it, kk_it2, kk_ie, kk_ie2, kk_iz, kk_iz2, lAt_k, k_lAtL, k_lAtO, k_lAtT, wp_int, wp_add, wp_addI, wp_sub, wp_neg, wp_lt, wp_le, wp_gt, wp_ge, wp_max2, wp_min2, wp_abs, wp_mulI, wp_mul, wp_fdiv, wp_mod, wp_shl, wp_shr, wp_pow, wp_isN, wp_notN, wp_eqI, wp_neI, wp_ix, kk_ix, kk_ix2, wp_len, kk_lenL, kk_lenT, kk_lenO, kk_lenP, wp_appd, kk_app1, isL_k, kk_isL, startI_cons, startI_nil, rep_succ, rep_zero, List.getElem?_cons_zero, List.getElem?_cons_succ, List.set_cons_zero, List.set_cons_succ, f_call, m_var, List.append_nil, List.nil_append, List.cons_append, List.length_cons, List.length_nil, if_true, if_false, g_tup, g_lst, g_cons, g_nil, g_nm, Option.bind_some, kks_g, atI_0, atI_1, atI_2, atI_3, atI_4, atI_5, atI_6, atI_7, atI_8, atI_9, atI_10, atI_11, atI_12, atI_last, cutI_1, ixN_30, ixN_31, ixN_32, Int.toNat_zero, Int.reduceToNat, Int.reduceNeg, xs_lst, xs_tup, xs_ro, xs_rot, isL_lst, isL_tup, isL_ro, isL_rot, isT_tup, isT_rot, Bool.false_eq_true, Bool.true_eq_false, Bool.not_true, Bool.not_false, decide_true, decide_false, Int.reduceLT, Int.reduceLE, Nat.reduceLT, Nat.reduceLeDiff, Nat.reduceAdd, Nat.reduceEqDiff, Bool.not_eq_true, true_and, and_true, and_self, eq_self, g_new, g_nw, g_old, g_set, g_sne, List.length_set, List.length_append, wp_r3, kk_r3, Int.cast_ofNat_Int, Int.reduceEq, Int.natCast_zero, Int.natCast_one, ws_whileA, wp_isiII, wp_isiIB, wp_isiR, tyO_l, tyO_t, kk_isi, kk_isi2, kit_ll, kit_tt, kit_lt, kit_tl, wp_isiN, wp_isiBl, wp_isiS, tyO_d, kit2_NoneType_int, kit2_NoneType_bool, kit2_NoneType_list, kit2_NoneType_tuple, kit2_NoneType_str, kit2_bool_int, kit2_bool_bool, kit2_bool_list, kit2_bool_tuple, kit2_bool_str, kit2_str_int, kit2_str_bool, kit2_str_list, kit2_str_tuple, kit2_str_str, kit2_dict_int, kit2_dict_bool, kit2_dict_list, kit2_dict_tuple, kit2_dict_str, kit2_list_int, kit2_list_bool, kit2_list_str, kit2_tuple_int, kit2_tuple_bool, kit2_tuple_str, kit2_int_list, kit2_int_tuple, kit2_int_str, kf_next, kf_cont, kf_brk, kf_ret, wipeI, ws_try, wp_isEg, wp_isEt, kk_isE, wp_neS, wp_int2, ↓reduceIte, *])
/-- numbers drawn in a comprehension -/
theorem lc_draw {Q : PQ IV} {E : EQ} {env : Env} {ih : IH} {vs : List Nat} {i j p m d : Nat} {me : Env → IH → Res IV} (C : Int → Prop) (s : Src0 p m ih) (hz : j < 100000)
    (he : ∀ k, k < j → ∀ ih', Src0 p (m + d * k) ih' → Fr p ih ih' → ih.length < ih'.length → wp (me ((wipeI env vs).set i (some (.int (k : Int)))) ih') (fun v ih'' => (∃ z, v = .int z ∧ C z) ∧ Src0 p (m + d * (k + 1)) ih'' ∧ Fr p ih' ih'' ∧ ih'.length ≤ ih''.length) E0)
    (q : ∀ ih' (A : List Int), A.length = j → (∀ a ∈ A, C a) → Src0 p (m + d * j) ih' → Fr p ih ih' → ih.length < ih'.length → ih'[ih.length]? = some (.lst (A.map IV.int)) → Q (.ref ih.length) ih') : k_lc vs (g_nm i) n_yes me env Q E (.rng 0 1 j) ih := by
  have pl := s.lt
  refine lc_gen j (fun k acc ih' => (∃ A : List Int, acc = A.map IV.int ∧ A.length = k ∧ ∀ a ∈ A, C a) ∧ Src0 p (m + d * k) ih' ∧ Fr p ih ih' ∧ ih.length < ih'.length) (Nat.le_refl _) ⟨⟨[], rfl, rfl, fun _ h => nomatch h⟩, s.fx Fx.app, Fx.app.fr, by simp⟩ (fun k acc ih' hk ⟨⟨A, ha, hl, hc⟩, s', fr, lx⟩ hd => ?_) (fun acc ih' _ _ => stop_rng) fun acc ih' ⟨⟨A, ha, hl, hc⟩, s', fr, lx⟩ hd => q ih' A hl hc s' fr lx (by rw [← ha]; exact hd)
  have e0 : (0 : Int) + (k : Int) * 1 = (k : Int) := by omega
  refine ⟨.int (k : Int), _, _, by rw [turn_rng hk, e0], rfl, ⟨(fun h => nomatch h), fun _ => wp.imp (he k hk ih' s' fr lx) (fun v ih2 hvi => ?_) fun _ _ h => h⟩⟩
  obtain ⟨⟨z, rfl, hz'⟩, s2, f2, l2⟩ := hvi
  have hd2 : ih2[ih.length]? = some (.lst acc) := by rw [f2 _ lx (by omega)]; exact hd
  refine ⟨hd2, by rw [ha, List.length_map]; omega, ⟨A ++ [z], by rw [ha, List.map_append]; rfl, by simp [hl], fun a h => ?_⟩, s2.set (by omega), (fr.trans f2 (by omega)).set (Nat.le_refl _), by rw [List.length_set]; omega⟩
  rcases List.mem_append.mp h with h | h
  · exact hc a h
  · rw [List.mem_singleton] at h
    rw [h]
    exact hz'
theorem cutI_none {x : IV} : cutI [x] none (some (0 : Int)) = [] := by
  have := cutI_take (xs := [x]) (k := 0) (by simp)
  simpa using this
theorem cutI_rest {x : IV} : cutI [x] (some (1 : Int)) none = [] := by
  rw [cutI_1]
  rfl
/-- an element that is no number of a list -/
def OddE (z : Int) (p : Nat) (ih : IH) (v : IV) : Prop := KV p ih v ∧ (whl 0 v = false ∨ v = .int z)
theorem w_bad_list (c : Cs) {p g m : Nat} {y : IV} {z : Int} {ih : IH} {Q : PQ IV} {E : EQ} (s : Src0 p m ih) (hm : m + 3 ≤ 1000000) (hg : ih[g]? = some (.lst [y]))
    (k : ∀ v ih', Src0 p (m + 3) ih' → Fr p ih ih' → ih.length ≤ ih'.length → (∀ T : List IV → Bool, T [] = false → (∀ x, whl 0 x = false ∨ x = .int z → T [x] = false) → Bad T p ih' v) → Q v ih') :
    wp (m_law_bad_list c [.ref p, .ref g, .int z] ih) Q E := by
  have gp : g ≠ p := by
    obtain ⟨a, b, d, e, _⟩ := s
    intro e2
    subst e2
    rw [hg] at e
    cases e
  have K := Kp.nil.put hg gp
  have lg := lt_of_get hg
  have lp := s.lt
  have c40 : cPow 10 40 = true := by decide
  have k := Hide.mk k
  unfold m_law_bad_list b_law_bad_list
  walk_at "run"
  refine w_next c s (by decide) ((lit 7 : B 7 ((0 : Nat) + 1 : Nat)).mono (by decide)) (by omega) fun a ih1 a0 a1 s1 f1 l1 => ?_
  obtain rfl : a = 0 := by omega
  have K := K.fr f1
  have F := Hide.mk f1
  clear f1 hg
  walk_at "run"
  refine wp_lst (by simp) (newN fun q1 ih2 q2 q3 l2 f2 h2 => ?_)
  have s2 := s1.fx f2
  have K := K.add f2 h2 q2 (by omega)
  have F := Hide.mk (F.get.trans f2.fr (by omega))
  clear f2 s1 h2
  walk_at "run"
  refine wp_tup (by simp) (newN fun t1 ih3 t2 t3 l3 f3 h3 => ?_)
  have s3 := s2.fx f3
  have K := K.add f3 h3 t2 (by omega)
  have F := Hide.mk (F.get.trans f3.fr (by omega))
  clear f3 s2 h3
  walk_at "run"
  refine wp_dct (newN fun d1 ih4 d2 d3 l4 f4 h4 => ?_)
  have s4 := s3.fx f4
  have K := K.add f4 h4 d2 (by omega)
  have F := Hide.mk (F.get.trans f4.fr (by omega))
  clear f4 s3 h4
  walk_at "run"
  refine wp_lst (by simp) (newN fun e1 ih5 e2 e3 l5 f5 h5 => ?_)
  have s5 := s4.fx f5
  have K := K.add f5 h5 e2 (by omega)
  have F := Hide.mk (F.get.trans f5.fr (by omega))
  clear f5 s4 h5
  walk_at "run"
  refine w_next c s5 (by decide) ((lit 7 : B 7 9).mono (by decide)) (by omega) fun b ih6 b0 b1 s6 f6 l6 => ?_
  have K := K.fr f6
  have F := Hide.mk (F.get.trans f6 (by omega))
  have h56 := K.get 0
  clear f6 s5
  walk_at "run"
  refine k_pick b0 (by simpa using b1) fun o ho => ?_
  have hO : OddE z p ih6 o := by
    simp only [List.mem_cons, List.not_mem_nil, or_false] at ho
    rcases ho with e | e | e | e | e | e | e | e | e <;> subst e
    · exact ⟨trivial, .inl rfl⟩
    · exact ⟨trivial, .inl rfl⟩
    · exact ⟨trivial, .inl rfl⟩
    · exact ⟨trivial, .inl rfl⟩
    · exact ⟨⟨by omega, _, by rw [K.get 3]; rfl⟩, .inl rfl⟩
    · exact ⟨⟨by omega, _, by rw [K.get 2]; rfl⟩, .inl rfl⟩
    · exact ⟨⟨by omega, _, by rw [K.get 1]; rfl⟩, .inl rfl⟩
    · exact ⟨trivial, .inr rfl⟩
    · exact ⟨trivial, .inl (by decide +kernel)⟩
  have K : Kp p ih6 [(g, .lst [y])] := Kp.nil.put (K.get 4) gp
  clear ho h56
  have o6 := Hide.mk hO
  clear hO
  walk_at "run"
  refine wp_lst (by simp) (newN fun q1 ih7 q2' q3' l7 f7 h7 => ?_)
  have s7 := s6.fx f7
  have K := K.add f7 h7 q2' (by omega)
  have F := Hide.mk (F.get.trans f7.fr (by omega))
  have o7 := Hide.mk (o6.get.1.fx f7)
  have g7 := K.get 1
  clear f7 s6 h7
  walk_at "run"
  refine wp_tupleL g7 (newN fun t1 ih8 t2' t3' l8 f8 h8 => ?_)
  have s8 := s7.fx f8
  have K := K.add f8 h8 t2' (by omega)
  have F := Hide.mk (F.get.trans f8.fr (by omega))
  have o8 := Hide.mk (o7.get.fx f8)
  clear f8 s7 h8 g7
  walk_at "run"
  refine wp_dct (newN fun d1 ih9 d2' d3' l9 f9 h9 => ?_)
  have s9 := s8.fx f9
  have K := K.add f9 h9 d2' (by omega)
  have F := Hide.mk (F.get.trans f9.fr (by omega))
  have o9 := Hide.mk (o8.get.fx f9)
  clear f9 s8 h9
  walk_at "run"
  refine wp_disp1 (newN fun d4 iha d5' d6' la fa ha => ?_)
  have sa := s9.fx fa
  have K := K.add fa ha d5' (by omega)
  have F := Hide.mk (F.get.trans fa.fr (by omega))
  have oa := Hide.mk (o9.get.fx fa)
  have ga := K.get 4
  clear fa s9 ha
  -- good[:at] + [odd] + good[at + 1:]
  have part : ∀ {ihA : IH} {Q : PQ IV} {E : EQ} {e5 : Option IV}, Src0 p (m + 2) ihA → ihA[g]? = some (.lst [y]) → KV p ihA o → (∀ q ihB, Src0 p (m + 2) ihB → Fx ihA ihB → ihA.length ≤ q → q < ihB.length → ihB[q]? = some (.lst [o]) → Q (.ref q) ihB) →
      wp (m_op f_add (m_op f_add (m_sl (m_var 1) m_none (m_some (m_var 3))) (m_app f_lst (m_cons (m_var 4) m_nil))) (m_sl (m_var 1) (m_some (m_op f_add (m_var 3) (m_c (.int 1)))) m_none) [some (.ref p), some (.ref g), some (.int z), some (.int 0), some o, e5] ihA) Q E := by
    intro ihA Q E e5 sA gA oA kA
    have lA := lt_of_get gA
    walk_at "run"
    refine wp_slL (xs := [y]) gA (newN fun u1 ihB u2 u3 lB fB hB => ?_)
    rw [cutI_none] at hB
    have gB := (fB g lA).trans gA
    have F1 := Hide.mk fB
    clear fB gA
    walk_at "run"
    refine wp_lst (by simp) (newN fun x1 ihC x2 x3 lC fC hC => ?_)
    have gC := (fC g (by omega)).trans gB
    have hBC := (fC u1 (by omega)).trans hB
    have F2 := Hide.mk (F1.get.trans fC (by omega))
    clear fC gB hB
    walk_at "run"
    refine wp_cat (xs := []) (ys := [o]) hBC hC (by simp) (newN fun y1 ihD y2 y3 lD fD hD => ?_)
    have gD := (fD g (by omega)).trans gC
    have F3 := Hide.mk (F2.get.trans fD (by omega))
    clear fD gC hBC hC
    walk_at "run"
    refine wp_slL (xs := [y]) gD (newN fun z1 ihE z2 z3 lE fE hE => ?_)
    rw [show (0 : Int) + 1 = 1 from rfl, cutI_rest] at hE
    have hDE := (fE y1 (by omega)).trans hD
    have F4 := Hide.mk (F3.get.trans fE (by omega))
    clear fE gD hD
    walk_at "run"
    refine wp_cat (xs := [] ++ [o]) (ys := []) hDE hE (by simp) (newN fun w1 ihF w2 w3 lF fF hF => ?_)
    have F5 := F4.get.trans fF (by omega)
    exact kA w1 ihF (sA.fx F5) F5 (by omega) w3 (by simpa using hF)
  simp only [kk_cons, wp_cons, wp_c]
  refine part sa ga oa.get fun q2 ihb sb fb b1' b2' hb => ?_
  have K := (K.fx fb).put hb (by omega)
  have F := Hide.mk (F.get.trans fb.fr (by omega))
  have ob := Hide.mk (oa.get.fx fb)
  have gb := K.get 5
  clear fb sa hb ga
  walk_at "run"
  refine wp_lst (by simp) (newN fun l9 ihc c1 c2 lc fc hc => ?_)
  have sc := sb.fx fc
  have K := K.add fc hc c1 (by omega)
  have F := Hide.mk (F.get.trans fc.fr (by omega))
  have oc := Hide.mk (ob.get.fx fc)
  have gc := K.get 6
  clear fc sb hc gb
  simp only [kks_nm, kks_next, ws_seq, ws_ret, wp_op, List.set_cons_zero, List.set_cons_succ]
  simp only [m_var, List.getElem?_cons_zero, List.getElem?_cons_succ, wp_ok, kk_op, kk_un]
  rw [wp_op, wp_app, wp_cons]
  refine part sc gc oc.get fun q3 ihd sd fd d1' d2' hd => ?_
  have K := (K.fx fd).put hd (by omega)
  have F := Hide.mk (F.get.trans fd.fr (by omega))
  have od := Hide.mk (oc.get.fx fd)
  clear fd sc hd gc part
  walk_at "run"
  refine wp_lst (by simp) (newN fun l1' ihe e1' e2' le fe he => ?_)
  have se := sd.fx fe
  have K := K.add fe he e1' (by omega)
  have F := Hide.mk (F.get.trans fe.fr (by omega))
  have oe := Hide.mk (od.get.fx fe)
  clear fe sd
  walk_at "run"
  refine wp_mulL he (by decide) (by decide) (by simp) (newN fun l4' ihf f1' f2' lf ff hf => ?_)
  have sf := se.fx ff
  have K := K.add ff hf f1' (by omega)
  have F := Hide.mk (F.get.trans ff.fr (by omega))
  have of := Hide.mk (oe.get.fx ff)
  clear ff se he
  have hf' : ihf[l4']? = some (.lst [.ref q3, .ref q3, .ref q3, .ref q3]) := hf
  clear hf
  walk_at "run"
  refine wp_cat (K.get 3) hf' (by simp) (newN fun l13 ihg g1' g2' lg' fg hg' => ?_)
  have sg := sf.fx fg
  have K := K.add fg hg' g1' (by omega)
  have F := Hide.mk (F.get.trans fg.fr (by omega))
  have og := Hide.mk (of.get.fx fg)
  clear fg sf hf'
  walk_at "run"
  refine w_next c sg (by decide) ((lit 7 : B 7 13).mono (by decide)) (by omega) fun b ihh b0 b1 sh fh lh => ?_
  have K := K.fr fh
  have F := Hide.mk (F.get.trans fh (by omega))
  have oh := Hide.mk (og.get.fr fh)
  have hh := K.get 0
  clear fh sg hg'
  walk_at "run"
  refine k_pick b0 (by simpa using b1) fun v hv => ?_
  have kz := k.get v ihh sh F.get (by omega) (fun T T0 T1 => ?_)
  · clear hh
    walk_at "run"
    all_goals exact kz
  · have hq : v ∈ [IV.non, .ref q1, .ref t1, .str "12", .ref d1, .int 5, .ref d4, .bl true, .ref q2, .ref q3, .ref q3, .ref q3, .ref q3] := hv
    have one : ∀ q, ihh[q]? = some (.lst [o]) → q ≠ p → Bad T p ihh (.ref q) := fun q hq1 hq2 => ⟨hq2, .inl ⟨[o], hq1, by simp, fun x hx => by rw [List.mem_singleton.mp hx]; exact oh.get, T1 o o6.get.2⟩⟩
    simp only [List.mem_cons, List.not_mem_nil, or_false] at hq
    rcases hq with e | e | e | e | e | e | e | e | e | e | e | e | e <;> subst e
    · trivial
    · exact ⟨K.ne 9, .inl ⟨[], K.get 9, by simp, (fun _ h => nomatch h), T0⟩⟩
    · exact ⟨K.ne 8, .inr ⟨_, by rw [K.get 8]; rfl, by decide⟩⟩
    · trivial
    · exact ⟨K.ne 7, .inr ⟨_, by rw [K.get 7]; rfl, by decide⟩⟩
    · trivial
    · exact ⟨K.ne 6, .inr ⟨_, by rw [K.get 6]; rfl, by decide⟩⟩
    · trivial
    · exact one _ (K.get 5) (K.ne 5)
    · exact one _ (K.get 3) (K.ne 3)
    · exact one _ (K.get 3) (K.ne 3)
    · exact one _ (K.get 3) (K.ne 3)
    · exact one _ (K.get 3) (K.ne 3)
end L3
/-! K05c: a turn. (L15) -/
namespace L3
open PySem PySem.Spec PyProof.Rows L2
local macro_rules | `(tactic| walk_at "get") => `(tactic| simp (disch := first | assumption | omega | (simp only [List.length_append, List.length_set, List.length_cons, List.length_nil, List.length_map] <;> omega) | fail) only [g_new, g_nw, g_old, g_set, g_sne, List.length_append, List.length_set, List.length_cons, List.length_nil, List.length_map, List.map_map, Function.comp_def, xs_lst, xs_tup, isL_lst, isL_tup, ↓reduceIte, *])
local macro_rules | `(tactic| walk_at "fr") => `(tactic| first | (intro _ _ _; simp (disch := first | assumption | omega | (simp only [List.length_append, List.length_set, List.length_cons, List.length_nil, List.length_map] <;> omega) | fail) only [g_new, g_nw, g_old, g_set, g_sne, List.length_append, List.length_set, List.length_cons, List.length_nil, List.length_map, List.map_map, Function.comp_def, xs_lst, xs_tup, isL_lst, isL_tup, ↓reduceIte, *]) | (intro _ _; simp (disch := first | assumption | omega | (simp only [List.length_append, List.length_set, List.length_cons, List.length_nil, List.length_map] <;> omega) | fail) only [g_new, g_nw, g_old, g_set, g_sne, List.length_append, List.length_set, List.length_cons, List.length_nil, List.length_map, List.map_map, Function.comp_def, xs_lst, xs_tup, isL_lst, isL_tup, ↓reduceIte, *]))
local macro_rules | `(tactic| walk_at "run") => `(tactic| simp -implicitDefEqProofs (disch := first | assumption | omega | (simp only [List.length_append, List.length_set, List.length_cons, List.length_nil, List.length_map] <;> omega) | fail) only [wp_ok, wp_exc, wp_stuck, ws_ok, ws_exc, ws_stuck, wp_op, kk_op, kk_un, wp_un, wp_cons, kk_cons, kk_cons2, wp_nil, wp_c, wp_app, wp_if, kk_if1, kk_if0, wp_and, kk_and1, kk_and0, wp_or, kk_or1, kk_or0, wp_not, kk_not, wp_tb, kk_tb, wp_andV, kk_andV1, kk_andV0, wp_orV, kk_orV1, kk_orV0, wp_notV, kk_notV, wp_noneS, wp_some, kk_some, wp_sl, kk_sl, kk_sl2, kk_sl3, wp_mL, kk_mL, kk_mL2, wp_mL0, kk_mL0, wp_chain, kk_ch, kk_ch2, kk_ch31, kk_ch30, ws_set, kks_nm, kks_g, kks_tup, kks_lst, ws_expr, kks_expr, ws_ret, kks_ret, ws_retN, ws_pass, ws_brk, ws_cont, ws_raise, ws_if, kks_if1, kks_if0, ws_seq, kks_next, kks_retS, kks_brk, kks_cont, kk_augE, ws_aug, kks_aug, kks_aug2, ws_par, kks_par, ws_setL, kks_sl, kks_sl2, kks_sl3, wp_def, kkd_ret, kkd_next, kkdE, kkE, ws_for, wp_lc, wp_r1, kk_r1, wp_r2, kk_r2, wp_il, wp_it, wp_ie, wp_iz, kk_il, kk_il2, kk_it, kk_it2, kk_ie, kk_ie2, kk_iz, kk_iz2, lAt_k, k_lAtL, k_lAtO, k_lAtT, wp_int, wp_add, wp_addI, wp_sub, wp_neg, wp_lt, wp_le, wp_gt, wp_ge, wp_max2, wp_min2, wp_abs, wp_mulI, wp_mul, wp_fdiv, wp_mod, wp_shl, wp_shr, wp_pow, wp_isN, wp_notN, wp_eqI, wp_neI, wp_ix, kk_ix, kk_ix2, wp_len, kk_lenL, kk_lenT, kk_lenO, kk_lenP, wp_appd, kk_app1, isL_k, kk_isL, startI_cons, startI_nil, rep_succ, rep_zero, List.getElem?_cons_zero, List.getElem?_cons_succ, List.set_cons_zero, List.set_cons_succ, f_call, m_var, List.append_nil, List.nil_append, List.cons_append, List.length_cons, List.length_nil, if_true, if_false, g_tup, g_lst, g_cons, g_nil, g_nm, Option.bind_some, kks_g, atI_0, atI_1, atI_2, atI_3, atI_4, atI_5, atI_6, atI_7, atI_8, atI_9, atI_10, atI_11, atI_12, atI_last, cutI_1, ixN_30, ixN_31, ixN_32, Int.toNat_zero, Int.reduceToNat, Int.reduceNeg, xs_lst, xs_tup, xs_ro, xs_rot, isL_lst, isL_tup, isL_ro, isL_rot, isT_tup, isT_rot, Bool.false_eq_true, Bool.true_eq_false, Bool.not_true, Bool.not_false, decide_true, decide_false, Int.reduceLT, Int.reduceLE, Nat.reduceLT, Nat.reduceLeDiff, Nat.reduceAdd, Nat.reduceEqDiff, Bool.not_eq_true, true_and, and_true, and_self, eq_self, g_new, g_nw, g_old, g_set, g_sne, List.length_set, List.length_append, wp_r3, kk_r3, Int.cast_ofNat_Int, Int.reduceEq, Int.natCast_zero, Int.natCast_one, ws_whileA, wp_isiII, wp_isiIB, wp_isiR, tyO_l, tyO_t, kk_isi, kk_isi2, kit_ll, kit_tt, kit_lt, kit_tl, wp_isiN, wp_isiBl, wp_isiS, tyO_d, kit2_NoneType_int, kit2_NoneType_bool, kit2_NoneType_list, kit2_NoneType_tuple, kit2_NoneType_str, kit2_bool_int, kit2_bool_bool, kit2_bool_list, kit2_bool_tuple, kit2_bool_str, kit2_str_int, kit2_str_bool, kit2_str_list, kit2_str_tuple, kit2_str_str, kit2_dict_int, kit2_dict_bool, kit2_dict_list, kit2_dict_tuple, kit2_dict_str, kit2_list_int, kit2_list_bool, kit2_list_str, kit2_tuple_int, kit2_tuple_bool, kit2_tuple_str, kit2_int_list, kit2_int_tuple, kit2_int_str, kf_next, kf_cont, kf_brk, kf_ret, wipeI, ws_try, wp_isEg, wp_isEt, kk_isE, wp_neS, wp_int2, ↓reduceIte, *])
/-- behind an if -/
def kcut (R : Env → IH → Prop) : SQ := fun fl ih => ∃ e, fl = .next e ∧ R e ih
theorem kcut.mk {R : Env → IH → Prop} {e : Env} {ih : IH} (h : R e ih) : kcut R (.next e) ih := ⟨e, rfl, h⟩
theorem if_cut {sa sb : Env → IH → RS} {env : Env} {ih : IH} {S : SQ} {F : ES} {b : Bool} (R : Env → IH → Prop) (h1 : b = true → ws (sa env ih) (kcut R) F) (h0 : b = false → ws (sb env ih) (kcut R) F)
    (hk : ∀ e ih', R e ih' → S (.next e) ih') : ks_if sa sb env S F b ih := by
  cases b with
  | true => exact (h1 rfl).imp (fun fl ih' ⟨e, h, r⟩ => by subst h; exact hk e ih' r) fun _ _ _ h => h
  | false => exact (h0 rfl).imp (fun fl ih' ⟨e, h, r⟩ => by subst h; exact hk e ih' r) fun _ _ _ h => h
theorem shaped_ll (a b : List Int) : SeqAt.shaped (.tuple [.list (a.map .int), .list (b.map .int)]) = true := by
  simp [SeqAt.shaped, PyData.canLay0, PyData.canLayAll0, PyData.depth, PyData.depthAll, canLay_ints, depth_ints]
/-- what a turn is given -/
structure Way (c : Cs) (p : Nat) (w : Int) (ls fs vs : List Int) (v6 v7 : IV) : Prop where
  w0 : 1 ≤ w
  w1 : w ≤ 64
  l0 : ∀ n ∈ ls, 0 ≤ n
  l1 : Sorted ls
  l2 : ls.length ≤ 20
  l3 : ls ≠ []
  f0 : goodL (fs.map .int) = false
  f1 : fs.length ≤ 30
  a0 : ∀ n ∈ vs, 0 ≤ n ∧ n < 2 ^ w.toNat
  a1 : vs.length ≤ 7
  a2 : vs ≠ []
/-- what stays in a turn -/
structure Ws (j p m : Nat) (w : Int) (ih0 : IH) (L : List (Nat × MO)) (v6 v7 bd : IV) (ih : IH) : Prop where
  K : Kp p ih L
  o6 : OddW p ih v6
  o7 : KV p ih v7
  hB : (j < 3 → Bad goodL p ih bd) ∧ (3 ≤ j → Bad (goodV (2 ^ w.toNat)) p ih bd)
  s : Src0 p m ih
  F : Fr p ih0 ih
  l : ih0.length ≤ ih.length
theorem Ws.fx {j p m : Nat} {w : Int} {ih0 : IH} {L : List (Nat × MO)} {v6 v7 bd : IV} {ih ih' : IH} (h : Ws j p m w ih0 L v6 v7 bd ih) (f : Fx ih ih') (l : ih.length ≤ ih'.length) : Ws j p m w ih0 L v6 v7 bd ih' :=
  ⟨h.K.fx f, h.o6.fr f.fr, h.o7.fx f, ⟨fun e => (h.hB.1 e).fr f.fr, fun e => (h.hB.2 e).fr f.fr⟩, h.s.fx f, h.F.trans f.fr h.l, Nat.le_trans h.l l⟩
section
variable {p : Nat} {ih : IH} {Q : PQ IV} {E : EQ}
/-- good looks or values -/
theorem w_wordG (c : Cs) (ok : CsOk c) {j : Nat} (hj : j < 5) {w : Int} {ns : List Int} {k : Nat} {v3 : IV} (h : ih[k]? = some (.lst (ns.map IV.int))) (hz : ns.length ≤ 30) (hne : ns ≠ []) (h0 : 1 ≤ w) (h1 : w ≤ 64)
    (hl : j < 3 → (∀ n ∈ ns, 0 ≤ n) ∧ Sorted ns) (hv : 3 ≤ j → ns.length ≤ 7 ∧ ∀ n ∈ ns, 0 ≤ n ∧ n < 2 ^ w.toNat) (hk : KV p ih v3) (ho : whl 0 v3 = false)
    (q : ∀ ih', ih.length ≤ ih'.length → Fx ih ih' → Q (if decide ((j : Int) = 4) = true then .str "cycle" else .str "none") ih') : wp (m_law_word c [.int j, .int w, .ref k, v3] ih) Q E := by
  by_cases h4 : j = 4
  · subst h4
    exact w_wordC c ok h (hv (by omega)).2 (hv (by omega)).1 hne h0 h1 hk ho q
  · rw [decide_eq_false (by omega)] at q
    exact w_wordN c (last := 0) hj h hz hne h0 h1 hl hv (fun e => absurd e h4) q
theorem w_way (c : Cs) (ok : CsOk c) {j m : Nat} (hj : j < 5) {w : Int} {ls fs vs : List Int} {v6 v7 : IV} {L U T L2 U2 Fa : Nat} (W : Way c p w ls fs vs v6 v7) (hm : m + 10 ≤ 1000000)
    (K : Kp p ih [(L, .lst (ls.map .int)), (U, .lst (vs.map .int)), (T, .tup [.ref L2, .ref U2]), (L2, .lst (ls.map .int)), (U2, .lst (vs.map .int)), (Fa, .lst (fs.map .int))])
    (o6 : OddW p ih v6) (o7 : KV p ih v7 ∧ whl 0 v7 = false) (s : Src0 p m ih) {a0 a1 a11 a12 a13 : Option IV} (P : Env → IH → Prop) {S : SQ} {F : ES}
    (kk : ∀ b11 b12 ih', Src0 p (m + 5) ih' → Fr p ih ih' → ih.length ≤ ih'.length → P [a0, a1, some (.ref p), some (.int w), some (.ref L), some (.ref U), some v6, some v7, some (.ref Fa), some (.ref T), some (.int (j : Int)), b11, b12, a13] ih') :
    ws (lb_law_1 c [a0, a1, some (.ref p), some (.int w), some (.ref L), some (.ref U), some v6, some v7, some (.ref Fa), some (.ref T), some (.int (j : Int)), a11, a12, a13] ih) (kf P S) F := by
  obtain ⟨w0, w1, hl0, hl1, hl2, hl3, hf0, hf1, ha0, ha1, ha2⟩ := W
  have lp := s.lt
  replace kk := Hide.mk kk
  replace o6 := Hide.mk o6
  replace o7 := Hide.mk o7
  replace ha0 := Hide.mk ha0
  replace hl0 := Hide.mk hl0
  replace hf0 := Hide.mk hf0
  have c50 : cPow 10 50 = true := by decide
  have c1 := (shl_w (w := w) (by omega) w1).1
  have sB := pow_B (w := w) (by omega) w1
  obtain ⟨sz, es0⟩ : ∃ sz : Int, 2 ^ w.toNat = sz := ⟨_, rfl⟩
  have es := Hide.mk es0
  rw [es0] at sB
  have c2 : (1 : Int) * 2 ^ w.toNat = sz := by rw [Int.one_mul, es0]
  clear es0
  obtain ⟨b, eb0⟩ : ∃ b, decide ((2 : Int) < (j : Int)) = b := ⟨_, rfl⟩
  have eb := Hide.mk (show b = decide (2 < j) by rw [← eb0]; simp only [decide_eq_decide]; omega)
  unfold lb_law_1
  walk_at "run"
  refine wp_lst (by simp) (newN fun x1 ih1 x2 x3 l1 f1 g1 => ?_)
  obtain ⟨g, eg, Kg, hg1, hg2⟩ : ∃ g, atI [IV.ref L, IV.ref U] (b2i b) = some (.ref g) ∧ (∃ ns, Kp p ih [(g, .lst (ns.map IV.int))] ∧ ns.length ≤ 30 ∧ ns ≠ [] ∧ (j < 3 → (∀ n ∈ ns, 0 ≤ n) ∧ Sorted ns) ∧ (3 ≤ j → ns.length ≤ 7 ∧ ∀ n ∈ ns, 0 ≤ n ∧ n < 2 ^ w.toNat)) ∧ True ∧ True := by
    rw [pick2]
    cases hb : b with
    | true =>
      have h3 : 2 < j := of_decide_eq_true (eb.get.symm.trans hb)
      exact ⟨U, rfl, ⟨vs, Kp.nil.put (K.get 1) (K.ne 1), by omega, ha2, fun _ => by omega, fun _ => ⟨ha1, ha0.get⟩⟩, trivial, trivial⟩
    | false =>
      have h3 : ¬ 2 < j := of_decide_eq_false (eb.get.symm.trans hb)
      exact ⟨L, rfl, ⟨ls, Kp.nil.put (K.get 0) (K.ne 0), by omega, hl3, fun _ => ⟨hl0.get, hl1⟩, fun _ => by omega⟩, trivial, trivial⟩
  obtain ⟨ns, Kg, hn1, hn2, hn3, hn4⟩ := Kg
  replace hn3 := Hide.mk hn3
  replace hn4 := Hide.mk hn4
  replace K := K.fx f1
  replace Kg := Kg.fx f1
  replace o6 := Hide.mk (o6.get.fr f1.fr)
  replace o7 := Hide.mk (And.intro (o7.get.1.fx f1) o7.get.2)
  have s1 := s.fx f1
  have FF := Hide.mk f1.fr (p := Fr p ih ih1)
  clear f1 s
  walk_at "run"
  refine wp_lst (by simp) (newN fun y1 ih2 y2 y3 l2 f2 g2 => ?_)
  replace K := K.fx f2
  replace Kg := Kg.fx f2
  replace o6 := Hide.mk (o6.get.fr f2.fr)
  replace o7 := Hide.mk (And.intro (o7.get.1.fx f2) o7.get.2)
  have s2 := s1.fx f2
  replace FF := Hide.mk (FF.get.trans f2.fr (by omega))
  have gU := K.get 1
  clear f2 s1 g1
  walk_at "run"
  refine wp_cat gU g2 (by simp; omega) (newN fun z1 ih3 z2 z3 l3 f3 g3 => ?_)
  replace K := K.fx f3
  replace Kg := Kg.fx f3
  replace o6 := Hide.mk (o6.get.fr f3.fr)
  replace o7 := Hide.mk (And.intro (o7.get.1.fx f3) o7.get.2)
  have s3 := s2.fx f3
  replace FF := Hide.mk (FF.get.trans f3.fr (by omega))
  have B3 : 3 ≤ j → Bad (goodV (2 ^ w.toNat)) p ih3 (.ref z1) := fun _ => ⟨by omega, .inl ⟨_, g3, by simp; omega, fun x hx => by
      rcases List.mem_append.mp hx with h | h
      · obtain ⟨n, _, rfl⟩ := List.mem_map.mp h
        trivial
      · rw [List.mem_singleton.mp h]
        trivial, by
      unfold goodV
      rw [es.get, List.all_append (f := ltW _)]
      simp [ltW]⟩⟩
  replace B3 := Hide.mk B3
  clear f3 s2 g2 gU g3
  walk_at "run"
  refine wp_lst (by simp) (newN fun q1 ih4 q2 q3 l4 f4 g4 => ?_)
  replace K := K.fx f4
  replace Kg := Kg.fx f4
  replace o6 := Hide.mk (o6.get.fr f4.fr)
  replace o7 := Hide.mk (And.intro (o7.get.1.fx f4) o7.get.2)
  have s4 := s3.fx f4
  replace FF := Hide.mk (FF.get.trans f4.fr (by omega))
  obtain ⟨bd, ed, hB⟩ : ∃ bd, atI [IV.ref Fa, IV.ref z1] (b2i b) = some bd ∧ ((j < 3 → Bad goodL p ih4 bd) ∧ (3 ≤ j → Bad (goodV (2 ^ w.toNat)) p ih4 bd)) := by
    rw [pick2]
    cases hb : b with
    | true =>
      have h3 : 2 < j := of_decide_eq_true (eb.get.symm.trans hb)
      exact ⟨_, rfl, fun _ => by omega, fun h => (B3.get h).fr f4.fr⟩
    | false =>
      have h3 : ¬ 2 < j := of_decide_eq_false (eb.get.symm.trans hb)
      exact ⟨_, rfl, fun _ => ⟨K.ne 5, .inl ⟨_, K.get 5, by simp; omega, fun x hx => by
        obtain ⟨n, _, rfl⟩ := List.mem_map.mp hx
        trivial, hf0.get⟩⟩, fun _ => by omega⟩
  replace hB := Hide.mk hB
  clear f4 s3 B3
  walk_at "run"
  refine w_next c s4 (by decide) ((lit 7 : B 7 3).mono (by decide)) (by omega) fun n ih5 n0 n1 s5 f5 l5 => ?_
  have KK : Kp p ih5 [(g, .lst (ns.map .int)), (L, .lst (ls.map .int)), (U, .lst (vs.map .int)), (T, .tup [.ref L2, .ref U2]), (L2, .lst (ls.map .int)), (U2, .lst (vs.map .int)), (Fa, .lst (fs.map .int))] := by
    have a := K.fr f5
    have b := Kg.fr f5
    exact ⟨fun x hx => by
      rcases List.mem_cons.mp hx with rfl | hx
      · exact b.all _ (by simp)
      · exact a.all _ hx⟩
  have V : Ws j p (m + 1) w ih [(g, .lst (ns.map .int)), (L, .lst (ls.map .int)), (U, .lst (vs.map .int)), (T, .tup [.ref L2, .ref U2]), (L2, .lst (ls.map .int)), (U2, .lst (vs.map .int)), (Fa, .lst (fs.map .int))] v6 v7 bd ih5 :=
    ⟨KK, o6.get.fr f5, o7.get.1.fr f5, ⟨fun e => (hB.get.1 e).fr f5, fun e => (hB.get.2 e).fr f5⟩, s5, FF.get.trans f5 (by omega), by omega⟩
  have h7 := Hide.mk o7.get.2
  clear K Kg o6 o7 hB FF KK s5 f5 s4 g4
  walk_at "run"
  refine if_cut (fun e ih' => ∃ bd, e = [a0, a1, some (.ref p), some (.int w), some (.ref L), some (.ref U), some v6, some v7, some (.ref Fa), some (.ref T), some (.int (j : Int)), some (.ref g), some bd, a13] ∧ Ws j p (m + 5) w ih [(g, .lst (ns.map .int)), (L, .lst (ls.map .int)), (U, .lst (vs.map .int)), (T, .tup [.ref L2, .ref U2]), (L2, .lst (ls.map .int)), (U2, .lst (vs.map .int)), (Fa, .lst (fs.map .int))] v6 v7 bd ih') (fun hb => ?_) (fun hb => ?_) fun e ih6 hR => ?_
  · clear hb
    have gg := V.K.get 0
    walk_at "run"
    refine wp_slL gg (newN fun u1 ih6 u2 u3 l6 f6 g6 => ?_)
    obtain ⟨n1, nr, en⟩ : ∃ n1 nr, ns = n1 :: nr := by
      cases ns with
      | nil => exact absurd rfl hn2
      | cons a r => exact ⟨a, r, rfl⟩
    have g6 : ih6[u1]? = some (.lst [.int n1]) := by
      rw [g6, en]
      have := cutI_take (xs := (n1 :: nr).map IV.int) (k := 1) (by simp)
      rw [show (some ((1 : Nat) : Int)) = some (1 : Int) from rfl] at this
      rw [this]
      rfl
    replace V := V.fx f6 (by omega)
    clear f6 gg en
    walk_at "run"
    refine wp_lst (by simp) (newN fun r1 ih7 r2 r3 l7 f7 g7 => ?_)
    replace V := V.fx f7 (by omega)
    obtain ⟨z, ez, hz1⟩ : ∃ z, atI [IV.int (-2), IV.int sz] (b2i b) = some (.int z) ∧ ((j < 3 → z = -2) ∧ (3 ≤ j → z = sz)) := by
      rw [pick2]
      cases hb : b with
      | true =>
        have h3 : 2 < j := of_decide_eq_true (eb.get.symm.trans hb)
        exact ⟨_, rfl, fun _ => by omega, fun _ => rfl⟩
      | false =>
        have h3 : ¬ 2 < j := of_decide_eq_false (eb.get.symm.trans hb)
        exact ⟨_, rfl, fun _ => rfl, fun _ => by omega⟩
    replace hz1 := Hide.mk hz1
    have g67 := (f7 u1 (by omega)).trans g6
    clear f7 g6
    walk_at "run"
    refine w_bad_list c V.s (by omega) g67 fun v ih8 s8 f8 l8 hT => ?_
    have V8 : Ws j p (m + 5) w ih [(g, .lst (ns.map .int)), (L, .lst (ls.map .int)), (U, .lst (vs.map .int)), (T, .tup [.ref L2, .ref U2]), (L2, .lst (ls.map .int)), (U2, .lst (vs.map .int)), (Fa, .lst (fs.map .int))] v6 v7 v ih8 := by
      refine ⟨V.K.fr f8, V.o6.fr f8, V.o7.fr f8, ⟨fun e => hT _ rfl fun x hx => ?_, fun e => hT _ rfl fun x hx => ?_⟩, s8.mono (by omega), V.F.trans f8 V.l, Nat.le_trans V.l l8⟩
      · rw [hz1.get.1 e] at hx
        rcases hx with hx | hx
        · simp [goodL, hx]
        · subst hx; rfl
      · rw [hz1.get.2 e] at hx
        rcases hx with hx | hx
        · simp [goodV, hx]
        · subst hx
          rw [es.get]
          simp [goodV, ltW]
    clear V f8 s8 g67 g7 hT
    walk_at "run"
    exact kcut.mk ⟨_, rfl, V8⟩
  · clear hb
    walk_at "run"
    exact kcut.mk ⟨_, rfl, ⟨V.K, V.o6, V.o7, V.hB, V.s.mono (by omega), V.F, V.l⟩⟩
  · obtain ⟨bd, ee, V⟩ := hR
    subst ee
    have q0 : KV p ih6 (.int 0) := trivial
    walk_at "run"
    refine w_wordW c ok hj V.o6 fun ih7 l7 f7 => ?_
    replace V := V.fx f7 l7
    have ow := ok_width
    clear f7
    walk_at "run"
    refine w_wordW c ok hj V.o6 fun ih8 l8 f8 => ?_
    replace V := V.fx f8 l8
    clear f8
    walk_at "run"
    clear ow
    refine w_wordL c ok hj w0 w1 V.hB.1 V.hB.2 fun ih9 l9 f9 => ?_
    replace V := V.fx f9 l9
    have ow := ok_looks
    clear f9
    walk_at "run"
    refine w_wordL c ok hj w0 w1 V.hB.1 V.hB.2 fun iha la fa => ?_
    replace V := V.fx fa la
    clear fa
    walk_at "run"
    clear ow
    refine w_wordG c ok hj (V.K.get 0) hn1 hn2 w0 w1 hn3.get hn4.get V.o7 h7.get fun ihb lb fb => ?_
    replace V := V.fx fb lb
    clear fb
    obtain ⟨d4, e4⟩ : ∃ d4, decide ((j : Int) = 4) = d4 := ⟨_, rfl⟩
    obtain ⟨wd, ewd, ok1⟩ : ∃ wd : Str, (if d4 = true then IV.str "cycle" else IV.str "none") = .str wd ∧ PyData.strOk wd = true := by
      cases d4 with
      | true => exact ⟨_, rfl, ok_cycle⟩
      | false => exact ⟨_, rfl, ok_none⟩
    rw [e4, ewd]
    walk_at "run"
    refine wp_lst (by simp) (newN fun r1 ihc r2 r3 lc fc gc => ?_)
    replace V := V.fx fc (by omega)
    have ex : atI [IV.str "none", IV.str "cycle"] (b2i d4) = some (.str wd) := by rw [pick2, ewd]
    clear fc ewd
    walk_at "run"
    clear ok1 ex gc e4
    refine w_wordN c (last := 10 ^ 50) hj (V.K.get 0) hn1 hn2 w0 w1 hn3.get hn4.get (fun _ => ⟨_, rfl, by decide, lit 170⟩) fun ihd ld fd => ?_
    replace V := V.fx fd ld
    have ow := ok_none
    clear fd
    walk_at "run"
    refine wp_tup (by simp) (newN fun t1 ihe t2 t3 le fe ge => ?_)
    replace V := V.fx fe (by omega)
    have hpos := V.s.lt
    have kz := kk.get (some (.ref g)) (some bd) ihe V.s V.F V.l
    clear fe
    walk_at "run"
    have dd : ∀ t A B, ihe[t]? = some (.tup [.ref A, .ref B]) → ihe[A]? = some (.lst (ls.map .int)) → ihe[B]? = some (.lst (vs.map .int)) → Is ihe (.ref t) (.tuple [.list (ls.map .int), .list (vs.map .int)]) := fun t A B h1 h2 h3 =>
      .tup h1 rfl (.cons (Is.ints h2 rfl rfl) (.cons (Is.ints h3 rfl rfl) .nil))
    refine wp_ne (dd _ _ _ ge (V.K.get 1) (V.K.get 2)) (dd _ _ _ (V.K.get 3) (V.K.get 4) (V.K.get 5)) (shaped_ll _ _) (shaped_ll _ _) ?_
    rw [eqv_same (shaped_ll _ _)]
    clear ge kk
    walk_at "run"
    exact Inv.mk kz
end
end L3
/-! K05d: the law. (L15) -/
namespace L3
open PySem PySem.Spec PyProof.Rows L2
local macro_rules | `(tactic| walk_at "get") => `(tactic| simp (disch := first | assumption | omega | (simp only [List.length_append, List.length_set, List.length_cons, List.length_nil, List.length_map] <;> omega) | fail) only [g_new, g_nw, g_old, g_set, g_sne, List.length_append, List.length_set, List.length_cons, List.length_nil, List.length_map, List.map_map, Function.comp_def, xs_lst, xs_tup, isL_lst, isL_tup, ↓reduceIte, *])
local macro_rules | `(tactic| walk_at "fr") => `(tactic| first | (intro _ _ _; simp (disch := first | assumption | omega | (simp only [List.length_append, List.length_set, List.length_cons, List.length_nil, List.length_map] <;> omega) | fail) only [g_new, g_nw, g_old, g_set, g_sne, List.length_append, List.length_set, List.length_cons, List.length_nil, List.length_map, List.map_map, Function.comp_def, xs_lst, xs_tup, isL_lst, isL_tup, ↓reduceIte, *]) | (intro _ _; simp (disch := first | assumption | omega | (simp only [List.length_append, List.length_set, List.length_cons, List.length_nil, List.length_map] <;> omega) | fail) only [g_new, g_nw, g_old, g_set, g_sne, List.length_append, List.length_set, List.length_cons, List.length_nil, List.length_map, List.map_map, Function.comp_def, xs_lst, xs_tup, isL_lst, isL_tup, ↓reduceIte, *]))
local macro_rules | `(tactic| walk_at "run") => `(tactic| simp -implicitDefEqProofs (disch := first | assumption | omega | (simp only [List.length_append, List.length_set, List.length_cons, List.length_nil, List.length_map] <;> omega) | fail) only [wp_ok, wp_exc, wp_stuck, ws_ok, ws_exc, ws_stuck, wp_op, kk_op, kk_un, wp_un, wp_cons, kk_cons, kk_cons2, wp_nil, wp_c, wp_app, wp_if, kk_if1, kk_if0, wp_and, kk_and1, kk_and0, wp_or, kk_or1, kk_or0, wp_not, kk_not, wp_tb, kk_tb, wp_andV, kk_andV1, kk_andV0, wp_orV, kk_orV1, kk_orV0, wp_notV, kk_notV, wp_noneS, wp_some, kk_some, wp_sl, kk_sl, kk_sl2, kk_sl3, wp_mL, kk_mL, kk_mL2, wp_mL0, kk_mL0, wp_chain, kk_ch, kk_ch2, kk_ch31, kk_ch30, ws_set, kks_nm, kks_g, kks_tup, kks_lst, ws_expr, kks_expr, ws_ret, kks_ret, ws_retN, ws_pass, ws_brk, ws_cont, ws_raise, ws_if, kks_if1, kks_if0, ws_seq, kks_next, kks_retS, kks_brk, kks_cont, kk_augE, ws_aug, kks_aug, kks_aug2, ws_par, kks_par, ws_setL, kks_sl, kks_sl2, kks_sl3, wp_def, kkd_ret, kkd_next, kkdE, kkE, ws_for, wp_lc, wp_r1, kk_r1, wp_r2, kk_r2, wp_il, wp_it, wp_ie, wp_iz, kk_il, kk_il2, kk_it, kk_it2, kk_ie, kk_ie2, kk_iz, kk_iz2, lAt_k, k_lAtL, k_lAtO, k_lAtT, wp_int, wp_add, wp_addI, wp_sub, wp_neg, wp_lt, wp_le, wp_gt, wp_ge, wp_max2, wp_min2, wp_abs, wp_mulI, wp_mul, wp_fdiv, wp_mod, wp_shl, wp_shr, wp_pow, wp_isN, wp_notN, wp_eqI, wp_neI, wp_ix, kk_ix, kk_ix2, wp_len, kk_lenL, kk_lenT, kk_lenO, kk_lenP, wp_appd, kk_app1, isL_k, kk_isL, startI_cons, startI_nil, rep_succ, rep_zero, List.getElem?_cons_zero, List.getElem?_cons_succ, List.set_cons_zero, List.set_cons_succ, f_call, m_var, List.append_nil, List.nil_append, List.cons_append, List.length_cons, List.length_nil, if_true, if_false, g_tup, g_lst, g_cons, g_nil, g_nm, Option.bind_some, kks_g, atI_0, atI_1, atI_2, atI_3, atI_4, atI_5, atI_6, atI_7, atI_8, atI_9, atI_10, atI_11, atI_12, atI_last, cutI_1, ixN_30, ixN_31, ixN_32, Int.toNat_zero, Int.reduceToNat, Int.reduceNeg, xs_lst, xs_tup, xs_ro, xs_rot, isL_lst, isL_tup, isL_ro, isL_rot, isT_tup, isT_rot, Bool.false_eq_true, Bool.true_eq_false, Bool.not_true, Bool.not_false, decide_true, decide_false, Int.reduceLT, Int.reduceLE, Nat.reduceLT, Nat.reduceLeDiff, Nat.reduceAdd, Nat.reduceEqDiff, Bool.not_eq_true, true_and, and_true, and_self, eq_self, g_new, g_nw, g_old, g_set, g_sne, List.length_set, List.length_append, wp_r3, kk_r3, Int.cast_ofNat_Int, Int.reduceEq, Int.natCast_zero, Int.natCast_one, ws_whileA, wp_isiII, wp_isiIB, wp_isiR, tyO_l, tyO_t, kk_isi, kk_isi2, kit_ll, kit_tt, kit_lt, kit_tl, wp_isiN, wp_isiBl, wp_isiS, tyO_d, kit2_NoneType_int, kit2_NoneType_bool, kit2_NoneType_list, kit2_NoneType_tuple, kit2_NoneType_str, kit2_bool_int, kit2_bool_bool, kit2_bool_list, kit2_bool_tuple, kit2_bool_str, kit2_str_int, kit2_str_bool, kit2_str_list, kit2_str_tuple, kit2_str_str, kit2_dict_int, kit2_dict_bool, kit2_dict_list, kit2_dict_tuple, kit2_dict_str, kit2_list_int, kit2_list_bool, kit2_list_str, kit2_tuple_int, kit2_tuple_bool, kit2_tuple_str, kit2_int_list, kit2_int_tuple, kit2_int_str, kf_next, kf_cont, kf_brk, kf_ret, wipeI, ws_try, wp_isEg, wp_isEt, kk_isE, wp_neS, wp_int2, ↓reduceIte, *])
theorem sorted_last {ns : List Int} {x : Int} (h : Sorted ns) (hx : ∀ n ∈ ns, n ≤ x) : Sorted (ns ++ [x]) := by
  rcases List.eq_nil_or_concat ns with e | ⟨us, l, e⟩
  · subst e; trivial
  · rw [e, List.concat_eq_append] at h hx ⊢
    exact sorted_app h (hx l (by simp))
theorem asc_sorted : ∀ {ns : List Int}, ascB (ns.map .int) = true → Sorted ns
  | [], _ => trivial
  | [_], _ => trivial
  | a :: b :: r, h => by
    have h2 : (leI (.int a) (.int b) && ascB ((b :: r).map .int)) = true := by
      simpa [ascB] using h
    rw [Bool.and_eq_true] at h2
    exact ⟨of_decide_eq_true h2.1, asc_sorted h2.2⟩
theorem not_sorted {ns : List Int} {l x : Int} (h : x < l) : ¬ Sorted (ns ++ [l] ++ [x]) := by
  induction ns with
  | nil => exact fun k => by have := k.1; omega
  | cons a r ih =>
    intro k
    cases r with
    | nil => exact ih k.2
    | cons b t => exact ih k.2
section
variable {p : Nat} {ih : IH} {Q : PQ IV} {E : EQ}
theorem shaped_nn : SeqAt.shaped (.list [.str "none", .str "none"]) = true := by
  simp [SeqAt.shaped, PyData.canLay0, PyData.canLayAll0, PyData.depth, PyData.depthAll, ok_none]
theorem small_w {w : Int} (h : w = 1 ∨ w = 64) : ∀ n ∈ ([0, 0, 1] : List Int), 0 ≤ n ∧ n < 2 ^ w.toNat := by
  intro n hn
  simp only [List.mem_cons, List.not_mem_nil, or_false] at hn
  rcases h with h | h <;> subst h <;> rcases hn with h | h | h <;> subst h <;> decide
theorem w_two (c : Cs) {j : Nat} (hj : j < 5) {m : Nat} (s : Src0 p m ih) {a0 a1 a2 a3 a4 a5 a6 a7 a8 a9 a11 a12 a13 : Option IV} (P : Env → IH → Prop) {S : SQ} {F : ES}
    (kk : ∀ ih', Src0 p m ih' → Fr p ih ih' → ih.length ≤ ih'.length → P [a0, a1, a2, a3, a4, a5, a6, a7, a8, a9, some (.int (j : Int)), a11, a12, a13] ih') :
    ws (lb_law_2 c [a0, a1, a2, a3, a4, a5, a6, a7, a8, a9, some (.int (j : Int)), a11, a12, a13] ih) (kf P S) F := by
  replace kk := Hide.mk kk
  unfold lb_law_2
  walk_at "run"
  refine wp_lst (by simp) (newN fun x1 ih1 x2 x3 l1 f1 g1 => ?_)
  have s1 := s.fx f1
  have FF := Hide.mk f1
  clear f1 s
  walk_at "run"
  refine w_wordN c (last := 0) (ns := [0, 0, 1]) hj g1 (by simp) (by simp) (by decide) (by decide) (fun _ => ⟨by decide, by simp [Sorted]⟩) (fun _ => ⟨by simp, small_w (.inl rfl)⟩) (fun _ => ⟨0, rfl, by decide, lit 170⟩) fun ih2 l2 f2 => ?_
  have s2 := s1.fx f2
  replace FF := Hide.mk (FF.get.trans f2 (by omega))
  clear f2 s1 g1
  walk_at "run"
  refine wp_lst (by simp) (newN fun y1 ih3 y2 y3 l3 f3 g3 => ?_)
  have s3 := s2.fx f3
  replace FF := Hide.mk (FF.get.trans f3 (by omega))
  clear f3 s2
  walk_at "run"
  refine w_wordN c (last := 0) (ns := [0, 0, 1]) hj g3 (by simp) (by simp) (by decide) (by decide) (fun _ => ⟨by decide, by simp [Sorted]⟩) (fun _ => ⟨by simp, small_w (.inr rfl)⟩) (fun _ => ⟨0, rfl, by decide, lit 170⟩) fun ih4 l4 f4 => ?_
  have s4 := s3.fx f4
  replace FF := Hide.mk (FF.get.trans f4 (by omega))
  clear f4 s3 g3
  walk_at "run"
  refine wp_lst (by simp) (newN fun z1 ih5 z2 z3 l5 f5 g5 => ?_)
  have s5 := s4.fx f5
  replace FF := Hide.mk (FF.get.trans f5 (by omega))
  clear f5 s4
  walk_at "run"
  refine wp_lst (by simp) (newN fun u1 ih6 u2 u3 l6 f6 g6 => ?_)
  have s6 := s5.fx f6
  replace FF := Hide.mk (FF.get.trans f6 (by omega))
  have g56 := (f6 z1 (by omega)).trans g5
  clear f6 s5 g5
  walk_at "run"
  refine wp_mulL g6 (by decide) (by decide) (by simp) (newN fun v1 ih7 v2 v3 l7 f7 g7 => ?_)
  have s7 := s6.fx f7
  replace FF := Hide.mk (FF.get.trans f7 (by omega))
  have g57 := (f7 z1 (by omega)).trans g56
  clear f7 s6 g56 g6
  walk_at "run"
  have dd : ∀ t, ih7[t]? = some (.lst [.str "none", .str "none"]) → Is ih7 (.ref t) (.list [.str "none", .str "none"]) := fun t h => .lst h rfl (.cons (.str _) (.cons (.str _) .nil))
  refine wp_ne (dd _ g57) (dd _ g7) shaped_nn shaped_nn ?_
  rw [eqv_same shaped_nn]
  have kz := kk.get ih7 s7 FF.get.fr (by omega)
  clear g57 g7 kk s7
  walk_at "run"
  exact Inv.mk kz
theorem w_no_width (c : Cs) {m : Nat} (s : Src0 p m ih) (hm : m + 2 ≤ 1000000) {env : Env} (e2 : env[2]? = some (some (.ref p)))
    (q : ∀ v ih', OddW p ih' v → Src0 p (m + 1) ih' → Fr p ih ih' → ih.length ≤ ih'.length → Q v ih') :
    wp (m_op f_ix (m_app f_lst (m_cons (m_c .non) (m_cons (m_c (.int 0)) (m_cons (m_un f_neg (m_c (.int 1))) (m_cons (m_c (.int 65)) (m_cons (m_c (.bl true)) (m_cons (m_c (.str "8")) (m_cons (m_app f_lst (m_cons (m_c (.int 8)) m_nil)) (m_cons (m_app f_tup (m_cons (m_c (.int 8)) m_nil)) (m_cons m_dct (m_cons (m_op f_pow (m_c (.int 10)) (m_c (.int 30))) m_nil))))))))))) (m_app (f_call 2 [] (m_law_next c)) (m_cons (m_var 2) (m_cons (m_c (.int 10)) m_nil))) env ih) Q E := by
  have c30 : cPow 10 30 = true := by decide
  have lp := s.lt
  have K : Kp p ih [] := Kp.nil
  walk_at "run"
  refine wp_lst (by simp) (newN fun x1 ih1 x2 x3 l1 f1 g1 => ?_)
  have s1 := s.fx f1
  replace K := K.add f1 g1 x2 (by omega)
  have FF := Hide.mk f1
  clear f1 s g1
  walk_at "run"
  refine wp_tup (by simp) (newN fun y1 ih2 y2 y3 l2 f2 g2 => ?_)
  have s2 := s1.fx f2
  replace K := K.add f2 g2 y2 (by omega)
  replace FF := Hide.mk (FF.get.trans f2 (by omega))
  clear f2 s1 g2
  walk_at "run"
  refine wp_dct (newN fun z1 ih3 z2 z3 l3 f3 g3 => ?_)
  have s3 := s2.fx f3
  replace K := K.add f3 g3 z2 (by omega)
  replace FF := Hide.mk (FF.get.trans f3 (by omega))
  clear f3 s2 g3
  walk_at "run"
  refine wp_lst (by simp) (newN fun r1 ih4 r2 r3 l4 f4 g4 => ?_)
  have s4 := s3.fx f4
  replace K := K.add f4 g4 r2 (by omega)
  replace FF := Hide.mk (FF.get.trans f4 (by omega))
  clear f4 s3 g4
  walk_at "run"
  refine w_next c s4 (by decide) ((lit 7 : B 7 10).mono (by decide)) (by omega) fun n ih5 n0 n1 s5 f5 l5 => ?_
  replace K := K.fr f5
  have F5 := FF.get.fr.trans f5 (by omega)
  have g5 := K.get 0
  clear f5 s4 FF
  have q5 := q
  clear q
  have F5' := Hide.mk F5
  clear F5
  walk_at "run"
  refine k_pick n0 (by simpa using n1) fun v hv => ?_
  refine q5 v ih5 ?_ s5 F5'.get (by omega)
  simp only [List.mem_cons, List.not_mem_nil, or_false] at hv
  rcases hv with e | e | e | e | e | e | e | e | e | e <;> subst e
  · exact ⟨trivial, fun z h => nomatch h⟩
  · exact ⟨trivial, fun z h => by cases h; decide⟩
  · exact ⟨trivial, fun z h => by cases h; decide⟩
  · exact ⟨trivial, fun z h => by cases h; decide⟩
  · exact ⟨trivial, fun z h => nomatch h⟩
  · exact ⟨trivial, fun z h => nomatch h⟩
  · exact ⟨⟨K.ne 3, _, by rw [K.get 3]; rfl⟩, fun z h => nomatch h⟩
  · exact ⟨⟨K.ne 2, _, by rw [K.get 2]; rfl⟩, fun z h => nomatch h⟩
  · exact ⟨⟨K.ne 1, _, by rw [K.get 1]; rfl⟩, fun z h => nomatch h⟩
  · exact ⟨trivial, fun z h => by cases h; decide⟩
theorem w_no_cycle (c : Cs) {m : Nat} (s : Src0 p m ih) (hm : m + 2 ≤ 1000000) {env : Env} (e2 : env[2]? = some (some (.ref p)))
    (q : ∀ v ih', KV p ih' v → whl 0 v = false → Src0 p (m + 1) ih' → Fr p ih ih' → ih.length ≤ ih'.length → Q v ih') :
    wp (m_op f_ix (m_app f_lst (m_cons (m_c .non) (m_cons (m_un f_neg (m_c (.int 1))) (m_cons (m_c (.bl true)) (m_cons (m_c (.str "8")) (m_cons (m_app f_lst (m_cons (m_c (.int 8)) m_nil)) (m_cons (m_app f_tup (m_cons (m_c (.int 8)) m_nil)) (m_cons m_dct (m_cons (m_op f_sub (m_c (.int 0)) (m_op f_pow (m_c (.int 10)) (m_c (.int 40)))) m_nil))))))))) (m_app (f_call 2 [] (m_law_next c)) (m_cons (m_var 2) (m_cons (m_c (.int 8)) m_nil))) env ih) Q E := by
  have c30 : cPow 10 40 = true := by decide
  have lp := s.lt
  have K : Kp p ih [] := Kp.nil
  walk_at "run"
  refine wp_lst (by simp) (newN fun x1 ih1 x2 x3 l1 f1 g1 => ?_)
  have s1 := s.fx f1
  replace K := K.add f1 g1 x2 (by omega)
  have FF := Hide.mk f1
  clear f1 s g1
  walk_at "run"
  refine wp_tup (by simp) (newN fun y1 ih2 y2 y3 l2 f2 g2 => ?_)
  have s2 := s1.fx f2
  replace K := K.add f2 g2 y2 (by omega)
  replace FF := Hide.mk (FF.get.trans f2 (by omega))
  clear f2 s1 g2
  walk_at "run"
  refine wp_dct (newN fun z1 ih3 z2 z3 l3 f3 g3 => ?_)
  have s3 := s2.fx f3
  replace K := K.add f3 g3 z2 (by omega)
  replace FF := Hide.mk (FF.get.trans f3 (by omega))
  clear f3 s2 g3
  walk_at "run"
  refine wp_lst (by simp) (newN fun r1 ih4 r2 r3 l4 f4 g4 => ?_)
  have s4 := s3.fx f4
  replace K := K.add f4 g4 r2 (by omega)
  replace FF := Hide.mk (FF.get.trans f4 (by omega))
  clear f4 s3 g4
  walk_at "run"
  refine w_next c s4 (by decide) ((lit 7 : B 7 8).mono (by decide)) (by omega) fun n ih5 n0 n1 s5 f5 l5 => ?_
  replace K := K.fr f5
  have F5 := FF.get.fr.trans f5 (by omega)
  have g5 := K.get 0
  clear f5 s4 FF
  have q5 := q
  clear q
  have F5' := Hide.mk F5
  clear F5
  walk_at "run"
  refine k_pick n0 (by simpa using n1) fun v hv => ?_
  obtain ⟨h1, h2⟩ : KV p ih5 v ∧ whl 0 v = false := by
    simp only [List.mem_cons, List.not_mem_nil, or_false] at hv
    rcases hv with e | e | e | e | e | e | e | e <;> subst e
    · exact ⟨trivial, rfl⟩
    · exact ⟨trivial, rfl⟩
    · exact ⟨trivial, rfl⟩
    · exact ⟨trivial, rfl⟩
    · exact ⟨⟨K.ne 3, _, by rw [K.get 3]; rfl⟩, rfl⟩
    · exact ⟨⟨K.ne 2, _, by rw [K.get 2]; rfl⟩, rfl⟩
    · exact ⟨⟨K.ne 1, _, by rw [K.get 1]; rfl⟩, rfl⟩
    · exact ⟨trivial, by decide +kernel⟩
  exact q5 v ih5 h1 h2 s5 F5'.get (by omega)
end
end L3
/-! K05e: the law. (L15) -/
namespace L3
open PySem PySem.Spec PyProof.Rows L2
local macro_rules | `(tactic| walk_at "get") => `(tactic| simp (disch := first | assumption | omega | (simp only [List.length_append, List.length_set, List.length_cons, List.length_nil, List.length_map] <;> omega) | fail) only [g_new, g_nw, g_old, g_set, g_sne, List.length_append, List.length_set, List.length_cons, List.length_nil, List.length_map, List.map_map, Function.comp_def, xs_lst, xs_tup, isL_lst, isL_tup, ↓reduceIte, *])
local macro_rules | `(tactic| walk_at "fr") => `(tactic| first | (intro _ _ _; simp (disch := first | assumption | omega | (simp only [List.length_append, List.length_set, List.length_cons, List.length_nil, List.length_map] <;> omega) | fail) only [g_new, g_nw, g_old, g_set, g_sne, List.length_append, List.length_set, List.length_cons, List.length_nil, List.length_map, List.map_map, Function.comp_def, xs_lst, xs_tup, isL_lst, isL_tup, ↓reduceIte, *]) | (intro _ _; simp (disch := first | assumption | omega | (simp only [List.length_append, List.length_set, List.length_cons, List.length_nil, List.length_map] <;> omega) | fail) only [g_new, g_nw, g_old, g_set, g_sne, List.length_append, List.length_set, List.length_cons, List.length_nil, List.length_map, List.map_map, Function.comp_def, xs_lst, xs_tup, isL_lst, isL_tup, ↓reduceIte, *]))
local macro_rules | `(tactic| walk_at "run") => `(tactic| simp -implicitDefEqProofs (disch := first | assumption | omega | (simp only [List.length_append, List.length_set, List.length_cons, List.length_nil, List.length_map] <;> omega) | fail) only [wp_ok, wp_exc, wp_stuck, ws_ok, ws_exc, ws_stuck, wp_op, kk_op, kk_un, wp_un, wp_cons, kk_cons, kk_cons2, wp_nil, wp_c, wp_app, wp_if, kk_if1, kk_if0, wp_and, kk_and1, kk_and0, wp_or, kk_or1, kk_or0, wp_not, kk_not, wp_tb, kk_tb, wp_andV, kk_andV1, kk_andV0, wp_orV, kk_orV1, kk_orV0, wp_notV, kk_notV, wp_noneS, wp_some, kk_some, wp_sl, kk_sl, kk_sl2, kk_sl3, wp_mL, kk_mL, kk_mL2, wp_mL0, kk_mL0, wp_chain, kk_ch, kk_ch2, kk_ch31, kk_ch30, ws_set, kks_nm, kks_g, kks_tup, kks_lst, ws_expr, kks_expr, ws_ret, kks_ret, ws_retN, ws_pass, ws_brk, ws_cont, ws_raise, ws_if, kks_if1, kks_if0, ws_seq, kks_next, kks_retS, kks_brk, kks_cont, kk_augE, ws_aug, kks_aug, kks_aug2, ws_par, kks_par, ws_setL, kks_sl, kks_sl2, kks_sl3, wp_def, kkd_ret, kkd_next, kkdE, kkE, ws_for, wp_lc, wp_r1, kk_r1, wp_r2, kk_r2, wp_il, wp_it, wp_ie, wp_iz, kk_il, kk_il2, kk_it, kk_it2, kk_ie, kk_ie2, kk_iz, kk_iz2, lAt_k, k_lAtL, k_lAtO, k_lAtT, wp_int, wp_add, wp_addI, wp_sub, wp_neg, wp_lt, wp_le, wp_gt, wp_ge, wp_max2, wp_min2, wp_abs, wp_mulI, wp_mul, wp_fdiv, wp_mod, wp_shl, wp_shr, wp_pow, wp_isN, wp_notN, wp_eqI, wp_neI, wp_ix, kk_ix, kk_ix2, wp_len, kk_lenL, kk_lenT, kk_lenO, kk_lenP, wp_appd, kk_app1, isL_k, kk_isL, startI_cons, startI_nil, rep_succ, rep_zero, List.getElem?_cons_zero, List.getElem?_cons_succ, List.set_cons_zero, List.set_cons_succ, f_call, m_var, List.append_nil, List.nil_append, List.cons_append, List.length_cons, List.length_nil, if_true, if_false, g_tup, g_lst, g_cons, g_nil, g_nm, Option.bind_some, kks_g, atI_0, atI_1, atI_2, atI_3, atI_4, atI_5, atI_6, atI_7, atI_8, atI_9, atI_10, atI_11, atI_12, atI_last, cutI_1, ixN_30, ixN_31, ixN_32, Int.toNat_zero, Int.reduceToNat, Int.reduceNeg, xs_lst, xs_tup, xs_ro, xs_rot, isL_lst, isL_tup, isL_ro, isL_rot, isT_tup, isT_rot, Bool.false_eq_true, Bool.true_eq_false, Bool.not_true, Bool.not_false, decide_true, decide_false, Int.reduceLT, Int.reduceLE, Nat.reduceLT, Nat.reduceLeDiff, Nat.reduceAdd, Nat.reduceEqDiff, Bool.not_eq_true, true_and, and_true, and_self, eq_self, g_new, g_nw, g_old, g_set, g_sne, List.length_set, List.length_append, wp_r3, kk_r3, Int.cast_ofNat_Int, Int.reduceEq, Int.natCast_zero, Int.natCast_one, ws_whileA, wp_isiII, wp_isiIB, wp_isiR, tyO_l, tyO_t, kk_isi, kk_isi2, kit_ll, kit_tt, kit_lt, kit_tl, wp_isiN, wp_isiBl, wp_isiS, tyO_d, kit2_NoneType_int, kit2_NoneType_bool, kit2_NoneType_list, kit2_NoneType_tuple, kit2_NoneType_str, kit2_bool_int, kit2_bool_bool, kit2_bool_list, kit2_bool_tuple, kit2_bool_str, kit2_str_int, kit2_str_bool, kit2_str_list, kit2_str_tuple, kit2_str_str, kit2_dict_int, kit2_dict_bool, kit2_dict_list, kit2_dict_tuple, kit2_dict_str, kit2_list_int, kit2_list_bool, kit2_list_str, kit2_tuple_int, kit2_tuple_bool, kit2_tuple_str, kit2_int_list, kit2_int_tuple, kit2_int_str, kf_next, kf_cont, kf_brk, kf_ret, wipeI, ws_try, wp_isEg, wp_isEt, kk_isE, wp_neS, wp_int2, ↓reduceIte, *])
theorem w_body (c : Cs) (ok : CsOk c) {ns : List Int} {k : Nat} {ih : IH} {a2 a3 a4 a5 a6 a7 a8 a9 a10 a11 a12 a13 : Option IV} {S : SQ} {F : ES} (h : Scr ns ih) (hb : ∀ z ∈ ns, ibits z ≤ 1048576) (hk : k ≤ 1000) (P : Env → IH → Prop)
    (kk : ∀ b2 b3 b4 b5 b6 b7 b8 b9 b10 b11 b12 b13 ih', Scr ns ih' → P [some (.ref 0), some (.int (k : Int)), b2, b3, b4, b5, b6, b7, b8, b9, b10, b11, b12, b13] ih') : ws (lb_law_3 c [some (.ref 0), some (.int (k : Int)), a2, a3, a4, a5, a6, a7, a8, a9, a10, a11, a12, a13] ih) (kf P S) F := by
  have hl : 0 < ih.length := lt_of_get h
  have hs : ih[0]? = some (.ro (ns.map IV.int)) := h
  replace kk := Hide.mk kk
  unfold lb_law_3
  walk_at "run"
  refine w_source c h hb (by omega) fun ih1 s1 f1 l1 => ?_
  obtain ⟨p, ep⟩ : ∃ p, ih.length = p := ⟨_, rfl⟩
  rw [ep] at s1 l1 hl ⊢
  have hs1 := Hide.mk (show ih1[0]? = some (.ro (ns.map IV.int)) by rw [f1 0 (by omega)]; exact hs)
  clear hs f1 h ep
  have lp := s1.lt
  obtain ⟨w, ih2, e2, w0, w1, s2, p2, l2⟩ := run_width c s1 (by omega)
  have f2 := Hide.mk p2.fr
  clear p2
  obtain ⟨L0, kl, ls0, ih3, e3, q3, hk3, hne, ⟨g3, g3l, g3n, g3s⟩, s3, p3⟩ := run_looks c s2 (by omega) w0 w1
  have f3 := Hide.mk p3.fr
  have FF := Hide.mk (f2.get.trans f3.get l2)
  have l3 : ih2.length ≤ ih3.length := by
    have := lt_of_get g3
    omega
  clear p3 f2 f3
  have K := Kp.nil.put g3 (by omega : L0 ≠ p)
  have c50 : cPow 10 50 = true := by decide
  clear g3
  walk_at "run"
  clear e2 e3
  refine wp_lst (by simp) (newN fun x1 ih4 x2 x3 l4 f4 g4 => ?_)
  have s4 := s3.fx f4
  replace K := K.fx f4
  replace FF := Hide.mk (FF.get.trans f4.fr (by omega))
  have gL := K.get 0
  clear f4 s3
  walk_at "run"
  refine wp_cat gL g4 (by simp; omega) (newN fun L ih5 y2 y3 l5 f5 g5 => ?_)
  have s5 := s4.fx f5
  replace FF := Hide.mk (FF.get.trans f5.fr (by omega))
  have g5' : ih5[L]? = some (.lst ((ls0 ++ [10 ^ 50]).map .int)) := by
    rw [g5, List.map_append]
    rfl
  replace K := (Kp.nil (p := p) (ih := ih5)).put g5' (by omega : L ≠ p)
  clear f5 s4 gL g4 g5 g5'
  obtain ⟨ls, els0⟩ : ∃ ls, ls0 ++ [10 ^ 50] = ls := ⟨_, rfl⟩
  have els := Hide.mk els0
  rw [els0] at K
  clear els0
  have c1 := (shl_w (w := w) (by omega) w1).1
  have sB := pow_B (w := w) (by omega) w1
  have s0 := pow_pos w
  obtain ⟨sz, es0⟩ : ∃ sz : Int, 2 ^ w.toNat = sz := ⟨_, rfl⟩
  have es := Hide.mk es0
  rw [es0] at sB s0
  have c2 : (1 : Int) * 2 ^ w.toNat = sz := by rw [Int.one_mul, es0]
  clear es0
  walk_at "run"
  unfold lc_law_1
  walk_at "run"
  refine w_next c s5 (by decide) ((lit 7 : B 7 5).mono (by decide)) (by omega) fun n ih6 n0 n1 s6 f6 l6 => ?_
  replace K := K.fr f6
  replace FF := Hide.mk (FF.get.trans f6 (by omega))
  clear f6 s5
  walk_at "run"
  refine ⟨smallI_mk (by omega) (by omega), ?_⟩
  refine lc_draw (d := 1) (fun z => 0 ≤ z ∧ z < sz) s6 (by omega) (fun i hi ih' si fi li => ?_) fun ih7 vs v0 v1 s7 f7 l7 g7 => ?_
  · unfold le_law_1
    walk_at "run"
    exact w_next c si s0 (sB.mono (by decide)) (by omega) fun z ih'' z0 z1 s' f' l' => ⟨⟨z, rfl, z0, z1⟩, s'.mono (by omega), f', by omega⟩
  obtain ⟨U, eU⟩ : ∃ U, ih6.length = U := ⟨_, rfl⟩
  rw [eU] at g7 ⊢
  replace K := (K.fr f7).put g7 (by omega : U ≠ p)
  replace FF := Hide.mk (FF.get.trans f7 (by omega))
  clear f7 s6 g7
  rw [kks_nm, kks_next, ws_seq, ws_set]
  refine w_no_width c s7 (by omega) rfl fun v6 ih8 o6 s8 f8 l8 => ?_
  replace K := K.fr f8
  replace FF := Hide.mk (FF.get.trans f8 (by omega))
  replace o6 := Hide.mk o6
  clear f8 s7
  rw [kks_nm, kks_next, ws_seq, ws_set]
  refine w_no_cycle c s8 (by omega) rfl fun v7 ih9 o7 h7 s9 f9 l9 => ?_
  replace K := K.fr f9
  replace FF := Hide.mk (FF.get.trans f9 (by omega))
  replace o6 := Hide.mk (o6.get.fr f9)
  replace o7 := Hide.mk o7
  replace h7 := Hide.mk h7
  have gL := K.get 1
  have eL : atI (ls.map IV.int) (-1) = some (.int (10 ^ 50)) := by
    rw [← els.get, List.map_append]
    exact atI_last _ _
  clear f9 s8
  walk_at "run"
  refine w_next c s9 (by decide) ((lit 7 : B 7 9).mono (by decide)) (by omega) fun u iha u0 u1 sa fa la => ?_
  replace K := K.fr fa
  replace FF := Hide.mk (FF.get.trans fa (by omega))
  replace o6 := Hide.mk (o6.get.fr fa)
  replace o7 := Hide.mk (o7.get.fr fa)
  clear fa s9 eL gL
  walk_at "run"
  refine wp_lst (by simp) (newN fun r1 ihb r2 r3 lb fb gb => ?_)
  replace K := K.fx fb
  have sb := sa.fx fb
  replace FF := Hide.mk (FF.get.trans fb.fr (by omega))
  replace o6 := Hide.mk (o6.get.fr fb.fr)
  replace o7 := Hide.mk (o7.get.fx fb)
  have gL := K.get 1
  clear fb sa
  have lsl : ls.length = kl + 1 := by rw [← els.get, List.length_append, g3l]; rfl
  walk_at "run"
  refine wp_cat gL gb (by simp; omega) (newN fun Fa ihc t2 t3 lc fc gc => ?_)
  have gc' : ihc[Fa]? = some (.lst ((ls ++ [10 ^ 50 - 1 - u]).map .int)) := by
    rw [gc, List.map_append]
    rfl
  replace K := (K.fx fc).put gc' (by omega : Fa ≠ p)
  have sc := sb.fx fc
  replace FF := Hide.mk (FF.get.trans fc.fr (by omega))
  replace o6 := Hide.mk (o6.get.fr fc.fr)
  replace o7 := Hide.mk (o7.get.fx fc)
  replace gL := K.get 2
  clear fc sb gb gc gc'
  walk_at "run"
  refine wp_list gL (newN fun L2 ihd d2 d3 ld fd gd => ?_)
  replace K := K.add fd gd d2 (by omega)
  have sd := sc.fx fd
  replace FF := Hide.mk (FF.get.trans fd.fr (by omega))
  replace o6 := Hide.mk (o6.get.fr fd.fr)
  replace o7 := Hide.mk (o7.get.fx fd)
  replace gL := K.get 2
  clear fd sc gd
  walk_at "run"
  refine wp_list gL (newN fun U2 ihe e2 e3 le fe ge => ?_)
  replace K := K.add fe ge e2 (by omega)
  have se := sd.fx fe
  replace FF := Hide.mk (FF.get.trans fe.fr (by omega))
  replace o6 := Hide.mk (o6.get.fr fe.fr)
  replace o7 := Hide.mk (o7.get.fx fe)
  clear fe sd ge gL
  walk_at "run"
  refine wp_tup (by simp) (newN fun T ihf i2 i3 lf ff gf => ?_)
  replace K := K.add ff gf i2 (by omega)
  have sf := se.fx ff
  replace FF := Hide.mk (FF.get.trans ff.fr (by omega))
  replace o6 := Hide.mk (o6.get.fr ff.fr)
  replace o7 := Hide.mk (o7.get.fx ff)
  clear ff se gf
  have KK : Kp p ihf [(L, .lst (ls.map .int)), (U, .lst (vs.map .int)), (T, .tup [.ref L2, .ref U2]), (L2, .lst (ls.map .int)), (U2, .lst (vs.map .int)), (Fa, .lst ((ls ++ [10 ^ 50 - 1 - u]).map .int))] :=
    (((((Kp.nil.put (K.get 3) (K.ne 3)).put (K.get 1) (K.ne 1)).put (K.get 2) (K.ne 2)).put (K.get 0) (K.ne 0)).put (K.get 4) (K.ne 4)).put (K.get 5) (K.ne 5)
  have W : Way c p w ls (ls ++ [10 ^ 50 - 1 - u]) vs v6 v7 := by
    refine ⟨w0, w1, fun n hn => ?_, ?_, by omega, ?_, ?_, by simp; omega, fun n hn => ?_, by omega, ?_⟩
    · rw [← els.get] at hn
      rcases List.mem_append.mp hn with hn | hn
      · exact (g3n n hn).1
      · rw [List.mem_singleton.mp hn]; decide
    · rw [← els.get]
      refine sorted_last g3s fun n hn => ?_
      obtain ⟨x0, xB⟩ := g3n n hn
      unfold B at xB
      have : (2 : Nat) ^ 130 < 10 ^ 50 := by decide
      omega
    · intro e
      rw [e] at lsl
      cases lsl
    · unfold goodL
      have : ascB ((ls ++ [10 ^ 50 - 1 - u]).map .int) = false := Bool.eq_false_iff.mpr fun e => by
        have := asc_sorted e
        rw [← els.get] at this
        exact not_sorted (by omega) this
      rw [this]
      simp
    · rw [es.get]; exact v1 n hn
    · intro e
      rw [e] at v0
      simp at v0
      omega
  clear K els es c1 c2
  walk_at "run"
  refine ⟨by decide, ?_⟩
  refine for_rng0 (fun i env ih' => (∃ b10 b11 b12, env = [some (.ref 0), some (.int (k : Int)), some (.ref p), some (.int w), some (.ref L), some (.ref U), some v6, some v7, some (.ref Fa), some (.ref T), b10, b11, b12, a13]) ∧ Src0 p (1000 + 5 * i) ih' ∧ Fr p ihf ih' ∧ ihf.length ≤ ih'.length)
    ⟨⟨_, _, _, rfl⟩, sf.mono (by omega), Fr.refl, Nat.le_refl _⟩ (fun i env ih' hi hP => ?_) fun env ihg hP => ?_
  · obtain ⟨⟨b10, b11, b12, ee⟩, si, fi, li⟩ := hP
    subst ee
    exact w_way c ok hi W (by omega) (KK.fr fi) (o6.get.fr fi) ⟨o7.get.fr fi, h7.get⟩ si _ fun b11 b12 ih'' s' f' l' => ⟨⟨_, _, _, rfl⟩, s'.mono (by omega), fi.trans f' li, by omega⟩
  · obtain ⟨⟨b10, b11, b12, ee⟩, sg, fg, lg⟩ := hP
    subst ee
    replace FF := Hide.mk (FF.get.trans fg (by omega))
    clear fg sf KK o6 o7 h7 W
    walk_at "run"
    refine ⟨by decide, ?_⟩
    refine for_rng0 (fun i env ih' => (∃ b10 b11 b12, env = [some (.ref 0), some (.int (k : Int)), some (.ref p), some (.int w), some (.ref L), some (.ref U), some v6, some v7, some (.ref Fa), some (.ref T), b10, b11, b12, a13]) ∧ Src0 p 2000 ih' ∧ Fr p ihg ih' ∧ ihg.length ≤ ih'.length)
      ⟨⟨_, _, _, rfl⟩, sg.mono (by omega), Fr.refl, Nat.le_refl _⟩ (fun i env ih' hi hP => ?_) fun env ihh hP => ?_
    · obtain ⟨⟨b10, b11, b12, ee⟩, si, fi, li⟩ := hP
      subst ee
      exact w_two c hi si _ fun ih'' s' f' l' => ⟨⟨_, _, _, rfl⟩, s', fi.trans f' li, by omega⟩
    · obtain ⟨⟨b10, b11, b12, ee⟩, sh, fh, lh⟩ := hP
      subst ee
      have hsz : Scr ns ihh := by
        unfold Scr
        rw [(FF.get.trans fh (by omega)) 0 (by omega) (by omega)]
        exact hs1.get
      exact Inv.mk (kk.get _ _ _ _ _ _ _ _ _ _ _ _ ihh hsz)
theorem w_law (c : Cs) (ok : CsOk c) {ns : List Int} {ih : IH} {Q : PQ IV} {E : EQ} (h : Scr ns ih) (hb : ∀ z ∈ ns, ibits z ≤ 1048576) (hl : ns.length ≤ 63) (q : ∀ ih', Q (.bl true) ih') : wp (m_law c [.ref 0] ih) Q E := by
  have h' : ih[0]? = some (.ro (ns.map IV.int)) := h
  unfold m_law b_law
  walk_at "run"
  rw [List.length_map]
  obtain ⟨j, ej⟩ : ∃ j : Int, (if (if (ns.length : Int) < 8 then (ns.length : Int) else 8) > 1 then (if (ns.length : Int) < 8 then (ns.length : Int) else 8) else 1) = j := ⟨_, rfl⟩
  have hj : 1 ≤ j ∧ j ≤ 8 := by rw [← ej]; split <;> split at * <;> omega
  rw [ej]
  refine ⟨smallI_mk (by omega) (by omega), ?_⟩
  refine for_rng0 (fun i env ih' => (∃ a1 a2 a3 a4 a5 a6 a7 a8 a9 a10 a11 a12 a13, env = [some (.ref 0), a1, a2, a3, a4, a5, a6, a7, a8, a9, a10, a11, a12, a13]) ∧ Scr ns ih') ⟨⟨_, _, _, _, _, _, _, _, _, _, _, _, _, rfl⟩, h⟩ (fun i env ih' hi hP => ?_) fun env ih' hP => ?_
  · obtain ⟨⟨a1, a2, a3, a4, a5, a6, a7, a8, a9, a10, a11, a12, a13, ee⟩, h2⟩ := hP
    subst ee
    exact w_body c ok h2 hb (by omega) _ fun b2 b3 b4 b5 b6 b7 b8 b9 b10 b11 b12 b13 ih3 h3 => ⟨⟨_, _, _, _, _, _, _, _, _, _, _, _, _, rfl⟩, h3⟩
  · obtain ⟨⟨a1, a2, a3, a4, a5, a6, a7, a8, a9, a10, a11, a12, a13, ee⟩, h2⟩ := hP
    subst ee
    walk_at "run"
    all_goals exact q _
theorem run_law (c : Cs) (ok : CsOk c) (ns : List Int) (h : ns.length ≤ 63) (hb : ∀ z ∈ ns, ibits z ≤ 1048576) : ∃ ih, m_law c [.ref 0] [.ro (ns.map IV.int)] = .ok (.bl true) ih := by
  obtain ⟨v, ih, e, rfl⟩ := (w_law c ok (ns := ns) (ih := [.ro (ns.map IV.int)]) (Q := fun v _ => v = .bl true) (E := E0) rfl hb h fun _ => rfl).out
  exact ⟨ih, e⟩
end L3
namespace L3
open PySem PySem.Spec PyProof.Rows L2

abbrev topS (i : Nat) : Stmt := PySem.Challenge.pw_timekernel_k05_what_counters_refuse.main.body.getD i (.Pass ⟨0, 0, 0, 0⟩)
structure Txt (K : PySem.W.Frag) (mg : Str → Option Value) (c : Cs) : Prop where
  kk : c.K = K
  b_ValueError : mg "ValueError" = none
  b_all : mg "all" = none
  b_bool : mg "bool" = none
  b_int : mg "int" = none
  b_isinstance : mg "isinstance" = none
  b_len : mg "len" = none
  b_list : mg "list" = none
  b_max : mg "max" = none
  b_min : mg "min" = none
  b_range : mg "range" = none
  b_sum : mg "sum" = none
  b_tuple : mg "tuple" = none
  b_zip : mg "zip" = none
  g_MOST_WIDTH : ∃ u, mg "MOST_WIDTH" = some u ∧ RelV ((.int 64) : V) u
  x_KernelError : ExcX K mg "KernelError" c.KernelError
  x_NoCycle : ExcX K mg "NoCycle" c.NoCycle
  x_NoLooks : ExcX K mg "NoLooks" c.NoLooks
  x_NoRate : ExcX K mg "NoRate" c.NoRate
  x_NoReading : ExcX K mg "NoReading" c.NoReading
  x_NoWidth : ExcX K mg "NoWidth" c.NoWidth
  x_TooMany : ExcX K mg "TooMany" c.TooMany
section
variable [TabT] {P : Program} {w : World} {K : PySem.W.Frag} {mg : Str → Option Value} {base : Heap} {c : Cs} {f : Addr} {fd : FuncData}
abbrev s__law_mixed : Stmt := topS 25
abbrev N__law_mixed : List Str := ["cell", "k", "low"]
theorem S__law_mixed : FnScope N__law_mixed ["cell", "k"] (defScope s__law_mixed) := ⟨rfl, rfl, rfl, by decide +kernel, rfl, by decide +kernel, by decide +kernel⟩
theorem ok__law_mixed (T : Txt K mg c) (F : FunD K "_law_mixed" "_law_mixed" (defArgs s__law_mixed) (defBody s__law_mixed) (defScope s__law_mixed) [] [] f fd) (hm : mg "_law_mixed" = some (.ref f))  : ∀ [LamT], Df P w K mg base 1 "_law_mixed" 2 [] (m_law_mixed c) := by
 intro I
 obtain rfl := T.kk
 exact df0 (N := N__law_mixed) (mb := b_law_mixed c) F S__law_mixed hm (fun _ _ _ _ _ _ us hl => match us, hl with | [_, _], _ => rfl) fun cdv A outer s H E hr tk hp hu =>
 (lss_cons (ls_set (i := 2) S__law_mixed.nd rfl (Or.inl rfl) (lm_op op_addA s_add (lm_op op_mod s_mod (lm_callTy call_int1 s_int rfl T.b_int (by decide +kernel) (la_cons (lm_var 0) la_nil)) (lm_c (.int 2147483629) pe_int)) (lm_op op_mulA s_mulA (lm_op op_fdivW s_fdiv (lm_var 0) (lm_c (.int 2147483629) pe_int)) (lm_c (.int 30011) pe_int))))
 (lss_cons (ls_set (i := 2) S__law_mixed.nd rfl (Or.inl rfl) (lm_op op_mod s_mod (lm_callTy call_int1 s_int rfl T.b_int (by decide +kernel) (la_cons (lm_op op_mulA s_mulA (lm_op op_addA s_add (lm_op op_addA s_add (lm_var 2) (lm_op op_mulA s_mulA (lm_c (.int 69621) pe_int) (lm_var 1))) (lm_c (.int 1) pe_int)) (lm_c (.int 48271) pe_int)) la_nil)) (lm_c (.int 2147483629) pe_int)))
 (lss_cons (ls_set (i := 2) S__law_mixed.nd rfl (Or.inl rfl) (lm_op op_mod s_mod (lm_callTy call_int1 s_int rfl T.b_int (by decide +kernel) (la_cons (lm_op op_mulA s_mulA (lm_var 2) (lm_op op_addA s_add (lm_op op_addA s_add (lm_op op_fdivW s_fdiv (lm_var 2) (lm_c (.int 907) pe_int)) (lm_c (.int 16831) pe_int)) (lm_var 1))) la_nil)) (lm_c (.int 2147483587) pe_int)))
 (lss_one (ls_ret (lm_op op_mod s_mod (lm_callTy call_int1 s_int rfl T.b_int (by decide +kernel) (la_cons (lm_op op_mulA s_mulA (lm_var 2) (lm_op op_addA s_add (lm_op op_fdivW s_fdiv (lm_var 2) (lm_c (.int 1201) pe_int)) (lm_c (.int 30011) pe_int))) la_nil)) (lm_c (.int 2147483563) pe_int)))))))
abbrev s__law_next : Stmt := topS 27
abbrev N__law_next : List Str := ["source", "many", "found"]
theorem S__law_next : FnScope N__law_next ["source", "many"] (defScope s__law_next) := ⟨rfl, rfl, rfl, by decide +kernel, rfl, by decide +kernel, by decide +kernel⟩
theorem ok__law_next (T : Txt K mg c) (F : FunD K "_law_next" "_law_next" (defArgs s__law_next) (defBody s__law_next) (defScope s__law_next) [] [] f fd) (hm : mg "_law_next" = some (.ref f)) (D__law_mixed : ∀ [LamT], Df P w K mg base 1 "_law_mixed" 2 [] (m_law_mixed c)) : ∀ [LamT], Df P w K mg base 2 "_law_next" 2 [] (m_law_next c) := by
 intro I
 obtain rfl := T.kk
 exact df0 (N := N__law_next) (mb := b_law_next c) F S__law_next hm (fun _ _ _ _ _ _ us hl => match us, hl with | [_, _], _ => rfl) fun cdv A outer s H E hr tk hp hu =>
 (lss_cons (ls_if (lt_cmp op_ge s_ge (lm_ix ix_seq s_ix (lm_var 0) (lm_c (.int 0) pe_int)) (lm_op op_pow s_pow (lm_c (.int 10) pe_int) (lm_c (.int 18) pe_int)))
 (lss_cons (ls_set (i := 2) S__law_next.nd rfl (Or.inl rfl) (lm_op op_mod s_mod (lm_callTy call_int1 s_int rfl T.b_int (by decide +kernel) (la_cons (lm_ix ix_seq s_ix (lm_var 0) (lm_c (.int 0) pe_int)) la_nil)) (lm_var 1)))
 (lss_cons (ls_setL (lm_op op_fdivW s_fdiv (lm_ix ix_seq s_ix (lm_var 0) (lm_c (.int 0) pe_int)) (lm_var 1)) (fun h1 h2 => pg_sub h1 h2 set_list) (lm_var 0) (lm_c (.int 0) pe_int))
 (lss_one (ls_ret (lm_var 2)))))
 lss_nil)
 (lss_cons (ls_setL (lm_op op_addA s_add (lm_ix ix_seq s_ix (lm_var 0) (lm_c (.int 2) pe_int)) (lm_c (.int 1) pe_int)) (fun h1 h2 => pg_sub h1 h2 set_list) (lm_var 0) (lm_c (.int 2) pe_int))
 (lss_one (ls_ret (lm_op op_mod s_mod (lm_callTy call_int1 s_int rfl T.b_int (by decide +kernel) (la_cons (lm_call (x := "_law_mixed") (dvs := []) D__law_mixed 0 (by decide) (hr.mono (by decide)) rfl tk (la_cons (lm_ix ix_seq s_ix (lm_var 0) (lm_c (.int 1) pe_int)) (la_cons (lm_ix ix_seq s_ix (lm_var 0) (lm_c (.int 2) pe_int)) la_nil))) la_nil)) (lm_var 1))))))
abbrev s__law_bad_list : Stmt := topS 32
abbrev N__law_bad_list : List Str := ["source", "good", "least_bad", "at", "odd", "some"]
theorem S__law_bad_list : FnScope N__law_bad_list ["source", "good", "least_bad"] (defScope s__law_bad_list) := ⟨rfl, rfl, rfl, by decide +kernel, rfl, by decide +kernel, by decide +kernel⟩
theorem ok__law_bad_list (T : Txt K mg c) (F : FunD K "_law_bad_list" "_law_bad_list" (defArgs s__law_bad_list) (defBody s__law_bad_list) (defScope s__law_bad_list) [] [] f fd) (hm : mg "_law_bad_list" = some (.ref f)) (D__law_next : ∀ [LamT], Df P w K mg base 2 "_law_next" 2 [] (m_law_next c)) : ∀ [LamT], Df P w K mg base 3 "_law_bad_list" 3 [] (m_law_bad_list c) := by
 intro I
 obtain rfl := T.kk
 exact df0 (N := N__law_bad_list) (mb := b_law_bad_list c) F S__law_bad_list hm (fun _ _ _ _ _ _ us hl => match us, hl with | [_, _, _], _ => rfl) fun cdv A outer s H E hr tk hp hu =>
 (lss_cons (ls_set (i := 3) S__law_bad_list.nd rfl (Or.inl rfl) (lm_call (x := "_law_next") (dvs := []) D__law_next 0 (by decide) (hr.mono (by decide)) rfl tk (la_cons (lm_var 0) (la_cons (lm_callB call_lenA s_len rfl T.b_len (by decide +kernel) (la_cons (lm_var 1) la_nil)) la_nil))))
 (lss_cons (ls_set (i := 4) S__law_bad_list.nd rfl (Or.inl rfl) (lm_ix ix_seq s_ix (lm_lst (la_cons (lm_c .non pe_non) (la_cons (lm_un un_neg s_neg (lm_c (.int 1) pe_int)) (la_cons (lm_c (.bl true) pe_bl) (la_cons (lm_c (.str "1") pe_str) (la_cons (lm_lst (la_cons (lm_c (.int 1) pe_int) la_nil)) (la_cons (lm_tup (la_cons (lm_c (.int 1) pe_int) la_nil)) (la_cons lm_dct (la_cons (lm_var 2) (la_cons (lm_op op_sub s_sub (lm_c (.int 0) pe_int) (lm_op op_pow s_pow (lm_c (.int 10) pe_int) (lm_c (.int 40) pe_int))) la_nil)))))))))) (lm_call (x := "_law_next") (dvs := []) D__law_next 0 (by decide) (hr.mono (by decide)) rfl tk (la_cons (lm_var 0) (la_cons (lm_c (.int 9) pe_int) la_nil)))))
 (lss_cons (ls_set (i := 5) S__law_bad_list.nd rfl (Or.inl rfl) (lm_lst (la_cons (lm_c .non pe_non) (la_cons (lm_lst la_nil) (la_cons (lm_callTy call_tuple_of s_tuple rfl T.b_tuple (by decide +kernel) (la_cons (lm_var 1) la_nil)) (la_cons (lm_c (.str "12") pe_str) (la_cons lm_dct (la_cons (lm_c (.int 5) pe_int) (la_cons (lm_disp1 (lm_c (.int 1) pe_int) (lm_c (.int 2) pe_int)) (la_cons (lm_c (.bl true) pe_bl) (la_cons (lm_op op_addA s_add (lm_op op_addA s_add (lm_sl (lm_var 1) lo_none (lo_some (lm_var 3))) (lm_lst (la_cons (lm_var 4) la_nil))) (lm_sl (lm_var 1) (lo_some (lm_op op_addA s_add (lm_var 3) (lm_c (.int 1) pe_int))) lo_none)) la_nil)))))))))))
 (lss_one (ls_ret (lm_ix ix_seq s_ix (lm_op op_addA s_add (lm_var 5) (lm_op op_mulA s_mulA (lm_lst (la_cons (lm_op op_addA s_add (lm_op op_addA s_add (lm_sl (lm_var 1) lo_none (lo_some (lm_var 3))) (lm_lst (la_cons (lm_var 4) la_nil))) (lm_sl (lm_var 1) (lo_some (lm_op op_addA s_add (lm_var 3) (lm_c (.int 1) pe_int))) lo_none)) la_nil)) (lm_c (.int 4) pe_int))) (lm_call (x := "_law_next") (dvs := []) D__law_next 0 (by decide) (hr.mono (by decide)) rfl tk (la_cons (lm_var 0) (la_cons (lm_c (.int 13) pe_int) la_nil)))))))))
abbrev s__law_gap : Stmt := topS 28
abbrev N__law_gap : List Str := ["source", "width", "size", "wraps", "near"]
theorem S__law_gap : FnScope N__law_gap ["source", "width"] (defScope s__law_gap) := ⟨rfl, rfl, rfl, by decide +kernel, rfl, by decide +kernel, by decide +kernel⟩
theorem ok__law_gap (T : Txt K mg c) (F : FunD K "_law_gap" "_law_gap" (defArgs s__law_gap) (defBody s__law_gap) (defScope s__law_gap) [] [] f fd) (hm : mg "_law_gap" = some (.ref f)) (D__law_next : ∀ [LamT], Df P w K mg base 2 "_law_next" 2 [] (m_law_next c)) : ∀ [LamT], Df P w K mg base 3 "_law_gap" 2 [] (m_law_gap c) := by
 intro I
 obtain rfl := T.kk
 exact df0 (N := N__law_gap) (mb := b_law_gap c) F S__law_gap hm (fun _ _ _ _ _ _ us hl => match us, hl with | [_, _], _ => rfl) fun cdv A outer s H E hr tk hp hu =>
 (lss_cons (ls_set (i := 2) S__law_gap.nd rfl (Or.inl rfl) (lm_op op_shlW s_shl (lm_c (.int 1) pe_int) (lm_var 1)))
 (lss_cons (ls_set (i := 3) S__law_gap.nd rfl (Or.inl rfl) (lm_ix ix_seq s_ix (lm_lst (la_cons (lm_c (.int 0) pe_int) (la_cons (lm_c (.int 1) pe_int) (la_cons (lm_c (.int 2) pe_int) (la_cons (lm_call (x := "_law_next") (dvs := []) D__law_next 0 (by decide) (hr.mono (by decide)) rfl tk (la_cons (lm_var 0) (la_cons (lm_op op_pow s_pow (lm_c (.int 10) pe_int) (lm_c (.int 9) pe_int)) la_nil))) la_nil))))) (lm_call (x := "_law_next") (dvs := []) D__law_next 0 (by decide) (hr.mono (by decide)) rfl tk (la_cons (lm_var 0) (la_cons (lm_c (.int 4) pe_int) la_nil)))))
 (lss_cons (ls_set (i := 4) S__law_gap.nd rfl (Or.inl rfl) (lm_callB (call_max2 rfl) s_max2 rfl T.b_max (by decide +kernel) (la_cons (lm_c (.int 0) pe_int) (la_cons (lm_op op_sub s_sub (lm_op op_addA s_add (lm_op op_mulA s_mulA (lm_var 3) (lm_var 2)) (lm_call (x := "_law_next") (dvs := []) D__law_next 0 (by decide) (hr.mono (by decide)) rfl tk (la_cons (lm_var 0) (la_cons (lm_c (.int 5) pe_int) la_nil)))) (lm_c (.int 2) pe_int)) la_nil))))
 (lss_one (ls_ret (lm_ix ix_seq s_ix (lm_lst (la_cons (lm_c (.int 0) pe_int) (la_cons (lm_var 4) (la_cons (lm_call (x := "_law_next") (dvs := []) D__law_next 0 (by decide) (hr.mono (by decide)) rfl tk (la_cons (lm_var 0) (la_cons (lm_var 2) la_nil))) (la_cons (lm_op op_fdivW s_fdiv (lm_op op_mulA s_mulA (lm_call (x := "_law_next") (dvs := []) D__law_next 0 (by decide) (hr.mono (by decide)) rfl tk (la_cons (lm_var 0) (la_cons (lm_op op_pow s_pow (lm_c (.int 10) pe_int) (lm_c (.int 9) pe_int)) la_nil))) (lm_var 2)) (lm_c (.int 7) pe_int)) la_nil))))) (lm_call (x := "_law_next") (dvs := []) D__law_next 0 (by decide) (hr.mono (by decide)) rfl tk (la_cons (lm_var 0) (la_cons (lm_c (.int 4) pe_int) la_nil)))))))))
abbrev s__law_looks : Stmt := topS 29
abbrev N__law_looks : List Str := ["source", "width", "found", "turn"]
theorem S__law_looks : FnScope N__law_looks ["source", "width"] (defScope s__law_looks) := ⟨rfl, rfl, rfl, by decide +kernel, rfl, by decide +kernel, by decide +kernel⟩
theorem ok__law_looks (T : Txt K mg c) (F : FunD K "_law_looks" "_law_looks" (defArgs s__law_looks) (defBody s__law_looks) (defScope s__law_looks) [] [] f fd) (hm : mg "_law_looks" = some (.ref f)) (D__law_gap : ∀ [LamT], Df P w K mg base 3 "_law_gap" 2 [] (m_law_gap c)) (D__law_next : ∀ [LamT], Df P w K mg base 2 "_law_next" 2 [] (m_law_next c)) : ∀ [LamT], Df P w K mg base 4 "_law_looks" 2 [] (m_law_looks c) := by
 intro I
 obtain rfl := T.kk
 exact df0 (N := N__law_looks) (mb := b_law_looks c) F S__law_looks hm (fun _ _ _ _ _ _ us hl => match us, hl with | [_, _], _ => rfl) fun cdv A outer s H E hr tk hp hu =>
 (lss_cons (ls_set (i := 2) S__law_looks.nd rfl (Or.inl rfl) (lm_lst (la_cons (lm_call (x := "_law_gap") (dvs := []) D__law_gap 0 (by decide) (hr.mono (by decide)) rfl tk (la_cons (lm_var 0) (la_cons (lm_var 1) la_nil))) la_nil)))
 (lss_cons (ls_for hp rfl (li_rng1 rfl T.b_range (la_cons (lm_call (x := "_law_next") (dvs := []) D__law_next 0 (by decide) (hr.mono (by decide)) rfl tk (la_cons (lm_var 0) (la_cons (lm_c (.int 12) pe_int) la_nil))) la_nil)) (pg_name (i := 3) S__law_looks.nd rfl (Or.inl rfl)) (sg_nm 3)
 (lss_one (ls_expr (lm_mL PySem.F.slot_list_append PySem.F.type_list_append mt_append s_append (lm_var 2) (la_cons (lm_op op_addA s_add (lm_ix ix_seq s_ix (lm_var 2) (lm_un un_neg s_neg (lm_c (.int 1) pe_int))) (lm_call (x := "_law_gap") (dvs := []) D__law_gap 0 (by decide) (hr.mono (by decide)) rfl tk (la_cons (lm_var 0) (la_cons (lm_var 1) la_nil)))) la_nil)))))
 (lss_one (ls_ret (lm_var 2)))))
abbrev s__law_cell_at : Stmt := topS 24
abbrev N__law_cell_at : List Str := ["script", "k"]
theorem S__law_cell_at : FnScope N__law_cell_at ["script", "k"] (defScope s__law_cell_at) := ⟨rfl, rfl, rfl, by decide +kernel, rfl, by decide +kernel, by decide +kernel⟩
theorem ok__law_cell_at (T : Txt K mg c) (F : FunD K "_law_cell_at" "_law_cell_at" (defArgs s__law_cell_at) (defBody s__law_cell_at) (defScope s__law_cell_at) [] [] f fd) (hm : mg "_law_cell_at" = some (.ref f))  : ∀ [LamT], Df P w K mg base 1 "_law_cell_at" 2 [] (m_law_cell_at c) := by
 intro I
 obtain rfl := T.kk
 exact df0 (N := N__law_cell_at) (mb := b_law_cell_at c) F S__law_cell_at hm (fun _ _ _ _ _ _ us hl => match us, hl with | [_, _], _ => rfl) fun cdv A outer s H E hr tk hp hu =>
 (lss_cons (ls_if (lt_cmp op_lt s_lt (lm_var 1) (lm_callB call_lenA s_len rfl T.b_len (by decide +kernel) (la_cons (lm_var 0) la_nil)))
 (lss_one (ls_ret (lm_ix ix_seq s_ix (lm_var 0) (lm_var 1))))
 lss_nil)
 (lss_one (ls_ret (lm_c (.int 0) pe_int))))
abbrev s__law_source : Stmt := topS 26
abbrev N__law_source : List Str := ["script", "k", "cell"]
theorem S__law_source : FnScope N__law_source ["script", "k"] (defScope s__law_source) := ⟨rfl, rfl, rfl, by decide +kernel, rfl, by decide +kernel, by decide +kernel⟩
theorem ok__law_source (T : Txt K mg c) (F : FunD K "_law_source" "_law_source" (defArgs s__law_source) (defBody s__law_source) (defScope s__law_source) [] [] f fd) (hm : mg "_law_source" = some (.ref f)) (D__law_cell_at : ∀ [LamT], Df P w K mg base 1 "_law_cell_at" 2 [] (m_law_cell_at c)) (D__law_mixed : ∀ [LamT], Df P w K mg base 1 "_law_mixed" 2 [] (m_law_mixed c)) : ∀ [LamT], Df P w K mg base 2 "_law_source" 2 [] (m_law_source c) := by
 intro I
 obtain rfl := T.kk
 exact df0 (N := N__law_source) (mb := b_law_source c) F S__law_source hm (fun _ _ _ _ _ _ us hl => match us, hl with | [_, _], _ => rfl) fun cdv A outer s H E hr tk hp hu =>
 (lss_cons (ls_if (lt_cmp op_lt s_lt (lm_var 1) (lm_callB call_lenA s_len rfl T.b_len (by decide +kernel) (la_cons (lm_var 0) la_nil)))
 (lss_one (ls_ret (lm_lst (la_cons (lm_ix ix_seq s_ix (lm_var 0) (lm_var 1)) (la_cons (lm_ix ix_seq s_ix (lm_var 0) (lm_var 1)) (la_cons (lm_c (.int 0) pe_int) la_nil))))))
 lss_nil)
 (lss_cons (ls_set (i := 2) S__law_source.nd rfl (Or.inl rfl) (lm_call (x := "_law_mixed") (dvs := []) D__law_mixed 0 (by decide) (hr.mono (by decide)) rfl tk (la_cons (lm_call (x := "_law_cell_at") (dvs := []) D__law_cell_at 0 (by decide) (hr.mono (by decide)) rfl tk (la_cons (lm_var 0) (la_cons (lm_c (.int 0) pe_int) la_nil))) (la_cons (lm_op op_addA s_add (lm_c (.int 1000) pe_int) (lm_var 1)) la_nil))))
 (lss_one (ls_ret (lm_lst (la_cons (lm_var 2) (la_cons (lm_var 2) (la_cons (lm_c (.int 0) pe_int) la_nil))))))))
abbrev s__law_width : Stmt := topS 30
abbrev N__law_width : List Str := ["source"]
theorem S__law_width : FnScope N__law_width ["source"] (defScope s__law_width) := ⟨rfl, rfl, rfl, by decide +kernel, rfl, by decide +kernel, by decide +kernel⟩
theorem ok__law_width (T : Txt K mg c) (F : FunD K "_law_width" "_law_width" (defArgs s__law_width) (defBody s__law_width) (defScope s__law_width) [] [] f fd) (hm : mg "_law_width" = some (.ref f)) (D__law_next : ∀ [LamT], Df P w K mg base 2 "_law_next" 2 [] (m_law_next c)) : ∀ [LamT], Df P w K mg base 3 "_law_width" 1 [] (m_law_width c) := by
 intro I
 obtain rfl := T.kk
 exact df0 (N := N__law_width) (mb := b_law_width c) F S__law_width hm (fun _ _ _ _ _ _ us hl => match us, hl with | [_], _ => rfl) fun cdv A outer s H E hr tk hp hu =>
 (lss_one (ls_ret (lm_ix ix_seq s_ix (lm_lst (la_cons (lm_c (.int 1) pe_int) (la_cons (lm_c (.int 2) pe_int) (la_cons (lm_c (.int 3) pe_int) (la_cons (lm_c (.int 4) pe_int) (la_cons (lm_c (.int 8) pe_int) (la_cons (lm_c (.int 16) pe_int) (la_cons (lm_c (.int 32) pe_int) (la_cons (lm_c (.int 63) pe_int) (la_cons (lm_c (.int 64) pe_int) (la_cons (lm_op op_addA s_add (lm_c (.int 1) pe_int) (lm_call (x := "_law_next") (dvs := []) D__law_next 0 (by decide) (hr.mono (by decide)) rfl tk (la_cons (lm_var 0) (la_cons (lm_c (.int 64) pe_int) la_nil)))) la_nil))))))))))) (lm_call (x := "_law_next") (dvs := []) D__law_next 0 (by decide) (hr.mono (by decide)) rfl tk (la_cons (lm_var 0) (la_cons (lm_c (.int 10) pe_int) la_nil))))))
abbrev s_power : Stmt := topS 11
abbrev N_power : List Str := ["number"]
theorem S_power : FnScope N_power ["number"] (defScope s_power) := ⟨rfl, rfl, rfl, by decide +kernel, rfl, by decide +kernel, by decide +kernel⟩
theorem ok_power (T : Txt K mg c) (F : FunD K "power" "power" (defArgs s_power) (defBody s_power) (defScope s_power) [] [] f fd) (hm : mg "power" = some (.ref f))  : ∀ [LamT], Df P w K mg base 1 "power" 1 [] (m_power c) := by
 intro I
 obtain rfl := T.kk
 exact df0 (N := N_power) (mb := b_power c) F S_power hm (fun _ _ _ _ _ _ us hl => match us, hl with | [_], _ => rfl) fun cdv A outer s H E hr tk hp hu =>
 (lss_one (ls_ret (lm_op op_shlW s_shl (lm_c (.int 1) pe_int) (lm_var 0))))
abbrev s_is_whole : Stmt := topS 9
abbrev N_is_whole : List Str := ["thing", "least"]
theorem S_is_whole : FnScope N_is_whole ["thing", "least"] (defScope s_is_whole) := ⟨rfl, rfl, rfl, by decide +kernel, rfl, by decide +kernel, by decide +kernel⟩
theorem ok_is_whole (T : Txt K mg c) (F : FunD K "is_whole" "is_whole" (defArgs s_is_whole) (defBody s_is_whole) (defScope s_is_whole) [V.non] [] f fd) (hm : mg "is_whole" = some (.ref f))  : ∀ [LamT], Df P w K mg base 1 "is_whole" 2 [.non] (m_is_whole c) := by
 intro I
 obtain rfl := T.kk
 exact dfD (N := N_is_whole) (mb := b_is_whole c) F S_is_whole hm rfl rfl rfl (fun j hj => match j, hj with | 0, _ => F.binds1 1 0 (by decide) rfl (fun _ _ _ _ _ _ _ us its h1 h2 => match us, its, h1, h2 with | [_], [_], _, _ => ⟨_, rfl, rfl⟩) | 1, _ => F.binds1 2 1 (by decide) rfl (fun _ _ _ _ _ _ _ us its h1 h2 => match us, its, h1, h2 with | [_, _], [_], _, _ => ⟨_, rfl, rfl⟩)) fun cdv A outer s H E hr tk hp hu =>
 (lss_one (ls_ret (lm_and (lm_callB call_isi s_isi rfl T.b_isinstance (by decide +kernel) (la_cons (lm_var 0) (la_cons (lm_c (.ty "int") (pe_bltn (v := .ty "int") rfl T.b_int (by decide +kernel) rfl)) la_nil))) (lm_and (lm_not (lm_callB call_isi s_isi rfl T.b_isinstance (by decide +kernel) (la_cons (lm_var 0) (la_cons (lm_c (.ty "bool") (pe_bltn (v := .ty "bool") rfl T.b_bool (by decide +kernel) rfl)) la_nil)))) (lm_one (lm_or (lm_cmp op_isN s_isN (lm_var 1) (lm_c .non pe_non)) (lm_one (lm_cmp op_ge s_ge (lm_var 0) (lm_var 1)))))))))
abbrev s_is_cycles : Stmt := topS 10
abbrev N_is_cycles : List Str := ["thing", "least", "one", "other"]
theorem S_is_cycles : FnScope N_is_cycles ["thing", "least"] (defScope s_is_cycles) := ⟨rfl, rfl, rfl, by decide +kernel, rfl, by decide +kernel, by decide +kernel⟩
theorem ok_is_cycles (T : Txt K mg c) (F : FunD K "is_cycles" "is_cycles" (defArgs s_is_cycles) (defBody s_is_cycles) (defScope s_is_cycles) [(V.int 0)] [] f fd) (hm : mg "is_cycles" = some (.ref f)) (D_is_whole : ∀ [LamT], Df P w K mg base 1 "is_whole" 2 [.non] (m_is_whole c)) : ∀ [LamT], Df P w K mg base 2 "is_cycles" 2 [(.int 0)] (m_is_cycles c) := by
 intro I
 obtain rfl := T.kk
 exact dfD (N := N_is_cycles) (mb := b_is_cycles c) F S_is_cycles hm rfl rfl rfl (fun j hj => match j, hj with | 0, _ => F.binds1 1 0 (by decide) rfl (fun _ _ _ _ _ _ _ us its h1 h2 => match us, its, h1, h2 with | [_], [_], _, _ => ⟨_, rfl, rfl⟩) | 1, _ => F.binds1 2 1 (by decide) rfl (fun _ _ _ _ _ _ _ us its h1 h2 => match us, its, h1, h2 with | [_, _], [_], _, _ => ⟨_, rfl, rfl⟩)) fun cdv A outer s H E hr tk hp hu =>
 (lss_cons (ls_if (PW.pt (lw_or (lt_not (lt_val (lm_callB call_isi s_isi rfl T.b_isinstance (by decide +kernel) (la_cons (lm_var 0) (la_cons (lm_c (.ty "list") (pe_bltn (v := .ty "list") rfl T.b_list (by decide +kernel) rfl)) la_nil))))) (lw_or1 (lt_not (lt_val (lm_callB (cr_all rfl) s_all rfl T.b_all (by decide +kernel) (la_cons (lm_lc (own := [("one", 2)]) rfl S_is_cycles.nd (li_lst (lm_var 0)) (blkOk_by (own := [("one", 2)]) (N := N_is_cycles) (sc := defScope s_is_cycles) (by decide +kernel)) (sg_nm 2) (by decide) (fun _ _ _ _ _ => (pg_name (i := 2) S_is_cycles.nd rfl (Or.inl rfl))) (fun _ _ _ _ _ => lts_nil) (fun _ _ _ _ _ => (lm_call (x := "is_whole") (dvs := [.non]) D_is_whole 1 (by decide) (hr.mono (by decide)) rfl takes0 (la_cons (lm_var 2) (la_cons (lm_var 1) la_nil))))) la_nil)))))))
 (lss_one (ls_ret (lm_c (.bl false) pe_bl)))
 lss_nil)
 (lss_one (ls_ret (lm_callB (cr_all rfl) s_all rfl T.b_all (by decide +kernel) (la_cons (lm_lc (own := [("one", 2), ("other", 3)]) rfl S_is_cycles.nd (li_zip rfl T.b_zip (la_cons (lm_var 0) (la_cons (lm_sl (lm_var 0) (lo_some (lm_c (.int 1) pe_int)) lo_none) la_nil))) (blkOk_by (own := [("one", 2), ("other", 3)]) (N := N_is_cycles) (sc := defScope s_is_cycles) (by decide +kernel)) (sg_tup (sg_cons (sg_nm 2) (sg_cons (sg_nm 3) sg_nil))) (by decide) (fun _ _ _ _ _ => (pg_tup rfl (pgs_cons (pg_name (i := 2) S_is_cycles.nd rfl (Or.inl rfl)) (pgs_cons (pg_name (i := 3) S_is_cycles.nd rfl (Or.inl rfl)) pgs_nil)))) (fun _ _ _ _ _ => lts_nil) (fun _ _ _ _ _ => (lm_cmp op_le s_le (lm_var 2) (lm_var 3)))) la_nil)))))
abbrev s_check_looks : Stmt := topS 16
abbrev N_check_looks : List Str := ["looks"]
theorem S_check_looks : FnScope N_check_looks ["looks"] (defScope s_check_looks) := ⟨rfl, rfl, rfl, by decide +kernel, rfl, by decide +kernel, by decide +kernel⟩
theorem ok_check_looks (T : Txt K mg c) (F : FunD K "check_looks" "check_looks" (defArgs s_check_looks) (defBody s_check_looks) (defScope s_check_looks) [] [] f fd) (hm : mg "check_looks" = some (.ref f)) (D_is_cycles : ∀ [LamT], Df P w K mg base 2 "is_cycles" 2 [(.int 0)] (m_is_cycles c)) : ∀ [LamT], Df P w K mg base 3 "check_looks" 1 [] (m_check_looks c) := by
 intro I
 obtain rfl := T.kk
 exact df0 (N := N_check_looks) (mb := b_check_looks c) F S_check_looks hm (fun _ _ _ _ _ _ us hl => match us, hl with | [_], _ => rfl) fun cdv A outer s H E hr tk hp hu =>
 (lss_one (ls_if (PW.pt (lw_or (lt_not (lt_val (lm_call (x := "is_cycles") (dvs := [(.int 0)]) D_is_cycles 0 (by decide) (hr.mono (by decide)) rfl tk (la_cons (lm_var 0) la_nil)))) (lw_or1 (lt_cmp (op_eqX hu) s_eq (lm_var 0) (lm_lst la_nil)))))
 (lss_one (ls_raise rfl tk PySem.F.excBase_ValueError T.x_NoLooks.q T.x_NoLooks.g T.x_NoLooks.k (raises_own T.x_NoLooks.b T.x_NoLooks.t) rfl))
 lss_nil))
abbrev s_check_width : Stmt := topS 14
abbrev N_check_width : List Str := ["width"]
theorem S_check_width : FnScope N_check_width ["width"] (defScope s_check_width) := ⟨rfl, rfl, rfl, by decide +kernel, rfl, by decide +kernel, by decide +kernel⟩
theorem ok_check_width (T : Txt K mg c) (F : FunD K "check_width" "check_width" (defArgs s_check_width) (defBody s_check_width) (defScope s_check_width) [] [] f fd) (hm : mg "check_width" = some (.ref f)) (D_is_whole : ∀ [LamT], Df P w K mg base 1 "is_whole" 2 [.non] (m_is_whole c)) : ∀ [LamT], Df P w K mg base 2 "check_width" 1 [] (m_check_width c) := by
 intro I
 obtain rfl := T.kk
 exact df0 (N := N_check_width) (mb := b_check_width c) F S_check_width hm (fun _ _ _ _ _ _ us hl => match us, hl with | [_], _ => rfl) fun cdv A outer s H E hr tk hp hu =>
 (lss_one (ls_if (PW.pt (lw_or (lt_not (lt_val (lm_call (x := "is_whole") (dvs := [.non]) D_is_whole 1 (by decide) (hr.mono (by decide)) rfl tk (la_cons (lm_var 0) (la_cons (lm_c (.int 1) pe_int) la_nil))))) (lw_or1 (lt_cmp op_gt s_gt (lm_var 0) (lm_c (.int 64) (lg_glob T.g_MOST_WIDTH rfl))))))
 (lss_one (ls_raise rfl tk PySem.F.excBase_ValueError T.x_NoWidth.q T.x_NoWidth.g T.x_NoWidth.k (raises_own T.x_NoWidth.b T.x_NoWidth.t) rfl))
 lss_nil))
abbrev s_shown : Stmt := topS 17
abbrev N_shown : List Str := ["width", "looks", "look"]
theorem S_shown : FnScope N_shown ["width", "looks"] (defScope s_shown) := ⟨rfl, rfl, rfl, by decide +kernel, rfl, by decide +kernel, by decide +kernel⟩
theorem ok_shown (T : Txt K mg c) (F : FunD K "shown" "shown" (defArgs s_shown) (defBody s_shown) (defScope s_shown) [] [] f fd) (hm : mg "shown" = some (.ref f)) (D_check_looks : ∀ [LamT], Df P w K mg base 3 "check_looks" 1 [] (m_check_looks c)) (D_check_width : ∀ [LamT], Df P w K mg base 2 "check_width" 1 [] (m_check_width c)) (D_power : ∀ [LamT], Df P w K mg base 1 "power" 1 [] (m_power c)) : ∀ [LamT], Df P w K mg base 4 "shown" 2 [] (m_shown c) := by
 intro I
 obtain rfl := T.kk
 exact df0 (N := N_shown) (mb := b_shown c) F S_shown hm (fun _ _ _ _ _ _ us hl => match us, hl with | [_, _], _ => rfl) fun cdv A outer s H E hr tk hp hu =>
 (lss_cons (ls_expr (lm_call (x := "check_width") (dvs := []) D_check_width 0 (by decide) (hr.mono (by decide)) rfl tk (la_cons (lm_var 0) la_nil)))
 (lss_cons (ls_expr (lm_call (x := "check_looks") (dvs := []) D_check_looks 0 (by decide) (hr.mono (by decide)) rfl tk (la_cons (lm_var 1) la_nil)))
 (lss_one (ls_ret (lm_lc (own := [("look", 2)]) rfl S_shown.nd (li_lst (lm_var 1)) (blkOk_by (own := [("look", 2)]) (N := N_shown) (sc := defScope s_shown) (by decide +kernel)) (sg_nm 2) (by decide) (fun _ _ _ _ _ => (pg_name (i := 2) S_shown.nd rfl (Or.inl rfl))) (fun _ _ _ _ _ => lts_nil) (fun _ _ _ _ _ => (lm_op op_mod s_mod (lm_var 2) (lm_call (x := "power") (dvs := []) D_power 0 (by decide) (hr.mono (by decide)) rfl takes0 (la_cons (lm_var 0) la_nil)))))))))
abbrev s_counted : Stmt := topS 18
abbrev N_counted : List Str := ["width", "looks", "values", "value", "later"]
theorem S_counted : FnScope N_counted ["width", "looks"] (defScope s_counted) := ⟨rfl, rfl, rfl, by decide +kernel, rfl, by decide +kernel, by decide +kernel⟩
theorem ok_counted (T : Txt K mg c) (F : FunD K "counted" "counted" (defArgs s_counted) (defBody s_counted) (defScope s_counted) [] [] f fd) (hm : mg "counted" = some (.ref f)) (D_power : ∀ [LamT], Df P w K mg base 1 "power" 1 [] (m_power c)) (D_shown : ∀ [LamT], Df P w K mg base 4 "shown" 2 [] (m_shown c)) : ∀ [LamT], Df P w K mg base 5 "counted" 2 [] (m_counted c) := by
 intro I
 obtain rfl := T.kk
 exact df0 (N := N_counted) (mb := b_counted c) F S_counted hm (fun _ _ _ _ _ _ us hl => match us, hl with | [_, _], _ => rfl) fun cdv A outer s H E hr tk hp hu =>
 (lss_cons (ls_set (i := 2) S_counted.nd rfl (Or.inl rfl) (lm_call (x := "shown") (dvs := []) D_shown 0 (by decide) (hr.mono (by decide)) rfl tk (la_cons (lm_var 0) (la_cons (lm_var 1) la_nil))))
 (lss_one (ls_ret (lm_callB (cr_sum rfl) s_sum rfl T.b_sum (by decide +kernel) (la_cons (lm_lc (own := [("value", 3), ("later", 4)]) rfl S_counted.nd (li_zip rfl T.b_zip (la_cons (lm_var 2) (la_cons (lm_sl (lm_var 2) (lo_some (lm_c (.int 1) pe_int)) lo_none) la_nil))) (blkOk_by (own := [("value", 3), ("later", 4)]) (N := N_counted) (sc := defScope s_counted) (by decide +kernel)) (sg_tup (sg_cons (sg_nm 3) (sg_cons (sg_nm 4) sg_nil))) (by decide) (fun _ _ _ _ _ => (pg_tup rfl (pgs_cons (pg_name (i := 3) S_counted.nd rfl (Or.inl rfl)) (pgs_cons (pg_name (i := 4) S_counted.nd rfl (Or.inl rfl)) pgs_nil)))) (fun _ _ _ _ _ => lts_nil) (fun _ _ _ _ _ => (lm_op op_mod s_mod (lm_op op_sub s_sub (lm_var 4) (lm_var 3)) (lm_call (x := "power") (dvs := []) D_power 0 (by decide) (hr.mono (by decide)) rfl takes0 (la_cons (lm_var 0) la_nil))))) la_nil)))))
abbrev s_check_cycle : Stmt := topS 15
abbrev N_check_cycle : List Str := ["cycle", "least"]
theorem S_check_cycle : FnScope N_check_cycle ["cycle", "least"] (defScope s_check_cycle) := ⟨rfl, rfl, rfl, by decide +kernel, rfl, by decide +kernel, by decide +kernel⟩
theorem ok_check_cycle (T : Txt K mg c) (F : FunD K "check_cycle" "check_cycle" (defArgs s_check_cycle) (defBody s_check_cycle) (defScope s_check_cycle) [(V.int 0)] [] f fd) (hm : mg "check_cycle" = some (.ref f)) (D_is_whole : ∀ [LamT], Df P w K mg base 1 "is_whole" 2 [.non] (m_is_whole c)) : ∀ [LamT], Df P w K mg base 2 "check_cycle" 2 [(.int 0)] (m_check_cycle c) := by
 intro I
 obtain rfl := T.kk
 exact dfD (N := N_check_cycle) (mb := b_check_cycle c) F S_check_cycle hm rfl rfl rfl (fun j hj => match j, hj with | 0, _ => F.binds1 1 0 (by decide) rfl (fun _ _ _ _ _ _ _ us its h1 h2 => match us, its, h1, h2 with | [_], [_], _, _ => ⟨_, rfl, rfl⟩) | 1, _ => F.binds1 2 1 (by decide) rfl (fun _ _ _ _ _ _ _ us its h1 h2 => match us, its, h1, h2 with | [_, _], [_], _, _ => ⟨_, rfl, rfl⟩)) fun cdv A outer s H E hr tk hp hu =>
 (lss_one (ls_if (lt_not (lt_val (lm_call (x := "is_whole") (dvs := [.non]) D_is_whole 1 (by decide) (hr.mono (by decide)) rfl tk (la_cons (lm_var 0) (la_cons (lm_var 1) la_nil)))))
 (lss_one (ls_raise rfl tk PySem.F.excBase_ValueError T.x_NoCycle.q T.x_NoCycle.g T.x_NoCycle.k (raises_own T.x_NoCycle.b T.x_NoCycle.t) rfl))
 lss_nil))
abbrev s_check_values : Stmt := topS 20
abbrev N_check_values : List Str := ["width", "values", "one"]
theorem S_check_values : FnScope N_check_values ["width", "values"] (defScope s_check_values) := ⟨rfl, rfl, rfl, by decide +kernel, rfl, by decide +kernel, by decide +kernel⟩
theorem ok_check_values (T : Txt K mg c) (F : FunD K "check_values" "check_values" (defArgs s_check_values) (defBody s_check_values) (defScope s_check_values) [] [] f fd) (hm : mg "check_values" = some (.ref f)) (D_check_width : ∀ [LamT], Df P w K mg base 2 "check_width" 1 [] (m_check_width c)) (D_is_whole : ∀ [LamT], Df P w K mg base 1 "is_whole" 2 [.non] (m_is_whole c)) (D_power : ∀ [LamT], Df P w K mg base 1 "power" 1 [] (m_power c)) : ∀ [LamT], Df P w K mg base 3 "check_values" 2 [] (m_check_values c) := by
 intro I
 obtain rfl := T.kk
 exact df0 (N := N_check_values) (mb := b_check_values c) F S_check_values hm (fun _ _ _ _ _ _ us hl => match us, hl with | [_, _], _ => rfl) fun cdv A outer s H E hr tk hp hu =>
 (lss_cons (ls_expr (lm_call (x := "check_width") (dvs := []) D_check_width 0 (by decide) (hr.mono (by decide)) rfl tk (la_cons (lm_var 0) la_nil)))
 (lss_cons (ls_if (PW.pt (lw_or (lt_not (lt_val (lm_callB call_isi s_isi rfl T.b_isinstance (by decide +kernel) (la_cons (lm_var 1) (la_cons (lm_c (.ty "list") (pe_bltn (v := .ty "list") rfl T.b_list (by decide +kernel) rfl)) la_nil))))) (lw_or (lt_cmp (op_eqX hu) s_eq (lm_var 1) (lm_lst la_nil)) (lw_or1 (lt_not (lt_val (lm_callB (cr_all rfl) s_all rfl T.b_all (by decide +kernel) (la_cons (lm_lc (own := [("one", 2)]) rfl S_check_values.nd (li_lst (lm_var 1)) (blkOk_by (own := [("one", 2)]) (N := N_check_values) (sc := defScope s_check_values) (by decide +kernel)) (sg_nm 2) (by decide) (fun _ _ _ _ _ => (pg_name (i := 2) S_check_values.nd rfl (Or.inl rfl))) (fun _ _ _ _ _ => lts_nil) (fun _ _ _ _ _ => (lm_call (x := "is_whole") (dvs := [.non]) D_is_whole 1 (by decide) (hr.mono (by decide)) rfl takes0 (la_cons (lm_var 2) (la_cons (lm_c (.int 0) pe_int) la_nil))))) la_nil))))))))
 (lss_one (ls_raise rfl tk PySem.F.excBase_ValueError T.x_NoLooks.q T.x_NoLooks.g T.x_NoLooks.k (raises_own T.x_NoLooks.b T.x_NoLooks.t) rfl))
 lss_nil)
 (lss_one (ls_if (lt_not (lt_val (lm_callB (cr_all rfl) s_all rfl T.b_all (by decide +kernel) (la_cons (lm_lc (own := [("one", 2)]) rfl S_check_values.nd (li_lst (lm_var 1)) (blkOk_by (own := [("one", 2)]) (N := N_check_values) (sc := defScope s_check_values) (by decide +kernel)) (sg_nm 2) (by decide) (fun _ _ _ _ _ => (pg_name (i := 2) S_check_values.nd rfl (Or.inl rfl))) (fun _ _ _ _ _ => lts_nil) (fun _ _ _ _ _ => (lm_cmp op_lt s_lt (lm_var 2) (lm_call (x := "power") (dvs := []) D_power 0 (by decide) (hr.mono (by decide)) rfl takes0 (la_cons (lm_var 0) la_nil))))) la_nil))))
 (lss_one (ls_raise rfl tk PySem.F.excBase_ValueError T.x_NoLooks.q T.x_NoLooks.g T.x_NoLooks.k (raises_own T.x_NoLooks.b T.x_NoLooks.t) rfl))
 lss_nil))))
abbrev s_least_history : Stmt := topS 21
abbrev N_least_history : List Str := ["width", "values", "found", "value"]
theorem S_least_history : FnScope N_least_history ["width", "values"] (defScope s_least_history) := ⟨rfl, rfl, rfl, by decide +kernel, rfl, by decide +kernel, by decide +kernel⟩
theorem ok_least_history (T : Txt K mg c) (F : FunD K "least_history" "least_history" (defArgs s_least_history) (defBody s_least_history) (defScope s_least_history) [] [] f fd) (hm : mg "least_history" = some (.ref f)) (D_check_values : ∀ [LamT], Df P w K mg base 3 "check_values" 2 [] (m_check_values c)) (D_power : ∀ [LamT], Df P w K mg base 1 "power" 1 [] (m_power c)) : ∀ [LamT], Df P w K mg base 4 "least_history" 2 [] (m_least_history c) := by
 intro I
 obtain rfl := T.kk
 exact df0 (N := N_least_history) (mb := b_least_history c) F S_least_history hm (fun _ _ _ _ _ _ us hl => match us, hl with | [_, _], _ => rfl) fun cdv A outer s H E hr tk hp hu =>
 (lss_cons (ls_expr (lm_call (x := "check_values") (dvs := []) D_check_values 0 (by decide) (hr.mono (by decide)) rfl tk (la_cons (lm_var 0) (la_cons (lm_var 1) la_nil))))
 (lss_cons (ls_set (i := 2) S_least_history.nd rfl (Or.inl rfl) (lm_lst (la_cons (lm_ix ix_seq s_ix (lm_var 1) (lm_c (.int 0) pe_int)) la_nil)))
 (lss_cons (ls_for hp rfl (li_lst (lm_sl (lm_var 1) (lo_some (lm_c (.int 1) pe_int)) lo_none)) (pg_name (i := 3) S_least_history.nd rfl (Or.inl rfl)) (sg_nm 3)
 (lss_one (ls_expr (lm_mL PySem.F.slot_list_append PySem.F.type_list_append mt_append s_append (lm_var 2) (la_cons (lm_op op_addA s_add (lm_ix ix_seq s_ix (lm_var 2) (lm_un un_neg s_neg (lm_c (.int 1) pe_int))) (lm_op op_mod s_mod (lm_op op_sub s_sub (lm_var 3) (lm_ix ix_seq s_ix (lm_var 2) (lm_un un_neg s_neg (lm_c (.int 1) pe_int)))) (lm_call (x := "power") (dvs := []) D_power 0 (by decide) (hr.mono (by decide)) rfl tk (la_cons (lm_var 0) la_nil)))) la_nil)))))
 (lss_one (ls_ret (lm_var 2))))))
abbrev s_histories_many : Stmt := topS 22
abbrev N_histories_many : List Str := ["width", "values", "last", "free", "found", "number"]
theorem S_histories_many : FnScope N_histories_many ["width", "values", "last"] (defScope s_histories_many) := ⟨rfl, rfl, rfl, by decide +kernel, rfl, by decide +kernel, by decide +kernel⟩
theorem ok_histories_many (T : Txt K mg c) (F : FunD K "histories_many" "histories_many" (defArgs s_histories_many) (defBody s_histories_many) (defScope s_histories_many) [] [] f fd) (hm : mg "histories_many" = some (.ref f)) (D_check_cycle : ∀ [LamT], Df P w K mg base 2 "check_cycle" 2 [(.int 0)] (m_check_cycle c)) (D_check_values : ∀ [LamT], Df P w K mg base 3 "check_values" 2 [] (m_check_values c)) (D_least_history : ∀ [LamT], Df P w K mg base 4 "least_history" 2 [] (m_least_history c)) (D_power : ∀ [LamT], Df P w K mg base 1 "power" 1 [] (m_power c)) : ∀ [LamT], Df P w K mg base 5 "histories_many" 3 [] (m_histories_many c) := by
 intro I
 obtain rfl := T.kk
 exact df0 (N := N_histories_many) (mb := b_histories_many c) F S_histories_many hm (fun _ _ _ _ _ _ us hl => match us, hl with | [_, _, _], _ => rfl) fun cdv A outer s H E hr tk hp hu =>
 (lss_cons (ls_expr (lm_call (x := "check_values") (dvs := []) D_check_values 0 (by decide) (hr.mono (by decide)) rfl tk (la_cons (lm_var 0) (la_cons (lm_var 1) la_nil))))
 (lss_cons (ls_expr (lm_call (x := "check_cycle") (dvs := [(.int 0)]) D_check_cycle 0 (by decide) (hr.mono (by decide)) rfl tk (la_cons (lm_var 2) la_nil)))
 (lss_cons (ls_set (i := 3) S_histories_many.nd rfl (Or.inl rfl) (lm_op op_fdivW s_fdiv (lm_op op_sub s_sub (lm_var 2) (lm_ix ix_seq s_ix (lm_call (x := "least_history") (dvs := []) D_least_history 0 (by decide) (hr.mono (by decide)) rfl tk (la_cons (lm_var 0) (la_cons (lm_var 1) la_nil))) (lm_un un_neg s_neg (lm_c (.int 1) pe_int)))) (lm_call (x := "power") (dvs := []) D_power 0 (by decide) (hr.mono (by decide)) rfl tk (la_cons (lm_var 0) la_nil))))
 (lss_cons (ls_if (lt_cmp op_lt s_lt (lm_var 3) (lm_c (.int 0) pe_int))
 (lss_one (ls_ret (lm_c (.int 0) pe_int)))
 lss_nil)
 (lss_cons (ls_set (i := 4) S_histories_many.nd rfl (Or.inl rfl) (lm_c (.int 1) pe_int))
 (lss_cons (ls_for hp rfl (li_rng2 rfl T.b_range (la_cons (lm_c (.int 1) pe_int) (la_cons (lm_op op_addA s_add (lm_callB call_lenA s_len rfl T.b_len (by decide +kernel) (la_cons (lm_var 1) la_nil)) (lm_c (.int 1) pe_int)) la_nil))) (pg_name (i := 5) S_histories_many.nd rfl (Or.inl rfl)) (sg_nm 5)
 (lss_one (ls_set (i := 4) S_histories_many.nd rfl (Or.inl rfl) (lm_op op_fdivW s_fdiv (lm_op op_mulA s_mulA (lm_var 4) (lm_op op_addA s_add (lm_var 3) (lm_var 5))) (lm_var 5)))))
 (lss_one (ls_ret (lm_var 4)))))))))
abbrev s_lost : Stmt := topS 19
abbrev N_lost : List Str := ["width", "looks", "found", "index", "gap"]
theorem S_lost : FnScope N_lost ["width", "looks"] (defScope s_lost) := ⟨rfl, rfl, rfl, by decide +kernel, rfl, by decide +kernel, by decide +kernel⟩
theorem ok_lost (T : Txt K mg c) (F : FunD K "lost" "lost" (defArgs s_lost) (defBody s_lost) (defScope s_lost) [] [] f fd) (hm : mg "lost" = some (.ref f)) (D_check_looks : ∀ [LamT], Df P w K mg base 3 "check_looks" 1 [] (m_check_looks c)) (D_check_width : ∀ [LamT], Df P w K mg base 2 "check_width" 1 [] (m_check_width c)) (D_power : ∀ [LamT], Df P w K mg base 1 "power" 1 [] (m_power c)) : ∀ [LamT], Df P w K mg base 4 "lost" 2 [] (m_lost c) := by
 intro I
 obtain rfl := T.kk
 exact df0 (N := N_lost) (mb := b_lost c) F S_lost hm (fun _ _ _ _ _ _ us hl => match us, hl with | [_, _], _ => rfl) fun cdv A outer s H E hr tk hp hu =>
 (lss_cons (ls_expr (lm_call (x := "check_width") (dvs := []) D_check_width 0 (by decide) (hr.mono (by decide)) rfl tk (la_cons (lm_var 0) la_nil)))
 (lss_cons (ls_expr (lm_call (x := "check_looks") (dvs := []) D_check_looks 0 (by decide) (hr.mono (by decide)) rfl tk (la_cons (lm_var 1) la_nil)))
 (lss_cons (ls_set (i := 2) S_lost.nd rfl (Or.inl rfl) (lm_lst la_nil))
 (lss_cons (ls_for hp rfl (li_rng2 rfl T.b_range (la_cons (lm_c (.int 1) pe_int) (la_cons (lm_callB call_lenA s_len rfl T.b_len (by decide +kernel) (la_cons (lm_var 1) la_nil)) la_nil))) (pg_name (i := 3) S_lost.nd rfl (Or.inl rfl)) (sg_nm 3)
 (lss_cons (ls_set (i := 4) S_lost.nd rfl (Or.inl rfl) (lm_op op_sub s_sub (lm_ix ix_seq s_ix (lm_var 1) (lm_var 3)) (lm_ix ix_seq s_ix (lm_var 1) (lm_op op_sub s_sub (lm_var 3) (lm_c (.int 1) pe_int)))))
 (lss_one (ls_if (lt_cmp op_ge s_ge (lm_var 4) (lm_call (x := "power") (dvs := []) D_power 0 (by decide) (hr.mono (by decide)) rfl tk (la_cons (lm_var 0) la_nil)))
 (lss_one (ls_expr (lm_mL PySem.F.slot_list_append PySem.F.type_list_append mt_append s_append (lm_var 2) (la_cons (lm_tup (la_cons (lm_var 3) (la_cons (lm_op op_sub s_sub (lm_var 4) (lm_op op_mod s_mod (lm_var 4) (lm_call (x := "power") (dvs := []) D_power 0 (by decide) (hr.mono (by decide)) rfl tk (la_cons (lm_var 0) la_nil)))) la_nil))) la_nil))))
 lss_nil))))
 (lss_one (ls_ret (lm_var 2)))))))
abbrev s__law_word : Stmt := topS 31
abbrev N__law_word : List Str := ["way", "width", "some", "last", "e", "marks"]
theorem S__law_word : FnScope N__law_word ["way", "width", "some", "last"] (defScope s__law_word) := ⟨rfl, rfl, rfl, by decide +kernel, rfl, by decide +kernel, by decide +kernel⟩
theorem ok__law_word (T : Txt K mg c) (F : FunD K "_law_word" "_law_word" (defArgs s__law_word) (defBody s__law_word) (defScope s__law_word) [] [] f fd) (hm : mg "_law_word" = some (.ref f)) (D_counted : ∀ [LamT], Df P w K mg base 5 "counted" 2 [] (m_counted c)) (D_histories_many : ∀ [LamT], Df P w K mg base 5 "histories_many" 3 [] (m_histories_many c)) (D_least_history : ∀ [LamT], Df P w K mg base 4 "least_history" 2 [] (m_least_history c)) (D_lost : ∀ [LamT], Df P w K mg base 4 "lost" 2 [] (m_lost c)) (D_shown : ∀ [LamT], Df P w K mg base 4 "shown" 2 [] (m_shown c)) : ∀ [LamT], Df P w K mg base 6 "_law_word" 4 [] (m_law_word c) := by
 intro I
 obtain rfl := T.kk
 exact df0 (N := N__law_word) (mb := b_law_word c) F S__law_word hm (fun _ _ _ _ _ _ us hl => match us, hl with | [_, _, _, _], _ => rfl) fun cdv A outer s H E hr tk hp hu =>
 (lss_cons (ls_try (i := 4) rfl rfl S__law_word.nd rfl rfl ⟨rfl, by decide, .inl T.x_KernelError.g⟩ tk (fun W pn xe tk' hp' => (lss_one (ls_if (lt_cmp (op_eqX hu) s_eq (lm_var 0) (lm_c (.int 0) pe_int))
 (lss_one (ls_expr (lm_call (x := "shown") (dvs := []) D_shown 0 (by decide) (hr.mono (by decide)) rfl tk' (la_cons (lm_var 1) (la_cons (lm_var 2) la_nil)))))
 (lss_one (ls_if (lt_cmp (op_eqX hu) s_eq (lm_var 0) (lm_c (.int 1) pe_int))
 (lss_one (ls_expr (lm_call (x := "counted") (dvs := []) D_counted 0 (by decide) (hr.mono (by decide)) rfl tk' (la_cons (lm_var 1) (la_cons (lm_var 2) la_nil)))))
 (lss_one (ls_if (lt_cmp (op_eqX hu) s_eq (lm_var 0) (lm_c (.int 2) pe_int))
 (lss_one (ls_expr (lm_call (x := "lost") (dvs := []) D_lost 0 (by decide) (hr.mono (by decide)) rfl tk' (la_cons (lm_var 1) (la_cons (lm_var 2) la_nil)))))
 (lss_one (ls_if (lt_cmp (op_eqX hu) s_eq (lm_var 0) (lm_c (.int 3) pe_int))
 (lss_one (ls_expr (lm_call (x := "least_history") (dvs := []) D_least_history 0 (by decide) (hr.mono (by decide)) rfl tk' (la_cons (lm_var 1) (la_cons (lm_var 2) la_nil)))))
 (lss_one (ls_expr (lm_call (x := "histories_many") (dvs := []) D_histories_many 0 (by decide) (hr.mono (by decide)) rfl tk' (la_cons (lm_var 1) (la_cons (lm_var 2) (la_cons (lm_var 3) la_nil)))))))))))))))
 (fun ea ec oe pn hz hd => (lss_cons (ls_set (i := 5) S__law_word.nd rfl (Or.inl rfl) (lm_lst (la_cons (lm_callB (call_isEA hz hd) s_isE rfl T.b_isinstance (by decide +kernel) (la_cons (lm_var 4) (la_cons (lm_c (.gl c.NoWidth) (lg_glob (v := V.ref c.NoWidth) ⟨_, T.x_NoWidth.g, rfl⟩ rfl)) la_nil))) (la_cons (lm_callB (call_isEA hz hd) s_isE rfl T.b_isinstance (by decide +kernel) (la_cons (lm_var 4) (la_cons (lm_c (.gl c.NoLooks) (lg_glob (v := V.ref c.NoLooks) ⟨_, T.x_NoLooks.g, rfl⟩ rfl)) la_nil))) (la_cons (lm_callB (call_isEA hz hd) s_isE rfl T.b_isinstance (by decide +kernel) (la_cons (lm_var 4) (la_cons (lm_c (.gl c.NoCycle) (lg_glob (v := V.ref c.NoCycle) ⟨_, T.x_NoCycle.g, rfl⟩ rfl)) la_nil))) (la_cons (lm_callB (call_isEA hz hd) s_isE rfl T.b_isinstance (by decide +kernel) (la_cons (lm_var 4) (la_cons (lm_c (.gl c.NoRate) (lg_glob (v := V.ref c.NoRate) ⟨_, T.x_NoRate.g, rfl⟩ rfl)) la_nil))) la_nil))))))
 (lss_cons (ls_set (i := 5) S__law_word.nd rfl (Or.inl rfl) (lm_op op_addA s_add (lm_var 5) (lm_lst (la_cons (lm_callB (call_isEA hz hd) s_isE rfl T.b_isinstance (by decide +kernel) (la_cons (lm_var 4) (la_cons (lm_c (.gl c.NoReading) (lg_glob (v := V.ref c.NoReading) ⟨_, T.x_NoReading.g, rfl⟩ rfl)) la_nil))) (la_cons (lm_callB (call_isEA hz hd) s_isE rfl T.b_isinstance (by decide +kernel) (la_cons (lm_var 4) (la_cons (lm_c (.gl c.TooMany) (lg_glob (v := V.ref c.TooMany) ⟨_, T.x_TooMany.g, rfl⟩ rfl)) la_nil))) la_nil)))))
 (lss_cons (ls_if (PW.pt (lw_or (lt_cmp (op_neX hu) s_ne (lm_mL PySem.F.slot_list_count PySem.F.type_list_count mt_count s_count (lm_var 5) (la_cons (lm_c (.bl true) pe_bl) la_nil)) (lm_c (.int 1) pe_int)) (lw_or1 (lt_not (lt_val (lm_callB (call_isEA hz hd) s_isE rfl T.b_isinstance (by decide +kernel) (la_cons (lm_var 4) (la_cons (lm_c (.ty "ValueError") (pe_bltn (v := .ty "ValueError") rfl T.b_ValueError (by decide +kernel) rfl)) la_nil))))))))
 (lss_one (ls_ret (lm_c (.str "several") pe_str)))
 lss_nil)
 (lss_one (ls_ret (lm_ix ix_seq s_ix (lm_lst (la_cons (lm_c (.str "width") pe_str) (la_cons (lm_c (.str "looks") pe_str) (la_cons (lm_c (.str "cycle") pe_str) (la_cons (lm_c (.str "rate") pe_str) (la_cons (lm_c (.str "reading") pe_str) (la_cons (lm_c (.str "many") pe_str) la_nil))))))) (lm_mL PySem.F.slot_list_index PySem.F.type_list_index mt_index s_index (lm_var 5) (la_cons (lm_c (.bl true) pe_bl) la_nil))))))))))
 (lss_one (ls_ret (lm_c (.str "none") pe_str))))
abbrev s_law : Stmt := topS 33
abbrev N_law : List Str := ["script", "k", "source", "width", "looks", "values", "no_width", "no_cycle", "fallen", "kept", "way", "good", "bad", "turn"]
theorem S_law : FnScope N_law ["script"] (defScope s_law) := ⟨rfl, rfl, rfl, by decide +kernel, rfl, by decide +kernel, by decide +kernel⟩
theorem ok_law (T : Txt K mg c) (F : FunD K "law" "law" (defArgs s_law) (defBody s_law) (defScope s_law) [] [] f fd) (D__law_bad_list : ∀ [LamT], Df P w K mg base 3 "_law_bad_list" 3 [] (m_law_bad_list c)) (D__law_looks : ∀ [LamT], Df P w K mg base 4 "_law_looks" 2 [] (m_law_looks c)) (D__law_next : ∀ [LamT], Df P w K mg base 2 "_law_next" 2 [] (m_law_next c)) (D__law_source : ∀ [LamT], Df P w K mg base 2 "_law_source" 2 [] (m_law_source c)) (D__law_width : ∀ [LamT], Df P w K mg base 3 "_law_width" 1 [] (m_law_width c)) (D__law_word : ∀ [LamT], Df P w K mg base 6 "_law_word" 4 [] (m_law_word c)) : ∀ [LamT], FnOk P w K mg base (L2.CX P w) 7 f fd ["script"] (spM K 1 (m_law c)) := by
 intro I
 obtain rfl := T.kk
 exact df_fn2 (N := N_law) (ps := ["script"]) (k := 6) (mb := b_law c) F S_law fun cdv A outer s H E hr tk hp hu =>
 (lss_cons (ls_for hp rfl (li_rng1 rfl T.b_range (la_cons (lm_callB (call_max2 rfl) s_max2 rfl T.b_max (by decide +kernel) (la_cons (lm_c (.int 1) pe_int) (la_cons (lm_callB (call_min2 rfl) s_min2 rfl T.b_min (by decide +kernel) (la_cons (lm_c (.int 8) pe_int) (la_cons (lm_callB call_lenA s_len rfl T.b_len (by decide +kernel) (la_cons (lm_var 0) la_nil)) la_nil))) la_nil))) la_nil)) (pg_name (i := 1) S_law.nd rfl (Or.inl rfl)) (sg_nm 1)
 (lss_cons (ls_set (i := 2) S_law.nd rfl (Or.inr rfl) (lm_call (x := "_law_source") (dvs := []) D__law_source 0 (by decide) (hr.mono (by decide)) rfl tk (la_cons (lm_var 0) (la_cons (lm_var 1) la_nil))))
 (lss_cons (ls_set (i := 3) S_law.nd rfl (Or.inr rfl) (lm_call (x := "_law_width") (dvs := []) D__law_width 0 (by decide) (hr.mono (by decide)) rfl tk (la_cons (lm_var 2) la_nil)))
 (lss_cons (ls_set (i := 4) S_law.nd rfl (Or.inl rfl) (lm_op op_addA s_add (lm_call (x := "_law_looks") (dvs := []) D__law_looks 0 (by decide) (hr.mono (by decide)) rfl tk (la_cons (lm_var 2) (la_cons (lm_var 3) la_nil))) (lm_lst (la_cons (lm_op op_pow s_pow (lm_c (.int 10) pe_int) (lm_c (.int 50) pe_int)) la_nil))))
 (lss_cons (ls_lc (own := [("turn", 13)]) (i := 5) rfl S_law.nd rfl rfl (sw_true rfl rfl rfl (by decide +kernel)) (li_rng1 rfl T.b_range (la_cons (lm_op op_addA s_add (lm_c (.int 1) pe_int) (lm_call (x := "_law_next") (dvs := []) D__law_next 0 (by decide) (hr.mono (by decide)) rfl tk (la_cons (lm_var 2) (la_cons (lm_c (.int 5) pe_int) la_nil)))) la_nil)) (blkOk_by (own := [("turn", 13)]) (N := N_law) (sc := defScope s_law) (by decide +kernel)) (sg_nm 13) (by decide) (fun _ _ _ _ _ => (pg_name (i := 13) S_law.nd rfl (Or.inl rfl))) (fun _ _ _ _ _ => lts_nil) (fun _ _ _ _ _ => (lm_call (x := "_law_next") (dvs := []) D__law_next 0 (by decide) (hr.mono (by decide)) rfl takes0 (la_cons (lm_var 2) (la_cons (lm_op op_shlW s_shl (lm_c (.int 1) pe_int) (lm_var 3)) la_nil)))))
 (lss_cons (ls_set (i := 6) S_law.nd rfl (Or.inl rfl) (lm_ix ix_seq s_ix (lm_lst (la_cons (lm_c .non pe_non) (la_cons (lm_c (.int 0) pe_int) (la_cons (lm_un un_neg s_neg (lm_c (.int 1) pe_int)) (la_cons (lm_c (.int 65) pe_int) (la_cons (lm_c (.bl true) pe_bl) (la_cons (lm_c (.str "8") pe_str) (la_cons (lm_lst (la_cons (lm_c (.int 8) pe_int) la_nil)) (la_cons (lm_tup (la_cons (lm_c (.int 8) pe_int) la_nil)) (la_cons lm_dct (la_cons (lm_op op_pow s_pow (lm_c (.int 10) pe_int) (lm_c (.int 30) pe_int)) la_nil))))))))))) (lm_call (x := "_law_next") (dvs := []) D__law_next 0 (by decide) (hr.mono (by decide)) rfl tk (la_cons (lm_var 2) (la_cons (lm_c (.int 10) pe_int) la_nil)))))
 (lss_cons (ls_set (i := 7) S_law.nd rfl (Or.inl rfl) (lm_ix ix_seq s_ix (lm_lst (la_cons (lm_c .non pe_non) (la_cons (lm_un un_neg s_neg (lm_c (.int 1) pe_int)) (la_cons (lm_c (.bl true) pe_bl) (la_cons (lm_c (.str "8") pe_str) (la_cons (lm_lst (la_cons (lm_c (.int 8) pe_int) la_nil)) (la_cons (lm_tup (la_cons (lm_c (.int 8) pe_int) la_nil)) (la_cons lm_dct (la_cons (lm_op op_sub s_sub (lm_c (.int 0) pe_int) (lm_op op_pow s_pow (lm_c (.int 10) pe_int) (lm_c (.int 40) pe_int))) la_nil))))))))) (lm_call (x := "_law_next") (dvs := []) D__law_next 0 (by decide) (hr.mono (by decide)) rfl tk (la_cons (lm_var 2) (la_cons (lm_c (.int 8) pe_int) la_nil)))))
 (lss_cons (ls_set (i := 8) S_law.nd rfl (Or.inl rfl) (lm_op op_addA s_add (lm_var 4) (lm_lst (la_cons (lm_op op_sub s_sub (lm_op op_sub s_sub (lm_ix ix_seq s_ix (lm_var 4) (lm_un un_neg s_neg (lm_c (.int 1) pe_int))) (lm_c (.int 1) pe_int)) (lm_call (x := "_law_next") (dvs := []) D__law_next 0 (by decide) (hr.mono (by decide)) rfl tk (la_cons (lm_var 2) (la_cons (lm_c (.int 9) pe_int) la_nil)))) la_nil))))
 (lss_cons (ls_set (i := 9) S_law.nd rfl (Or.inl rfl) (lm_tup (la_cons (lm_callTy call_list_of s_list rfl T.b_list (by decide +kernel) (la_cons (lm_var 4) la_nil)) (la_cons (lm_callTy call_list_of s_list rfl T.b_list (by decide +kernel) (la_cons (lm_var 5) la_nil)) la_nil))))
 (lss_cons (ls_for hp rfl (li_rng1 rfl T.b_range (la_cons (lm_c (.int 5) pe_int) la_nil)) (pg_name (i := 10) S_law.nd rfl (Or.inl rfl)) (sg_nm 10)
 (lss_cons (ls_set (i := 11) S_law.nd rfl (Or.inl rfl) (lm_ix ix_seq s_ix (lm_lst (la_cons (lm_var 4) (la_cons (lm_var 5) la_nil))) (lm_callTy call_int1 s_int rfl T.b_int (by decide +kernel) (la_cons (lm_cmp op_gt s_gt (lm_var 10) (lm_c (.int 2) pe_int)) la_nil))))
 (lss_cons (ls_set (i := 12) S_law.nd rfl (Or.inl rfl) (lm_ix ix_seq s_ix (lm_lst (la_cons (lm_var 8) (la_cons (lm_op op_addA s_add (lm_var 5) (lm_lst (la_cons (lm_op op_shlW s_shl (lm_c (.int 1) pe_int) (lm_var 3)) la_nil))) la_nil))) (lm_callTy call_int1 s_int rfl T.b_int (by decide +kernel) (la_cons (lm_cmp op_gt s_gt (lm_var 10) (lm_c (.int 2) pe_int)) la_nil))))
 (lss_cons (ls_if (lt_cmp op_gt s_gt (lm_call (x := "_law_next") (dvs := []) D__law_next 0 (by decide) (hr.mono (by decide)) rfl tk (la_cons (lm_var 2) (la_cons (lm_c (.int 3) pe_int) la_nil))) (lm_c (.int 0) pe_int))
 (lss_one (ls_set (i := 12) S_law.nd rfl (Or.inl rfl) (lm_call (x := "_law_bad_list") (dvs := []) D__law_bad_list 0 (by decide) (hr.mono (by decide)) rfl tk (la_cons (lm_var 2) (la_cons (lm_sl (lm_var 11) lo_none (lo_some (lm_c (.int 1) pe_int))) (la_cons (lm_ix ix_seq s_ix (lm_lst (la_cons (lm_un un_neg s_neg (lm_c (.int 2) pe_int)) (la_cons (lm_op op_shlW s_shl (lm_c (.int 1) pe_int) (lm_var 3)) la_nil))) (lm_callTy call_int1 s_int rfl T.b_int (by decide +kernel) (la_cons (lm_cmp op_gt s_gt (lm_var 10) (lm_c (.int 2) pe_int)) la_nil))) la_nil))))))
 lss_nil)
 (lss_cons (ls_if (PW.pt (lw_or (lt_cmp (op_neX hu) s_ne (lm_call (x := "_law_word") (dvs := []) D__law_word 0 (by decide) (hr.mono (by decide)) rfl tk (la_cons (lm_var 10) (la_cons (lm_var 6) (la_cons (lm_var 12) (la_cons (lm_var 7) la_nil))))) (lm_c (.str "width") pe_str)) (lw_or1 (lt_cmp (op_neX hu) s_ne (lm_call (x := "_law_word") (dvs := []) D__law_word 0 (by decide) (hr.mono (by decide)) rfl tk (la_cons (lm_var 10) (la_cons (lm_var 6) (la_cons (lm_var 11) (la_cons (lm_c (.int 0) pe_int) la_nil))))) (lm_c (.str "width") pe_str)))))
 (lss_one (ls_ret (lm_c (.bl false) pe_bl)))
 lss_nil)
 (lss_cons (ls_if (PW.pt (lw_or (lt_cmp (op_neX hu) s_ne (lm_call (x := "_law_word") (dvs := []) D__law_word 0 (by decide) (hr.mono (by decide)) rfl tk (la_cons (lm_var 10) (la_cons (lm_var 3) (la_cons (lm_var 12) (la_cons (lm_var 7) la_nil))))) (lm_c (.str "looks") pe_str)) (lw_or1 (lt_cmp (op_neX hu) s_ne (lm_call (x := "_law_word") (dvs := []) D__law_word 0 (by decide) (hr.mono (by decide)) rfl tk (la_cons (lm_var 10) (la_cons (lm_var 3) (la_cons (lm_var 12) (la_cons (lm_op op_pow s_pow (lm_c (.int 10) pe_int) (lm_c (.int 50) pe_int)) la_nil))))) (lm_c (.str "looks") pe_str)))))
 (lss_one (ls_ret (lm_c (.bl false) pe_bl)))
 lss_nil)
 (lss_cons (ls_if (lt_cmp (op_neX hu) s_ne (lm_call (x := "_law_word") (dvs := []) D__law_word 0 (by decide) (hr.mono (by decide)) rfl tk (la_cons (lm_var 10) (la_cons (lm_var 3) (la_cons (lm_var 11) (la_cons (lm_var 7) la_nil))))) (lm_ix ix_seq s_ix (lm_lst (la_cons (lm_c (.str "none") pe_str) (la_cons (lm_c (.str "cycle") pe_str) la_nil))) (lm_callTy call_int1 s_int rfl T.b_int (by decide +kernel) (la_cons (lm_cmp (op_eqX hu) s_eq (lm_var 10) (lm_c (.int 4) pe_int)) la_nil))))
 (lss_one (ls_ret (lm_c (.bl false) pe_bl)))
 lss_nil)
 (lss_one (ls_if (PW.pt (lw_or (lt_cmp (op_neX hu) s_ne (lm_call (x := "_law_word") (dvs := []) D__law_word 0 (by decide) (hr.mono (by decide)) rfl tk (la_cons (lm_var 10) (la_cons (lm_var 3) (la_cons (lm_var 11) (la_cons (lm_op op_pow s_pow (lm_c (.int 10) pe_int) (lm_c (.int 50) pe_int)) la_nil))))) (lm_c (.str "none") pe_str)) (lw_or1 (lt_cmp (op_neX hu) s_ne (lm_tup (la_cons (lm_var 4) (la_cons (lm_var 5) la_nil))) (lm_var 9)))))
 (lss_one (ls_ret (lm_c (.bl false) pe_bl)))
 lss_nil)))))))))
 (lss_one (ls_for hp rfl (li_rng1 rfl T.b_range (la_cons (lm_c (.int 5) pe_int) la_nil)) (pg_name (i := 10) S_law.nd rfl (Or.inl rfl)) (sg_nm 10)
 (lss_one (ls_if (lt_cmp (op_neX hu) s_ne (lm_lst (la_cons (lm_call (x := "_law_word") (dvs := []) D__law_word 0 (by decide) (hr.mono (by decide)) rfl tk (la_cons (lm_var 10) (la_cons (lm_c (.int 1) pe_int) (la_cons (lm_lst (la_cons (lm_c (.int 0) pe_int) (la_cons (lm_c (.int 0) pe_int) (la_cons (lm_c (.int 1) pe_int) la_nil)))) (la_cons (lm_c (.int 0) pe_int) la_nil))))) (la_cons (lm_call (x := "_law_word") (dvs := []) D__law_word 0 (by decide) (hr.mono (by decide)) rfl tk (la_cons (lm_var 10) (la_cons (lm_c (.int 64) pe_int) (la_cons (lm_lst (la_cons (lm_c (.int 0) pe_int) (la_cons (lm_c (.int 0) pe_int) (la_cons (lm_c (.int 1) pe_int) la_nil)))) (la_cons (lm_c (.int 0) pe_int) la_nil))))) la_nil))) (lm_op op_mulA s_mulA (lm_lst (la_cons (lm_c (.str "none") pe_str) la_nil)) (lm_c (.int 2) pe_int)))
 (lss_one (ls_ret (lm_c (.bl false) pe_bl)))
 lss_nil))))))))))))))
 (lss_one (ls_ret (lm_c (.bl true) pe_bl))))
end
end L3
namespace L3
open PySem PySem.Spec PyProof.Rows L2

theorem all_mk {P : Program} {w : World} {K : PySem.W.Frag} {h : Heap} {mg : Str → Option Value} {fa : Addr} (X : K.In h) (G : h.Ns mainGlobals mg) (hfa : mg "law" = some (.ref fa)) {f_law_mixed f_law_next f_law_bad_list f_law_gap f_law_looks f_law_cell_at f_law_source f_law_width f_power f_is_whole f_is_cycles f_check_looks f_check_width f_shown f_counted f_check_cycle f_check_values f_least_history f_histories_many f_lost f_law_word f_law C_KernelError C_NoCycle C_NoLooks C_NoRate C_NoReading C_NoWidth C_TooMany : Addr}
 {od_law_mixed an_law_mixed : Option Addr} {sl_law_mixed : Array (Option Value)} {oc_law_mixed kV_law_mixed dc_law_mixed pm_law_mixed cd_law_mixed ct_law_mixed : Value} {od_law_next an_law_next : Option Addr} {sl_law_next : Array (Option Value)} {oc_law_next kV_law_next dc_law_next pm_law_next cd_law_next ct_law_next : Value} {od_law_bad_list an_law_bad_list : Option Addr} {sl_law_bad_list : Array (Option Value)} {oc_law_bad_list kV_law_bad_list dc_law_bad_list pm_law_bad_list cd_law_bad_list ct_law_bad_list : Value} {od_law_gap an_law_gap : Option Addr} {sl_law_gap : Array (Option Value)} {oc_law_gap kV_law_gap dc_law_gap pm_law_gap cd_law_gap ct_law_gap : Value} {od_law_looks an_law_looks : Option Addr} {sl_law_looks : Array (Option Value)} {oc_law_looks kV_law_looks dc_law_looks pm_law_looks cd_law_looks ct_law_looks : Value} {od_law_cell_at an_law_cell_at : Option Addr} {sl_law_cell_at : Array (Option Value)} {oc_law_cell_at kV_law_cell_at dc_law_cell_at pm_law_cell_at cd_law_cell_at ct_law_cell_at : Value} {od_law_source an_law_source : Option Addr} {sl_law_source : Array (Option Value)} {oc_law_source kV_law_source dc_law_source pm_law_source cd_law_source ct_law_source : Value} {od_law_width an_law_width : Option Addr} {sl_law_width : Array (Option Value)} {oc_law_width kV_law_width dc_law_width pm_law_width cd_law_width ct_law_width : Value} {od_power an_power : Option Addr} {sl_power : Array (Option Value)} {oc_power kV_power dc_power pm_power cd_power ct_power : Value} {od_is_whole an_is_whole : Option Addr} {sl_is_whole : Array (Option Value)} {oc_is_whole kV_is_whole dc_is_whole pm_is_whole cd_is_whole ct_is_whole : Value} {T_is_whole : Addr} {o_is_whole : Obj} {n_is_whole : Nat} {d0_is_whole : Value} {od_is_cycles an_is_cycles : Option Addr} {sl_is_cycles : Array (Option Value)} {oc_is_cycles kV_is_cycles dc_is_cycles pm_is_cycles cd_is_cycles ct_is_cycles : Value} {T_is_cycles : Addr} {o_is_cycles : Obj} {n_is_cycles : Nat} {d0_is_cycles : Value} {od_check_looks an_check_looks : Option Addr} {sl_check_looks : Array (Option Value)} {oc_check_looks kV_check_looks dc_check_looks pm_check_looks cd_check_looks ct_check_looks : Value} {od_check_width an_check_width : Option Addr} {sl_check_width : Array (Option Value)} {oc_check_width kV_check_width dc_check_width pm_check_width cd_check_width ct_check_width : Value} {od_shown an_shown : Option Addr} {sl_shown : Array (Option Value)} {oc_shown kV_shown dc_shown pm_shown cd_shown ct_shown : Value} {od_counted an_counted : Option Addr} {sl_counted : Array (Option Value)} {oc_counted kV_counted dc_counted pm_counted cd_counted ct_counted : Value} {od_check_cycle an_check_cycle : Option Addr} {sl_check_cycle : Array (Option Value)} {oc_check_cycle kV_check_cycle dc_check_cycle pm_check_cycle cd_check_cycle ct_check_cycle : Value} {T_check_cycle : Addr} {o_check_cycle : Obj} {n_check_cycle : Nat} {d0_check_cycle : Value} {od_check_values an_check_values : Option Addr} {sl_check_values : Array (Option Value)} {oc_check_values kV_check_values dc_check_values pm_check_values cd_check_values ct_check_values : Value} {od_least_history an_least_history : Option Addr} {sl_least_history : Array (Option Value)} {oc_least_history kV_least_history dc_least_history pm_least_history cd_least_history ct_least_history : Value} {od_histories_many an_histories_many : Option Addr} {sl_histories_many : Array (Option Value)} {oc_histories_many kV_histories_many dc_histories_many pm_histories_many cd_histories_many ct_histories_many : Value} {od_lost an_lost : Option Addr} {sl_lost : Array (Option Value)} {oc_lost kV_lost dc_lost pm_lost cd_lost ct_lost : Value} {od_law_word an_law_word : Option Addr} {sl_law_word : Array (Option Value)} {oc_law_word kV_law_word dc_law_word pm_law_word cd_law_word ct_law_word : Value} {od_law an_law : Option Addr} {sl_law : Array (Option Value)} {oc_law kV_law dc_law pm_law cd_law ct_law : Value} {t_MOST_WIDTH : Tok}
(a_law_mixed : PySem.W.nsIn K mainGlobals "_law_mixed" = some (some (.ref f_law_mixed)))
 (l_law_mixed : K.lookup f_law_mixed = some ⟨oc_law_mixed, od_law_mixed, .func (PySem.W.fnOf "_law_mixed" "_law_mixed" (defArgs s__law_mixed) (defBody s__law_mixed) (defScope s__law_mixed) .none kV_law_mixed dc_law_mixed pm_law_mixed an_law_mixed cd_law_mixed ct_law_mixed), sl_law_mixed⟩)
 (c_law_mixed : PySem.W.codeIn K cd_law_mixed "_law_mixed" = true)
 (k_law_mixed : PySem.W.keepIn K (.ref f_law_mixed) = true)
 (a_law_next : PySem.W.nsIn K mainGlobals "_law_next" = some (some (.ref f_law_next)))
 (l_law_next : K.lookup f_law_next = some ⟨oc_law_next, od_law_next, .func (PySem.W.fnOf "_law_next" "_law_next" (defArgs s__law_next) (defBody s__law_next) (defScope s__law_next) .none kV_law_next dc_law_next pm_law_next an_law_next cd_law_next ct_law_next), sl_law_next⟩)
 (c_law_next : PySem.W.codeIn K cd_law_next "_law_next" = true)
 (k_law_next : PySem.W.keepIn K (.ref f_law_next) = true)
 (a_law_bad_list : PySem.W.nsIn K mainGlobals "_law_bad_list" = some (some (.ref f_law_bad_list)))
 (l_law_bad_list : K.lookup f_law_bad_list = some ⟨oc_law_bad_list, od_law_bad_list, .func (PySem.W.fnOf "_law_bad_list" "_law_bad_list" (defArgs s__law_bad_list) (defBody s__law_bad_list) (defScope s__law_bad_list) .none kV_law_bad_list dc_law_bad_list pm_law_bad_list an_law_bad_list cd_law_bad_list ct_law_bad_list), sl_law_bad_list⟩)
 (c_law_bad_list : PySem.W.codeIn K cd_law_bad_list "_law_bad_list" = true)
 (k_law_bad_list : PySem.W.keepIn K (.ref f_law_bad_list) = true)
 (a_law_gap : PySem.W.nsIn K mainGlobals "_law_gap" = some (some (.ref f_law_gap)))
 (l_law_gap : K.lookup f_law_gap = some ⟨oc_law_gap, od_law_gap, .func (PySem.W.fnOf "_law_gap" "_law_gap" (defArgs s__law_gap) (defBody s__law_gap) (defScope s__law_gap) .none kV_law_gap dc_law_gap pm_law_gap an_law_gap cd_law_gap ct_law_gap), sl_law_gap⟩)
 (c_law_gap : PySem.W.codeIn K cd_law_gap "_law_gap" = true)
 (k_law_gap : PySem.W.keepIn K (.ref f_law_gap) = true)
 (a_law_looks : PySem.W.nsIn K mainGlobals "_law_looks" = some (some (.ref f_law_looks)))
 (l_law_looks : K.lookup f_law_looks = some ⟨oc_law_looks, od_law_looks, .func (PySem.W.fnOf "_law_looks" "_law_looks" (defArgs s__law_looks) (defBody s__law_looks) (defScope s__law_looks) .none kV_law_looks dc_law_looks pm_law_looks an_law_looks cd_law_looks ct_law_looks), sl_law_looks⟩)
 (c_law_looks : PySem.W.codeIn K cd_law_looks "_law_looks" = true)
 (k_law_looks : PySem.W.keepIn K (.ref f_law_looks) = true)
 (a_law_cell_at : PySem.W.nsIn K mainGlobals "_law_cell_at" = some (some (.ref f_law_cell_at)))
 (l_law_cell_at : K.lookup f_law_cell_at = some ⟨oc_law_cell_at, od_law_cell_at, .func (PySem.W.fnOf "_law_cell_at" "_law_cell_at" (defArgs s__law_cell_at) (defBody s__law_cell_at) (defScope s__law_cell_at) .none kV_law_cell_at dc_law_cell_at pm_law_cell_at an_law_cell_at cd_law_cell_at ct_law_cell_at), sl_law_cell_at⟩)
 (c_law_cell_at : PySem.W.codeIn K cd_law_cell_at "_law_cell_at" = true)
 (k_law_cell_at : PySem.W.keepIn K (.ref f_law_cell_at) = true)
 (a_law_source : PySem.W.nsIn K mainGlobals "_law_source" = some (some (.ref f_law_source)))
 (l_law_source : K.lookup f_law_source = some ⟨oc_law_source, od_law_source, .func (PySem.W.fnOf "_law_source" "_law_source" (defArgs s__law_source) (defBody s__law_source) (defScope s__law_source) .none kV_law_source dc_law_source pm_law_source an_law_source cd_law_source ct_law_source), sl_law_source⟩)
 (c_law_source : PySem.W.codeIn K cd_law_source "_law_source" = true)
 (k_law_source : PySem.W.keepIn K (.ref f_law_source) = true)
 (a_law_width : PySem.W.nsIn K mainGlobals "_law_width" = some (some (.ref f_law_width)))
 (l_law_width : K.lookup f_law_width = some ⟨oc_law_width, od_law_width, .func (PySem.W.fnOf "_law_width" "_law_width" (defArgs s__law_width) (defBody s__law_width) (defScope s__law_width) .none kV_law_width dc_law_width pm_law_width an_law_width cd_law_width ct_law_width), sl_law_width⟩)
 (c_law_width : PySem.W.codeIn K cd_law_width "_law_width" = true)
 (k_law_width : PySem.W.keepIn K (.ref f_law_width) = true)
 (a_power : PySem.W.nsIn K mainGlobals "power" = some (some (.ref f_power)))
 (l_power : K.lookup f_power = some ⟨oc_power, od_power, .func (PySem.W.fnOf "power" "power" (defArgs s_power) (defBody s_power) (defScope s_power) .none kV_power dc_power pm_power an_power cd_power ct_power), sl_power⟩)
 (c_power : PySem.W.codeIn K cd_power "power" = true)
 (k_power : PySem.W.keepIn K (.ref f_power) = true)
 (a_is_whole : PySem.W.nsIn K mainGlobals "is_whole" = some (some (.ref f_is_whole)))
 (l_is_whole : K.lookup f_is_whole = some ⟨oc_is_whole, od_is_whole, .func (PySem.W.fnOf "is_whole" "is_whole" (defArgs s_is_whole) (defBody s_is_whole) (defScope s_is_whole) (.ref T_is_whole) kV_is_whole dc_is_whole pm_is_whole an_is_whole cd_is_whole ct_is_whole), sl_is_whole⟩)
 (c_is_whole : PySem.W.codeIn K cd_is_whole "is_whole" = true)
 (k_is_whole : PySem.W.keepIn K (.ref f_is_whole) = true)
 (t_is_whole : K.lookup T_is_whole = some o_is_whole)
 (u_is_whole : o_is_whole.data = .seq [d0_is_whole].toArray n_is_whole)
 (v_is_whole : Vals [V.non] [d0_is_whole])
 (a_is_cycles : PySem.W.nsIn K mainGlobals "is_cycles" = some (some (.ref f_is_cycles)))
 (l_is_cycles : K.lookup f_is_cycles = some ⟨oc_is_cycles, od_is_cycles, .func (PySem.W.fnOf "is_cycles" "is_cycles" (defArgs s_is_cycles) (defBody s_is_cycles) (defScope s_is_cycles) (.ref T_is_cycles) kV_is_cycles dc_is_cycles pm_is_cycles an_is_cycles cd_is_cycles ct_is_cycles), sl_is_cycles⟩)
 (c_is_cycles : PySem.W.codeIn K cd_is_cycles "is_cycles" = true)
 (k_is_cycles : PySem.W.keepIn K (.ref f_is_cycles) = true)
 (t_is_cycles : K.lookup T_is_cycles = some o_is_cycles)
 (u_is_cycles : o_is_cycles.data = .seq [d0_is_cycles].toArray n_is_cycles)
 (v_is_cycles : Vals [(V.int 0)] [d0_is_cycles])
 (a_check_looks : PySem.W.nsIn K mainGlobals "check_looks" = some (some (.ref f_check_looks)))
 (l_check_looks : K.lookup f_check_looks = some ⟨oc_check_looks, od_check_looks, .func (PySem.W.fnOf "check_looks" "check_looks" (defArgs s_check_looks) (defBody s_check_looks) (defScope s_check_looks) .none kV_check_looks dc_check_looks pm_check_looks an_check_looks cd_check_looks ct_check_looks), sl_check_looks⟩)
 (c_check_looks : PySem.W.codeIn K cd_check_looks "check_looks" = true)
 (k_check_looks : PySem.W.keepIn K (.ref f_check_looks) = true)
 (a_check_width : PySem.W.nsIn K mainGlobals "check_width" = some (some (.ref f_check_width)))
 (l_check_width : K.lookup f_check_width = some ⟨oc_check_width, od_check_width, .func (PySem.W.fnOf "check_width" "check_width" (defArgs s_check_width) (defBody s_check_width) (defScope s_check_width) .none kV_check_width dc_check_width pm_check_width an_check_width cd_check_width ct_check_width), sl_check_width⟩)
 (c_check_width : PySem.W.codeIn K cd_check_width "check_width" = true)
 (k_check_width : PySem.W.keepIn K (.ref f_check_width) = true)
 (a_shown : PySem.W.nsIn K mainGlobals "shown" = some (some (.ref f_shown)))
 (l_shown : K.lookup f_shown = some ⟨oc_shown, od_shown, .func (PySem.W.fnOf "shown" "shown" (defArgs s_shown) (defBody s_shown) (defScope s_shown) .none kV_shown dc_shown pm_shown an_shown cd_shown ct_shown), sl_shown⟩)
 (c_shown : PySem.W.codeIn K cd_shown "shown" = true)
 (k_shown : PySem.W.keepIn K (.ref f_shown) = true)
 (a_counted : PySem.W.nsIn K mainGlobals "counted" = some (some (.ref f_counted)))
 (l_counted : K.lookup f_counted = some ⟨oc_counted, od_counted, .func (PySem.W.fnOf "counted" "counted" (defArgs s_counted) (defBody s_counted) (defScope s_counted) .none kV_counted dc_counted pm_counted an_counted cd_counted ct_counted), sl_counted⟩)
 (c_counted : PySem.W.codeIn K cd_counted "counted" = true)
 (k_counted : PySem.W.keepIn K (.ref f_counted) = true)
 (a_check_cycle : PySem.W.nsIn K mainGlobals "check_cycle" = some (some (.ref f_check_cycle)))
 (l_check_cycle : K.lookup f_check_cycle = some ⟨oc_check_cycle, od_check_cycle, .func (PySem.W.fnOf "check_cycle" "check_cycle" (defArgs s_check_cycle) (defBody s_check_cycle) (defScope s_check_cycle) (.ref T_check_cycle) kV_check_cycle dc_check_cycle pm_check_cycle an_check_cycle cd_check_cycle ct_check_cycle), sl_check_cycle⟩)
 (c_check_cycle : PySem.W.codeIn K cd_check_cycle "check_cycle" = true)
 (k_check_cycle : PySem.W.keepIn K (.ref f_check_cycle) = true)
 (t_check_cycle : K.lookup T_check_cycle = some o_check_cycle)
 (u_check_cycle : o_check_cycle.data = .seq [d0_check_cycle].toArray n_check_cycle)
 (v_check_cycle : Vals [(V.int 0)] [d0_check_cycle])
 (a_check_values : PySem.W.nsIn K mainGlobals "check_values" = some (some (.ref f_check_values)))
 (l_check_values : K.lookup f_check_values = some ⟨oc_check_values, od_check_values, .func (PySem.W.fnOf "check_values" "check_values" (defArgs s_check_values) (defBody s_check_values) (defScope s_check_values) .none kV_check_values dc_check_values pm_check_values an_check_values cd_check_values ct_check_values), sl_check_values⟩)
 (c_check_values : PySem.W.codeIn K cd_check_values "check_values" = true)
 (k_check_values : PySem.W.keepIn K (.ref f_check_values) = true)
 (a_least_history : PySem.W.nsIn K mainGlobals "least_history" = some (some (.ref f_least_history)))
 (l_least_history : K.lookup f_least_history = some ⟨oc_least_history, od_least_history, .func (PySem.W.fnOf "least_history" "least_history" (defArgs s_least_history) (defBody s_least_history) (defScope s_least_history) .none kV_least_history dc_least_history pm_least_history an_least_history cd_least_history ct_least_history), sl_least_history⟩)
 (c_least_history : PySem.W.codeIn K cd_least_history "least_history" = true)
 (k_least_history : PySem.W.keepIn K (.ref f_least_history) = true)
 (a_histories_many : PySem.W.nsIn K mainGlobals "histories_many" = some (some (.ref f_histories_many)))
 (l_histories_many : K.lookup f_histories_many = some ⟨oc_histories_many, od_histories_many, .func (PySem.W.fnOf "histories_many" "histories_many" (defArgs s_histories_many) (defBody s_histories_many) (defScope s_histories_many) .none kV_histories_many dc_histories_many pm_histories_many an_histories_many cd_histories_many ct_histories_many), sl_histories_many⟩)
 (c_histories_many : PySem.W.codeIn K cd_histories_many "histories_many" = true)
 (k_histories_many : PySem.W.keepIn K (.ref f_histories_many) = true)
 (a_lost : PySem.W.nsIn K mainGlobals "lost" = some (some (.ref f_lost)))
 (l_lost : K.lookup f_lost = some ⟨oc_lost, od_lost, .func (PySem.W.fnOf "lost" "lost" (defArgs s_lost) (defBody s_lost) (defScope s_lost) .none kV_lost dc_lost pm_lost an_lost cd_lost ct_lost), sl_lost⟩)
 (c_lost : PySem.W.codeIn K cd_lost "lost" = true)
 (k_lost : PySem.W.keepIn K (.ref f_lost) = true)
 (a_law_word : PySem.W.nsIn K mainGlobals "_law_word" = some (some (.ref f_law_word)))
 (l_law_word : K.lookup f_law_word = some ⟨oc_law_word, od_law_word, .func (PySem.W.fnOf "_law_word" "_law_word" (defArgs s__law_word) (defBody s__law_word) (defScope s__law_word) .none kV_law_word dc_law_word pm_law_word an_law_word cd_law_word ct_law_word), sl_law_word⟩)
 (c_law_word : PySem.W.codeIn K cd_law_word "_law_word" = true)
 (k_law_word : PySem.W.keepIn K (.ref f_law_word) = true)
 (a_law : PySem.W.nsIn K mainGlobals "law" = some (some (.ref f_law)))
 (l_law : K.lookup f_law = some ⟨oc_law, od_law, .func (PySem.W.fnOf "law" "law" (defArgs s_law) (defBody s_law) (defScope s_law) .none kV_law dc_law pm_law an_law cd_law ct_law), sl_law⟩)
 (c_law : PySem.W.codeIn K cd_law "law" = true)
 (k_law : PySem.W.keepIn K (.ref f_law) = true)
 (b_ValueError : PySem.W.nsIn K mainGlobals "ValueError" = some none)
 (b_all : PySem.W.nsIn K mainGlobals "all" = some none)
 (b_bool : PySem.W.nsIn K mainGlobals "bool" = some none)
 (b_int : PySem.W.nsIn K mainGlobals "int" = some none)
 (b_isinstance : PySem.W.nsIn K mainGlobals "isinstance" = some none)
 (b_len : PySem.W.nsIn K mainGlobals "len" = some none)
 (b_list : PySem.W.nsIn K mainGlobals "list" = some none)
 (b_max : PySem.W.nsIn K mainGlobals "max" = some none)
 (b_min : PySem.W.nsIn K mainGlobals "min" = some none)
 (b_range : PySem.W.nsIn K mainGlobals "range" = some none)
 (b_sum : PySem.W.nsIn K mainGlobals "sum" = some none)
 (b_tuple : PySem.W.nsIn K mainGlobals "tuple" = some none)
 (b_zip : PySem.W.nsIn K mainGlobals "zip" = some none)
 (g_MOST_WIDTH : PySem.W.nsIn K mainGlobals "MOST_WIDTH" = some (some (.int 64 t_MOST_WIDTH)))
 (xa_KernelError : PySem.W.nsIn K mainGlobals "KernelError" = some (some (.ref C_KernelError)))
 (xq_KernelError : PySem.W.excIn K C_KernelError [.type "ValueError", .type "Exception", .type "BaseException", .type "object"] "ValueError.__new__" = true)
 (xk_KernelError : PySem.W.keepIn K (.ref C_KernelError) = true)
 (xb_KernelError : PySem.W.subIn K (.ref C_KernelError) (.type "BaseException") = some true)
 (xt_KernelError : PySem.W.typeIn K (.ref C_KernelError) = some (.type "type"))
 (xa_NoCycle : PySem.W.nsIn K mainGlobals "NoCycle" = some (some (.ref C_NoCycle)))
 (xq_NoCycle : PySem.W.excIn K C_NoCycle [.type "ValueError", .type "Exception", .type "BaseException", .type "object"] "ValueError.__new__" = true)
 (xk_NoCycle : PySem.W.keepIn K (.ref C_NoCycle) = true)
 (xb_NoCycle : PySem.W.subIn K (.ref C_NoCycle) (.type "BaseException") = some true)
 (xt_NoCycle : PySem.W.typeIn K (.ref C_NoCycle) = some (.type "type"))
 (xa_NoLooks : PySem.W.nsIn K mainGlobals "NoLooks" = some (some (.ref C_NoLooks)))
 (xq_NoLooks : PySem.W.excIn K C_NoLooks [.type "ValueError", .type "Exception", .type "BaseException", .type "object"] "ValueError.__new__" = true)
 (xk_NoLooks : PySem.W.keepIn K (.ref C_NoLooks) = true)
 (xb_NoLooks : PySem.W.subIn K (.ref C_NoLooks) (.type "BaseException") = some true)
 (xt_NoLooks : PySem.W.typeIn K (.ref C_NoLooks) = some (.type "type"))
 (xa_NoRate : PySem.W.nsIn K mainGlobals "NoRate" = some (some (.ref C_NoRate)))
 (xq_NoRate : PySem.W.excIn K C_NoRate [.type "ValueError", .type "Exception", .type "BaseException", .type "object"] "ValueError.__new__" = true)
 (xk_NoRate : PySem.W.keepIn K (.ref C_NoRate) = true)
 (xb_NoRate : PySem.W.subIn K (.ref C_NoRate) (.type "BaseException") = some true)
 (xt_NoRate : PySem.W.typeIn K (.ref C_NoRate) = some (.type "type"))
 (xa_NoReading : PySem.W.nsIn K mainGlobals "NoReading" = some (some (.ref C_NoReading)))
 (xq_NoReading : PySem.W.excIn K C_NoReading [.type "ValueError", .type "Exception", .type "BaseException", .type "object"] "ValueError.__new__" = true)
 (xk_NoReading : PySem.W.keepIn K (.ref C_NoReading) = true)
 (xb_NoReading : PySem.W.subIn K (.ref C_NoReading) (.type "BaseException") = some true)
 (xt_NoReading : PySem.W.typeIn K (.ref C_NoReading) = some (.type "type"))
 (xa_NoWidth : PySem.W.nsIn K mainGlobals "NoWidth" = some (some (.ref C_NoWidth)))
 (xq_NoWidth : PySem.W.excIn K C_NoWidth [.type "ValueError", .type "Exception", .type "BaseException", .type "object"] "ValueError.__new__" = true)
 (xk_NoWidth : PySem.W.keepIn K (.ref C_NoWidth) = true)
 (xb_NoWidth : PySem.W.subIn K (.ref C_NoWidth) (.type "BaseException") = some true)
 (xt_NoWidth : PySem.W.typeIn K (.ref C_NoWidth) = some (.type "type"))
 (xa_TooMany : PySem.W.nsIn K mainGlobals "TooMany" = some (some (.ref C_TooMany)))
 (xq_TooMany : PySem.W.excIn K C_TooMany [.type "ValueError", .type "Exception", .type "BaseException", .type "object"] "ValueError.__new__" = true)
 (xk_TooMany : PySem.W.keepIn K (.ref C_TooMany) = true)
 (xb_TooMany : PySem.W.subIn K (.ref C_TooMany) (.type "BaseException") = some true)
 (xt_TooMany : PySem.W.typeIn K (.ref C_TooMany) = some (.type "type"))
 (xm_NoCycle_KernelError : PySem.W.exmOne K (.ref C_NoCycle) (.ref C_KernelError) = some true)
 (xi_NoCycle_NoCycle : PySem.W.kitOne K (.ref C_NoCycle) (.ref C_NoCycle) = some true)
 (xi_NoCycle_NoLooks : PySem.W.kitOne K (.ref C_NoCycle) (.ref C_NoLooks) = some false)
 (xi_NoCycle_NoRate : PySem.W.kitOne K (.ref C_NoCycle) (.ref C_NoRate) = some false)
 (xi_NoCycle_NoReading : PySem.W.kitOne K (.ref C_NoCycle) (.ref C_NoReading) = some false)
 (xi_NoCycle_NoWidth : PySem.W.kitOne K (.ref C_NoCycle) (.ref C_NoWidth) = some false)
 (xi_NoCycle_TooMany : PySem.W.kitOne K (.ref C_NoCycle) (.ref C_TooMany) = some false)
 (xi_NoCycle_ValueError : PySem.W.kitOne K (.ref C_NoCycle) (.type "ValueError") = some true)
 (xc_NoCycle : ExcC K C_NoCycle)
 (xm_NoLooks_KernelError : PySem.W.exmOne K (.ref C_NoLooks) (.ref C_KernelError) = some true)
 (xi_NoLooks_NoCycle : PySem.W.kitOne K (.ref C_NoLooks) (.ref C_NoCycle) = some false)
 (xi_NoLooks_NoLooks : PySem.W.kitOne K (.ref C_NoLooks) (.ref C_NoLooks) = some true)
 (xi_NoLooks_NoRate : PySem.W.kitOne K (.ref C_NoLooks) (.ref C_NoRate) = some false)
 (xi_NoLooks_NoReading : PySem.W.kitOne K (.ref C_NoLooks) (.ref C_NoReading) = some false)
 (xi_NoLooks_NoWidth : PySem.W.kitOne K (.ref C_NoLooks) (.ref C_NoWidth) = some false)
 (xi_NoLooks_TooMany : PySem.W.kitOne K (.ref C_NoLooks) (.ref C_TooMany) = some false)
 (xi_NoLooks_ValueError : PySem.W.kitOne K (.ref C_NoLooks) (.type "ValueError") = some true)
 (xc_NoLooks : ExcC K C_NoLooks)
 (xm_NoWidth_KernelError : PySem.W.exmOne K (.ref C_NoWidth) (.ref C_KernelError) = some true)
 (xi_NoWidth_NoCycle : PySem.W.kitOne K (.ref C_NoWidth) (.ref C_NoCycle) = some false)
 (xi_NoWidth_NoLooks : PySem.W.kitOne K (.ref C_NoWidth) (.ref C_NoLooks) = some false)
 (xi_NoWidth_NoRate : PySem.W.kitOne K (.ref C_NoWidth) (.ref C_NoRate) = some false)
 (xi_NoWidth_NoReading : PySem.W.kitOne K (.ref C_NoWidth) (.ref C_NoReading) = some false)
 (xi_NoWidth_NoWidth : PySem.W.kitOne K (.ref C_NoWidth) (.ref C_NoWidth) = some true)
 (xi_NoWidth_TooMany : PySem.W.kitOne K (.ref C_NoWidth) (.ref C_TooMany) = some false)
 (xi_NoWidth_ValueError : PySem.W.kitOne K (.ref C_NoWidth) (.type "ValueError") = some true)
 (xc_NoWidth : ExcC K C_NoWidth)
 : ∃ fd : FuncData, (∀ (s : Shared) (v : Value), BindsTo s fd ⟨[v], []⟩ [("script", v)]) ∧ ∀ base : Heap, K.In base → base.Ns mainGlobals mg → FnOk P w K mg base (L2.CX P w) 7 fa fd ["script"] (spLaw K) := by
  have e := hfa.symm.trans (PySem.W.mg_of X G a_law)
  cases e
  have T : Txt K mg (Cs.mk K C_KernelError C_NoWidth C_NoLooks C_NoCycle C_NoRate C_NoReading 0 0 0 0 0 0 0 0 0 0 0 0 0 0 0 0 0 0 0 C_TooMany 0) := ⟨rfl, PySem.W.mg_none_of X G b_ValueError, PySem.W.mg_none_of X G b_all, PySem.W.mg_none_of X G b_bool, PySem.W.mg_none_of X G b_int, PySem.W.mg_none_of X G b_isinstance, PySem.W.mg_none_of X G b_len, PySem.W.mg_none_of X G b_list, PySem.W.mg_none_of X G b_max, PySem.W.mg_none_of X G b_min, PySem.W.mg_none_of X G b_range, PySem.W.mg_none_of X G b_sum, PySem.W.mg_none_of X G b_tuple, PySem.W.mg_none_of X G b_zip, ⟨_, PySem.W.mg_of X G g_MOST_WIDTH, ⟨_, rfl⟩⟩, ⟨PySem.W.mg_of X G xa_KernelError, xq_KernelError, xk_KernelError, xb_KernelError, xt_KernelError⟩, ⟨PySem.W.mg_of X G xa_NoCycle, xq_NoCycle, xk_NoCycle, xb_NoCycle, xt_NoCycle⟩, ⟨PySem.W.mg_of X G xa_NoLooks, xq_NoLooks, xk_NoLooks, xb_NoLooks, xt_NoLooks⟩, ⟨PySem.W.mg_of X G xa_NoRate, xq_NoRate, xk_NoRate, xb_NoRate, xt_NoRate⟩, ⟨PySem.W.mg_of X G xa_NoReading, xq_NoReading, xk_NoReading, xb_NoReading, xt_NoReading⟩, ⟨PySem.W.mg_of X G xa_NoWidth, xq_NoWidth, xk_NoWidth, xb_NoWidth, xt_NoWidth⟩, ⟨PySem.W.mg_of X G xa_TooMany, xq_TooMany, xk_TooMany, xb_TooMany, xt_TooMany⟩⟩
  have F_law_mixed := fun0 (st := s__law_mixed) l_law_mixed c_law_mixed k_law_mixed
  have F_law_next := fun0 (st := s__law_next) l_law_next c_law_next k_law_next
  have F_law_bad_list := fun0 (st := s__law_bad_list) l_law_bad_list c_law_bad_list k_law_bad_list
  have F_law_gap := fun0 (st := s__law_gap) l_law_gap c_law_gap k_law_gap
  have F_law_looks := fun0 (st := s__law_looks) l_law_looks c_law_looks k_law_looks
  have F_law_cell_at := fun0 (st := s__law_cell_at) l_law_cell_at c_law_cell_at k_law_cell_at
  have F_law_source := fun0 (st := s__law_source) l_law_source c_law_source k_law_source
  have F_law_width := fun0 (st := s__law_width) l_law_width c_law_width k_law_width
  have F_power := fun0 (st := s_power) l_power c_power k_power
  have F_is_whole := funD (st := s_is_whole) l_is_whole c_is_whole k_is_whole t_is_whole u_is_whole v_is_whole (by decide)
  have F_is_cycles := funD (st := s_is_cycles) l_is_cycles c_is_cycles k_is_cycles t_is_cycles u_is_cycles v_is_cycles (by decide)
  have F_check_looks := fun0 (st := s_check_looks) l_check_looks c_check_looks k_check_looks
  have F_check_width := fun0 (st := s_check_width) l_check_width c_check_width k_check_width
  have F_shown := fun0 (st := s_shown) l_shown c_shown k_shown
  have F_counted := fun0 (st := s_counted) l_counted c_counted k_counted
  have F_check_cycle := funD (st := s_check_cycle) l_check_cycle c_check_cycle k_check_cycle t_check_cycle u_check_cycle v_check_cycle (by decide)
  have F_check_values := fun0 (st := s_check_values) l_check_values c_check_values k_check_values
  have F_least_history := fun0 (st := s_least_history) l_least_history c_least_history k_least_history
  have F_histories_many := fun0 (st := s_histories_many) l_histories_many c_histories_many k_histories_many
  have F_lost := fun0 (st := s_lost) l_lost c_lost k_lost
  have F_law_word := fun0 (st := s__law_word) l_law_word c_law_word k_law_word
  have F_law := fun0 (st := s_law) l_law c_law k_law
  refine ⟨_, fun s v => F_law.bindsA (ps := ["script"]) (fun _ _ _ _ _ _ us hl => match us, hl with | [_], _ => rfl) s [v] rfl, fun base _ _ => ?_⟩
  have D__law_mixed : ∀ [LamT], Df P w K mg base 1 "_law_mixed" 2 [] (m_law_mixed (Cs.mk K C_KernelError C_NoWidth C_NoLooks C_NoCycle C_NoRate C_NoReading 0 0 0 0 0 0 0 0 0 0 0 0 0 0 0 0 0 0 0 C_TooMany 0)) := ok__law_mixed (P := P) (w := w) (base := base) T F_law_mixed (PySem.W.mg_of X G a_law_mixed)
  have D__law_next : ∀ [LamT], Df P w K mg base 2 "_law_next" 2 [] (m_law_next (Cs.mk K C_KernelError C_NoWidth C_NoLooks C_NoCycle C_NoRate C_NoReading 0 0 0 0 0 0 0 0 0 0 0 0 0 0 0 0 0 0 0 C_TooMany 0)) := ok__law_next (P := P) (w := w) (base := base) T F_law_next (PySem.W.mg_of X G a_law_next) D__law_mixed
  have D__law_bad_list : ∀ [LamT], Df P w K mg base 3 "_law_bad_list" 3 [] (m_law_bad_list (Cs.mk K C_KernelError C_NoWidth C_NoLooks C_NoCycle C_NoRate C_NoReading 0 0 0 0 0 0 0 0 0 0 0 0 0 0 0 0 0 0 0 C_TooMany 0)) := ok__law_bad_list (P := P) (w := w) (base := base) T F_law_bad_list (PySem.W.mg_of X G a_law_bad_list) D__law_next
  have D__law_gap : ∀ [LamT], Df P w K mg base 3 "_law_gap" 2 [] (m_law_gap (Cs.mk K C_KernelError C_NoWidth C_NoLooks C_NoCycle C_NoRate C_NoReading 0 0 0 0 0 0 0 0 0 0 0 0 0 0 0 0 0 0 0 C_TooMany 0)) := ok__law_gap (P := P) (w := w) (base := base) T F_law_gap (PySem.W.mg_of X G a_law_gap) D__law_next
  have D__law_looks : ∀ [LamT], Df P w K mg base 4 "_law_looks" 2 [] (m_law_looks (Cs.mk K C_KernelError C_NoWidth C_NoLooks C_NoCycle C_NoRate C_NoReading 0 0 0 0 0 0 0 0 0 0 0 0 0 0 0 0 0 0 0 C_TooMany 0)) := ok__law_looks (P := P) (w := w) (base := base) T F_law_looks (PySem.W.mg_of X G a_law_looks) D__law_gap D__law_next
  have D__law_cell_at : ∀ [LamT], Df P w K mg base 1 "_law_cell_at" 2 [] (m_law_cell_at (Cs.mk K C_KernelError C_NoWidth C_NoLooks C_NoCycle C_NoRate C_NoReading 0 0 0 0 0 0 0 0 0 0 0 0 0 0 0 0 0 0 0 C_TooMany 0)) := ok__law_cell_at (P := P) (w := w) (base := base) T F_law_cell_at (PySem.W.mg_of X G a_law_cell_at)
  have D__law_source : ∀ [LamT], Df P w K mg base 2 "_law_source" 2 [] (m_law_source (Cs.mk K C_KernelError C_NoWidth C_NoLooks C_NoCycle C_NoRate C_NoReading 0 0 0 0 0 0 0 0 0 0 0 0 0 0 0 0 0 0 0 C_TooMany 0)) := ok__law_source (P := P) (w := w) (base := base) T F_law_source (PySem.W.mg_of X G a_law_source) D__law_cell_at D__law_mixed
  have D__law_width : ∀ [LamT], Df P w K mg base 3 "_law_width" 1 [] (m_law_width (Cs.mk K C_KernelError C_NoWidth C_NoLooks C_NoCycle C_NoRate C_NoReading 0 0 0 0 0 0 0 0 0 0 0 0 0 0 0 0 0 0 0 C_TooMany 0)) := ok__law_width (P := P) (w := w) (base := base) T F_law_width (PySem.W.mg_of X G a_law_width) D__law_next
  have D_power : ∀ [LamT], Df P w K mg base 1 "power" 1 [] (m_power (Cs.mk K C_KernelError C_NoWidth C_NoLooks C_NoCycle C_NoRate C_NoReading 0 0 0 0 0 0 0 0 0 0 0 0 0 0 0 0 0 0 0 C_TooMany 0)) := ok_power (P := P) (w := w) (base := base) T F_power (PySem.W.mg_of X G a_power)
  have D_is_whole : ∀ [LamT], Df P w K mg base 1 "is_whole" 2 [.non] (m_is_whole (Cs.mk K C_KernelError C_NoWidth C_NoLooks C_NoCycle C_NoRate C_NoReading 0 0 0 0 0 0 0 0 0 0 0 0 0 0 0 0 0 0 0 C_TooMany 0)) := ok_is_whole (P := P) (w := w) (base := base) T F_is_whole (PySem.W.mg_of X G a_is_whole)
  have D_is_cycles : ∀ [LamT], Df P w K mg base 2 "is_cycles" 2 [(.int 0)] (m_is_cycles (Cs.mk K C_KernelError C_NoWidth C_NoLooks C_NoCycle C_NoRate C_NoReading 0 0 0 0 0 0 0 0 0 0 0 0 0 0 0 0 0 0 0 C_TooMany 0)) := ok_is_cycles (P := P) (w := w) (base := base) T F_is_cycles (PySem.W.mg_of X G a_is_cycles) D_is_whole
  have D_check_looks : ∀ [LamT], Df P w K mg base 3 "check_looks" 1 [] (m_check_looks (Cs.mk K C_KernelError C_NoWidth C_NoLooks C_NoCycle C_NoRate C_NoReading 0 0 0 0 0 0 0 0 0 0 0 0 0 0 0 0 0 0 0 C_TooMany 0)) := ok_check_looks (P := P) (w := w) (base := base) T F_check_looks (PySem.W.mg_of X G a_check_looks) D_is_cycles
  have D_check_width : ∀ [LamT], Df P w K mg base 2 "check_width" 1 [] (m_check_width (Cs.mk K C_KernelError C_NoWidth C_NoLooks C_NoCycle C_NoRate C_NoReading 0 0 0 0 0 0 0 0 0 0 0 0 0 0 0 0 0 0 0 C_TooMany 0)) := ok_check_width (P := P) (w := w) (base := base) T F_check_width (PySem.W.mg_of X G a_check_width) D_is_whole
  have D_shown : ∀ [LamT], Df P w K mg base 4 "shown" 2 [] (m_shown (Cs.mk K C_KernelError C_NoWidth C_NoLooks C_NoCycle C_NoRate C_NoReading 0 0 0 0 0 0 0 0 0 0 0 0 0 0 0 0 0 0 0 C_TooMany 0)) := ok_shown (P := P) (w := w) (base := base) T F_shown (PySem.W.mg_of X G a_shown) D_check_looks D_check_width D_power
  have D_counted : ∀ [LamT], Df P w K mg base 5 "counted" 2 [] (m_counted (Cs.mk K C_KernelError C_NoWidth C_NoLooks C_NoCycle C_NoRate C_NoReading 0 0 0 0 0 0 0 0 0 0 0 0 0 0 0 0 0 0 0 C_TooMany 0)) := ok_counted (P := P) (w := w) (base := base) T F_counted (PySem.W.mg_of X G a_counted) D_power D_shown
  have D_check_cycle : ∀ [LamT], Df P w K mg base 2 "check_cycle" 2 [(.int 0)] (m_check_cycle (Cs.mk K C_KernelError C_NoWidth C_NoLooks C_NoCycle C_NoRate C_NoReading 0 0 0 0 0 0 0 0 0 0 0 0 0 0 0 0 0 0 0 C_TooMany 0)) := ok_check_cycle (P := P) (w := w) (base := base) T F_check_cycle (PySem.W.mg_of X G a_check_cycle) D_is_whole
  have D_check_values : ∀ [LamT], Df P w K mg base 3 "check_values" 2 [] (m_check_values (Cs.mk K C_KernelError C_NoWidth C_NoLooks C_NoCycle C_NoRate C_NoReading 0 0 0 0 0 0 0 0 0 0 0 0 0 0 0 0 0 0 0 C_TooMany 0)) := ok_check_values (P := P) (w := w) (base := base) T F_check_values (PySem.W.mg_of X G a_check_values) D_check_width D_is_whole D_power
  have D_least_history : ∀ [LamT], Df P w K mg base 4 "least_history" 2 [] (m_least_history (Cs.mk K C_KernelError C_NoWidth C_NoLooks C_NoCycle C_NoRate C_NoReading 0 0 0 0 0 0 0 0 0 0 0 0 0 0 0 0 0 0 0 C_TooMany 0)) := ok_least_history (P := P) (w := w) (base := base) T F_least_history (PySem.W.mg_of X G a_least_history) D_check_values D_power
  have D_histories_many : ∀ [LamT], Df P w K mg base 5 "histories_many" 3 [] (m_histories_many (Cs.mk K C_KernelError C_NoWidth C_NoLooks C_NoCycle C_NoRate C_NoReading 0 0 0 0 0 0 0 0 0 0 0 0 0 0 0 0 0 0 0 C_TooMany 0)) := ok_histories_many (P := P) (w := w) (base := base) T F_histories_many (PySem.W.mg_of X G a_histories_many) D_check_cycle D_check_values D_least_history D_power
  have D_lost : ∀ [LamT], Df P w K mg base 4 "lost" 2 [] (m_lost (Cs.mk K C_KernelError C_NoWidth C_NoLooks C_NoCycle C_NoRate C_NoReading 0 0 0 0 0 0 0 0 0 0 0 0 0 0 0 0 0 0 0 C_TooMany 0)) := ok_lost (P := P) (w := w) (base := base) T F_lost (PySem.W.mg_of X G a_lost) D_check_looks D_check_width D_power
  have D__law_word : ∀ [LamT], Df P w K mg base 6 "_law_word" 4 [] (m_law_word (Cs.mk K C_KernelError C_NoWidth C_NoLooks C_NoCycle C_NoRate C_NoReading 0 0 0 0 0 0 0 0 0 0 0 0 0 0 0 0 0 0 0 C_TooMany 0)) := ok__law_word (P := P) (w := w) (base := base) T F_law_word (PySem.W.mg_of X G a_law_word) D_counted D_histories_many D_least_history D_lost D_shown
  exact FnOk.imp (ok_law T F_law D__law_bad_list D__law_looks D__law_next D__law_source D__law_width D__law_word) (law_imp rfl ⟨rfl, rfl⟩ (run_law _ ⟨xm_NoCycle_KernelError, xi_NoCycle_NoCycle, xi_NoCycle_NoLooks, xi_NoCycle_NoRate, xi_NoCycle_NoReading, xi_NoCycle_NoWidth, xi_NoCycle_TooMany, xi_NoCycle_ValueError, xc_NoCycle, xm_NoLooks_KernelError, xi_NoLooks_NoCycle, xi_NoLooks_NoLooks, xi_NoLooks_NoRate, xi_NoLooks_NoReading, xi_NoLooks_NoWidth, xi_NoLooks_TooMany, xi_NoLooks_ValueError, xc_NoLooks, xm_NoWidth_KernelError, xi_NoWidth_NoCycle, xi_NoWidth_NoLooks, xi_NoWidth_NoRate, xi_NoWidth_NoReading, xi_NoWidth_NoWidth, xi_NoWidth_TooMany, xi_NoWidth_ValueError, xc_NoWidth⟩))
end L3
open PySem PySem.W PyProof.Rows
set_option maxHeartbeats 0 in
theorem PySem.Challenge.cw_timekernel_k05_what_counters_refuse_holds : PySem.Challenge.rw_timekernel_k05_what_counters_refuse.Holds := by
  w_on; o_law; k_head; (case hw => w_witness2)
  k_fill
  refine L2.walk_ofB (l := PySem.Challenge.rw_timekernel_k05_what_counters_refuse) (n := 63) (k := 7) (x := "script") (CX := fun w => L2.CX PySem.Challenge.pw_timekernel_k05_what_counters_refuse w) (sp := fun w => L3.spLaw _) rfl (by decide) rfl ⟨rfl, by decide, by decide⟩ (fun w h Y => PySem.W.kIn_of Y) ?F (fun _ _ a ns hl hb hO hS => ⟨a, ns, rfl, hl, hb, hO, hS, fun _ => rfl⟩) (fun w H s e s' h => L3.cx_none h)
  case F =>
    intro w mg fa h KX G hmg
    refine' L3.all_mk KX G hmg ?a_law_mixed ?l_law_mixed ?c_law_mixed ?k_law_mixed ?a_law_next ?l_law_next ?c_law_next ?k_law_next ?a_law_bad_list ?l_law_bad_list ?c_law_bad_list ?k_law_bad_list ?a_law_gap ?l_law_gap ?c_law_gap ?k_law_gap ?a_law_looks ?l_law_looks ?c_law_looks ?k_law_looks ?a_law_cell_at ?l_law_cell_at ?c_law_cell_at ?k_law_cell_at ?a_law_source ?l_law_source ?c_law_source ?k_law_source ?a_law_width ?l_law_width ?c_law_width ?k_law_width ?a_power ?l_power ?c_power ?k_power ?a_is_whole ?l_is_whole ?c_is_whole ?k_is_whole ?t_is_whole ?u_is_whole ?v_is_whole ?a_is_cycles ?l_is_cycles ?c_is_cycles ?k_is_cycles ?t_is_cycles ?u_is_cycles ?v_is_cycles ?a_check_looks ?l_check_looks ?c_check_looks ?k_check_looks ?a_check_width ?l_check_width ?c_check_width ?k_check_width ?a_shown ?l_shown ?c_shown ?k_shown ?a_counted ?l_counted ?c_counted ?k_counted ?a_check_cycle ?l_check_cycle ?c_check_cycle ?k_check_cycle ?t_check_cycle ?u_check_cycle ?v_check_cycle ?a_check_values ?l_check_values ?c_check_values ?k_check_values ?a_least_history ?l_least_history ?c_least_history ?k_least_history ?a_histories_many ?l_histories_many ?c_histories_many ?k_histories_many ?a_lost ?l_lost ?c_lost ?k_lost ?a_law_word ?l_law_word ?c_law_word ?k_law_word ?a_law ?l_law ?c_law ?k_law ?b_ValueError ?b_all ?b_bool ?b_int ?b_isinstance ?b_len ?b_list ?b_max ?b_min ?b_range ?b_sum ?b_tuple ?b_zip ?g_MOST_WIDTH ?xa_KernelError ?xq_KernelError ?xk_KernelError ?xb_KernelError ?xt_KernelError ?xa_NoCycle ?xq_NoCycle ?xk_NoCycle ?xb_NoCycle ?xt_NoCycle ?xa_NoLooks ?xq_NoLooks ?xk_NoLooks ?xb_NoLooks ?xt_NoLooks ?xa_NoRate ?xq_NoRate ?xk_NoRate ?xb_NoRate ?xt_NoRate ?xa_NoReading ?xq_NoReading ?xk_NoReading ?xb_NoReading ?xt_NoReading ?xa_NoWidth ?xq_NoWidth ?xk_NoWidth ?xb_NoWidth ?xt_NoWidth ?xa_TooMany ?xq_TooMany ?xk_TooMany ?xb_TooMany ?xt_TooMany ?xm_NoCycle_KernelError ?xi_NoCycle_NoCycle ?xi_NoCycle_NoLooks ?xi_NoCycle_NoRate ?xi_NoCycle_NoReading ?xi_NoCycle_NoWidth ?xi_NoCycle_TooMany ?xi_NoCycle_ValueError ?xc_NoCycle ?xm_NoLooks_KernelError ?xi_NoLooks_NoCycle ?xi_NoLooks_NoLooks ?xi_NoLooks_NoRate ?xi_NoLooks_NoReading ?xi_NoLooks_NoWidth ?xi_NoLooks_TooMany ?xi_NoLooks_ValueError ?xc_NoLooks ?xm_NoWidth_KernelError ?xi_NoWidth_NoCycle ?xi_NoWidth_NoLooks ?xi_NoWidth_NoRate ?xi_NoWidth_NoReading ?xi_NoWidth_NoWidth ?xi_NoWidth_TooMany ?xi_NoWidth_ValueError ?xc_NoWidth
    (case a_law_mixed => k_is)
    (case l_law_mixed => k_is)
    (case c_law_mixed => k_is)
    (case k_law_mixed => k_is)
    (case a_law_next => k_is)
    (case l_law_next => k_is)
    (case c_law_next => k_is)
    (case k_law_next => k_is)
    (case a_law_bad_list => k_is)
    (case l_law_bad_list => k_is)
    (case c_law_bad_list => k_is)
    (case k_law_bad_list => k_is)
    (case a_law_gap => k_is)
    (case l_law_gap => k_is)
    (case c_law_gap => k_is)
    (case k_law_gap => k_is)
    (case a_law_looks => k_is)
    (case l_law_looks => k_is)
    (case c_law_looks => k_is)
    (case k_law_looks => k_is)
    (case a_law_cell_at => k_is)
    (case l_law_cell_at => k_is)
    (case c_law_cell_at => k_is)
    (case k_law_cell_at => k_is)
    (case a_law_source => k_is)
    (case l_law_source => k_is)
    (case c_law_source => k_is)
    (case k_law_source => k_is)
    (case a_law_width => k_is)
    (case l_law_width => k_is)
    (case c_law_width => k_is)
    (case k_law_width => k_is)
    (case a_power => k_is)
    (case l_power => k_is)
    (case c_power => k_is)
    (case k_power => k_is)
    (case a_is_whole => k_is)
    (case l_is_whole => k_is)
    (case c_is_whole => k_is)
    (case k_is_whole => k_is)
    (case t_is_whole => k_is)
    (case u_is_whole => first | rfl | k_is)
    (case v_is_whole => exact .cons rfl .nil)
    (case a_is_cycles => k_is)
    (case l_is_cycles => k_is)
    (case c_is_cycles => k_is)
    (case k_is_cycles => k_is)
    (case t_is_cycles => k_is)
    (case u_is_cycles => first | rfl | k_is)
    (case v_is_cycles => exact .cons ⟨_, rfl⟩ .nil)
    (case a_check_looks => k_is)
    (case l_check_looks => k_is)
    (case c_check_looks => k_is)
    (case k_check_looks => k_is)
    (case a_check_width => k_is)
    (case l_check_width => k_is)
    (case c_check_width => k_is)
    (case k_check_width => k_is)
    (case a_shown => k_is)
    (case l_shown => k_is)
    (case c_shown => k_is)
    (case k_shown => k_is)
    (case a_counted => k_is)
    (case l_counted => k_is)
    (case c_counted => k_is)
    (case k_counted => k_is)
    (case a_check_cycle => k_is)
    (case l_check_cycle => k_is)
    (case c_check_cycle => k_is)
    (case k_check_cycle => k_is)
    (case t_check_cycle => k_is)
    (case u_check_cycle => first | rfl | k_is)
    (case v_check_cycle => exact .cons ⟨_, rfl⟩ .nil)
    (case a_check_values => k_is)
    (case l_check_values => k_is)
    (case c_check_values => k_is)
    (case k_check_values => k_is)
    (case a_least_history => k_is)
    (case l_least_history => k_is)
    (case c_least_history => k_is)
    (case k_least_history => k_is)
    (case a_histories_many => k_is)
    (case l_histories_many => k_is)
    (case c_histories_many => k_is)
    (case k_histories_many => k_is)
    (case a_lost => k_is)
    (case l_lost => k_is)
    (case c_lost => k_is)
    (case k_lost => k_is)
    (case a_law_word => k_is)
    (case l_law_word => k_is)
    (case c_law_word => k_is)
    (case k_law_word => k_is)
    (case a_law => k_is)
    (case l_law => k_is)
    (case c_law => k_is)
    (case k_law => k_is)
    (case b_ValueError => k_is)
    (case b_all => k_is)
    (case b_bool => k_is)
    (case b_int => k_is)
    (case b_isinstance => k_is)
    (case b_len => k_is)
    (case b_list => k_is)
    (case b_max => k_is)
    (case b_min => k_is)
    (case b_range => k_is)
    (case b_sum => k_is)
    (case b_tuple => k_is)
    (case b_zip => k_is)
    (case g_MOST_WIDTH => k_is)
    (case xa_KernelError => k_is)
    (case xq_KernelError => k_exc)
    (case xk_KernelError => k_is)
    (case xb_KernelError => k_is)
    (case xt_KernelError => k_is)
    (case xa_NoCycle => k_is)
    (case xq_NoCycle => k_exc)
    (case xk_NoCycle => k_is)
    (case xb_NoCycle => k_is)
    (case xt_NoCycle => k_is)
    (case xa_NoLooks => k_is)
    (case xq_NoLooks => k_exc)
    (case xk_NoLooks => k_is)
    (case xb_NoLooks => k_is)
    (case xt_NoLooks => k_is)
    (case xa_NoRate => k_is)
    (case xq_NoRate => k_exc)
    (case xk_NoRate => k_is)
    (case xb_NoRate => k_is)
    (case xt_NoRate => k_is)
    (case xa_NoReading => k_is)
    (case xq_NoReading => k_exc)
    (case xk_NoReading => k_is)
    (case xb_NoReading => k_is)
    (case xt_NoReading => k_is)
    (case xa_NoWidth => k_is)
    (case xq_NoWidth => k_exc)
    (case xk_NoWidth => k_is)
    (case xb_NoWidth => k_is)
    (case xt_NoWidth => k_is)
    (case xa_TooMany => k_is)
    (case xq_TooMany => k_exc)
    (case xk_TooMany => k_is)
    (case xb_TooMany => k_is)
    (case xt_TooMany => k_is)
    (case xm_NoCycle_KernelError => first | k_is | kts_exm)
    (case xi_NoCycle_NoCycle => first | k_is | kit_is)
    (case xi_NoCycle_NoLooks => first | k_is | kit_is)
    (case xi_NoCycle_NoRate => first | k_is | kit_is)
    (case xi_NoCycle_NoReading => first | k_is | kit_is)
    (case xi_NoCycle_NoWidth => first | k_is | kit_is)
    (case xi_NoCycle_TooMany => first | k_is | kit_is)
    (case xi_NoCycle_ValueError => first | k_is | kit_is)
    (case xc_NoCycle => constructor <;> k_is)
    (case xm_NoLooks_KernelError => first | k_is | kts_exm)
    (case xi_NoLooks_NoCycle => first | k_is | kit_is)
    (case xi_NoLooks_NoLooks => first | k_is | kit_is)
    (case xi_NoLooks_NoRate => first | k_is | kit_is)
    (case xi_NoLooks_NoReading => first | k_is | kit_is)
    (case xi_NoLooks_NoWidth => first | k_is | kit_is)
    (case xi_NoLooks_TooMany => first | k_is | kit_is)
    (case xi_NoLooks_ValueError => first | k_is | kit_is)
    (case xc_NoLooks => constructor <;> k_is)
    (case xm_NoWidth_KernelError => first | k_is | kts_exm)
    (case xi_NoWidth_NoCycle => first | k_is | kit_is)
    (case xi_NoWidth_NoLooks => first | k_is | kit_is)
    (case xi_NoWidth_NoRate => first | k_is | kit_is)
    (case xi_NoWidth_NoReading => first | k_is | kit_is)
    (case xi_NoWidth_NoWidth => first | k_is | kit_is)
    (case xi_NoWidth_TooMany => first | k_is | kit_is)
    (case xi_NoWidth_ValueError => first | k_is | kit_is)
    (case xc_NoWidth => constructor <;> k_is)
