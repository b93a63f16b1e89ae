import PyProof.Rows.All
import Wide.All
import OpenK.AllK
import Wide.FinOn
import HandS.ForMost
import HandS.ForExc
import HandS.WideBits
import HandS.TryMany
import HandS.ExcIs
import HandS.IsInst
import HandS.EndBits
import HandS.Flow
import HandS.Zip
import HandS.Defaults
import HandS.Lambda
import HandS.EndTab
import HandS.SortRule
import HandS.SortInts
import HandS.Conv
import HandS.Style
import KE.DataCmp
import HandS.Deep
import HandS.Dict
import KE.DataMinMax
import PySem.Challenge.RW_timekernel_k33_fewest_looks_far_away
set_option Elab.async false
set_option linter.all false
set_option maxRecDepth 100000
set_option maxHeartbeats 4000000
/-! L3: functional mirrors of defs over an own heap (a list of objects), and their walk over the hand layer. -/
namespace L3
open PySem L2

/-- the tables of code objects of the defs that make lambdas; the references that stay while a closure is about -/
class TabT where
  T : List (Addr × Str)
class LamT where
  r0 : List Addr
  cs : List (Addr × Str)
variable [TabT] [LamT]
/-- a value of the mirror: ref n, the n-th object of the mirror's heap; gl a, an object of the heap itself, by its address -/
inductive IV where
  | non | bl (b : Bool) | int (i : Int) | str (x : Str) | ref (n : Nat) | gl (a : Addr) | ty (n : String)
  deriving DecidableEq
def IV.toV : IV → V
  | .non => .non
  | .bl b => .bl b
  | .int i => .int i
  | .str x => .str x
  | .ref _ => .non
  | .gl a => .ref a
  | .ty n => .ty n
/-- an object of the mirror's heap; ro: a list that is only read; rot: a tuple of the written part -/
inductive MO where
  | lst (xs : List IV) | tup (xs : List IV) | ro (xs : List IV) | rot (xs : List IV) | dct | clo | dk (kvs : List (Key × IV))
  deriving DecidableEq
abbrev IH := List MO
abbrev Env := List (Option IV)
inductive Res (α : Type) where
  | ok (a : α) (ih : IH) | exc (c : Addr) (ih : IH) | stuck
inductive Fl where
  | next (env : Env) | brk (env : Env) | cont (env : Env) | ret (v : IV)
inductive RS where
  | ok (f : Fl) (ih : IH) | exc (c : Addr) (env : Env) (ih : IH) | stuck
def Res.bind {α β : Type} (r : Res α) (k : α → IH → Res β) : Res β := match r with
  | .ok a ih => k a ih
  | .exc c ih => .exc c ih
  | .stuck => .stuck
@[simp] theorem Res.bind_ok {α β : Type} (a : α) (ih : IH) (k : α → IH → Res β) : (Res.ok a ih).bind k = k a ih := rfl
@[simp] theorem Res.bind_exc {α β : Type} (c : Addr) (ih : IH) (k : α → IH → Res β) : (Res.exc c ih).bind k = .exc c ih := rfl
@[simp] theorem Res.bind_stuck {α β : Type} (k : α → IH → Res β) : (Res.stuck : Res α).bind k = .stuck := rfl
/-- an expression's result within a statement -/
def Res.stm {α : Type} (r : Res α) (env : Env) (k : α → IH → RS) : RS := match r with
  | .ok a ih => k a ih
  | .exc c ih => .exc c env ih
  | .stuck => .stuck
@[simp] theorem Res.stm_ok {α : Type} (a : α) (ih : IH) (env : Env) (k : α → IH → RS) : (Res.ok a ih).stm env k = k a ih := rfl
@[simp] theorem Res.stm_exc {α : Type} (c : Addr) (ih : IH) (env : Env) (k : α → IH → RS) : (Res.exc c ih : Res α).stm env k = .exc c env ih := rfl
@[simp] theorem Res.stm_stuck {α : Type} (env : Env) (k : α → IH → RS) : (Res.stuck : Res α).stm env k = .stuck := rfl

/-! ### what the mirror's heap says of the heap -/
def R (r : List Addr) (x : IV) (y : V) : Prop := match x with
  | .ref n => ∃ a, r[n]? = some a ∧ y = .ref a
  | z => y = z.toV
def Rs (r : List Addr) : List IV → List V → Prop := Paired (R r)
def RK (r : List Addr) : List (Key × IV) → List (Key × V) → Prop := Paired fun p q => p.1 = q.1 ∧ R r p.2 q.2
def RO (K : PySem.W.Frag) (r : List Addr) (H : Hp) (a : Addr) : MO → Prop
  | .lst xs => ∃ ys, H a = some (.lst ys) ∧ Rs r xs ys
  | .tup xs => ∃ ys, H a = some (.tup ys) ∧ Rs r xs ys
  | .ro xs => ∃ ys, ((∃ o, H a = some (.frz o (.lst ys))) ∨ SqL K (fun _ => none) a ys) ∧ Rs r xs ys
  | .rot xs => ∃ ys, SqT K (fun _ => none) a ys ∧ Rs r xs ys
  | .dct => ∃ kvs, H a = some (.dK kvs)
  | .dk kvs => ∃ ys, H a = some (.dK ys) ∧ RK r kvs ys
  | .clo => True
def still : MO → Bool
  | .lst _ => false
  | .tup _ => false
  | .ro _ => true
  | .rot _ => true
  | .dct => false
  | .dk _ => false
  | .clo => true
structure Rel (K : PySem.W.Frag) (r : List Addr) (ih : IH) (H : Hp) : Prop where
  len : r.length = ih.length
  get : ∀ (n : Nat) (a : Addr) (o : MO), r[n]? = some a → ih[n]? = some o → RO K r H a o
  inj : ∀ (n m : Nat) (a : Addr) (o u : MO), r[n]? = some a → r[m]? = some a → ih[n]? = some o → ih[m]? = some u → still o = false → still u = false → n = m
  tab : LamX.Tabs TabT.T H
  pre : LamT.r0 <+: r
  cod : ∀ p ∈ LamT.cs, H p.1 = some (LamX.CodeO p.1 p.2)
def REnv (r : List Addr) (env : Env) (σ : St) : Prop := env.length = σ.length ∧ ∀ (i : Nat) (v : IV), env[i]? = some (some v) → ∃ u, σ[i]? = some (some u) ∧ R r v u

theorem pre_get {r r' : List Addr} (p : r <+: r') {n : Nat} {a : Addr} (h : r[n]? = some a) : r'[n]? = some a := by
  obtain ⟨t, rfl⟩ := p
  rw [List.getElem?_append_left (List.getElem?_eq_some_iff.mp h).1]
  exact h
theorem R.mono {r r' : List Addr} (p : r <+: r') {x : IV} {y : V} (h : R r x y) : R r' x y := by
  cases x with
  | ref n =>
    obtain ⟨a, h1, h2⟩ := h
    exact ⟨a, pre_get p h1, h2⟩
  | _ => exact h
theorem Rs.mono {r r' : List Addr} (p : r <+: r') {xs : List IV} {ys : List V} (h : Rs r xs ys) : Rs r' xs ys := Paired.mapP h fun _ _ q => q.mono p
theorem RK.mono {r r' : List Addr} (p : r <+: r') {xs : List (Key × IV)} {ys : List (Key × V)} (h : RK r xs ys) : RK r' xs ys := Paired.mapP h fun _ _ q => ⟨q.1, q.2.mono p⟩
theorem REnv.mono {r r' : List Addr} (p : r <+: r') {env : Env} {σ : St} (h : REnv r env σ) : REnv r' env σ :=
  ⟨h.1, fun i v e => let ⟨u, h1, h2⟩ := h.2 i v e; ⟨u, h1, h2.mono p⟩⟩
theorem REnv.set {r : List Addr} {env : Env} {σ : St} (h : REnv r env σ) {x : IV} {y : V} (q : R r x y) (i : Nat) : REnv r (env.set i (some x)) (σ.set i (some y)) := by
  refine ⟨by rw [List.length_set, List.length_set, h.1], fun j v e => ?_⟩
  by_cases hj : i = j
  · subst hj
    by_cases hl : i < env.length
    · rw [List.getElem?_set_self hl] at e
      cases e
      exact ⟨y, List.getElem?_set_self (by rw [← h.1]; exact hl), q⟩
    · rw [List.getElem?_eq_none (by simpa using hl)] at e
      cases e
  · rw [List.getElem?_set_ne hj] at e
    obtain ⟨u, h1, h2⟩ := h.2 j v e
    exact ⟨u, by rw [List.getElem?_set_ne hj]; exact h1, h2⟩
theorem REnv.setN {r : List Addr} {env : Env} {σ : St} (h : REnv r env σ) (i : Nat) : REnv r (env.set i none) (σ.set i none) := by
  refine ⟨by rw [List.length_set, List.length_set, h.1], fun j v e => ?_⟩
  by_cases hj : i = j
  · subst hj
    by_cases hl : i < env.length
    · rw [List.getElem?_set_self hl] at e
      cases e
    · rw [List.getElem?_eq_none (by simpa using hl)] at e
      cases e
  · rw [List.getElem?_set_ne hj] at e
    obtain ⟨u, h1, h2⟩ := h.2 j v e
    exact ⟨u, by rw [List.getElem?_set_ne hj]; exact h1, h2⟩
def wipeI (env : Env) : List Nat → Env
  | [] => env
  | v :: vs => (wipeI env vs).set v none
theorem REnv.wipe {r : List Addr} {env : Env} {σ : St} (h : REnv r env σ) : ∀ vs : List Nat, REnv r (wipeI env vs) (wipe σ vs)
  | [] => h
  | v :: vs => (REnv.wipe h vs).setN v
theorem REnv.setO {r : List Addr} {env : Env} {σ : St} (h : REnv r env σ) (i : Nat) (y : Option V) : REnv r (env.set i none) (σ.set i y) := by
  refine ⟨by rw [List.length_set, List.length_set, h.1], fun j v e => ?_⟩
  by_cases hj : i = j
  · subst hj
    by_cases hl : i < env.length
    · rw [List.getElem?_set_self hl] at e
      cases e
    · rw [List.getElem?_eq_none (by simpa using hl)] at e
      cases e
  · rw [List.getElem?_set_ne hj] at e
    obtain ⟨u, h1, h2⟩ := h.2 j v e
    exact ⟨u, by rw [List.getElem?_set_ne hj]; exact h1, h2⟩

theorem Rs.get {r : List Addr} : ∀ {xs : List IV} {ys : List V} {i : Nat} {x : IV}, Rs r xs ys → xs[i]? = some x → ∃ y, ys[i]? = some y ∧ R r x y
  | _, _, _, _, .nil, e => by simp at e
  | _, _, 0, _, .cons q _, e => by simp at e; subst e; exact ⟨_, rfl, q⟩
  | _, _, i + 1, x, .cons _ t, e => by
    obtain ⟨u, h1, h2⟩ := Rs.get (i := i) (x := x) t (by simpa using e)
    exact ⟨u, by simpa using h1, h2⟩
theorem Rs.length {r : List Addr} {xs : List IV} {ys : List V} (h : Rs r xs ys) : xs.length = ys.length := Paired.length h
theorem Rs.append {r : List Addr} : ∀ {xs ys : List IV} {us ws : List V}, Rs r xs us → Rs r ys ws → Rs r (xs ++ ys) (us ++ ws)
  | _, _, _, _, .nil, s => s
  | _, _, _, _, .cons q t, s => .cons q (Rs.append t s)
theorem Rs.set {r : List Addr} {x : IV} {u : V} (q : R r x u) : ∀ {xs : List IV} {us : List V} (i : Nat), Rs r xs us → Rs r (xs.set i x) (us.set i u)
  | _, _, _, .nil => .nil
  | _, _, 0, .cons _ t => .cons q t
  | _, _, i + 1, .cons q' t => .cons q' (Rs.set q i t)
theorem Rs.take {r : List Addr} : ∀ {xs : List IV} {us : List V} (n : Nat), Rs r xs us → Rs r (xs.take n) (us.take n)
  | _, _, 0, _ => .nil
  | _, _, _ + 1, .nil => .nil
  | _, _, n + 1, .cons q t => .cons q (Rs.take n t)
theorem Rs.drop {r : List Addr} : ∀ {xs : List IV} {us : List V} (n : Nat), Rs r xs us → Rs r (xs.drop n) (us.drop n)
  | _, _, 0, q => q
  | _, _, _ + 1, .nil => .nil
  | _, _, n + 1, .cons _ t => Rs.drop n t

theorem SqL.ofK {K : PySem.W.Frag} {H : Hp} {a : Addr} {ys : List V} (h : SqL K (fun _ => none) a ys) : SqL K H a ys := by
  rcases h with (h | ⟨o, h⟩) | h
  · cases h
  · cases h
  · exact .inr h
theorem SqT.ofK {K : PySem.W.Frag} {H : Hp} {a : Addr} {ys : List V} (h : SqT K (fun _ => none) a ys) : SqT K H a ys := by
  rcases h with (h | ⟨o, h⟩) | h
  · cases h
  · cases h
  · exact .inr h

section
variable {K : PySem.W.Frag} {r r' : List Addr} {ih ih' : IH} {H H' : Hp}
theorem Rel.at (h : Rel K r ih H) {n : Nat} {o : MO} (e : ih[n]? = some o) : ∃ a, r[n]? = some a ∧ RO K r H a o := by
  have hl := (List.getElem?_eq_some_iff.mp e).1
  have hr : n < r.length := by rw [h.len]; exact hl
  exact ⟨r[n], List.getElem?_eq_getElem hr, h.get n _ o (List.getElem?_eq_getElem hr) e⟩
theorem RO.mono (p : r <+: r') {a : Addr} {o : MO} (h : RO K r H a o) : RO K r' H a o := by
  cases o with
  | lst xs => obtain ⟨ys, h1, h2⟩ := h; exact ⟨ys, h1, h2.mono p⟩
  | tup xs => obtain ⟨ys, h1, h2⟩ := h; exact ⟨ys, h1, h2.mono p⟩
  | ro xs => obtain ⟨ys, h1, h2⟩ := h; exact ⟨ys, h1, h2.mono p⟩
  | rot xs => obtain ⟨ys, h1, h2⟩ := h; exact ⟨ys, h1, h2.mono p⟩
  | dct => exact h
  | dk kvs => obtain ⟨ys, h1, h2⟩ := h; exact ⟨ys, h1, h2.mono p⟩
  | clo => trivial
/-- the object's own entry is all that counts -/
theorem RO.heap {a : Addr} {o : MO} (h : RO K r H a o) (e : still o = true ∨ H' a = H a) (e2 : ∀ o' u, H a = some (.frz o' u) → H' a = some (.frz o' u)) : RO K r H' a o := by
  cases o with
  | lst xs =>
    obtain ⟨ys, h1, h2⟩ := h
    rcases e with e | e
    · cases e
    · exact ⟨ys, by rw [e]; exact h1, h2⟩
  | tup xs =>
    obtain ⟨ys, h1, h2⟩ := h
    rcases e with e | e
    · cases e
    · exact ⟨ys, by rw [e]; exact h1, h2⟩
  | ro xs =>
    obtain ⟨ys, h1, h2⟩ := h
    rcases h1 with ⟨o', h1⟩ | h1
    · exact ⟨ys, .inl ⟨o', e2 _ _ h1⟩, h2⟩
    · exact ⟨ys, .inr h1, h2⟩
  | rot xs => obtain ⟨ys, h1, h2⟩ := h; exact ⟨ys, h1, h2⟩
  | dct =>
    obtain ⟨kvs, h1⟩ := h
    rcases e with e | e
    · cases e
    · exact ⟨kvs, by rw [e]; exact h1⟩
  | dk kvs =>
    obtain ⟨ys, h1, h2⟩ := h
    rcases e with e | e
    · cases e
    · exact ⟨ys, by rw [e]; exact h1, h2⟩
  | clo => trivial
/-- a new object -/
theorem Rel.new (h : Rel K r ih H) {p : Addr} (hp : H p = none) {o : MO} {u : HO} (hs : still o = false) (ho : ∀ H', H' p = some u → RO K r H' p o) : Rel K (r ++ [p]) (ih ++ [o]) (upd H p u) := by
  have pre : r <+: r ++ [p] := ⟨[p], rfl⟩
  have off : ∀ {n : Nat} {b : Addr}, (r ++ [p])[n]? = some b → r[n]? = some b ∨ (n = r.length ∧ b = p) := fun {n b} e => by
    by_cases hn : n < r.length
    · rw [List.getElem?_append_left hn] at e
      exact .inl e
    · rw [List.getElem?_append_right (by omega)] at e
      have hz : n - r.length = 0 := by
        by_cases hz : n - r.length = 0
        · exact hz
        · rw [List.getElem?_eq_none (by simp; omega)] at e
          cases e
      rw [hz] at e
      cases e
      exact .inr ⟨by omega, rfl⟩
  have ofi : ∀ {n : Nat} {x : MO}, n < r.length → (ih ++ [o])[n]? = some x → ih[n]? = some x := fun {n x} hn e => by
    rw [List.getElem?_append_left (by rw [← h.len]; exact hn)] at e
    exact e
  refine ⟨by rw [List.length_append, List.length_append, h.len]; rfl, fun n a x e1 e2 => ?_, fun n m a x y e1 e2 e3 e4 s1 s2 => ?_, h.tab.ext fun b o e => (upd_ne (ne_of_none e hp)).trans e, h.pre.trans pre, fun q hq => (upd_ne (ne_of_none (h.cod q hq) hp)).trans (h.cod q hq)⟩
  · rcases off e1 with e | ⟨e, rfl⟩
    · have hn := (List.getElem?_eq_some_iff.mp e).1
      have q := h.get n a x e (ofi hn e2)
      by_cases ha : a = p
      · subst ha
        refine (q.heap (H' := upd H a u) ?_ fun o' u' z => by rw [hp] at z; cases z).mono pre
        cases x with
        | lst xs => obtain ⟨ys, z, _⟩ := q; rw [hp] at z; cases z
        | tup xs => obtain ⟨ys, z, _⟩ := q; rw [hp] at z; cases z
        | ro xs => exact .inl rfl
        | rot xs => exact .inl rfl
        | clo => exact .inl rfl
        | dct => obtain ⟨kvs, z⟩ := q; rw [hp] at z; cases z
        | dk kvs => obtain ⟨ys, z, _⟩ := q; rw [hp] at z; cases z
      · exact (q.heap (H' := upd H p u) (.inr (upd_ne ha)) fun o' u' z => by rw [upd_ne ha]; exact z).mono pre
    · subst e
      rw [h.len, List.getElem?_append_right (Nat.le_refl _), Nat.sub_self] at e2
      cases e2
      exact (ho _ upd_same).mono pre
  · have low : ∀ {n : Nat} {x : MO}, r[n]? = some p → (ih ++ [o])[n]? = some x → still x = false → False := fun {n x} z1 z2 z3 => by
      have hn := (List.getElem?_eq_some_iff.mp z1).1
      have q := h.get n p x z1 (ofi hn z2)
      cases x with
      | lst xs => obtain ⟨ys, z, _⟩ := q; rw [hp] at z; cases z
      | tup xs => obtain ⟨ys, z, _⟩ := q; rw [hp] at z; cases z
      | ro xs => cases z3
      | rot xs => cases z3
      | clo => cases z3
      | dct => obtain ⟨kvs, z⟩ := q; rw [hp] at z; cases z
      | dk kvs => obtain ⟨ys, z, _⟩ := q; rw [hp] at z; cases z
    rcases off e1 with z1 | ⟨z1, rfl⟩
    · rcases off e2 with z2 | ⟨z2, rfl⟩
      · exact h.inj n m a x y z1 z2 (ofi (List.getElem?_eq_some_iff.mp z1).1 e3) (ofi (List.getElem?_eq_some_iff.mp z2).1 e4) s1 s2
      · exact (low z1 e3 s1).elim
    · rcases off e2 with z2 | ⟨z2, _⟩
      · exact (low z2 e4 s2).elim
      · rw [z1, z2]
/-- a list is written -/
theorem Rel.write (h : Rel K r ih H) {n : Nat} {a : Addr} {xs xs' : List IV} {ys : List V} (e1 : r[n]? = some a) (e2 : ih[n]? = some (.lst xs)) (q : Rs r xs' ys) :
    Rel K r (ih.set n (.lst xs')) (upd H a (.lst ys)) := by
  have hn := (List.getElem?_eq_some_iff.mp e2).1
  obtain ⟨zs, hz, _⟩ := h.get n a _ e1 e2
  refine ⟨by rw [List.length_set]; exact h.len, fun m b x g1 g2 => ?_, fun m l b x y g1 g2 g3 g4 s1 s2 => ?_, fun p hp => ?_, h.pre, fun p hp => (upd_ne (ne_of (h.cod p hp) hz fun z => by unfold LamX.CodeO at z; cases z)).trans (h.cod p hp)⟩
  rotate_right
  · obtain ⟨ps, t1, t2, t3⟩ := h.tab p hp
    have ne : ∀ {b : Addr} {u : HO}, H b = some u → u ≠ .lst zs → upd H a (.lst ys) b = some u := fun {b u} e hu => (upd_ne (ne_of e hz hu)).trans e
    refine ⟨ps, ne t1 (fun z => nomatch z), t2, fun pos cv hc => ?_⟩
    obtain ⟨c, e, ec⟩ := t3 pos cv hc
    exact ⟨c, e, ne ec fun z => by unfold LamX.CodeO at z; cases z⟩
  · by_cases hm : n = m
    · subst hm
      rw [List.getElem?_set_self hn] at g2
      cases g2
      rw [e1] at g1
      cases g1
      exact ⟨ys, upd_same, q⟩
    · rw [List.getElem?_set_ne hm] at g2
      have w := h.get m b x g1 g2
      by_cases hb : b = a
      · subst hb
        refine w.heap ?_ fun o' u' z => by rw [hz] at z; cases z
        cases hs : still x with
        | true => exact .inl rfl
        | false => exact absurd (h.inj n m b _ _ e1 g1 e2 g2 rfl hs) hm
      · exact w.heap (.inr (upd_ne hb)) fun o' u' z => by rw [upd_ne hb]; exact z
  · have back : ∀ {m : Nat} {x : MO}, (ih.set n (.lst xs'))[m]? = some x → still x = false → ∃ x', ih[m]? = some x' ∧ still x' = false := fun {m x} g s => by
      by_cases hm : n = m
      · subst hm
        exact ⟨_, e2, rfl⟩
      · rw [List.getElem?_set_ne hm] at g
        exact ⟨x, g, s⟩
    obtain ⟨x', z1, z2⟩ := back g3 s1
    obtain ⟨y', z3, z4⟩ := back g4 s2
    exact h.inj m l b _ _ g1 g2 z1 z3 z2 z4
/-- a dict is written -/
theorem Rel.writeD (h : Rel K r ih H) {n : Nat} {a : Addr} {xs xs' : List (Key × IV)} {ys : List (Key × V)} (e1 : r[n]? = some a) (e2 : ih[n]? = some (.dk xs)) (q : RK r xs' ys) :
    Rel K r (ih.set n (.dk xs')) (upd H a (.dK ys)) := by
  have hn := (List.getElem?_eq_some_iff.mp e2).1
  obtain ⟨zs, hz, _⟩ := h.get n a _ e1 e2
  refine ⟨by rw [List.length_set]; exact h.len, fun m b x g1 g2 => ?_, fun m l b x y g1 g2 g3 g4 s1 s2 => ?_, fun p hp => ?_, h.pre, fun p hp => (upd_ne (ne_of (h.cod p hp) hz fun z => by unfold LamX.CodeO at z; cases z)).trans (h.cod p hp)⟩
  rotate_right
  · obtain ⟨ps, t1, t2, t3⟩ := h.tab p hp
    have ne : ∀ {b : Addr} {u : HO}, H b = some u → u ≠ .dK zs → upd H a (.dK ys) b = some u := fun {b u} e hu => (upd_ne (ne_of e hz hu)).trans e
    refine ⟨ps, ne t1 (fun z => nomatch z), t2, fun pos cv hc => ?_⟩
    obtain ⟨c, e, ec⟩ := t3 pos cv hc
    exact ⟨c, e, ne ec fun z => by unfold LamX.CodeO at z; cases z⟩
  · by_cases hm : n = m
    · subst hm
      rw [List.getElem?_set_self hn] at g2
      cases g2
      rw [e1] at g1
      cases g1
      exact ⟨ys, upd_same, q⟩
    · rw [List.getElem?_set_ne hm] at g2
      have w := h.get m b x g1 g2
      by_cases hb : b = a
      · subst hb
        refine w.heap ?_ fun o' u' z => by rw [hz] at z; cases z
        cases hs : still x with
        | true => exact .inl rfl
        | false => exact absurd (h.inj n m b _ _ e1 g1 e2 g2 rfl hs) hm
      · exact w.heap (.inr (upd_ne hb)) fun o' u' z => by rw [upd_ne hb]; exact z
  · have back : ∀ {m : Nat} {x : MO}, (ih.set n (.dk xs'))[m]? = some x → still x = false → ∃ x', ih[m]? = some x' ∧ still x' = false := fun {m x} g s => by
      by_cases hm : n = m
      · subst hm
        exact ⟨_, e2, rfl⟩
      · rw [List.getElem?_set_ne hm] at g
        exact ⟨x, g, s⟩
    obtain ⟨x', z1, z2⟩ := back g3 s1
    obtain ⟨y', z3, z4⟩ := back g4 s2
    exact h.inj m l b _ _ g1 g2 z1 z3 z2 z4
end
end L3
/-! L3b: mirrors as readings; expressions. -/
namespace L3
variable [TabT] [LamT]
open PySem L2

/-! ### readings made of mirrors -/
/-- what is wanted of an expression's result -/
def PGen {α β : Type} (rel : List Addr → α → β → Prop) (K : PySem.W.Frag) (W : WX) (σ : St) (r : List Addr) (res : Res α) (Q : β → Hp → Prop) : Prop := match res with
  | .ok v ih => ∀ r' H u, r <+: r' → Rel K r' ih H → rel r' v u → Q u H
  | .exc c ih => ∀ r' H, r <+: r' → Rel K r' ih H → W (.ref c) none σ H
  | .stuck => False
def tG {α β : Type} (rel : List Addr → α → β → Prop) (K : PySem.W.Frag) (W : WX) (m : Env → IH → Res α) : St → Hp → (β → Hp → Prop) → Prop := fun σ H Q =>
  ∃ r ih env, Rel K r ih H ∧ REnv r env σ ∧ PGen rel K W σ r (m env ih) Q
abbrev Bq (_ : List Addr) (a b : Bool) : Prop := b = a
/-- an optional int of a slice -/
abbrev Oq (_ : List Addr) (a b : Option Int) : Prop := b = a
abbrev tM (K : PySem.W.Frag) (W : WX) (m : Env → IH → Res IV) : TE := tG R K W m
abbrev tMT (K : PySem.W.Frag) (W : WX) (m : Env → IH → Res Bool) : TT := tG Bq K W m
abbrev tMA (K : PySem.W.Frag) (W : WX) (m : Env → IH → Res (List IV)) : TA := tG Rs K W m
def PStm (K : PySem.W.Frag) (W : WX) (r : List Addr) (res : RS) (D : Ends) : Prop := match res with
  | .ok (.next env) ih => ∀ r' H σ, r <+: r' → Rel K r' ih H → REnv r' env σ → D.nx σ H
  | .ok (.brk env) ih => ∀ r' H σ, r <+: r' → Rel K r' ih H → REnv r' env σ → D.bk σ H
  | .ok (.cont env) ih => ∀ r' H σ, r <+: r' → Rel K r' ih H → REnv r' env σ → D.ct σ H
  | .ok (.ret v) ih => ∀ r' H u, r <+: r' → Rel K r' ih H → R r' v u → D.rt u H
  | .exc c env ih => ∀ r' H σ, r <+: r' → Rel K r' ih H → REnv r' env σ → W (.ref c) none σ H
  | .stuck => False
def tMS (K : PySem.W.Frag) (W : WX) (m : Env → IH → RS) : TS := fun D σ H => ∃ r ih env, Rel K r ih H ∧ REnv r env σ ∧ PStm K W r (m env ih) D

theorem pre_refl (r : List Addr) : r <+: r := ⟨[], List.append_nil r⟩
theorem pre_trans {a b c : List Addr} (h : a <+: b) (k : b <+: c) : a <+: c := by
  obtain ⟨x, rfl⟩ := h
  obtain ⟨y, rfl⟩ := k
  exact ⟨x ++ y, (List.append_assoc _ _ _).symm⟩
section
variable {K : PySem.W.Frag} {W : WX} {σ : St} {H : Hp} {r r' : List Addr} {ih ih' : IH} {env : Env}
theorem PGen.mono {α β : Type} {rel : List Addr → α → β → Prop} {res : Res α} {Q : β → Hp → Prop} (p : r <+: r') (h : PGen rel K W σ r res Q) : PGen rel K W σ r' res Q := by
  cases res with
  | ok v ih => exact fun r2 H u p2 a b => h r2 H u (pre_trans p p2) a b
  | exc c ih => exact fun r2 H p2 a => h r2 H (pre_trans p p2) a
  | stuck => exact h
theorem PStm.mono {res : RS} {D : Ends} (p : r <+: r') (h : PStm K W r res D) : PStm K W r' res D := by
  cases res with
  | ok f ih =>
    cases f with
    | next e => exact fun r2 H u p2 a b => h r2 H u (pre_trans p p2) a b
    | brk e => exact fun r2 H u p2 a b => h r2 H u (pre_trans p p2) a b
    | cont e => exact fun r2 H u p2 a b => h r2 H u (pre_trans p p2) a b
    | ret e => exact fun r2 H u p2 a b => h r2 H u (pre_trans p p2) a b
  | exc c e ih => exact fun r2 H u p2 a b => h r2 H u (pre_trans p p2) a b
  | stuck => exact h
/-- what is known behind a part -/
def Got {α β : Type} (rel : List Addr → α → β → Prop) (K : PySem.W.Frag) (r : List Addr) (P : List Addr → IH → α → Prop) (u : β) (H : Hp) : Prop := ∃ r1 ih1 v, r <+: r1 ∧ Rel K r1 ih1 H ∧ rel r1 v u ∧ P r1 ih1 v
/-- the first part of a bind -/
theorem tG_bind {α β γ δ : Type} {rel1 : List Addr → α → β → Prop} {rel2 : List Addr → γ → δ → Prop} {m : Env → IH → Res α} {k : α → IH → Res γ} {Q : δ → Hp → Prop} (hr : Rel K r ih H) (he : REnv r env σ)
    (h : PGen rel2 K W σ r ((m env ih).bind k) Q) : tG rel1 K W m σ H (Got rel1 K r fun r1 ih1 v => PGen rel2 K W σ r1 (k v ih1) Q) := by
  refine ⟨r, ih, env, hr, he, ?_⟩
  cases e : m env ih with
  | ok v ih1 =>
    rw [e] at h
    exact fun r1 H1 u p a b => ⟨r1, ih1, v, p, a, b, PGen.mono p h⟩
  | exc c ih1 =>
    rw [e] at h
    exact fun r1 H1 p a => h r1 H1 p a
  | stuck =>
    rw [e] at h
    exact h
theorem tG_stm {α β : Type} {rel1 : List Addr → α → β → Prop} {m : Env → IH → Res α} {k : α → IH → RS} {D : Ends} (hr : Rel K r ih H) (he : REnv r env σ)
    (h : PStm K W r ((m env ih).stm env k) D) : tG rel1 K W m σ H (Got rel1 K r fun r1 ih1 v => PStm K W r1 (k v ih1) D) := by
  refine ⟨r, ih, env, hr, he, ?_⟩
  cases e : m env ih with
  | ok v ih1 =>
    rw [e] at h
    exact fun r1 H1 u p a b => ⟨r1, ih1, v, p, a, b, PStm.mono p h⟩
  | exc c ih1 =>
    rw [e] at h
    exact fun r1 H1 p a => h r1 H1 σ p a (he.mono p)
  | stuck =>
    rw [e] at h
    exact h
theorem tG_end {α β : Type} {rel : List Addr → α → β → Prop} {v : α} {u : β} {Q : β → Hp → Prop} (h : PGen rel K W σ r (.ok v ih) Q) (hr : Rel K r ih H) (q : rel r v u) : Q u H := h r H u (pre_refl r) hr q
end
theorem tG.imp {α β : Type} {rel : List Addr → α → β → Prop} {K : PySem.W.Frag} {W : WX} {m : Env → IH → Res α} {σ : St} {H : Hp} {Q Q' : β → Hp → Prop} (h : tG rel K W m σ H Q) (w : ∀ u H', Q u H' → Q' u H') : tG rel K W m σ H Q' := by
  obtain ⟨r, ih, env, h1, h2, h3⟩ := h
  refine ⟨r, ih, env, h1, h2, ?_⟩
  cases e : m env ih with
  | ok v ih1 => rw [e] at h3; exact fun r' H' u p a b => w _ _ (h3 r' H' u p a b)
  | exc c ih1 => rw [e] at h3; exact h3
  | stuck => rw [e] at h3; exact h3
/-- a reading, weaker -/
theorem PE.of {X : Cx} {e : Expr} {t t' : TE} (h : PE X e t) (w : ∀ σ H Q, t' σ H Q → t σ H Q) : PE X e t' := ⟨fun pins s σ H Q I q => h.run pins s σ H Q I (w σ H Q q)⟩
theorem PT.of {X : Cx} {e : Expr} {t t' : TT} (h : PT X e t) (w : ∀ σ H Q, t' σ H Q → t σ H Q) : PT X e t' := ⟨fun pins s σ H Q I q => h.run pins s σ H Q I (w σ H Q q)⟩
theorem PW.of {X : Cx} {e : Expr} {t t' : TT} (h : PW X e t) (w : ∀ σ H Q, t' σ H Q → t σ H Q) : PW X e t' := ⟨fun wh pins s σ H Q I q => h.run wh pins s σ H Q I (w σ H Q q)⟩
theorem PA.of {X : Cx} {e : List Expr} {t t' : TA} (h : PA X e t) (w : ∀ σ H Q, t' σ H Q → t σ H Q) : PA X e t' := ⟨fun pos pins s σ H Q I q => h.run pos pins s σ H Q I (w σ H Q q)⟩
theorem PS.of {X : Cx} {e : Stmt} {t t' : TS} (h : PS X e t) (w : ∀ D σ H, t' D σ H → t D σ H) : PS X e t' := ⟨fun pins s σ H D I q => h.run pins s σ H D I (w D σ H q)⟩
theorem PSs.of {X : Cx} {e : List Stmt} {t t' : TS} (h : PSs X e t) (w : ∀ D σ H, t' D σ H → t D σ H) : PSs X e t' := ⟨fun pins s σ H D I q => h.run pins s σ H D I (w D σ H q)⟩

/-! ### mirrors of expressions -/
def m_var (i : Nat) (env : Env) (ih : IH) : Res IV := match env[i]? with
  | some (some v) => .ok v ih
  | _ => .stuck
def m_c (v : IV) (_ : Env) (ih : IH) : Res IV := .ok v ih
def m_op (f : IV → IV → IH → Res IV) (ma mb : Env → IH → Res IV) (env : Env) (ih : IH) : Res IV := (ma env ih).bind fun x ih1 => (mb env ih1).bind fun y ih2 => f x y ih2
def m_un (f : IV → IH → Res IV) (ma : Env → IH → Res IV) (env : Env) (ih : IH) : Res IV := (ma env ih).bind f
def m_nil (_ : Env) (ih : IH) : Res (List IV) := .ok [] ih
def m_cons (ma : Env → IH → Res IV) (mr : Env → IH → Res (List IV)) (env : Env) (ih : IH) : Res (List IV) := (ma env ih).bind fun x ih1 => (mr env ih1).bind fun xs ih2 => .ok (x :: xs) ih2
def m_if (mt : Env → IH → Res Bool) (ma mb : Env → IH → Res IV) (env : Env) (ih : IH) : Res IV := (mt env ih).bind fun b ih1 => if b = true then ma env ih1 else mb env ih1
def m_and (ma mb : Env → IH → Res Bool) (env : Env) (ih : IH) : Res Bool := (ma env ih).bind fun b ih1 => if b = true then mb env ih1 else .ok false ih1
def m_or (ma mb : Env → IH → Res Bool) (env : Env) (ih : IH) : Res Bool := (ma env ih).bind fun b ih1 => if b = true then .ok true ih1 else mb env ih1
def m_not (ma : Env → IH → Res Bool) (env : Env) (ih : IH) : Res Bool := (ma env ih).bind fun b ih1 => .ok (!b) ih1
def m_tb (ma : Env → IH → Res IV) (env : Env) (ih : IH) : Res Bool := (ma env ih).bind fun v ih1 => match v with
  | .bl b => .ok b ih1
  | _ => .stuck
def m_andV (ma mb : Env → IH → Res IV) (env : Env) (ih : IH) : Res IV := (ma env ih).bind fun v ih1 => match v with
  | .bl b => if b = true then mb env ih1 else .ok (.bl false) ih1
  | _ => .stuck
def m_orV (ma mb : Env → IH → Res IV) (env : Env) (ih : IH) : Res IV := (ma env ih).bind fun v ih1 => match v with
  | .bl b => if b = true then .ok (.bl true) ih1 else mb env ih1
  | _ => .stuck
def m_notV (ma : Env → IH → Res IV) (env : Env) (ih : IH) : Res IV := (ma env ih).bind fun v ih1 => match v with
  | .bl b => .ok (.bl (!b)) ih1
  | _ => .stuck
/-- a call of values -/
def m_app (f : List IV → IH → Res IV) (ma : Env → IH → Res (List IV)) (env : Env) (ih : IH) : Res IV := (ma env ih).bind f

/-- a two-place rule follows its mirror -/
def Snd2 (K : PySem.W.Frag) (W : WX) (rr : R2) (f : IV → IV → IH → Res IV) : Prop := ∀ (r : List Addr) (ih : IH) (H : Hp) (x y : IV) (u w : V) (σ : St) (Q : VK), Rel K r ih H → R r x u → R r y w → PGen R K W σ r (f x y ih) Q → rr u w H Q
def Snd1 (K : PySem.W.Frag) (W : WX) (rr : V → Hp → VK → Prop) (f : IV → IH → Res IV) : Prop := ∀ (r : List Addr) (ih : IH) (H : Hp) (x : IV) (u : V) (σ : St) (Q : VK), Rel K r ih H → R r x u → PGen R K W σ r (f x ih) Q → rr u H Q
def SndC (K : PySem.W.Frag) (W : WX) (rr : List V → Hp → VK → Prop) (f : List IV → IH → Res IV) : Prop := ∀ (r : List Addr) (ih : IH) (H : Hp) (xs : List IV) (us : List V) (σ : St) (Q : VK), Rel K r ih H → Rs r xs us → PGen R K W σ r (f xs ih) Q → rr us H Q

section
variable {X : Cx} {W : WX} {a b c : Expr} {ma mb mc : Env → IH → Res IV} {na nb : Env → IH → Res Bool} {pos : Pos}
theorem lm_var (i : Nat) {x : Str} (hN : X.N[i]? = some x := by rfl) (hv : Vis X.env.scope x := by first | exact Or.inl rfl | exact Or.inr (Or.inl rfl) | exact Or.inr (Or.inr rfl)) (hd : (x == ("__debug__" : Str)) = false := by decide)
    (hcd : (x == ("__classdict__" : Str)) = false := by decide) : PE X (.Name x pos) (tM X.K W (m_var i)) :=
  PE.of (pe_var hN hv hd hcd) fun σ H Q ⟨r, ih, env, hr, he, q⟩ => by
    unfold m_var at q
    split at q
    · rename_i v e
      obtain ⟨u, h1, h2⟩ := he.2 i v e
      exact ⟨u, h1, tG_end q hr h2⟩
    · exact q.elim
theorem lm_c {e : Expr} {w : V} (v : IV) (h : PE X e (tC w)) (hv : ∀ r, R r v w := by intro _; rfl) : PE X e (tM X.K W (m_c v)) :=
  PE.of h fun σ H Q ⟨r, ih, env, hr, he, q⟩ => tG_end q hr (hv r)
theorem lm_op {op : Operator} {rr : R2} {f : IV → IV → IH → Res IV} (ho : OpR X (binaryOp op) rr) (hf : Snd2 X.K W rr f) (ha : PE X a (tM X.K W ma)) (hb : PE X b (tM X.K W mb)) : PE X (.BinOp a op b pos) (tM X.K W (m_op f ma mb)) :=
  PE.of (pe_op ho ha hb) fun σ H Q ⟨r, ih, env, hr, he, q⟩ => tG.imp (tG_bind hr he q) fun u H1 ⟨r1, ih1, v, p, hr1, hv, q1⟩ =>
    tG.imp (tG_bind hr1 (he.mono p) q1) fun w H2 ⟨r2, ih2, y, p2, hr2, hy, q2⟩ => hf _ _ _ _ _ _ _ _ _ hr2 (hv.mono p2) hy q2
theorem lm_un {op : UnaryOp} {rr : V → Hp → VK → Prop} {f : IV → IH → Res IV} (ho : UnR X (unaryOp op) rr) (hf : Snd1 X.K W rr f) (ha : PE X a (tM X.K W ma)) : PE X (.UnaryOp op a pos) (tM X.K W (m_un f ma)) :=
  PE.of (pe_un ho ha) fun σ H Q ⟨r, ih, env, hr, he, q⟩ => tG.imp (tG_bind hr he q) fun u H1 ⟨r1, ih1, v, p, hr1, hv, q1⟩ => hf _ _ _ _ _ _ _ hr1 hv q1
theorem lm_ix {rr : R2} {f : IV → IV → IH → Res IV} (ho : IxR X rr) (hf : Snd2 X.K W rr f) (ha : PE X a (tM X.K W ma)) (hb : PE X b (tM X.K W mb)) (hs : PlainIx b := by exact fun _ _ => rfl) : PE X (.Subscript a b pos) (tM X.K W (m_op f ma mb)) :=
  PE.of (pe_ix ho ha hb hs) fun σ H Q ⟨r, ih, env, hr, he, q⟩ => tG.imp (tG_bind hr he q) fun u H1 ⟨r1, ih1, v, p, hr1, hv, q1⟩ =>
    tG.imp (tG_bind hr1 (he.mono p) q1) fun w H2 ⟨r2, ih2, y, p2, hr2, hy, q2⟩ => hf _ _ _ _ _ _ _ _ _ hr2 (hv.mono p2) hy q2
theorem lm_cmp {op : CmpOp} {rr : R2} {f : IV → IV → IH → Res IV} (ho : OpR X (compareOp op) rr) (hf : Snd2 X.K W rr f) (ha : PE X a (tM X.K W ma)) (hb : PE X b (tM X.K W mb)) (hm : behindInMarks op b = false := by first | exact nomark _ | rfl) : PE X (.Compare a [op] [b] pos) (tM X.K W (m_op f ma mb)) :=
  PE.of (pe_cmpR ho ha hb hm) fun σ H Q ⟨r, ih, env, hr, he, q⟩ => tG.imp (tG_bind hr he q) fun u H1 ⟨r1, ih1, v, p, hr1, hv, q1⟩ =>
    tG.imp (tG_bind hr1 (he.mono p) q1) fun w H2 ⟨r2, ih2, y, p2, hr2, hy, q2⟩ => hf _ _ _ _ _ _ _ _ _ hr2 (hv.mono p2) hy q2
/-- a value's truth that is a bool -/
theorem tb_core {m : Env → IH → Res IV} {σ : St} {H : Hp} {Q : Bool → Hp → Prop} (h : tMT X.K W (m_tb m) σ H Q) : tM X.K W m σ H fun x H1 => ∃ k, x = .bl k ∧ Q k H1 := by
  obtain ⟨r, ih, env, hr, he, q⟩ := h
  refine tG.imp (tG_bind hr he q) fun u H1 ⟨r1, ih1, v, p, hr1, hv, q1⟩ => ?_
  cases v with
  | bl b =>
    obtain rfl : u = .bl b := hv
    exact ⟨b, rfl, tG_end q1 hr1 rfl⟩
  | _ => exact q1.elim
/-- a test that is a comparison -/
theorem lt_cmp {op : CmpOp} {rr : R2} {f : IV → IV → IH → Res IV} (ho : OpR X (compareOp op) rr) (hf : Snd2 X.K W rr f) (ha : PE X a (tM X.K W ma)) (hb : PE X b (tM X.K W mb)) (hm : behindInMarks op b = false := by first | exact nomark _ | rfl) : PT X (.Compare a [op] [b] pos) (tMT X.K W (m_tb (m_op f ma mb))) :=
  PT.of (pt_cmpR ho ha hb hm) fun σ H Q h => by
    obtain ⟨r, ih, env, hr, he, q⟩ := tb_core h
    exact tG.imp (tG_bind hr he q) fun u H1 ⟨r1, ih1, v, p, hr1, hv, q1⟩ =>
      tG.imp (tG_bind hr1 (he.mono p) q1) fun w H2 ⟨r2, ih2, y, p2, hr2, hy, q2⟩ => hf _ _ _ _ _ _ _ _ _ hr2 (hv.mono p2) hy q2
/-- any expression that gives a bool, as a test -/
theorem lt_val {e : Expr} {m : Env → IH → Res IV} (h : PE X e (tM X.K W m)) (he : ∀ whole, isTrue e X.env whole = (do let v ← whole; standAt e.pos; holding [v] (truthy v)) := by intro _; rfl) : PT X e (tMT X.K W (m_tb m)) :=
  PT.of (pt_val h he) fun σ H Q h => tb_core h
theorem lt_not (h : PT X a (tMT X.K W na)) : PT X (.UnaryOp .Not a pos) (tMT X.K W (m_not na)) :=
  PT.of (pt_not h) fun σ H Q ⟨r, ih, env, hr, he, q⟩ => tG.imp (tG_bind hr he q) fun u H1 ⟨r1, ih1, v, p, hr1, hv, q1⟩ => tG_end q1 hr1 (by rw [show u = v from hv])
theorem lw_and1 (h : PT X a (tMT X.K W na)) : PW X (.BoolOp .And [a] pos) (tMT X.K W na) := pw_and1 h
theorem lw_or1 (h : PT X a (tMT X.K W na)) : PW X (.BoolOp .Or [a] pos) (tMT X.K W na) := pw_or1 h
theorem lw_and {rest : List Expr} (ha : PT X a (tMT X.K W na)) (hb : PW X (.BoolOp .And (b :: rest) pos) (tMT X.K W nb)) : PW X (.BoolOp .And (a :: b :: rest) pos) (tMT X.K W (m_and na nb)) :=
  PW.of (pw_and ha hb) fun σ H Q ⟨r, ih, env, hr, he, q⟩ => tG.imp (tG_bind hr he q) fun u H1 ⟨r1, ih1, v, p, hr1, hv, q1⟩ => by
    obtain rfl : u = v := hv
    cases u with
    | true => exact ⟨r1, ih1, env, hr1, he.mono p, q1⟩
    | false => exact tG_end q1 hr1 rfl
theorem lw_or {rest : List Expr} (ha : PT X a (tMT X.K W na)) (hb : PW X (.BoolOp .Or (b :: rest) pos) (tMT X.K W nb)) : PW X (.BoolOp .Or (a :: b :: rest) pos) (tMT X.K W (m_or na nb)) :=
  PW.of (pw_or ha hb) fun σ H Q ⟨r, ih, env, hr, he, q⟩ => tG.imp (tG_bind hr he q) fun u H1 ⟨r1, ih1, v, p, hr1, hv, q1⟩ => by
    obtain rfl : u = v := hv
    cases u with
    | true => exact tG_end q1 hr1 rfl
    | false => exact ⟨r1, ih1, env, hr1, he.mono p, q1⟩
theorem lm_one {op : BoolOp} (h : PE X a (tM X.K W ma)) : PE X (.BoolOp op [a] pos) (tM X.K W ma) := pe_one h
theorem lm_and {rest : List Expr} (ha : PE X a (tM X.K W ma)) (hb : PE X (.BoolOp .And (b :: rest) pos) (tM X.K W mb)) : PE X (.BoolOp .And (a :: b :: rest) pos) (tM X.K W (m_andV ma mb)) :=
  PE.of (pe_and ha hb) fun σ H Q ⟨r, ih, env, hr, he, q⟩ => tG.imp (tG_bind hr he q) fun u H1 ⟨r1, ih1, v, p, hr1, hv, q1⟩ => by
    cases v with
    | bl k =>
      obtain rfl : u = .bl k := hv
      refine ⟨k, rfl, ?_⟩
      cases k with
      | true => exact ⟨r1, ih1, env, hr1, he.mono p, q1⟩
      | false => exact tG_end q1 hr1 rfl
    | _ => exact q1.elim
theorem lm_or {rest : List Expr} (ha : PE X a (tM X.K W ma)) (hb : PE X (.BoolOp .Or (b :: rest) pos) (tM X.K W mb)) : PE X (.BoolOp .Or (a :: b :: rest) pos) (tM X.K W (m_orV ma mb)) :=
  PE.of (pe_or ha hb) fun σ H Q ⟨r, ih, env, hr, he, q⟩ => tG.imp (tG_bind hr he q) fun u H1 ⟨r1, ih1, v, p, hr1, hv, q1⟩ => by
    cases v with
    | bl k =>
      obtain rfl : u = .bl k := hv
      refine ⟨k, rfl, ?_⟩
      cases k with
      | true => exact tG_end q1 hr1 rfl
      | false => exact ⟨r1, ih1, env, hr1, he.mono p, q1⟩
    | _ => exact q1.elim
theorem lm_not (ha : PE X a (tM X.K W ma)) : PE X (.UnaryOp .Not a pos) (tM X.K W (m_notV ma)) :=
  PE.of (pe_not ha) fun σ H Q ⟨r, ih, env, hr, he, q⟩ => tG.imp (tG_bind hr he q) fun u H1 ⟨r1, ih1, v, p, hr1, hv, q1⟩ => by
    cases v with
    | bl k =>
      obtain rfl : u = .bl k := hv
      exact ⟨k, rfl, tG_end q1 hr1 rfl⟩
    | _ => exact q1.elim
theorem lm_if {t : Expr} {nt : Env → IH → Res Bool} (ht : PT X t (tMT X.K W nt)) (ha : PE X a (tM X.K W ma)) (hb : PE X b (tM X.K W mb)) : PE X (.IfExp t a b pos) (tM X.K W (m_if nt ma mb)) :=
  PE.of (pe_ifExp ht ha hb) fun σ H Q ⟨r, ih, env, hr, he, q⟩ => tG.imp (tG_bind hr he q) fun u H1 ⟨r1, ih1, v, p, hr1, hv, q1⟩ => by
    obtain rfl : u = v := hv
    cases u with
    | true => exact ⟨r1, ih1, env, hr1, he.mono p, q1⟩
    | false => exact ⟨r1, ih1, env, hr1, he.mono p, q1⟩
theorem la_nil : PA X [] (tMA X.K W m_nil) := PA.of pa_nil fun σ H Q ⟨r, ih, env, hr, he, q⟩ => tG_end q hr .nil
theorem la_cons {es : List Expr} {mr : Env → IH → Res (List IV)} (ha : PE X a (tM X.K W ma)) (hr : PA X es (tMA X.K W mr)) (hp : starEach (a :: es) X.env = (false, eval a X.env) :: starEach es X.env := by rfl) : PA X (a :: es) (tMA X.K W (m_cons ma mr)) :=
  PA.of (pa_cons ha hr hp) fun σ H Q ⟨r, ih, env, hr, he, q⟩ => tG.imp (tG_bind hr he q) fun u H1 ⟨r1, ih1, v, p, hr1, hv, q1⟩ =>
    tG.imp (tG_bind hr1 (he.mono p) q1) fun w H2 ⟨r2, ih2, y, p2, hr2, hy, q2⟩ => tG_end q2 hr2 (.cons (hv.mono p2) hy)
/-- a built-in function, a built-in type -/
theorem lm_callB {x : Str} {p : Pos} {es : List Expr} {id : String} {rr : List V → Hp → VK → Prop} {f : List IV → IH → Res IV} {m : Env → IH → Res (List IV)} (hc : CallR X (.builtin id) rr) (hf : SndC X.K W rr f) (hg : Gl X x) (hm : X.mg x = none) (hv : bootBuiltins x = some (.builtin id)) (ha : PA X (a :: es) (tMA X.K W m))
    (hn : x ≠ "__name__" := by decide) (hdb : (x == ("__debug__" : Str)) = false := by decide)
    (he : starEach (a :: es) X.env = (false, eval a X.env) :: starEach es X.env := by rfl) (hpl : (backTo pos (starEach es X.env)).any (·.1) = false := by rfl) : PE X (.Call (.Name x p) (a :: es) [] pos) (tM X.K W (m_app f m)) :=
  PE.of (pe_callB hc hg hm hv ha hn hdb he hpl) fun σ H Q ⟨r, ih, env, hr, he, q⟩ => tG.imp (tG_bind hr he q) fun u H1 ⟨r1, ih1, v, p, hr1, hv, q1⟩ => hf _ _ _ _ _ _ _ hr1 hv q1
theorem lm_callTy {x : Str} {p : Pos} {es : List Expr} {T : String} {rr : List V → Hp → VK → Prop} {f : List IV → IH → Res IV} {m : Env → IH → Res (List IV)} (hc : CallR X (.type T) rr) (hf : SndC X.K W rr f) (hg : Gl X x) (hm : X.mg x = none) (hv : bootBuiltins x = some (.type T)) (ha : PA X (a :: es) (tMA X.K W m))
    (hn : x ≠ "__name__" := by decide) (hdb : (x == ("__debug__" : Str)) = false := by decide)
    (he : starEach (a :: es) X.env = (false, eval a X.env) :: starEach es X.env := by rfl) (hpl : (backTo pos (starEach es X.env)).any (·.1) = false := by rfl) : PE X (.Call (.Name x p) (a :: es) [] pos) (tM X.K W (m_app f m)) :=
  PE.of (pe_callTy hc hg hm hv ha hn hdb he hpl) fun σ H Q ⟨r, ih, env, hr, he, q⟩ => tG.imp (tG_bind hr he q) fun u H1 ⟨r1, ih1, v, p, hr1, hv, q1⟩ => hf _ _ _ _ _ _ _ hr1 hv q1
end
end L3
/-! L3c: the mirrors of operations on values, and that the hand layer's rules follow them. -/
namespace L3
variable [TabT] [LamT]
open PySem L2

/-! ### reading objects -/
def MO.xs : MO → List IV
  | .lst xs => xs
  | .tup xs => xs
  | .ro xs => xs
  | .rot xs => xs
  | .dct => []
  | .dk _ => []
  | .clo => []
def MO.isL : MO → Bool
  | .lst _ => true
  | .tup _ => false
  | .ro _ => true
  | .rot _ => false
  | .dct => false
  | .dk _ => false
  | .clo => false
def MO.isT : MO → Bool
  | .tup _ => true
  | .rot _ => true
  | _ => false
def MO.isS : MO → Bool
  | .dct => false
  | .dk _ => false
  | .clo => false
  | _ => true
theorem MO.lt {o : MO} (h : o.isL = true) (k : o.isT = true) : False := by
  cases o with
  | lst _ => cases k
  | ro _ => cases k
  | _ => cases h
theorem MO.tf {o : MO} (h : o.isL = false) (k : o = .dct → False) (k2 : o = .clo → False) (k3 : ∀ kvs, o = .dk kvs → False) : o.isT = true := by
  cases o with
  | dct => exact (k rfl).elim
  | dk kvs => exact (k3 kvs rfl).elim
  | clo => exact (k2 rfl).elim
  | tup _ => rfl
  | rot _ => rfl
  | _ => cases h
theorem MO.xs0 {o : MO} (h : o.isL = false) (k : o.isT = false) : o.xs = [] := by
  cases o with
  | dct => rfl
  | dk _ => rfl
  | clo => rfl
  | tup _ => cases k
  | rot _ => cases k
  | _ => cases h
section
variable {K : PySem.W.Frag} {W : WX} {r : List Addr} {ih : IH} {H : Hp} {a : Addr} {o : MO}
theorem RO.l (h : RO K r H a o) (e : o.isL = true) : ∃ ys, SqL K H a ys ∧ Rs r o.xs ys := by
  cases o with
  | lst xs => obtain ⟨ys, h1, h2⟩ := h; exact ⟨ys, .inl (.inl h1), h2⟩
  | ro xs =>
    obtain ⟨ys, h1, h2⟩ := h
    rcases h1 with ⟨o, h1⟩ | h1
    · exact ⟨ys, .inl (.inr ⟨o, h1⟩), h2⟩
    · exact ⟨ys, SqL.ofK h1, h2⟩
  | tup xs => cases e
  | rot xs => cases e
  | dct => cases e
  | dk _ => cases e
  | clo => cases e
theorem RO.t (h : RO K r H a o) (e : o.isT = true) : ∃ ys, SqT K H a ys ∧ Rs r o.xs ys := by
  cases o with
  | tup xs => obtain ⟨ys, h1, h2⟩ := h; exact ⟨ys, .inl (.inl h1), h2⟩
  | rot xs => obtain ⟨ys, h1, h2⟩ := h; exact ⟨ys, SqT.ofK h1, h2⟩
  | lst xs => cases e
  | ro xs => cases e
  | dct => cases e
  | dk _ => cases e
  | clo => cases e
theorem Rs.atI {xs : List IV} {ys : List V} {i : Int} {v : IV} (h : Rs r xs ys) (e : atI xs i = some v) : ∃ u, atI ys i = some u ∧ R r v u := by
  unfold L2.atI at e ⊢
  rw [← h.length]
  cases q : ixN xs.length i with
  | none => rw [q] at e; cases e
  | some j =>
    rw [q] at e
    obtain ⟨u, h1, h2⟩ := h.get (i := j) e
    exact ⟨u, h1, h2⟩
theorem R.flat {x : IV} {y : V} (h : R r x y) (f : ∀ n, x ≠ .ref n) : y = x.toV := by
  cases x with
  | ref n => exact absurd rfl (f n)
  | _ => exact h
theorem R.ref {n : Nat} {y : V} (h : R r (.ref n) y) : ∃ a, r[n]? = some a ∧ y = .ref a := h
end

/-! ### ints -/
def f_I (C : Int → Int → Bool) (g : Int → Int → IV) (x y : IV) (ih : IH) : Res IV := match x, y with
  | .int i, .int j => if C i j = true then .ok (g i j) ih else .stuck
  | _, _ => .stuck
def f_I0 (g : Int → Int → IV) (x y : IV) (ih : IH) : Res IV := match x, y with
  | .int i, .int j => .ok (g i j) ih
  | _, _ => .stuck
def f_U (g : Int → IV) (x : IV) (ih : IH) : Res IV := match x with
  | .int i => .ok (g i) ih
  | _ => .stuck
abbrev ibits (i : Int) : Nat := Builtin.Int.intBits i
def cMul (i j : Int) : Bool := decide (ibits i + ibits j ≤ 134217728)
def cShl (i j : Int) : Bool := decide (0 ≤ j) && decide ((ibits i : Int) + j ≤ 134217728)
def cShr (_ j : Int) : Bool := decide (0 ≤ j)
def cDiv (_ j : Int) : Bool := decide (0 < j) && decide (j.natAbs.log2 < 9000)
def cMod (_ j : Int) : Bool := decide (0 < j)
def cPow (i j : Int) : Bool := decide (0 ≤ j) && decide (j ≤ 1000000) && decide (i.natAbs < 18446744073709551616)
section
variable {X : Cx} {K : PySem.W.Frag} {W : WX}
theorem snd_I {C : Int → Int → Bool} {D : Int → Int → Prop} {g : Int → Int → IV} {g' : Int → Int → V} (hC : ∀ i j, C i j = true → D i j) (hg : ∀ r i j, R r (g i j) (g' i j)) : Snd2 K W (rI D g') (f_I C g) := by
  intro r ih H x y u w σ Q hr hx hy q
  cases x with
  | int i =>
    cases y with
    | int j =>
      obtain rfl : u = .int i := hx
      obtain rfl : w = .int j := hy
      show ∃ i' j', _
      refine ⟨i, j, rfl, rfl, ?_⟩
      unfold f_I at q
      dsimp only at q
      split at q
      · rename_i hc
        exact ⟨hC i j hc, tG_end q hr (hg r i j)⟩
      · exact q.elim
    | _ => exact q.elim
  | _ => exact q.elim
theorem snd_I0 {g : Int → Int → IV} {g' : Int → Int → V} (hg : ∀ r i j, R r (g i j) (g' i j)) : Snd2 K W (rI0 g') (f_I0 g) := by
  intro r ih H x y u w σ Q hr hx hy q
  cases x with
  | int i =>
    cases y with
    | int j =>
      obtain rfl : u = .int i := hx
      obtain rfl : w = .int j := hy
      exact ⟨i, j, rfl, rfl, tG_end q hr (hg r i j)⟩
    | _ => exact q.elim
  | _ => exact q.elim
theorem snd_U {g : Int → IV} {g' : Int → V} (hg : ∀ r i, R r (g i) (g' i)) : Snd1 K W (rU g') (f_U g) := by
  intro r ih H x u σ Q hr hx q
  cases x with
  | int i =>
    obtain rfl : u = .int i := hx
    exact ⟨i, rfl, tG_end q hr (hg r i)⟩
  | _ => exact q.elim
def f_mul := f_I cMul fun i j => .int (i * j)
def f_sub := f_I0 fun i j => .int (i - j)
def f_fdiv := f_I cDiv fun i j => .int (i / j)
def f_mod := f_I cMod fun i j => .int (i % j)
def f_shl := f_I cShl fun i j => .int (i * 2 ^ j.toNat)
def f_shr := f_I cShr fun i j => .int (i / 2 ^ j.toNat)
def f_pow := f_I cPow fun i j => .int (i ^ j.toNat)
def f_lt := f_I0 fun i j => .bl (decide (i < j))
def f_le := f_I0 fun i j => .bl (decide (i ≤ j))
def f_gt := f_I0 fun i j => .bl (decide (j < i))
def f_ge := f_I0 fun i j => .bl (decide (j ≤ i))
def f_neg := f_U fun i => .int (-i)
theorem s_mul : Snd2 K W (rI CMulX fun i j => .int (i * j)) f_mul := snd_I (fun i j h => by
  have h1 := of_decide_eq_true h
  unfold ibits at h1
  unfold CMulX
  omega) fun _ _ _ => rfl
theorem s_sub : Snd2 K W (rI0 fun i j => .int (i - j)) f_sub := snd_I0 fun _ _ _ => rfl
theorem s_fdiv : Snd2 K W (rI CDivW fun i j => .int (i / j)) f_fdiv := snd_I (fun i j h => by
  unfold cDiv at h
  rw [Bool.and_eq_true] at h
  exact ⟨of_decide_eq_true h.1, of_decide_eq_true h.2⟩) fun _ _ _ => rfl
theorem s_mod : Snd2 K W (rI (fun _ j => 0 < j) fun i j => .int (i % j)) f_mod := snd_I (fun i j h => of_decide_eq_true h) fun _ _ _ => rfl
theorem s_shl : Snd2 K W (rI CShl fun i j => .int (i * 2 ^ j.toNat)) f_shl := snd_I (fun i j h => by
  unfold cShl at h
  rw [Bool.and_eq_true] at h
  exact ⟨of_decide_eq_true h.1, of_decide_eq_true h.2⟩) fun _ _ _ => rfl
theorem s_shr : Snd2 K W (rI (fun _ j => 0 ≤ j) fun i j => .int (i / 2 ^ j.toNat)) f_shr := snd_I (fun i j h => of_decide_eq_true h) fun _ _ _ => rfl
theorem s_pow : Snd2 K W (rI CPow fun i j => .int (i ^ j.toNat)) f_pow := snd_I (fun i j h => by
  unfold cPow at h
  rw [Bool.and_eq_true, Bool.and_eq_true] at h
  exact ⟨of_decide_eq_true h.1.1, of_decide_eq_true h.1.2, of_decide_eq_true h.2⟩) fun _ _ _ => rfl
theorem s_lt : Snd2 K W (rI0 fun i j => .bl (decide (i < j))) f_lt := snd_I0 fun _ _ _ => rfl
theorem s_le : Snd2 K W (rI0 fun i j => .bl (decide (i ≤ j))) f_le := snd_I0 fun _ _ _ => rfl
theorem s_gt : Snd2 K W (rI0 fun i j => .bl (decide (j < i))) f_gt := snd_I0 fun _ _ _ => rfl
theorem s_ge : Snd2 K W (rI0 fun i j => .bl (decide (j ≤ i))) f_ge := snd_I0 fun _ _ _ => rfl
theorem s_neg : Snd1 K W (rU fun i => .int (-i)) f_neg := snd_U fun _ _ => rfl

/-! ### + : ints, lists, tuples, texts -/
def f_add (x y : IV) (ih : IH) : Res IV := match x, y with
  | .int i, .int j => .ok (.int (i + j)) ih
  | .str a, .str b => if a.length + b.length ≤ 1000000 then .ok (.str (a ++ b)) ih else .stuck
  | .ref n, .ref m => match ih[n]?, ih[m]? with
    | some (.lst xs), some (.lst ys) => if xs.length + ys.length ≤ 100000 then .ok (.ref ih.length) (ih ++ [.lst (xs ++ ys)]) else .stuck
    | some (.tup xs), some (.tup ys) => if xs ≠ [] ∧ ys ≠ [] ∧ xs.length + ys.length ≤ 100000 then .ok (.ref ih.length) (ih ++ [.tup (xs ++ ys)]) else .stuck
    | _, _ => .stuck
  | _, _ => .stuck
theorem pre_one {r : List Addr} {p : Addr} : r <+: r ++ [p] := ⟨[p], rfl⟩
theorem R.newest {r : List Addr} {p : Addr} {n : Nat} (h : r.length = n) : R (r ++ [p]) (.ref n) (.ref p) := ⟨p, by rw [← h, List.getElem?_append_right (Nat.le_refl _), Nat.sub_self]; rfl, rfl⟩
/-- a new list, a new tuple is the result -/
theorem end_lst {r : List Addr} {ih : IH} {H : Hp} {σ : St} {Q : VK} {xs : List IV} {ys : List V} (q : PGen R K W σ r (.ok (.ref ih.length) (ih ++ [.lst xs])) Q) (hr : Rel K r ih H) (h : Rs r xs ys) {p : Addr} (hp : H p = none) : Q (.ref p) (upd H p (.lst ys)) :=
  q _ _ _ pre_one (hr.new hp rfl fun H' e => ⟨ys, e, h⟩) (R.newest hr.len)
theorem end_tup {r : List Addr} {ih : IH} {H : Hp} {σ : St} {Q : VK} {xs : List IV} {ys : List V} (q : PGen R K W σ r (.ok (.ref ih.length) (ih ++ [.tup xs])) Q) (hr : Rel K r ih H) (h : Rs r xs ys) {p : Addr} (hp : H p = none) : Q (.ref p) (upd H p (.tup ys)) :=
  q _ _ _ pre_one (hr.new hp rfl fun H' e => ⟨ys, e, h⟩) (R.newest hr.len)
theorem line5 {n : Nat} (h : n ≤ 100000) : n ≤ sizeLine := Nat.le_trans h (by decide)
theorem line6 {n : Nat} (h : n ≤ 1000000) : n ≤ sizeLine := Nat.le_trans h (by decide)
theorem line5l {n : Nat} (h : n < 100000) : n < sizeLine := Nat.lt_of_lt_of_le h (by decide)
abbrev rAddA (K : PySem.W.Frag) : R2 := fun x y H Q => (∃ i j, x = .int i ∧ y = .int j ∧ Q (.int (i + j)) H) ∨ ((∃ i j, x = .str i ∧ y = .str j ∧ i.length + j.length ≤ sizeLine ∧ Q (.str (i ++ j)) H) ∨ (rCat x y H Q ∨ rCatT K x y H Q))
theorem op_addA : OpR X (binaryOp .Add) (rAddA X.K) := op_add.or (op_add_str.or (op_cat.or op_catT))
theorem Rs.ne_nil {r : List Addr} {xs : List IV} {ys : List V} (h : Rs r xs ys) (n : xs ≠ []) : ys ≠ [] := fun e => by
  subst e
  have := h.length
  exact n (List.length_eq_zero_iff.mp this)
theorem s_add : Snd2 K W (rAddA K) f_add := by
  intro r ih H x y u w σ Q hr hx hy q
  unfold f_add at q
  split at q
  · rename_i i j
    obtain rfl : u = .int i := hx
    obtain rfl : w = .int j := hy
    exact .inl ⟨i, j, rfl, rfl, tG_end q hr rfl⟩
  · rename_i i j
    obtain rfl : u = .str i := hx
    obtain rfl : w = .str j := hy
    split at q
    · rename_i hl
      exact .inr (.inl ⟨i, j, rfl, rfl, line6 hl, tG_end q hr rfl⟩)
    · exact q.elim
  · rename_i n m
    obtain ⟨a, ea, rfl⟩ := hx.ref
    obtain ⟨b, eb, rfl⟩ := hy.ref
    split at q
    · rename_i xs ys e1 e2
      obtain ⟨xs', h1, h2⟩ := hr.get n a _ ea e1
      obtain ⟨ys', h3, h4⟩ := hr.get m b _ eb e2
      split at q
      · rename_i hl
        refine .inr (.inr (.inl ⟨a, b, xs', ys', rfl, rfl, h1, h3, ?_, fun p hp => end_lst q hr (h2.append h4) hp⟩))
        rw [← h2.length, ← h4.length]
        exact line5 hl
      · exact q.elim
    · rename_i xs ys e1 e2
      obtain ⟨xs', h1, h2⟩ := hr.get n a _ ea e1
      obtain ⟨ys', h3, h4⟩ := hr.get m b _ eb e2
      split at q
      · rename_i hl
        refine .inr (.inr (.inr ⟨a, b, xs', ys', rfl, rfl, SqT.of h1, SqT.of h3, h2.ne_nil hl.1, ?_, fun z => absurd z (h4.ne_nil hl.2.1), fun _ p hp => end_tup q hr (h2.append h4) hp⟩))
        rw [← h2.length, ← h4.length]
        exact line5 hl.2.2
      · exact q.elim
    · exact q.elim
  · exact q.elim

/-! ### list * int -/
def f_mulA (x y : IV) (ih : IH) : Res IV := match x, y with
  | .int i, .int j => if cMul i j = true then .ok (.int (i * j)) ih else .stuck
  | .ref n, .int k => match ih[n]? with
    | some (.lst xs) => if 0 ≤ k ∧ k ≤ 100000 ∧ xs.length * k.toNat ≤ 100000 then .ok (.ref ih.length) (ih ++ [.lst (List.replicate k.toNat xs).flatten]) else .stuck
    | _ => .stuck
  | _, _ => .stuck
theorem Rs.rep {r : List Addr} {xs : List IV} {ys : List V} (h : Rs r xs ys) : ∀ k : Nat, Rs r (List.replicate k xs).flatten (List.replicate k ys).flatten
  | 0 => .nil
  | k + 1 => by
    rw [List.replicate_succ, List.replicate_succ, List.flatten_cons, List.flatten_cons]
    exact h.append (Rs.rep h k)
abbrev rMulA : R2 := fun x y H Q => rI CMulX (fun i j => .int (i * j)) x y H Q ∨ rRep x y H Q
theorem op_mulA : OpR X (binaryOp .Mult) rMulA := op_mulX.or op_rep
theorem s_mulA : Snd2 K W rMulA f_mulA := by
  intro r ih H x y u w σ Q hr hx hy q
  unfold f_mulA at q
  split at q
  · rename_i i j
    refine .inl (s_mul (W := W) r ih H (.int i) (.int j) u w σ Q hr hx hy ?_)
    exact q
  · rename_i n k
    obtain ⟨a, ea, rfl⟩ := hx.ref
    obtain rfl : w = .int k := hy
    split at q
    · rename_i xs e1
      obtain ⟨xs', h1, h2⟩ := hr.get n a _ ea e1
      split at q
      · rename_i hl
        refine .inr ⟨a, k, xs', rfl, rfl, h1, by omega, by omega, ?_, fun p hp => end_lst q hr (h2.rep _) hp⟩
        rw [← h2.length]
        exact line5 hl.2.2
      · exact q.elim
    · exact q.elim
  · exact q.elim

/-! ### subscripts -/
def f_ix (x y : IV) (ih : IH) : Res IV := match x, y with
  | .ref n, .int i => match ih[n]? with
    | some o => match atI o.xs i with
      | some v => .ok v ih
      | none => .stuck
    | none => .stuck
  | .str z, .int i => if z.length ≤ 1000000 then (match atI z.cps.toList i with
      | some c => .ok (.str ⟨#[c]⟩) ih
      | none => .stuck) else .stuck
  | _, _ => .stuck
theorem s_ix : Snd2 K W (rIx K) f_ix := by
  intro r ih H x y u w σ Q hr hx hy q
  unfold f_ix at q
  split at q
  · rename_i n i
    obtain ⟨a, ea, rfl⟩ := hx.ref
    obtain rfl : w = .int i := hy
    split at q
    · rename_i o e1
      have ho := hr.get n a _ ea e1
      split at q
      · rename_i v e2
        cases hl : o.isL with
        | true =>
          obtain ⟨ys, h1, h2⟩ := ho.l hl
          obtain ⟨z, h3, h4⟩ := h2.atI e2
          exact .inl ⟨a, ys, i, z, rfl, rfl, h1, h3, tG_end q hr h4⟩
        | false =>
          cases ht : o.isT with
          | true =>
            obtain ⟨ys, h1, h2⟩ := ho.t ht
            obtain ⟨z, h3, h4⟩ := h2.atI e2
            exact .inr (.inl ⟨a, ys, i, z, rfl, rfl, h1, h3, tG_end q hr h4⟩)
          | false =>
            rw [MO.xs0 hl ht] at e2
            simp [L2.atI] at e2
      · exact q.elim
    · exact q.elim
  · rename_i z i
    obtain rfl : u = .str z := hx
    obtain rfl : w = .int i := hy
    split at q
    · rename_i hl
      split at q
      · rename_i c e
        exact .inr (.inr ⟨z, i, c, rfl, rfl, line6 hl, e, tG_end q hr rfl⟩)
      · exact q.elim
    · exact q.elim
  · exact q.elim
end

/-! ### == and != -/
mutual
/-- the value is this datum -/
inductive Is (ih : IH) : IV → PyData → Prop
  | non : Is ih .non .none
  | bl (b : Bool) : Is ih (.bl b) (.bool b)
  | int (i : Int) : Is ih (.int i) (.int i)
  | str (x : Str) : Is ih (.str x) (.str x)
  | lst {n : Nat} {o : MO} {ds : List PyData} : ih[n]? = some o → o.isL = true → IsAll ih o.xs ds → Is ih (.ref n) (.list ds)
  | tup {n : Nat} {o : MO} {ds : List PyData} : ih[n]? = some o → o.isT = true → IsAll ih o.xs ds → Is ih (.ref n) (.tuple ds)
inductive IsAll (ih : IH) : List IV → List PyData → Prop
  | nil : IsAll ih [] []
  | cons {v : IV} {vs : List IV} {d : PyData} {ds : List PyData} : Is ih v d → IsAll ih vs ds → IsAll ih (v :: vs) (d :: ds)
end
mutual
theorem Is.uniq {ih : IH} : ∀ (d e : PyData) (v : IV), Is ih v d → Is ih v e → d = e
  | .none, _, _, h, k => by cases h; cases k; rfl
  | .bool _, _, _, h, k => by cases h; cases k; rfl
  | .int _, _, _, h, k => by cases h; cases k; rfl
  | .str _, _, _, h, k => by cases h; cases k; rfl
  | .list ds, _, _, h, k => by
    cases h with
    | lst h1 h2 h3 =>
      cases k with
      | lst k1 k2 k3 =>
        rw [h1] at k1
        cases k1
        rw [Is.uniqAll ds _ _ h3 k3]
      | tup k1 k2 k3 =>
        rw [h1] at k1
        cases k1
        exact (MO.lt h2 k2).elim
  | .tuple ds, _, _, h, k => by
    cases h with
    | tup h1 h2 h3 =>
      cases k with
      | tup k1 k2 k3 =>
        rw [h1] at k1
        cases k1
        rw [Is.uniqAll ds _ _ h3 k3]
      | lst k1 k2 k3 =>
        rw [h1] at k1
        cases k1
        exact (MO.lt k2 h2).elim
  | .dict _, _, _, h, _ => by cases h
theorem Is.uniqAll {ih : IH} : ∀ (ds es : List PyData) (vs : List IV), IsAll ih vs ds → IsAll ih vs es → ds = es
  | [], _, _, h, k => by cases h; cases k; rfl
  | d :: ds, _, _, h, k => by
    cases h with
    | cons h1 h2 =>
      cases k with
      | cons k1 k2 => rw [Is.uniq d _ _ h1 k1, Is.uniqAll ds _ _ h2 k2]
end
mutual
theorem Is.dp {K : PySem.W.Frag} {r : List Addr} {ih : IH} {H : Hp} (hr : Rel K r ih H) : ∀ (d : PyData) (v : IV) (u : V), Is ih v d → R r v u → Dp K H u d
  | .none, _, u, h, q => by cases h; obtain rfl : u = .non := q; exact .non
  | .bool b, _, u, h, q => by cases h; obtain rfl : u = .bl b := q; exact .bl b
  | .int i, _, u, h, q => by cases h; obtain rfl : u = .int i := q; exact .int i
  | .str x, _, u, h, q => by cases h; obtain rfl : u = .str x := q; exact .str x
  | .list ds, _, u, h, q => by
    cases h with
    | lst h1 h2 h3 =>
      obtain ⟨a, ea, rfl⟩ := q.ref
      obtain ⟨ys, h4, h5⟩ := (hr.get _ a _ ea h1).l h2
      exact .lst h4 (Is.dpAll hr ds _ _ h3 h5)
  | .tuple ds, _, u, h, q => by
    cases h with
    | tup h1 h2 h3 =>
      obtain ⟨a, ea, rfl⟩ := q.ref
      obtain ⟨ys, h4, h5⟩ := (hr.get _ a _ ea h1).t h2
      exact .tup h4 (Is.dpAll hr ds _ _ h3 h5)
  | .dict _, _, _, h, _ => by cases h
theorem Is.dpAll {K : PySem.W.Frag} {r : List Addr} {ih : IH} {H : Hp} (hr : Rel K r ih H) : ∀ (ds : List PyData) (vs : List IV) (us : List V), IsAll ih vs ds → Rs r vs us → DpAll K H us ds
  | [], _, _, h, q => by cases h; cases q; exact .nil
  | d :: ds, _, _, h, q => by
    cases h with
    | cons h1 h2 =>
      cases q with
      | cons q1 q2 => exact .cons (Is.dp hr d _ _ h1 q1) (Is.dpAll hr ds _ _ h2 q2)
end
open Classical in
noncomputable def f_eqn (neg : Bool) (x y : IV) (ih : IH) : Res IV :=
  if h : ∃ p : PyData × PyData, Is ih x p.1 ∧ Is ih y p.2 ∧ SeqAt.shaped p.1 = true ∧ SeqAt.shaped p.2 = true then .ok (.bl (if neg = true then !PyData.eqv h.choose.1 h.choose.2 else PyData.eqv h.choose.1 h.choose.2)) ih else .stuck
noncomputable def f_eq := f_eqn false
noncomputable def f_ne := f_eqn true
theorem f_eqn_of {neg : Bool} {x y : IV} {ih : IH} {d e : PyData} (h1 : Is ih x d) (h2 : Is ih y e) (s1 : SeqAt.shaped d = true) (s2 : SeqAt.shaped e = true) : f_eqn neg x y ih = .ok (.bl (if neg = true then !PyData.eqv d e else PyData.eqv d e)) ih := by
  unfold f_eqn
  have h : ∃ p : PyData × PyData, Is ih x p.1 ∧ Is ih y p.2 ∧ SeqAt.shaped p.1 = true ∧ SeqAt.shaped p.2 = true := ⟨(d, e), h1, h2, s1, s2⟩
  rw [dif_pos h]
  have k := h.choose_spec
  rw [Is.uniq _ _ _ k.1 h1, Is.uniq _ _ _ k.2.1 h2]
theorem f_eq_of {x y : IV} {ih : IH} {d e : PyData} (h1 : Is ih x d) (h2 : Is ih y e) (s1 : SeqAt.shaped d = true) (s2 : SeqAt.shaped e = true) : f_eq x y ih = .ok (.bl (PyData.eqv d e)) ih := f_eqn_of h1 h2 s1 s2
theorem f_ne_of {x y : IV} {ih : IH} {d e : PyData} (h1 : Is ih x d) (h2 : Is ih y e) (s1 : SeqAt.shaped d = true) (s2 : SeqAt.shaped e = true) : f_ne x y ih = .ok (.bl (!PyData.eqv d e)) ih := f_eqn_of h1 h2 s1 s2
theorem s_eq {K : PySem.W.Frag} {W : WX} : Snd2 K W (rEqD K) f_eq := by
  intro r ih H x y u w σ Q hr hx hy q
  unfold f_eq f_eqn at q
  split at q
  · rename_i h
    have k := h.choose_spec
    exact ⟨_, _, Is.dp hr _ _ _ k.1 hx, Is.dp hr _ _ _ k.2.1 hy, k.2.2.1, k.2.2.2, tG_end q hr rfl⟩
  · exact q.elim
theorem s_ne {K : PySem.W.Frag} {W : WX} : Snd2 K W (rNeD K) f_ne := by
  intro r ih H x y u w σ Q hr hx hy q
  unfold f_ne f_eqn at q
  split at q
  · rename_i h
    have k := h.choose_spec
    exact ⟨_, _, Is.dp hr _ _ _ k.1 hx, Is.dp hr _ _ _ k.2.1 hy, k.2.2.1, k.2.2.2, tG_end q hr rfl⟩
  · exact q.elim
/-! ### is None -/
def f_isN (x y : IV) (ih : IH) : Res IV := if y = .non then .ok (.bl (decide (x = .non))) ih else .stuck
def f_notN (x y : IV) (ih : IH) : Res IV := if y = .non then .ok (.bl (!decide (x = .non))) ih else .stuck
theorem R.non {r : List Addr} {x : IV} {u : V} (h : R r x u) : decide (x = IV.non) = decide (u = V.non) := by
  cases x with
  | ref n =>
    obtain ⟨a, _, rfl⟩ := h.ref
    rfl
  | _ => rw [h.flat fun _ => IV.noConfusion]; rfl
theorem s_isN {K : PySem.W.Frag} {W : WX} : Snd2 K W (fun x y H Q => y = .non ∧ Q (.bl (decide (x = .non))) H) f_isN := by
  intro r ih H x y u w σ Q hr hx hy q
  unfold f_isN at q
  split at q
  · rename_i h
    subst h
    exact ⟨hy, tG_end q hr (by rw [hx.non]; rfl)⟩
  · exact q.elim
theorem s_notN {K : PySem.W.Frag} {W : WX} : Snd2 K W (fun x y H Q => y = .non ∧ Q (.bl (!decide (x = .non))) H) f_notN := by
  intro r ih H x y u w σ Q hr hx hy q
  unfold f_notN at q
  split at q
  · rename_i h
    subst h
    exact ⟨hy, tG_end q hr (by rw [hx.non]; rfl)⟩
  · exact q.elim
end L3
/-! L3d: displays, slices, built-in calls, methods; targets, statements, loops, comprehensions. -/
namespace L3
variable [TabT] [LamT]
open PySem L2

/-! ### displays -/
def f_tup (xs : List IV) (ih : IH) : Res IV := if xs.length ≤ 100000 then .ok (.ref ih.length) (ih ++ [.tup xs]) else .stuck
def f_lst (xs : List IV) (ih : IH) : Res IV := if xs.length ≤ 100000 then .ok (.ref ih.length) (ih ++ [.lst xs]) else .stuck
section
variable {X : Cx} {K : PySem.W.Frag} {W : WX} {es : List Expr} {m : Env → IH → Res (List IV)} {pos : Pos}
theorem s_tup : SndC K W (fun xs H Q => xs.length ≤ sizeLine ∧ ∀ p, H p = none → Q (.ref p) (upd H p (.tup xs))) f_tup := by
  intro r ih H xs us σ Q hr hx q
  unfold f_tup at q
  split at q
  · rename_i hl
    exact ⟨by rw [← hx.length]; exact line5 hl, fun p hp => end_tup q hr hx hp⟩
  · exact q.elim
theorem s_lst : SndC K W (fun xs H Q => xs.length ≤ sizeLine ∧ ∀ p, H p = none → Q (.ref p) (upd H p (.lst xs))) f_lst := by
  intro r ih H xs us σ Q hr hx q
  unfold f_lst at q
  split at q
  · rename_i hl
    exact ⟨by rw [← hx.length]; exact line5 hl, fun p hp => end_lst q hr hx hp⟩
  · exact q.elim
theorem lm_tup {x1} (h : PA X es (tMA X.K W m)) : PE X (.Tuple es x1 pos) (tM X.K W (m_app f_tup m)) :=
  PE.of (pe_tup h) fun σ H Q ⟨r, ih, env, hr, he, q⟩ => tG.imp (tG_bind hr he q) fun u H1 ⟨r1, ih1, v, p, hr1, hv, q1⟩ => s_tup _ _ _ _ _ _ _ hr1 hv q1
theorem lm_lst (h : PA X es (tMA X.K W m)) : PE X (.List es pos) (tM X.K W (m_app f_lst m)) :=
  PE.of (pe_lst h) fun σ H Q ⟨r, ih, env, hr, he, q⟩ => tG.imp (tG_bind hr he q) fun u H1 ⟨r1, ih1, v, p, hr1, hv, q1⟩ => s_lst _ _ _ _ _ _ _ hr1 hv q1
end

/-! ### slices -/
def m_none (_ : Env) (ih : IH) : Res (Option Int) := .ok none ih
def m_some (ma : Env → IH → Res IV) (env : Env) (ih : IH) : Res (Option Int) := (ma env ih).bind fun v ih1 => match v with
  | .int i => .ok (some i) ih1
  | _ => .stuck
def cutI (xs : List IV) (lo hi : Option Int) : List IV := (xs.drop (HT.sIx xs.length 0 lo)).take (HT.sIx xs.length xs.length hi - HT.sIx xs.length 0 lo)
def f_sl (x : IV) (lo hi : Option Int) (ih : IH) : Res IV := match x with
  | .ref n => match ih[n]? with
    | some (.lst xs) => .ok (.ref ih.length) (ih ++ [.lst (cutI xs lo hi)])
    | some (.ro xs) => .ok (.ref ih.length) (ih ++ [.lst (cutI xs lo hi)])
    | some (.tup xs) => if ¬ (HT.sIx xs.length 0 lo = 0 ∧ HT.sIx xs.length xs.length hi = xs.length) then .ok (.ref ih.length) (ih ++ [.tup (cutI xs lo hi)]) else .stuck
    | _ => .stuck
  | _ => .stuck
def m_sl (ma : Env → IH → Res IV) (ml mh : Env → IH → Res (Option Int)) (env : Env) (ih : IH) : Res IV := (ma env ih).bind fun x ih1 => (ml env ih1).bind fun l ih2 => (mh env ih2).bind fun h ih3 => f_sl x l h ih3
theorem Rs.cut {r : List Addr} {xs : List IV} {ys : List V} (h : Rs r xs ys) (lo hi : Option Int) : Rs r (cutI xs lo hi) (cutV ys lo hi) := by
  unfold cutV cutI
  rw [h.length]
  exact (h.drop _).take _
abbrev rSlA (K : PySem.W.Frag) : V → Option Int → Option Int → Hp → VK → Prop := fun x lo hi H Q => rSlL K x lo hi H Q ∨ rSlT K x lo hi H Q
section
variable {X : Cx} {K : PySem.W.Frag} {W : WX} {e : Expr} {lo hi : Option Expr} {ma : Env → IH → Res IV} {ml mh : Env → IH → Res (Option Int)} {pos p2 : Pos}
theorem sl_A : SlR X (rSlA X.K) := sl_list.or sl_tup
theorem s_sl {r : List Addr} {ih : IH} {H : Hp} {x : IV} {u : V} {l h : Option Int} {σ : St} {Q : VK} (hr : Rel K r ih H) (hx : R r x u) (q : PGen R K W σ r (f_sl x l h ih) Q) : rSlA K u l h H Q := by
  unfold f_sl at q
  split at q
  · rename_i n
    obtain ⟨a, ea, rfl⟩ := hx.ref
    split at q
    · rename_i xs e1
      obtain ⟨ys, h1, h2⟩ := (hr.get n a _ ea e1).l rfl
      exact .inl ⟨a, ys, rfl, h1, fun p hp => end_lst q hr (h2.cut l h) hp⟩
    · rename_i xs e1
      obtain ⟨ys, h1, h2⟩ := (hr.get n a _ ea e1).l rfl
      exact .inl ⟨a, ys, rfl, h1, fun p hp => end_lst q hr (h2.cut l h) hp⟩
    · rename_i xs e1
      obtain ⟨ys, h1, h2⟩ := (hr.get n a _ ea e1).t rfl
      split at q
      · rename_i hc
        refine .inr ⟨a, ys, rfl, h1, ?_, fun p hp => end_tup q hr (h2.cut l h) hp⟩
        have hl : xs.length = ys.length := h2.length
        rw [← hl]
        exact hc
      · exact q.elim
    · exact q.elim
  · exact q.elim
theorem lo_none : PO X none (tG Oq X.K W m_none) := ⟨fun pins s σ H Q I ⟨r, ih, env, hr, he, q⟩ => po_none.run pins s σ H Q I (tG_end q hr rfl)⟩
theorem lo_some (h : PE X e (tM X.K W ma)) : PO X (some e) (tG Oq X.K W (m_some ma)) := ⟨fun pins s σ H Q I ⟨r, ih, env, hr, he, q⟩ => (po_some h).run pins s σ H Q I (tG.imp (tG_bind hr he q) fun u H1 ⟨r1, ih1, v, p, hr1, hv, q1⟩ => by
  cases v with
  | int i =>
    obtain rfl : u = .int i := hv
    exact ⟨i, rfl, tG_end q1 hr1 rfl⟩
  | _ => exact q1.elim)⟩
theorem lm_sl (ha : PE X e (tM X.K W ma)) (hl : PO X lo (tG Oq X.K W ml)) (hh : PO X hi (tG Oq X.K W mh)) : PE X (.Subscript e (.Slice lo hi none p2) pos) (tM X.K W (m_sl ma ml mh)) :=
  PE.of (pe_slice sl_A ha hl hh) fun σ H Q ⟨r, ih, env, hr, he, q⟩ => tG.imp (tG_bind hr he q) fun u H1 ⟨r1, ih1, v, p, hr1, hv, q1⟩ =>
    tG.imp (tG_bind hr1 (he.mono p) q1) fun w H2 ⟨r2, ih2, y, p2, hr2, hy, q2⟩ => tG.imp (tG_bind hr2 ((he.mono p).mono p2) q2) fun z H3 ⟨r3, ih3, y3, p3, hr3, hy3, q3⟩ => by
      obtain rfl : w = y := hy
      obtain rfl : z = y3 := hy3
      exact s_sl hr3 ((hv.mono p2).mono p3) q3
end

theorem Rs.one {r : List Addr} {x : IV} {us : List V} (h : Rs r [x] us) : ∃ u, us = [u] ∧ R r x u := by
  cases h with
  | cons a b =>
    cases b
    exact ⟨_, rfl, a⟩
theorem Rs.two {r : List Addr} {x y : IV} {us : List V} (h : Rs r [x, y] us) : ∃ u w, us = [u, w] ∧ R r x u ∧ R r y w := by
  cases h with
  | cons a b =>
    obtain ⟨w, rfl, c⟩ := Rs.one b
    exact ⟨_, w, rfl, a, c⟩
/-! ### built-in calls -/
def f_len (xs : List IV) (ih : IH) : Res IV := match xs with
  | [.ref n] => match ih[n]? with
    | some .dct => .stuck
    | some (.dk _) => .stuck
    | some .clo => .stuck
    | some o => .ok (.int o.xs.length) ih
    | none => .stuck
  | [.str z] => if z.length ≤ 1000000 then .ok (.int z.length) ih else .stuck
  | _ => .stuck
def f_int (xs : List IV) (ih : IH) : Res IV := match xs with
  | [.int i] => .ok (.int i) ih
  | [.bl b] => .ok (.int (if b then 1 else 0)) ih
  | _ => .stuck
def f_abs (xs : List IV) (ih : IH) : Res IV := match xs with
  | [.int i] => .ok (.int (if i < 0 then -i else i)) ih
  | _ => .stuck
def f_max2 (xs : List IV) (ih : IH) : Res IV := match xs with
  | [.int i, .int j] => .ok (.int (if j > i then j else i)) ih
  | _ => .stuck
def f_min2 (xs : List IV) (ih : IH) : Res IV := match xs with
  | [.int i, .int j] => .ok (.int (if j < i then j else i)) ih
  | _ => .stuck
/-- the ints of values that are ints; the bools -/
def ints? : List IV → Option (List Int)
  | [] => some []
  | .int i :: r => (ints? r).map (i :: ·)
  | _ :: _ => none
def bls? : List IV → Option (List Bool)
  | [] => some []
  | .bl i :: r => (bls? r).map (i :: ·)
  | _ :: _ => none
theorem ints?_of {xs : List IV} {ns : List Int} : ints? xs = some ns → xs = ns.map IV.int := by
  induction xs generalizing ns with
  | nil => intro h; cases h; rfl
  | cons x r ihh =>
    intro h
    cases x with
    | int i =>
      unfold ints? at h
      obtain ⟨ms, e, rfl⟩ := Option.map_eq_some_iff.mp h
      rw [ihh e]
      rfl
    | _ => cases h
theorem ints?_map (ns : List Int) : ints? (ns.map IV.int) = some ns := by
  induction ns with
  | nil => rfl
  | cons n r ihh =>
    rw [List.map_cons]
    unfold ints?
    rw [ihh]
    rfl
theorem bls?_of {xs : List IV} {ns : List Bool} : bls? xs = some ns → xs = ns.map IV.bl := by
  induction xs generalizing ns with
  | nil => intro h; cases h; rfl
  | cons x r ihh =>
    intro h
    cases x with
    | bl i =>
      unfold bls? at h
      obtain ⟨ms, e, rfl⟩ := Option.map_eq_some_iff.mp h
      rw [ihh e]
      rfl
    | _ => cases h
theorem bls?_map (ns : List Bool) : bls? (ns.map IV.bl) = some ns := by
  induction ns with
  | nil => rfl
  | cons n r ihh =>
    rw [List.map_cons]
    unfold bls?
    rw [ihh]
    rfl
theorem Rs.flats {r : List Addr} {α : Type} {f : α → IV} (hf : ∀ a n, f a ≠ .ref n) : ∀ {ns : List α} {ys : List V}, Rs r (ns.map f) ys → ys = ns.map fun a => (f a).toV
  | [], _, h => by cases h; rfl
  | n :: r, _, h => by
    cases h with
    | cons h1 h2 => rw [List.map_cons, h1.flat (hf n), Rs.flats hf h2]
theorem Rs.flats_mk {r : List Addr} {α : Type} {f : α → IV} {g : α → V} (hf : ∀ a, R r (f a) (g a)) : ∀ ns : List α, Rs r (ns.map f) (ns.map g)
  | [] => .nil
  | n :: l => .cons (hf n) (Rs.flats_mk hf l)
/-- a call of a list of ints (or of bools) -/
def f_ints (g : List Int → IH → Res IV) (xs : List IV) (ih : IH) : Res IV := match xs with
  | [.ref n] => match ih[n]? with
    | some o => if o.isL = true then (match ints? o.xs with
      | some ns => g ns ih
      | none => .stuck) else .stuck
    | none => .stuck
  | _ => .stuck
def f_bls (g : List Bool → IH → Res IV) (xs : List IV) (ih : IH) : Res IV := match xs with
  | [.ref n] => match ih[n]? with
    | some o => if o.isL = true then (match bls? o.xs with
      | some ns => g ns ih
      | none => .stuck) else .stuck
    | none => .stuck
  | _ => .stuck
def f_sum := f_ints fun ns ih => .ok (.int ns.sum) ih
def f_all := f_bls fun ns ih => .ok (.bl (ns.all id)) ih
def f_any := f_bls fun ns ih => .ok (.bl (ns.any id)) ih
def maxI : List Int → Int
  | [] => 0
  | [a] => a
  | a :: b :: r => max a (maxI (b :: r))
def minI : List Int → Int
  | [] => 0
  | [a] => a
  | a :: b :: r => min a (minI (b :: r))
theorem maxI_spec : ∀ {ns : List Int}, 0 < ns.length → maxI ns ∈ ns ∧ ∀ y ∈ ns, y ≤ maxI ns
  | [a], _ => ⟨List.mem_singleton.mpr rfl, fun y hy => by rw [List.mem_singleton.mp hy]; exact Int.le_refl _⟩
  | a :: b :: r, _ => by
    obtain ⟨h1, h2⟩ := maxI_spec (ns := b :: r) (by simp)
    show max a (maxI (b :: r)) ∈ _ ∧ _
    refine ⟨?_, fun y hy => ?_⟩
    · by_cases h : a ≤ maxI (b :: r)
      · rw [Int.max_eq_right h]
        exact List.mem_cons_of_mem _ h1
      · rw [Int.max_eq_left (by omega)]
        exact List.mem_cons_self
    · show y ≤ max a (maxI (b :: r))
      rcases List.mem_cons.mp hy with e | e
      · omega
      · have := h2 y e
        omega
theorem minI_spec : ∀ {ns : List Int}, 0 < ns.length → minI ns ∈ ns ∧ ∀ y ∈ ns, minI ns ≤ y
  | [a], _ => ⟨List.mem_singleton.mpr rfl, fun y hy => by rw [List.mem_singleton.mp hy]; exact Int.le_refl _⟩
  | a :: b :: r, _ => by
    obtain ⟨h1, h2⟩ := minI_spec (ns := b :: r) (by simp)
    show min a (minI (b :: r)) ∈ _ ∧ _
    refine ⟨?_, fun y hy => ?_⟩
    · by_cases h : a ≤ minI (b :: r)
      · rw [Int.min_eq_left h]
        exact List.mem_cons_self
      · rw [Int.min_eq_right (by omega)]
        exact List.mem_cons_of_mem _ h1
    · show min a (minI (b :: r)) ≤ y
      rcases List.mem_cons.mp hy with e | e
      · omega
      · have := h2 y e
        omega
def f_max1 := f_ints fun ns ih => if 0 < ns.length then .ok (.int (maxI ns)) ih else .stuck
def f_min1 := f_ints fun ns ih => if 0 < ns.length then .ok (.int (minI ns)) ih else .stuck
def f_list (xs : List IV) (ih : IH) : Res IV := match xs with
  | [.ref n] => match ih[n]? with
    | some .dct => .stuck
    | some (.dk _) => .stuck
    | some .clo => .stuck
    | some o => .ok (.ref ih.length) (ih ++ [.lst o.xs])
    | none => .stuck
  | _ => .stuck
def f_tuple (xs : List IV) (ih : IH) : Res IV := match xs with
  | [.ref n] => match ih[n]? with
    | some o => if o.isL = true then .ok (.ref ih.length) (ih ++ [.tup o.xs]) else if o.isT = true then .ok (.ref n) ih else .stuck
    | none => .stuck
  | _ => .stuck
/-- the type of a value -/
def tyN (x : IV) (ih : IH) : Option String := match x with
  | .non => some "NoneType"
  | .bl _ => some "bool"
  | .int _ => some "int"
  | .str _ => some "str"
  | .ref n => match ih[n]? with
    | some (.lst _) => some "list"
    | some (.tup _) => some "tuple"
    | some .dct => some "dict"
    | some (.dk _) => some "dict"
    | _ => none
  | _ => none
def f_isi (xs : List IV) (ih : IH) : Res IV := match xs with
  | [x, .ty T] => match tyN x ih with
    | some t => match kitB t T with
      | some b => .ok (.bl b) ih
      | none => .stuck
    | none => .stuck
  | _ => .stuck
section
variable {X : Cx} {K : PySem.W.Frag} {W : WX}
theorem s_len : SndC K W (fun xs H Q => (∃ p ys, xs = [.ref p] ∧ (SqL K H p ys ∨ SqT K H p ys) ∧ Q (.int ys.length) H) ∨ (∃ z, xs = [.str z] ∧ z.length ≤ sizeLine ∧ Q (.int z.length) H)) f_len := by
  intro r ih H xs us σ Q hr hx q
  unfold f_len at q
  split at q
  · rename_i n
    cases hx with
    | cons h1 h2 =>
      cases h2
      obtain ⟨a, ea, rfl⟩ := h1.ref
      split at q
      · exact q.elim
      · exact q.elim
      · exact q.elim
      · rename_i o nd nk nc e1
        have ho := hr.get n a _ ea e1
        refine .inl ?_
        cases hl : o.isL with
        | true =>
          obtain ⟨ys, h3, h4⟩ := ho.l hl
          exact ⟨a, ys, rfl, .inl h3, by rw [← h4.length]; exact tG_end q hr rfl⟩
        | false =>
          obtain ⟨ys, h3, h4⟩ := ho.t (MO.tf hl nd nc nk)
          exact ⟨a, ys, rfl, .inr h3, by rw [← h4.length]; exact tG_end q hr rfl⟩
      · exact q.elim
  · rename_i z
    cases hx with
    | cons h1 h2 =>
      cases h2
      obtain rfl := h1.flat fun _ => IV.noConfusion
      split at q
      · rename_i hl
        exact .inr ⟨z, rfl, line6 hl, tG_end q hr rfl⟩
      · exact q.elim
  · exact q.elim
theorem call_lenA : CallR X (.builtin "len") (fun xs H Q => (∃ p ys, xs = [.ref p] ∧ (SqL X.K H p ys ∨ SqT X.K H p ys) ∧ Q (.int ys.length) H) ∨ (∃ z, xs = [.str z] ∧ z.length ≤ sizeLine ∧ Q (.int z.length) H)) := call_len_seq.or call_len_str
theorem s_int : SndC K W (fun xs H Q => (∃ i, xs = [.int i] ∧ Q (.int i) H) ∨ ∃ k, xs = [.bl k] ∧ Q (.int (if k then 1 else 0)) H) f_int := by
  intro r ih H xs us σ Q hr hx q
  unfold f_int at q
  split at q
  · rename_i i
    obtain rfl := Rs.flats (f := IV.int) (fun _ _ => IV.noConfusion) (ns := [i]) hx
    exact .inl ⟨i, rfl, tG_end q hr rfl⟩
  · rename_i b
    obtain rfl := Rs.flats (f := IV.bl) (fun _ _ => IV.noConfusion) (ns := [b]) hx
    exact .inr ⟨b, rfl, tG_end q hr rfl⟩
  · exact q.elim
theorem s_abs : SndC K W (fun xs H Q => ∃ i, xs = [.int i] ∧ Q (.int (if i < 0 then -i else i)) H) f_abs := by
  intro r ih H xs us σ Q hr hx q
  unfold f_abs at q
  split at q
  · rename_i i
    obtain rfl := Rs.flats (f := IV.int) (fun _ _ => IV.noConfusion) (ns := [i]) hx
    exact ⟨i, rfl, tG_end q hr rfl⟩
  · exact q.elim
theorem s_max2 : SndC K W (fun xs H Q => ∃ i j, xs = [.int i, .int j] ∧ Q (.int (if j > i then j else i)) H) f_max2 := by
  intro r ih H xs us σ Q hr hx q
  unfold f_max2 at q
  split at q
  · rename_i i j
    obtain rfl := Rs.flats (f := IV.int) (fun _ _ => IV.noConfusion) (ns := [i, j]) hx
    exact ⟨i, j, rfl, tG_end q hr rfl⟩
  · exact q.elim
theorem s_min2 : SndC K W (fun xs H Q => ∃ i j, xs = [.int i, .int j] ∧ Q (.int (if j < i then j else i)) H) f_min2 := by
  intro r ih H xs us σ Q hr hx q
  unfold f_min2 at q
  split at q
  · rename_i i j
    obtain rfl := Rs.flats (f := IV.int) (fun _ _ => IV.noConfusion) (ns := [i, j]) hx
    exact ⟨i, j, rfl, tG_end q hr rfl⟩
  · exact q.elim
/-- one list of ints: what is known -/
theorem ints_got {r : List Addr} {ih : IH} {H : Hp} {xs : List IV} {us : List V} {σ : St} {Q : VK} {g : List Int → IH → Res IV} (hr : Rel K r ih H) (hx : Rs r xs us) (q : PGen R K W σ r (f_ints g xs ih) Q) :
    ∃ (a : Addr) (ns : List Int), us = [.ref a] ∧ SqL K H a (ns.map V.int) ∧ PGen R K W σ r (g ns ih) Q := by
  unfold f_ints at q
  split at q
  · rename_i n
    cases hx with
    | cons h1 h2 =>
      cases h2
      obtain ⟨a, ea, rfl⟩ := h1.ref
      split at q
      · rename_i o e1
        split at q
        · rename_i hl
          split at q
          · rename_i ns e2
            obtain ⟨ys, h3, h4⟩ := (hr.get n a _ ea e1).l hl
            rw [ints?_of e2] at h4
            obtain rfl := h4.flats fun _ _ => IV.noConfusion
            exact ⟨a, ns, rfl, h3, q⟩
          · exact q.elim
        · exact q.elim
      · exact q.elim
  · exact q.elim
theorem bls_got {r : List Addr} {ih : IH} {H : Hp} {xs : List IV} {us : List V} {σ : St} {Q : VK} {g : List Bool → IH → Res IV} (hr : Rel K r ih H) (hx : Rs r xs us) (q : PGen R K W σ r (f_bls g xs ih) Q) :
    ∃ (a : Addr) (ns : List Bool), us = [.ref a] ∧ SqL K H a (ns.map V.bl) ∧ PGen R K W σ r (g ns ih) Q := by
  unfold f_bls at q
  split at q
  · rename_i n
    cases hx with
    | cons h1 h2 =>
      cases h2
      obtain ⟨a, ea, rfl⟩ := h1.ref
      split at q
      · rename_i o e1
        split at q
        · rename_i hl
          split at q
          · rename_i ns e2
            obtain ⟨ys, h3, h4⟩ := (hr.get n a _ ea e1).l hl
            rw [bls?_of e2] at h4
            obtain rfl := h4.flats fun _ _ => IV.noConfusion
            exact ⟨a, ns, rfl, h3, q⟩
          · exact q.elim
        · exact q.elim
      · exact q.elim
  · exact q.elim
theorem s_sum : SndC K W (rSum K) f_sum := fun r ih H xs us σ Q hr hx q => let ⟨a, ns, e, h, q2⟩ := ints_got hr hx q; ⟨a, ns, e, h, tG_end q2 hr rfl⟩
theorem s_all : SndC K W (rAll K) f_all := fun r ih H xs us σ Q hr hx q => let ⟨a, ns, e, h, q2⟩ := bls_got hr hx q; ⟨a, ns, e, h, tG_end q2 hr rfl⟩
theorem s_any : SndC K W (rAny K) f_any := fun r ih H xs us σ Q hr hx q => let ⟨a, ns, e, h, q2⟩ := bls_got hr hx q; ⟨a, ns, e, h, tG_end q2 hr rfl⟩
theorem s_max1 : SndC K W (rMax K) f_max1 := fun r ih H xs us σ Q hr hx q => by
  obtain ⟨a, ns, e, h, q2⟩ := ints_got hr hx q
  split at q2
  · rename_i hl
    refine ⟨a, ns, e, h, hl, fun m hm hle => ?_⟩
    obtain ⟨h1, h2⟩ := maxI_spec hl
    have e2 : m = maxI ns := Int.le_antisymm (h2 m hm) (hle _ h1)
    rw [e2]
    exact tG_end q2 hr rfl
  · exact q2.elim
theorem s_min1 : SndC K W (rMin K) f_min1 := fun r ih H xs us σ Q hr hx q => by
  obtain ⟨a, ns, e, h, q2⟩ := ints_got hr hx q
  split at q2
  · rename_i hl
    refine ⟨a, ns, e, h, hl, fun m hm hle => ?_⟩
    obtain ⟨h1, h2⟩ := minI_spec hl
    have e2 : m = minI ns := Int.le_antisymm (hle _ h1) (h2 m hm)
    rw [e2]
    exact tG_end q2 hr rfl
  · exact q2.elim
theorem s_list : SndC K W (fun xs H Q => ∃ p ys, xs = [.ref p] ∧ (SqL K H p ys ∨ SqT K H p ys) ∧ ∀ l, H l = none → Q (.ref l) (upd H l (.lst ys))) f_list := by
  intro r ih H xs us σ Q hr hx q
  unfold f_list at q
  split at q
  · rename_i n
    cases hx with
    | cons h1 h2 =>
      cases h2
      obtain ⟨a, ea, rfl⟩ := h1.ref
      split at q
      · exact q.elim
      · exact q.elim
      · exact q.elim
      · rename_i o nd nk nc e1
        have ho := hr.get n a _ ea e1
        cases hl : o.isL with
        | true =>
          obtain ⟨ys, h3, h4⟩ := ho.l hl
          exact ⟨a, ys, rfl, .inl h3, fun l hp => end_lst q hr h4 hp⟩
        | false =>
          obtain ⟨ys, h3, h4⟩ := ho.t (MO.tf hl nd nc nk)
          exact ⟨a, ys, rfl, .inr h3, fun l hp => end_lst q hr h4 hp⟩
      · exact q.elim
  · exact q.elim
theorem s_tuple : SndC K W (fun xs H Q => ∃ p ys, xs = [.ref p] ∧ ((SqL K H p ys ∧ ∀ l, H l = none → Q (.ref l) (upd H l (.tup ys))) ∨ (SqT K H p ys ∧ Q (.ref p) H))) f_tuple := by
  intro r ih H xs us σ Q hr hx q
  unfold f_tuple at q
  split at q
  · rename_i n
    cases hx with
    | cons h1 h2 =>
      cases h2
      have h1' := h1
      obtain ⟨a, ea, rfl⟩ := h1.ref
      split at q
      · rename_i o e1
        have ho := hr.get n a _ ea e1
        split at q
        · rename_i hl
          obtain ⟨ys, h3, h4⟩ := ho.l hl
          exact ⟨a, ys, rfl, .inl ⟨h3, fun l hp => end_tup q hr h4 hp⟩⟩
        · split at q
          · rename_i hl
            obtain ⟨ys, h3, h4⟩ := ho.t hl
            exact ⟨a, ys, rfl, .inr ⟨h3, tG_end q hr h1'⟩⟩
          · exact q.elim
      · exact q.elim
  · exact q.elim
theorem s_isi : SndC K W (rIsi K) f_isi := by
  intro r ih H xs us σ Q hr hx q
  unfold f_isi at q
  split at q
  · rename_i x T
    obtain ⟨u, w, rfl, h1, h3⟩ := hx.two
    obtain rfl := h3.flat fun _ => IV.noConfusion
    · · split at q
        · rename_i t e1
          split at q
          · rename_i b e2
            have ty : TyX K H u (.type t) := by
              unfold tyN at e1
              split at e1
              · cases e1; obtain rfl := h1.flat fun _ => IV.noConfusion; exact .base .non
              · cases e1; obtain rfl := h1.flat fun _ => IV.noConfusion; exact .base (.bl _)
              · cases e1; obtain rfl := h1.flat fun _ => IV.noConfusion; exact .base (.int _)
              · cases e1; obtain rfl := h1.flat fun _ => IV.noConfusion; exact .base (.str _)
              · rename_i n
                obtain ⟨a, ea, rfl⟩ := h1.ref
                split at e1
                · rename_i xs e3
                  cases e1
                  obtain ⟨ys, h5, _⟩ := hr.get n a _ ea e3
                  exact .base (.lst h5)
                · rename_i xs e3
                  cases e1
                  obtain ⟨ys, h5, _⟩ := hr.get n a _ ea e3
                  exact .base (.tup h5)
                · rename_i e3
                  cases e1
                  obtain ⟨kvs, h5⟩ := hr.get n a _ ea e3
                  exact .base (.dK h5)
                · rename_i kvs e3
                  cases e1
                  obtain ⟨ys, h5, _⟩ := hr.get n a _ ea e3
                  exact .base (.dK h5)
                · cases e1
              · cases e1
            exact ⟨u, .ty T, .type t, .type T, b, rfl, .ty T, ty, kit_ty e2, tG_end q hr rfl⟩
          · exact q.elim
        · exact q.elim
  · exact q.elim
end
end L3
/-! L3e: methods; targets, statements, loops, comprehensions, calls, defs. -/
namespace L3
variable [TabT] [LamT]
open PySem L2

/-! ### methods of lists -/
def isLst (x : IV) (ih : IH) : Bool := match x with
  | .ref n => match ih[n]? with
    | some o => o.isL
    | none => false
  | _ => false
def m_mL (f : IV → List IV → IH → Res IV) (ma : Env → IH → Res IV) (mr : Env → IH → Res (List IV)) (env : Env) (ih : IH) : Res IV := (ma env ih).bind fun x ih1 => if isLst x ih1 = true then (mr env ih1).bind fun xs ih2 => f x xs ih2 else .stuck
def m_mL0 (f : IV → List IV → IH → Res IV) (ma : Env → IH → Res IV) (env : Env) (ih : IH) : Res IV := (ma env ih).bind fun x ih1 => if isLst x ih1 = true then f x [] ih1 else .stuck
def SndM (K : PySem.W.Frag) (W : WX) (rr : V → List V → Hp → VK → Prop) (f : IV → List IV → IH → Res IV) : Prop := ∀ (r : List Addr) (ih : IH) (H : Hp) (x : IV) (u : V) (xs : List IV) (us : List V) (σ : St) (Q : VK), Rel K r ih H → R r x u → Rs r xs us → PGen R K W σ r (f x xs ih) Q → rr u us H Q
def f_append (x : IV) (vs : List IV) (ih : IH) : Res IV := match x, vs with
  | .ref n, [y] => match ih[n]? with
    | some (.lst xs) => if xs.length < 100000 then .ok .non (ih.set n (.lst (xs ++ [y]))) else .stuck
    | _ => .stuck
  | _, _ => .stuck
def f_pop (x : IV) (vs : List IV) (ih : IH) : Res IV := match x, vs with
  | .ref n, [] => match ih[n]? with
    | some (.lst xs) => match xs[xs.length - 1]? with
      | some y => .ok y (ih.set n (.lst xs.dropLast))
      | none => .stuck
    | _ => .stuck
  | _, _ => .stuck
section
variable {X : Cx} {K : PySem.W.Frag} {W : WX} {a : Expr} {ma : Env → IH → Res IV}
theorem isLst_ty {r : List Addr} {ih : IH} {H : Hp} {x : IV} {u : V} (hr : Rel K r ih H) (hx : R r x u) (h : isLst x ih = true) : tyV K "list" u H := by
  unfold isLst at h
  split at h
  · rename_i n
    obtain ⟨a, ea, rfl⟩ := hx.ref
    split at h
    · rename_i o e1
      obtain ⟨ys, h1, _⟩ := (hr.get n a _ ea e1).l h
      exact .inl ⟨rfl, ys, h1⟩
    · cases h
  · cases h
theorem lm_mL {name : Str} {apos cpos : Pos} {id : String} {e : Expr} {es : List Expr} {rr : V → List V → Hp → VK → Prop} {f : IV → List IV → IH → Res IV} {mr : Env → IH → Res (List IV)} (slot : Slot "list" name id) (hty : typeOf (.builtin id) = pure (.type "method_descriptor")) (hm : MtR X id rr) (hf : SndM X.K W rr f)
    (ho : PE X a (tM X.K W ma)) (ha : PA X (e :: es) (tMA X.K W mr))
    (hbase : attributeBase a name X.env (eval a X.env) = eval a X.env := by rfl)
    (hfew : ((backTo cpos (starEach (e :: es) X.env)).all (fun x => !x.1) && (backToKw cpos (keywordEach [] X.env)).all (fun x => x.1.isSome)
      && decide ((e :: es).length + ([] : List Keyword).length + (if ([] : List Keyword).isEmpty then 0 else 1) < 30)) = true := by rfl)
    (hline : (apos.endLine == cpos.line) = true := by rfl) (hs : starEach (e :: es) X.env = (false, eval e X.env) :: starEach es X.env := by rfl) (hplain : (backTo cpos (starEach es X.env)).any (·.1) = false := by rfl) :
    PE X (.Call (.Attribute a name apos) (e :: es) [] cpos) (tM X.K W (m_mL f ma mr)) :=
  PE.of (pe_bm PySem.F.plainAttrs_list slot hty hm ho ha hbase hfew hline hs hplain) fun σ H Q ⟨r, ih, env, hr, he, q⟩ => tG.imp (tG_bind hr he q) fun u H1 ⟨r1, ih1, v, p, hr1, hv, q1⟩ => by
    dsimp only at q1
    by_cases hl : isLst v ih1 = true
    · rw [if_pos hl] at q1
      refine ⟨isLst_ty hr1 hv hl, ?_⟩
      exact tG.imp (tG_bind hr1 (he.mono p) q1) fun w H2 ⟨r2, ih2, y, p2, hr2, hy, q3⟩ => hf _ _ _ _ _ _ _ _ _ hr2 (hv.mono p2) hy q3
    · rw [if_neg hl] at q1
      exact q1.elim
theorem lm_mL0 {name : Str} {apos cpos : Pos} {id : String} {rr : V → List V → Hp → VK → Prop} {f : IV → List IV → IH → Res IV} (slot : Slot "list" name id) (hty : typeOf (.builtin id) = pure (.type "method_descriptor")) (hm : MtR X id rr) (hf : SndM X.K W rr f)
    (ho : PE X a (tM X.K W ma)) (hbase : attributeBase a name X.env (eval a X.env) = eval a X.env := by rfl) (hline : (apos.endLine == cpos.line) = true := by rfl) :
    PE X (.Call (.Attribute a name apos) [] [] cpos) (tM X.K W (m_mL0 f ma)) :=
  PE.of (pe_bm0 PySem.F.plainAttrs_list slot hty hm ho hbase hline) fun σ H Q ⟨r, ih, env, hr, he, q⟩ => tG.imp (tG_bind hr he q) fun u H1 ⟨r1, ih1, v, p, hr1, hv, q1⟩ => by
    dsimp only at q1
    by_cases hl : isLst v ih1 = true
    · rw [if_pos hl] at q1
      exact ⟨isLst_ty hr1 hv hl, hf _ _ _ _ _ _ _ _ _ hr1 hv .nil q1⟩
    · rw [if_neg hl] at q1
      exact q1.elim
/-- a list written -/
theorem end_set {r : List Addr} {ih : IH} {H : Hp} {σ : St} {Q : VK} {n : Nat} {a : Addr} {xs xs' : List IV} {ys : List V} {v : IV} {w : V} (q : PGen R K W σ r (.ok v (ih.set n (.lst xs'))) Q) (hr : Rel K r ih H) (e1 : r[n]? = some a) (e2 : ih[n]? = some (.lst xs)) (h : Rs r xs' ys) (hv : R r v w) : Q w (upd H a (.lst ys)) :=
  q _ _ _ (pre_refl r) (hr.write e1 e2 h) hv
theorem s_append : SndM K W rAppend f_append := by
  intro r ih H x u xs us σ Q hr hx hxs q
  unfold f_append at q
  split at q
  · rename_i n y
    obtain ⟨a, ea, rfl⟩ := hx.ref
    obtain ⟨w, rfl, hy⟩ := hxs.one
    split at q
    · rename_i zs e1
      obtain ⟨ys, h1, h2⟩ := hr.get n a _ ea e1
      split at q
      · rename_i hl
        exact ⟨a, ys, w, rfl, rfl, h1, by rw [← h2.length]; exact line5l hl, end_set q hr ea e1 (h2.append (.cons hy .nil)) rfl⟩
      · exact q.elim
    · exact q.elim
  · exact q.elim
theorem Rs.dropLast {r : List Addr} {xs : List IV} {us : List V} (h : Rs r xs us) : Rs r xs.dropLast us.dropLast := by
  rw [List.dropLast_eq_take, List.dropLast_eq_take, h.length]
  exact h.take _
theorem s_pop : SndM K W rPop f_pop := by
  intro r ih H x u xs us σ Q hr hx hxs q
  unfold f_pop at q
  split at q
  · rename_i n
    obtain ⟨a, ea, rfl⟩ := hx.ref
    cases hxs
    split at q
    · rename_i zs e1
      obtain ⟨ys, h1, h2⟩ := hr.get n a _ ea e1
      split at q
      · rename_i y e2
        obtain ⟨w, h3, h4⟩ := h2.get e2
        exact ⟨a, ys, w, rfl, rfl, h1, by rw [← h2.length]; exact h3, end_set q hr ea e1 h2.dropLast h4⟩
      · exact q.elim
    · exact q.elim
  · exact q.elim
end

/-! ### targets -/
/-- a target's rule follows its mirror; ks: the slots that it sets -/
def SndG (K : PySem.W.Frag) (ks : List Nat) (g : TG) (f : IV → Env → IH → Option Env) : Prop := ∀ (r : List Addr) (ih : IH) (H : Hp) (v : IV) (u : V) (env : Env) (σ : St) (Q : St → Hp → Prop), Rel K r ih H → R r v u → REnv r env σ →
  (∃ env', f v env ih = some env' ∧ ∀ σ', REnv r env' σ' → σ'.length = σ.length → (∀ j, j ∉ ks → σ'[j]? = σ[j]?) → Q σ' H) → g u σ H Q
def SndGs (K : PySem.W.Frag) (ks : List Nat) (g : TGs) (f : List IV → Env → IH → Option Env) : Prop := ∀ (r : List Addr) (ih : IH) (H : Hp) (v : List IV) (u : List V) (env : Env) (σ : St) (Q : St → Hp → Prop), Rel K r ih H → Rs r v u → REnv r env σ →
  (∃ env', f v env ih = some env' ∧ ∀ σ', REnv r env' σ' → σ'.length = σ.length → (∀ j, j ∉ ks → σ'[j]? = σ[j]?) → Q σ' H) → g u σ H Q
def g_nm (i : Nat) (v : IV) (env : Env) (_ : IH) : Option Env := some (env.set i (some v))
def g_nil (vs : List IV) (env : Env) (_ : IH) : Option Env := match vs with
  | [] => some env
  | _ :: _ => none
def g_cons (f : IV → Env → IH → Option Env) (g : List IV → Env → IH → Option Env) (vs : List IV) (env : Env) (ih : IH) : Option Env := match vs with
  | v :: r => (f v env ih).bind fun env' => g r env' ih
  | [] => none
def g_tup (n : Nat) (f : List IV → Env → IH → Option Env) (v : IV) (env : Env) (ih : IH) : Option Env := match v with
  | .ref k => match ih[k]? with
    | some o => if o.isT = true ∧ o.xs.length = n then f o.xs env ih else none
    | none => none
  | _ => none
def g_lst (n : Nat) (f : List IV → Env → IH → Option Env) (v : IV) (env : Env) (ih : IH) : Option Env := match v with
  | .ref k => match ih[k]? with
    | some o => if o.isL = true ∧ o.xs.length = n then f o.xs env ih else none
    | none => none
  | _ => none
section
variable {K : PySem.W.Frag}
theorem sg_nm (i : Nat) : SndG K [i] (gName i) (g_nm i) := fun r ih H v u env σ Q hr hv he ⟨env', e, q⟩ => by
  cases e
  exact q _ (he.set hv i) (by rw [List.length_set]) fun j hj => List.getElem?_set_ne (fun z => hj (by rw [z]; exact List.mem_singleton.mpr rfl))
theorem sg_nil : SndGs K [] gNil g_nil := fun r ih H v u env σ Q hr hv he ⟨env', e, q⟩ => by
  cases v with
  | nil =>
    cases hv
    cases e
    exact ⟨rfl, q σ he rfl fun _ _ => rfl⟩
  | cons a b => cases e
theorem sg_cons {ks ls : List Nat} {t : TG} {u : TGs} {f : IV → Env → IH → Option Env} {g : List IV → Env → IH → Option Env} (h1 : SndG K ks t f) (h2 : SndGs K ls u g) : SndGs K (ks ++ ls) (gCons t u) (g_cons f g) := fun r ih H v u env σ Q hr hv he ⟨env', e, q⟩ => by
  cases hv with
  | nil => cases e
  | cons a b =>
    obtain ⟨env1, e1, e2⟩ := Option.bind_eq_some_iff.mp e
    refine ⟨_, _, rfl, h1 r ih H _ _ env σ _ hr a he ⟨env1, e1, fun σ1 he1 l1 k1 => ?_⟩⟩
    exact h2 r ih H _ _ env1 σ1 _ hr b he1 ⟨env', e2, fun σ2 he2 l2 k2 => q σ2 he2 (l2.trans l1) fun j hj => (k2 j fun z => hj (List.mem_append_right _ z)).trans (k1 j fun z => hj (List.mem_append_left _ z))⟩
theorem sg_tup {n : Nat} {ks : List Nat} {t : TGs} {f : List IV → Env → IH → Option Env} (h : SndGs K ks t f) : SndG K ks (gTup K n t) (g_tup n f) := fun r ih H v u env σ Q hr hv he ⟨env', e, q⟩ => by
  unfold g_tup at e
  split at e
  · rename_i k _
    obtain ⟨a, ea, rfl⟩ := hv.ref
    split at e
    · rename_i o e1
      split at e
      · rename_i hl
        obtain ⟨ys, h3, h4⟩ := (hr.get k a _ ea e1).t hl.1
        exact ⟨a, ys, rfl, h3, by rw [← h4.length]; exact hl.2, h r ih H _ _ env σ _ hr h4 he ⟨env', e, q⟩⟩
      · cases e
    · cases e
  · cases e
theorem sg_lst {n : Nat} {ks : List Nat} {t : TGs} {f : List IV → Env → IH → Option Env} (h : SndGs K ks t f) : SndG K ks (gLst K n t) (g_lst n f) := fun r ih H v u env σ Q hr hv he ⟨env', e, q⟩ => by
  unfold g_lst at e
  split at e
  · rename_i k _
    obtain ⟨a, ea, rfl⟩ := hv.ref
    split at e
    · rename_i o e1
      split at e
      · rename_i hl
        obtain ⟨ys, h3, h4⟩ := (hr.get k a _ ea e1).l hl.1
        exact ⟨a, ys, rfl, h3, by rw [← h4.length]; exact hl.2, h r ih H _ _ env σ _ hr h4 he ⟨env', e, q⟩⟩
      · cases e
    · cases e
  · cases e
end

/-! ### statements -/
def ms_set (g : IV → Env → IH → Option Env) (m : Env → IH → Res IV) (env : Env) (ih : IH) : RS := (m env ih).stm env fun v ih1 => match g v env ih1 with
  | some env' => .ok (.next env') ih1
  | none => .stuck
def ms_expr (m : Env → IH → Res IV) (env : Env) (ih : IH) : RS := (m env ih).stm env fun _ ih1 => .ok (.next env) ih1
def ms_ret (m : Env → IH → Res IV) (env : Env) (ih : IH) : RS := (m env ih).stm env fun v ih1 => .ok (.ret v) ih1
def ms_retN (_ : Env) (ih : IH) : RS := .ok (.ret .non) ih
def ms_pass (env : Env) (ih : IH) : RS := .ok (.next env) ih
def ms_brk (env : Env) (ih : IH) : RS := .ok (.brk env) ih
def ms_cont (env : Env) (ih : IH) : RS := .ok (.cont env) ih
def ms_if (n : Env → IH → Res Bool) (ma mb : Env → IH → RS) (env : Env) (ih : IH) : RS := (n env ih).stm env fun b ih1 => if b = true then ma env ih1 else mb env ih1
def RS.seq (r : RS) (k : Env → IH → RS) : RS := match r with
  | .ok (.next env) ih => k env ih
  | z => z
@[simp] theorem RS.seq_next (env : Env) (ih : IH) (k : Env → IH → RS) : (RS.ok (.next env) ih).seq k = k env ih := rfl
@[simp] theorem RS.seq_ret (v : IV) (ih : IH) (k : Env → IH → RS) : (RS.ok (.ret v) ih).seq k = .ok (.ret v) ih := rfl
@[simp] theorem RS.seq_brk (v : Env) (ih : IH) (k : Env → IH → RS) : (RS.ok (.brk v) ih).seq k = .ok (.brk v) ih := rfl
@[simp] theorem RS.seq_cont (v : Env) (ih : IH) (k : Env → IH → RS) : (RS.ok (.cont v) ih).seq k = .ok (.cont v) ih := rfl
@[simp] theorem RS.seq_exc (c : Addr) (env : Env) (ih : IH) (k : Env → IH → RS) : (RS.exc c env ih).seq k = .exc c env ih := rfl
@[simp] theorem RS.seq_stuck (k : Env → IH → RS) : RS.stuck.seq k = .stuck := rfl
def ms_seq (ma mb : Env → IH → RS) (env : Env) (ih : IH) : RS := (ma env ih).seq mb
def ms_aug (i : Nat) (f : IV → IV → IH → Res IV) (m : Env → IH → Res IV) (env : Env) (ih : IH) : RS := match env[i]? with
  | some (some x) => (m env ih).stm env fun y ih1 => (f x y ih1).stm env fun z ih2 => .ok (.next (env.set i (some z))) ih2
  | _ => .stuck
def ms_par (i j : Nat) (m : Env → IH → Res (List IV)) (env : Env) (ih : IH) : RS := (m env ih).stm env fun vs ih1 => match vs with
  | [v, w] => .ok (.next ((env.set i (some v)).set j (some w))) ih1
  | _ => .stuck
/-- o[i] = v for a list -/
def f_setL (o i v : IV) (ih : IH) : Option IH := match o, i with
  | .ref n, .int k => match ih[n]? with
    | some (.lst xs) => match ixN xs.length k with
      | some j => some (ih.set n (.lst (xs.set j v)))
      | none => none
    | _ => none
  | _, _ => none
def ms_setL (m mo mi : Env → IH → Res IV) (env : Env) (ih : IH) : RS := (m env ih).stm env fun v ih1 => (mo env ih1).stm env fun o ih2 => (mi env ih2).stm env fun i ih3 => match f_setL o i v ih3 with
  | some ih4 => .ok (.next env) ih4
  | none => .stuck
def ms_raise (c : Addr) (env : Env) (ih : IH) : RS := .exc c env ih
section
variable {X : Cx} {K : PySem.W.Frag} {W : WX} {e : Expr} {m mo mi : Env → IH → Res IV} {n : Env → IH → Res Bool} {sa sb : Env → IH → RS} {pos : Pos} {r : List Addr} {ih : IH} {env : Env} {H : Hp} {σ : St} {D : Ends}
theorem st_end (h : PStm K W r (.ok (.next env) ih) D) (hr : Rel K r ih H) (he : REnv r env σ) : D.nx σ H := h r H σ (pre_refl r) hr he
theorem st_ret {v : IV} {u : V} (h : PStm K W r (.ok (.ret v) ih) D) (hr : Rel K r ih H) (hv : R r v u) : D.rt u H := h r H u (pre_refl r) hr hv
/-- the core of an assignment -/
theorem set_core {ks : List Nat} {g : TG} {f : IV → Env → IH → Option Env} (hg : SndG X.K ks g f) (h : tMS X.K W (ms_set f m) D σ H) : tM X.K W m σ H fun x H1 => g x σ H1 D.nx := by
  obtain ⟨r, ih, env, hr, he, q⟩ := h
  refine tG.imp (tG_stm hr he q) fun u H1 ⟨r1, ih1, v, p, hr1, hv, q1⟩ => ?_
  dsimp only at q1
  refine hg r1 ih1 H1 v u env σ _ hr1 hv (he.mono p) ?_
  cases e : f v env ih1 with
  | some env' =>
    rw [e] at q1
    exact ⟨env', rfl, fun σ' he' _ _ => st_end q1 hr1 he'⟩
  | none =>
    rw [e] at q1
    exact q1.elim
theorem ls_set {i : Nat} {x : Str} {pos' : Pos} (hN : X.N.Nodup) (hi : X.N[i]? = some x) (hx : Loc X.env.scope x) (he : PE X e (tM X.K W m)) (hs : swapsWith e (some (.Name x pos')) pos.line X.env = pure false := by rfl)
    (hf : X.fn x = true ∨ X.env.scope.names.lookup x = some .local := by first | exact .inl rfl | exact .inr rfl | assumption) : PS X (.Assign [.Name x pos'] e pos) (tMS X.K W (ms_set (g_nm i) m)) :=
  PS.of (ps_set hN hi hx he hs hf) fun D σ H h => set_core (sg_nm i) h
theorem ls_asg {tg : Expr} {ks : List Nat} {g : TG} {f : IV → Env → IH → Option Env} (he : PE X e (tM X.K W m)) (hg : PG X tg g) (sg : SndG X.K ks g f) (hs : swapsWithSole [tg] e pos.line X.env = pure false := by rfl) (hw : swappedStores [tg] e X.env = pure none := by rfl) (h1 : (assignEach [tg] X.env).map (·.2) = [assign tg X.env] := by rfl) :
    PS X (.Assign [tg] e pos) (tMS X.K W (ms_set f m)) := PS.of (ps_asg he hg hs hw h1) fun D σ H h => set_core sg h
theorem ls_expr (he : PE X e (tM X.K W m)) (hs : swapsWith e none pos.line X.env = pure false := by rfl) : PS X (.Expr e pos) (tMS X.K W (ms_expr m)) :=
  PS.of (ps_expr he hs) fun D σ H ⟨r, ih, env, hr, he, q⟩ => tG.imp (tG_stm hr he q) fun u H1 ⟨r1, ih1, v, p, hr1, hv, q1⟩ => st_end q1 hr1 (he.mono p)
theorem ls_ret (he : PE X e (tM X.K W m)) : PS X (.Return (some e) pos) (tMS X.K W (ms_ret m)) :=
  PS.of (ps_ret he) fun D σ H ⟨r, ih, env, hr, he, q⟩ => tG.imp (tG_stm hr he q) fun u H1 ⟨r1, ih1, v, p, hr1, hv, q1⟩ => st_ret q1 hr1 hv
theorem ls_retN : PS X (.Return none pos) (tMS X.K W ms_retN) := PS.of ps_retN fun D σ H ⟨r, ih, env, hr, he, q⟩ => st_ret q hr rfl
theorem ls_pass : PS X (.Pass pos) (tMS X.K W ms_pass) := PS.of ps_pass fun D σ H ⟨r, ih, env, hr, he, q⟩ => st_end q hr he
theorem ls_brk : PS X (.Break pos) (tMS X.K W ms_brk) := PS.of ps_break fun D σ H ⟨r, ih, env, hr, he, q⟩ => q r H σ (pre_refl r) hr he
theorem ls_cont : PS X (.Continue pos) (tMS X.K W ms_cont) := PS.of ps_continue fun D σ H ⟨r, ih, env, hr, he, q⟩ => q r H σ (pre_refl r) hr he
theorem ls_if {c : Expr} {a b : List Stmt} (hc : PT X c (tMT X.K W n)) (ha : PSs X a (tMS X.K W sa)) (hb : PSs X b (tMS X.K W sb)) : PS X (.If c a b pos) (tMS X.K W (ms_if n sa sb)) :=
  PS.of (ps_if hc ha hb) fun D σ H ⟨r, ih, env, hr, he, q⟩ => tG.imp (tG_stm hr he q) fun u H1 ⟨r1, ih1, v, p, hr1, hv, q1⟩ => by
    obtain rfl : u = v := hv
    cases u with
    | true => exact ⟨r1, ih1, env, hr1, he.mono p, q1⟩
    | false => exact ⟨r1, ih1, env, hr1, he.mono p, q1⟩
theorem lss_nil : PSs X [] (tMS X.K W ms_pass) := PSs.of pss_nil fun D σ H ⟨r, ih, env, hr, he, q⟩ => st_end q hr he
theorem lss_one {st : Stmt} (h : PS X st (tMS X.K W sa)) : PSs X [st] (tMS X.K W sa) := pss_one h
theorem lss_cons {st : Stmt} {rest : List Stmt} (h1 : PS X st (tMS X.K W sa)) (h2 : PSs X rest (tMS X.K W sb)) : PSs X (st :: rest) (tMS X.K W (ms_seq sa sb)) :=
  PSs.of (pss_cons h1 h2) fun D σ H ⟨r, ih, env, hr, he, q⟩ => by
    refine ⟨r, ih, env, hr, he, ?_⟩
    unfold ms_seq at q
    cases e : sa env ih with
    | ok f ih1 =>
      rw [e] at q
      cases f with
      | next env1 => exact fun r' H' σ' p hr' he' => ⟨r', ih1, env1, hr', he', PStm.mono p q⟩
      | brk env1 => exact q
      | cont env1 => exact q
      | ret v => exact q
    | exc c env1 ih1 => rw [e] at q; exact q
    | stuck => rw [e] at q; exact q
theorem ls_aug {i : Nat} {x : Str} {op : Operator} {rr : R2} {f : IV → IV → IH → Res IV} {pos' : Pos} (hN : X.N.Nodup) (hi : X.N[i]? = some x) (hx : Loc X.env.scope x) (ho : OpR X (inplaceOp op) rr) (hf : Snd2 X.K W rr f) (he : PE X e (tM X.K W m))
    (hfn : X.fn x = true ∨ X.env.scope.names.lookup x = some .local := by first | exact .inl rfl | exact .inr rfl | assumption) : PS X (.AugAssign (.Name x pos') op e pos) (tMS X.K W (ms_aug i f m)) :=
  PS.of (ps_aug (ti := rr) hN hi hx he (fun pins s σ H x y v u Q I rx ry q => ho pins s σ H x y v u Q I rx ry q) hfn) fun D σ H ⟨r, ih, env, hr, he, q⟩ => by
    unfold ms_aug at q
    split at q
    · rename_i v0 e0
      obtain ⟨u0, h1, h2⟩ := he.2 i v0 e0
      refine ⟨u0, h1, tG.imp (tG_stm hr he q) fun u H1 ⟨r1, ih1, v, p, hr1, hv, q1⟩ => ?_⟩
      dsimp only at q1
      refine hf r1 ih1 H1 v0 v u0 u σ _ hr1 (h2.mono p) hv ?_
      cases e : f v0 v ih1 with
      | ok z ih2 =>
        rw [e] at q1
        exact fun r' H' w p' hr' hw => q1 r' H' _ p' hr' ((he.mono (pre_trans p p')).set hw i)
      | exc c ih2 =>
        rw [e] at q1
        exact fun r' H' p' hr' => q1 r' H' σ p' hr' (he.mono (pre_trans p p'))
      | stuck =>
        rw [e] at q1
        exact q1
    · exact q.elim
theorem ls_par {i j : Nat} {x y : Str} {a b : Expr} {mm : Env → IH → Res (List IV)} {px py pt : Pos} {kt k2 : Nat} {pt2 : Pos} (hP : ∀ {ta : TA}, PA X [a, b] ta → PS X (.Assign [.Tuple [.Name x px, .Name y py] kt pt] (.Tuple [a, b] k2 pt2) pos) (tPar i j ta))
    (ha : PA X [a, b] (tMA X.K W mm)) : PS X (.Assign [.Tuple [.Name x px, .Name y py] kt pt] (.Tuple [a, b] k2 pt2) pos) (tMS X.K W (ms_par i j mm)) :=
  PS.of (hP ha) fun D σ H ⟨r, ih, env, hr, he, q⟩ => tG.imp (tG_stm hr he q) fun us H1 ⟨r1, ih1, vs, p, hr1, hv, q1⟩ => by
    dsimp only at q1
    split at q1
    · rename_i v w
      obtain ⟨u1, u2, rfl, h1, h2⟩ := hv.two
      exact ⟨u1, u2, rfl, st_end q1 hr1 (((he.mono p).set h1 i).set h2 j)⟩
    · exact q1.elim
theorem ls_setL {o i : Expr} {tpos : Pos} (he : PE X e (tM X.K W m)) (hg : ∀ {to ti : TE}, PE X o to → PE X i ti → PG X (.Subscript o i tpos) (gSub to ti rSetL)) (ho : PE X o (tM X.K W mo)) (hi : PE X i (tM X.K W mi))
    (hs : swapsWithSole [.Subscript o i tpos] e pos.line X.env = pure false := by rfl) (hw : swappedStores [.Subscript o i tpos] e X.env = pure none := by rfl) : PS X (.Assign [.Subscript o i tpos] e pos) (tMS X.K W (ms_setL m mo mi)) :=
  PS.of (ps_asg he (hg ho hi) hs hw) fun D σ H ⟨r, ih, env, hr, he, q⟩ => tG.imp (tG_stm hr he q) fun u H1 ⟨r1, ih1, v, p, hr1, hv, q1⟩ =>
    tG.imp (tG_stm hr1 (he.mono p) q1) fun u2 H2 ⟨r2, ih2, v2, p2, hr2, hv2, q2⟩ => tG.imp (tG_stm hr2 ((he.mono p).mono p2) q2) fun u3 H3 ⟨r3, ih3, v3, p3, hr3, hv3, q3⟩ => by
      dsimp only at q3
      cases e : f_setL v2 v3 v ih3 with
      | some ih4 =>
        rw [e] at q3
        unfold f_setL at e
        split at e
        · rename_i n k _
          obtain ⟨a, ea, rfl⟩ := (hv2.mono p3).ref
          obtain rfl : u3 = .int k := hv3
          split at e
          · rename_i xs e1
            obtain ⟨ys, h1, h2⟩ := hr3.get n a _ ea e1
            split at e
            · rename_i j ej
              cases e
              refine ⟨a, ys, k, j, rfl, rfl, h1, by rw [← h2.length]; exact ej, ?_⟩
              exact q3 r3 _ σ (pre_refl r3) (hr3.write ea e1 (h2.set ((hv.mono p2).mono p3) j)) (((he.mono p).mono p2).mono p3)
            · cases e
          · cases e
        · cases e
      | none =>
        rw [e] at q3
        exact q3.elim
theorem ls_raise {C : Addr} {bmB : List Value} {B newId initId : String} {x mm : Str} {j : Nat} {p p2 pos pos2 : Pos} (hc : X.calm = true) (tk : Takes X W) (F : ExcBaseFacts B newId initId bmB) (q : PySem.W.excIn X.K C bmB newId = true) (gC : X.mg x = some (.ref C)) (kC : PySem.W.keepIn X.K (.ref C) = true) (r : Raises X (.ref C)) (hg : Gl X x)
    (hdb : (x == ("__debug__" : Str)) = false := by decide) : PS X (.Raise (some (.Call (.Name x p) [.Constant (.str mm) j p2] [] pos)) none pos2) (tMS X.K W (ms_raise C)) :=
  PS.of (ps_raise hc tk (pmk_own F q gC kC r hg hdb)) fun D σ H ⟨r, ih, env, hr, he, q⟩ => q r H σ (pre_refl r) hr he
end
end L3
/-! L3f: what is walked, loops, comprehensions. -/
namespace L3
variable [TabT] [LamT]
open PySem L2

/-! ### what is walked -/
inductive Src where
  | lst (n : Nat) | tup (n : Nat) | rng (lo c : Int) (k : Nat) | enm (n : Nat) | zip (n m : Nat)
/-- the i-th turn: stuck, the end, or an item (the heap may grow) -/
inductive Tr where
  | stuck | stop | item (v : IV) (ih : IH)
def MO.isK (o : MO) : Bool → Bool
  | true => o.isL
  | false => o.isT
def lAt (ih : IH) (n : Nat) (l : Bool) : Option (List IV) := match ih[n]? with
  | some o => if o.isK l = true then some o.xs else none
  | none => none
def Src.turn (s : Src) (i : Nat) (ih : IH) : Tr := match s with
  | .lst n => match lAt ih n true with
    | some xs => match xs[i]? with
      | some v => .item v ih
      | none => .stop
    | none => .stuck
  | .tup n => match lAt ih n false with
    | some xs => match xs[i]? with
      | some v => .item v ih
      | none => .stop
    | none => .stuck
  | .rng lo c k => if i < k then .item (.int (lo + (i : Int) * c)) ih else .stop
  | .enm n => match lAt ih n true with
    | some xs => match xs[i]? with
      | some v => .item (.ref ih.length) (ih ++ [.tup [.int (i : Int), v]])
      | none => .stop
    | none => .stuck
  | .zip n m => match lAt ih n true, lAt ih m true with
    | some xs, some ys => match xs[i]?, ys[i]? with
      | some v, some w => .item (.ref ih.length) (ih ++ [.tup [v, w]])
      | _, _ => .stop
    | _, _ => .stuck
/-- how many turns there are at most -/
def Src.size (s : Src) (ih : IH) : Nat := match s with
  | .lst n => match ih[n]? with
    | some o => o.xs.length
    | none => 0
  | .tup n => match ih[n]? with
    | some o => o.xs.length
    | none => 0
  | .rng _ _ k => k
  | .enm n => match ih[n]? with
    | some o => o.xs.length
    | none => 0
  | .zip n _ => match ih[n]? with
    | some o => o.xs.length
    | none => 0
def SRel (K : PySem.W.Frag) (r : List Addr) (s : Src) (J : It) : Prop := match s with
  | .lst n => ∃ a, r[n]? = some a ∧ J = Itl K a
  | .tup n => ∃ a, r[n]? = some a ∧ J = Itt K a
  | .rng lo c k => J.go = (fun i _ => i < k) ∧ J.yld = (fun i H x H' => H' = H ∧ x = .int (lo + (i : Int) * c)) ∧ J.stop = fun i _ => k ≤ i
  | .enm n => ∃ a, r[n]? = some a ∧ J = Ite K a
  | .zip n m => ∃ a b, r[n]? = some a ∧ r[m]? = some b ∧ J = Itz K a b
section
variable {K : PySem.W.Frag} {r r' : List Addr} {ih : IH} {H : Hp}
theorem lAt_l {n : Nat} {xs : List IV} {a : Addr} (hr : Rel K r ih H) (ea : r[n]? = some a) (h : lAt ih n true = some xs) : ∃ ys, SqL K H a ys ∧ Rs r xs ys := by
  unfold lAt at h
  split at h
  · rename_i o e
    split at h
    · rename_i hl
      cases h
      exact (hr.get n a _ ea e).l hl
    · cases h
  · cases h
theorem lAt_t {n : Nat} {xs : List IV} {a : Addr} (hr : Rel K r ih H) (ea : r[n]? = some a) (h : lAt ih n false = some xs) : ∃ ys, SqT K H a ys ∧ Rs r xs ys := by
  unfold lAt at h
  split at h
  · rename_i o e
    split at h
    · rename_i hl
      cases h
      exact (hr.get n a _ ea e).t hl
    · cases h
  · cases h
theorem Rs.none {xs : List IV} {ys : List V} {i : Nat} (h : Rs r xs ys) (e : xs[i]? = none) : ys.length ≤ i := by
  rw [← h.length]
  exact List.getElem?_eq_none_iff.mp e
/-- a turn of the mirror is a turn of the iterator -/
theorem turn_ok {s : Src} {J : It} {i : Nat} (hj : SRel K r s J) (hr : Rel K r ih H) : match s.turn i ih with
    | .stuck => True
    | .stop => J.stop i H
    | .item v ih1 => J.go i H ∧ ∀ x H', J.yld i H x H' → ∃ r1, r <+: r1 ∧ Rel K r1 ih1 H' ∧ R r1 v x := by
  cases s with
  | lst n =>
    obtain ⟨a, ea, rfl⟩ := hj
    unfold Src.turn
    dsimp only
    cases e : lAt ih n true with
    | none => trivial
    | some xs =>
      obtain ⟨ys, h1, h2⟩ := lAt_l hr ea e
      dsimp only
      cases e2 : xs[i]? with
      | none => exact ⟨ys, h1, h2.none e2⟩
      | some v =>
        obtain ⟨y, h3, h4⟩ := h2.get e2
        refine ⟨⟨ys, y, h1, h3⟩, fun x H' hy => ?_⟩
        obtain ⟨rfl, hy⟩ := hy
        have := (hy _ h1).symm.trans h3
        cases this
        exact ⟨r, pre_refl r, hr, h4⟩
  | tup n =>
    obtain ⟨a, ea, rfl⟩ := hj
    unfold Src.turn
    dsimp only
    cases e : lAt ih n false with
    | none => trivial
    | some xs =>
      obtain ⟨ys, h1, h2⟩ := lAt_t hr ea e
      dsimp only
      cases e2 : xs[i]? with
      | none => exact ⟨ys, h1, h2.none e2⟩
      | some v =>
        obtain ⟨y, h3, h4⟩ := h2.get e2
        refine ⟨⟨ys, y, h1, h3⟩, fun x H' hy => ?_⟩
        obtain ⟨rfl, hy⟩ := hy
        have := (hy _ h1).symm.trans h3
        cases this
        exact ⟨r, pre_refl r, hr, h4⟩
  | rng lo c k =>
    obtain ⟨h1, h2, h3⟩ := hj
    unfold Src.turn
    dsimp only
    by_cases hk : i < k
    · rw [if_pos hk]
      dsimp only
      rw [h1, h2]
      refine ⟨hk, fun x H' hy => ?_⟩
      obtain ⟨rfl, rfl⟩ := hy
      exact ⟨r, pre_refl r, hr, rfl⟩
    · rw [if_neg hk]
      dsimp only
      rw [h3]
      exact Nat.le_of_not_lt hk
  | enm n =>
    obtain ⟨a, ea, rfl⟩ := hj
    unfold Src.turn
    dsimp only
    cases e : lAt ih n true with
    | none => trivial
    | some xs =>
      obtain ⟨ys, h1, h2⟩ := lAt_l hr ea e
      dsimp only
      cases e2 : xs[i]? with
      | none => exact ⟨ys, h1, h2.none e2⟩
      | some v =>
        obtain ⟨y, h3, h4⟩ := h2.get e2
        refine ⟨⟨ys, y, h1, h3⟩, fun x H' hy => ?_⟩
        obtain ⟨T, z, rfl, hT, rfl, hy⟩ := hy
        have := (hy _ h1).symm.trans h3
        cases this
        exact ⟨r ++ [T], pre_one, hr.new hT rfl fun H' e => ⟨_, e, .cons rfl (.cons h4 .nil)⟩, R.newest hr.len⟩
  | zip n m =>
    obtain ⟨a, b, ea, eb, rfl⟩ := hj
    unfold Src.turn
    dsimp only
    cases e : lAt ih n true with
    | none => trivial
    | some xs =>
      cases e' : lAt ih m true with
      | none => trivial
      | some zs =>
        obtain ⟨ys, h1, h2⟩ := lAt_l hr ea e
        obtain ⟨ws, k1, k2⟩ := lAt_l hr eb e'
        dsimp only
        cases e2 : xs[i]? with
        | none => exact ⟨ys, ws, h1, k1, .inl (h2.none e2)⟩
        | some v =>
          cases e3 : zs[i]? with
          | none => exact ⟨ys, ws, h1, k1, .inr (k2.none e3)⟩
          | some w =>
            obtain ⟨y, h3, h4⟩ := h2.get e2
            obtain ⟨z, k3, k4⟩ := k2.get e3
            refine ⟨⟨ys, ws, y, z, h1, k1, h3, k3⟩, fun x H' hy => ?_⟩
            obtain ⟨T, p, q, rfl, hT, rfl, hy, hz⟩ := hy
            have g1 := (hy _ h1).symm.trans h3
            have g2 := (hz _ k1).symm.trans k3
            cases g1
            cases g2
            exact ⟨r ++ [T], pre_one, hr.new hT rfl fun H' e => ⟨_, e, .cons h4 (.cons k4 .nil)⟩, R.newest hr.len⟩
theorem SRel.mono {s : Src} {J : It} (p : r <+: r') (h : SRel K r s J) : SRel K r' s J := by
  cases s with
  | lst n => obtain ⟨a, e, h⟩ := h; exact ⟨a, pre_get p e, h⟩
  | tup n => obtain ⟨a, e, h⟩ := h; exact ⟨a, pre_get p e, h⟩
  | rng lo c k => exact h
  | enm n => obtain ⟨a, e, h⟩ := h; exact ⟨a, pre_get p e, h⟩
  | zip n m => obtain ⟨a, b, e, e2, h⟩ := h; exact ⟨a, b, pre_get p e, pre_get p e2, h⟩
end
abbrev tMI (K : PySem.W.Frag) (W : WX) (m : Env → IH → Res Src) : TI := tG (SRel K) K W m
def mi_lst (m : Env → IH → Res IV) (env : Env) (ih : IH) : Res Src := (m env ih).bind fun v ih1 => match v with
  | .ref n => match lAt ih1 n true with
    | some _ => .ok (.lst n) ih1
    | none => .stuck
  | _ => .stuck
def mi_tup (m : Env → IH → Res IV) (env : Env) (ih : IH) : Res Src := (m env ih).bind fun v ih1 => match v with
  | .ref n => match lAt ih1 n false with
    | some _ => .ok (.tup n) ih1
    | none => .stuck
  | _ => .stuck
def mi_enm (m : Env → IH → Res (List IV)) (env : Env) (ih : IH) : Res Src := (m env ih).bind fun vs ih1 => match vs with
  | [.ref n] => match lAt ih1 n true with
    | some _ => .ok (.enm n) ih1
    | none => .stuck
  | _ => .stuck
def mi_zip (m : Env → IH → Res (List IV)) (env : Env) (ih : IH) : Res Src := (m env ih).bind fun vs ih1 => match vs with
  | [.ref n, .ref k] => match lAt ih1 n true, lAt ih1 k true with
    | some _, some _ => .ok (.zip n k) ih1
    | _, _ => .stuck
  | _ => .stuck
def smallI (i : Int) : Bool := decide (-(2 ^ 62) ≤ i) && decide (i < 2 ^ 62)
def mi_rng1 (m : Env → IH → Res (List IV)) (env : Env) (ih : IH) : Res Src := (m env ih).bind fun vs ih1 => match vs with
  | [.int j] => if smallI j = true then .ok (.rng 0 1 j.toNat) ih1 else .stuck
  | _ => .stuck
def mi_rng2 (m : Env → IH → Res (List IV)) (env : Env) (ih : IH) : Res Src := (m env ih).bind fun vs ih1 => match vs with
  | [.int i, .int j] => if smallI i = true ∧ smallI j = true then .ok (.rng i 1 (j - i).toNat) ih1 else .stuck
  | _ => .stuck
theorem smallI_of {i : Int} (h : smallI i = true) : -(2 ^ 62) ≤ i ∧ i < 2 ^ 62 := by
  unfold smallI at h
  rw [Bool.and_eq_true] at h
  exact ⟨of_decide_eq_true h.1, of_decide_eq_true h.2⟩
section
variable {X : Cx} {W : WX} {tg e e2 : Expr} {m : Env → IH → Res IV} {ml : Env → IH → Res (List IV)} {p pos tpos : Pos} {elts : List Expr} {kk : Nat}
theorem PI.of {t t' : TI} (h : PI X tg e t) (w : ∀ σ H Q, t' σ H Q → t σ H Q) : PI X tg e t' := ⟨fun pins s σ H Q I q => h.run pins s σ H Q I (w σ H Q q)⟩
theorem li_lst (h : PE X e (tM X.K W m)) : PI X tg e (tMI X.K W (mi_lst m)) := PI.of (pi_list h) fun σ H Q ⟨r, ih, env, hr, he, q⟩ => tG.imp (tG_bind hr he q) fun u H1 ⟨r1, ih1, v, p, hr1, hv, q1⟩ => by
  dsimp only at q1
  split at q1
  · rename_i n _
    obtain ⟨a, ea, rfl⟩ := hv.ref
    split at q1
    · rename_i xs e1
      obtain ⟨ys, h1, _⟩ := lAt_l hr1 ea e1
      exact ⟨a, rfl, ⟨ys, h1⟩, tG_end q1 hr1 ⟨a, ea, rfl⟩⟩
    · exact q1.elim
  · exact q1.elim
theorem li_tup (h : PE X e (tM X.K W m)) : PI X tg e (tMI X.K W (mi_tup m)) := PI.of (pi_tup h) fun σ H Q ⟨r, ih, env, hr, he, q⟩ => tG.imp (tG_bind hr he q) fun u H1 ⟨r1, ih1, v, p, hr1, hv, q1⟩ => by
  dsimp only at q1
  split at q1
  · rename_i n _
    obtain ⟨a, ea, rfl⟩ := hv.ref
    split at q1
    · rename_i xs e1
      obtain ⟨ys, h1, _⟩ := lAt_t hr1 ea e1
      exact ⟨a, rfl, ⟨ys, h1⟩, tG_end q1 hr1 ⟨a, ea, rfl⟩⟩
    · exact q1.elim
  · exact q1.elim
theorem li_enm (hg : Gl X "enumerate") (hm : X.mg "enumerate" = none) (ha : PA X [e] (tMA X.K W ml)) (hs : starEach [e] X.env = [(false, eval e X.env)] := by rfl) : PI X (.Tuple elts kk tpos) (.Call (.Name "enumerate" p) [e] [] pos) (tMI X.K W (mi_enm ml)) :=
  PI.of (pi_enum hg hm ha hs) fun σ H Q ⟨r, ih, env, hr, he, q⟩ => tG.imp (tG_bind hr he q) fun u H1 ⟨r1, ih1, v, p, hr1, hv, q1⟩ => by
    dsimp only at q1
    split at q1
    · rename_i n _
      obtain ⟨w, rfl, hw⟩ := hv.one
      obtain ⟨a, ea, rfl⟩ := hw.ref
      split at q1
      · rename_i xs e1
        obtain ⟨ys, h1, _⟩ := lAt_l hr1 ea e1
        exact ⟨a, ys, rfl, h1, tG_end q1 hr1 ⟨a, ea, rfl⟩⟩
      · exact q1.elim
    · exact q1.elim
theorem li_zip (hg : Gl X "zip") (hm : X.mg "zip" = none) (ha : PA X [e, e2] (tMA X.K W ml)) (hs : starEach [e, e2] X.env = (false, eval e X.env) :: starEach [e2] X.env := by rfl) (hpl : (backTo pos (starEach [e2] X.env)).any (·.1) = false := by rfl) :
    PI X (.Tuple elts kk tpos) (.Call (.Name "zip" p) [e, e2] [] pos) (tMI X.K W (mi_zip ml)) :=
  PI.of (pi_zip hg hm ha hs hpl) fun σ H Q ⟨r, ih, env, hr, he, q⟩ => tG.imp (tG_bind hr he q) fun u H1 ⟨r1, ih1, v, p, hr1, hv, q1⟩ => by
    dsimp only at q1
    split at q1
    · rename_i n k _
      obtain ⟨w, w2, rfl, hw, hw2⟩ := hv.two
      obtain ⟨a, ea, rfl⟩ := hw.ref
      obtain ⟨b, eb, rfl⟩ := hw2.ref
      split at q1
      · rename_i xs zs e1 e2
        obtain ⟨ys, h1, _⟩ := lAt_l hr1 ea e1
        obtain ⟨ws, h2, _⟩ := lAt_l hr1 eb e2
        exact ⟨a, b, ys, ws, rfl, h1, h2, tG_end q1 hr1 ⟨a, b, ea, eb, rfl⟩⟩
      · exact q1.elim
    · exact q1.elim
theorem li_rng1 (hg : Gl X "range") (hm : X.mg "range" = none) (ha : PA X [e] (tMA X.K W ml)) (hs : starEach [e] X.env = [(false, eval e X.env)] := by rfl) : PI X tg (.Call (.Name "range" p) [e] [] pos) (tMI X.K W (mi_rng1 ml)) :=
  PI.of (pi_range1 hg hm ha hs) fun σ H Q ⟨r, ih, env, hr, he, q⟩ => tG.imp (tG_bind hr he q) fun u H1 ⟨r1, ih1, v, p, hr1, hv, q1⟩ => by
    dsimp only at q1
    split at q1
    · obtain ⟨w, rfl, hw⟩ := hv.one
      obtain rfl : w = .int _ := hw
      split at q1
      · rename_i hj
        obtain ⟨h1, h2⟩ := smallI_of hj
        refine ⟨_, rfl, h1, h2, tG_end q1 hr1 ⟨rfl, ?_, rfl⟩⟩
        funext i H x H'
        rw [Int.mul_one]
        rfl
      · exact q1.elim
    · exact q1.elim
theorem li_rng2 (hg : Gl X "range") (hm : X.mg "range" = none) (ha : PA X [e, e2] (tMA X.K W ml)) (hs : starEach [e, e2] X.env = [(false, eval e X.env), (false, eval e2 X.env)] := by rfl) (hs2 : starEach [e2] X.env = [(false, eval e2 X.env)] := by rfl) :
    PI X tg (.Call (.Name "range" p) [e, e2] [] pos) (tMI X.K W (mi_rng2 ml)) :=
  PI.of (pi_range2 hg hm ha hs hs2) fun σ H Q ⟨r, ih, env, hr, he, q⟩ => tG.imp (tG_bind hr he q) fun u H1 ⟨r1, ih1, v, p, hr1, hv, q1⟩ => by
    dsimp only at q1
    split at q1
    · obtain ⟨w, w2, rfl, hw, hw2⟩ := hv.two
      obtain rfl : w = .int _ := hw
      obtain rfl : w2 = .int _ := hw2
      split at q1
      · rename_i hj
        obtain ⟨h1, h2⟩ := smallI_of hj.1
        obtain ⟨h3, h4⟩ := smallI_of hj.2
        refine ⟨_, _, rfl, ⟨h1, h2, h3, h4⟩, tG_end q1 hr1 ⟨rfl, ?_, rfl⟩⟩
        funext i H x H'
        rw [Int.mul_one]
        rfl
      · exact q1.elim
    · exact q1.elim
end

/-! ### for, while -/
/-- behind a loop's body: the next turn, or the end -/
def RS.loop (r : RS) (k : Env → IH → RS) : RS := match r with
  | .ok (.next env) ih => k env ih
  | .ok (.cont env) ih => k env ih
  | .ok (.brk env) ih => .ok (.next env) ih
  | .ok (.ret v) ih => .ok (.ret v) ih
  | .exc c env ih => .exc c env ih
  | .stuck => .stuck
@[simp] theorem RS.loop_next (env : Env) (ih : IH) (k : Env → IH → RS) : (RS.ok (.next env) ih).loop k = k env ih := rfl
@[simp] theorem RS.loop_cont (env : Env) (ih : IH) (k : Env → IH → RS) : (RS.ok (.cont env) ih).loop k = k env ih := rfl
@[simp] theorem RS.loop_brk (env : Env) (ih : IH) (k : Env → IH → RS) : (RS.ok (.brk env) ih).loop k = .ok (.next env) ih := rfl
@[simp] theorem RS.loop_ret (v : IV) (ih : IH) (k : Env → IH → RS) : (RS.ok (.ret v) ih).loop k = .ok (.ret v) ih := rfl
@[simp] theorem RS.loop_exc (c : Addr) (env : Env) (ih : IH) (k : Env → IH → RS) : (RS.exc c env ih).loop k = .exc c env ih := rfl
@[simp] theorem RS.loop_stuck (k : Env → IH → RS) : RS.stuck.loop k = .stuck := rfl
def forGo (s : Src) (g : IV → Env → IH → Option Env) (mb : Env → IH → RS) : Nat → Nat → Env → IH → RS
  | 0, _, _, _ => .stuck
  | f + 1, i, env, ih => match s.turn i ih with
    | .stuck => .stuck
    | .stop => .ok (.next env) ih
    | .item v ih1 => match g v env ih1 with
      | some env1 => (mb env1 ih1).loop fun env2 ih2 => forGo s g mb f (i + 1) env2 ih2
      | none => .stuck
def ms_for (mi : Env → IH → Res Src) (g : IV → Env → IH → Option Env) (mb : Env → IH → RS) (env : Env) (ih : IH) : RS := (mi env ih).stm env fun s ih1 => forGo s g mb (s.size ih1 + 1) 0 env ih1
def whileGo (n : Env → IH → Res Bool) (mb : Env → IH → RS) : Nat → Env → IH → RS
  | 0, _, _ => .stuck
  | f + 1, env, ih => (n env ih).stm env fun b ih1 => if b = true then (mb env ih1).loop fun env2 ih2 => whileGo n mb f env2 ih2 else .ok (.next env) ih1
def ms_while (fuel : Nat) (n : Env → IH → Res Bool) (mb : Env → IH → RS) (env : Env) (ih : IH) : RS := whileGo n mb fuel env ih
section
variable {X : Cx} {K : PySem.W.Frag} {W : WX} {r : List Addr} {D : Ends}
/-- a body's end within a loop -/
theorem loop_body {res : RS} {k : Env → IH → RS} {N : St → Hp → Prop} (h : PStm K W r (res.loop k) D) (hN : ∀ r1 ih env σ H, r <+: r1 → Rel K r1 ih H → REnv r1 env σ → PStm K W r1 (k env ih) D → N σ H) : PStm K W r res { D with nx := N, ct := N, bk := D.nx } := by
  cases res with
  | ok f ih =>
    cases f with
    | next env => exact fun r' H' σ' p hr he => hN r' ih env σ' H' p hr he (PStm.mono p h)
    | cont env => exact fun r' H' σ' p hr he => hN r' ih env σ' H' p hr he (PStm.mono p h)
    | brk env => exact h
    | ret v => exact h
  | exc c env ih => exact h
  | stuck => exact h
theorem ls_for {iter tg : Expr} {body : List Stmt} {ks : List Nat} {g : TG} {f : IV → Env → IH → Option Env} {mi : Env → IH → Res Src} {mb : Env → IH → RS} {pos : Pos} (hp : PassesOwn (model X.prog X.w) X.A X.env X.xe) (hc : X.calm = true) (hi : PI X tg iter (tMI X.K W mi)) (hg : PG X tg g) (sg : SndG X.K ks g f)
    (hb : PSs X body (tMS X.K W mb)) (hs : ∀ x, foldedSetIterable iter X.env x = pure x := by intro _; rfl) : PS X (.For tg iter body [] pos) (tMS X.K W (ms_for mi f mb)) :=
  PS.of (ps_for hp hc hi hg hb hs) fun D σ H ⟨r, ih, env, hr, he, q⟩ => tG.imp (tG_stm hr he q) fun J H1 ⟨r1, ih1, s, p, hr1, hj, q1⟩ => by
    dsimp only at q1
    refine ⟨fun i m σ H => ∃ r2 ih2 env2, r1 <+: r2 ∧ Rel X.K r2 ih2 H ∧ REnv r2 env2 σ ∧ PStm X.K W r2 (forGo s f mb m i env2 ih2) D, ⟨_, r1, ih1, env, pre_refl r1, hr1, he.mono p, q1⟩, fun i m σ2 H2 ⟨r2, ih2, env2, p2, hr2, he2, q2⟩ => ?_⟩
    cases m with
    | zero => exact q2.elim
    | succ m =>
      unfold forGo at q2
      have t := turn_ok (i := i) (hj.mono p2) hr2
      split at q2
      · exact q2.elim
      · rename_i e
        rw [e] at t
        exact .inl ⟨t, st_end q2 hr2 he2⟩
      · rename_i v ih3 e
        rw [e] at t
        refine .inr ⟨t.1, fun σ3 H3 => ∃ r3 ih3 env3, r1 <+: r3 ∧ Rel X.K r3 ih3 H3 ∧ REnv r3 env3 σ3 ∧ PStm X.K W r3 (forGo s f mb m (i + 1) env3 ih3) D, fun σ3 H3 h => ⟨m, Nat.lt_succ_self m, h⟩, fun x H3 hy => ?_⟩
        obtain ⟨r3, p3, hr3, hv⟩ := t.2 x H3 hy
        cases eg : f v env2 ih3 with
        | none =>
          rw [eg] at q2
          exact q2.elim
        | some env3 =>
          rw [eg] at q2
          refine sg r3 ih3 H3 v x env2 σ2 _ hr3 hv (he2.mono p3) ⟨env3, eg, fun σ3 he3 _ _ => ?_⟩
          exact ⟨r3, ih3, env3, hr3, he3, loop_body (PStm.mono p3 q2) fun r4 ih4 env4 σ4 H4 p4 hr4 he4 q4 => ⟨r4, ih4, env4, pre_trans (pre_trans p2 p3) p4, hr4, he4, q4⟩⟩
theorem ls_while {c : Expr} {body : List Stmt} {n : Env → IH → Res Bool} {mb : Env → IH → RS} {pos : Pos} (fuel : Nat) (hp : PassesOwn (model X.prog X.w) X.A X.env X.xe) (hc : PT X c (tMT X.K W n)) (hb : PSs X body (tMS X.K W mb)) : PS X (.While c body [] pos) (tMS X.K W (ms_while fuel n mb)) :=
  PS.of (ps_while hp hc hb) fun D σ H ⟨r, ih, env, hr, he, q⟩ => by
    refine ⟨fun m σ H => ∃ r2 ih2 env2, Rel X.K r2 ih2 H ∧ REnv r2 env2 σ ∧ PStm X.K W r2 (whileGo n mb m env2 ih2) D, ⟨fuel, r, ih, env, hr, he, q⟩, fun m σ2 H2 ⟨r2, ih2, env2, hr2, he2, q2⟩ => ?_⟩
    cases m with
    | zero => exact q2.elim
    | succ m =>
      unfold whileGo at q2
      refine tG.imp (tG_stm hr2 he2 q2) fun u H3 ⟨r3, ih3, b, p3, hr3, hb3, q3⟩ => ?_
      obtain rfl : u = b := hb3
      cases u with
      | true =>
        rw [if_pos rfl] at q3
        show if true = true then _ else _
        rw [if_pos rfl]
        exact ⟨fun σ4 H4 => ∃ r4 ih4 env4, Rel X.K r4 ih4 H4 ∧ REnv r4 env4 σ4 ∧ PStm X.K W r4 (whileGo n mb m env4 ih4) D, fun σ4 H4 h => ⟨m, Nat.lt_succ_self m, h⟩,
          ⟨r3, ih3, env2, hr3, he2.mono p3, loop_body q3 fun r4 ih4 env4 σ4 H4 p4 hr4 he4 q4 => ⟨r4, ih4, env4, hr4, he4, q4⟩⟩⟩
      | false =>
        rw [if_neg Bool.false_ne_true] at q3
        show if false = true then _ else _
        rw [if_neg Bool.false_ne_true]
        exact st_end q3 hr3 (he2.mono p3)
end

/-! ### comprehensions -/
def lcGo (s : Src) (g : IV → Env → IH → Option Env) (n : Env → IH → Res Bool) (me : Env → IH → Res IV) (d : Nat) (env : Env) : Nat → Nat → IH → Res IV
  | 0, _, _ => .stuck
  | f + 1, i, ih => match s.turn i ih with
    | .stuck => .stuck
    | .stop => .ok (.ref d) ih
    | .item v ih1 => match g v env ih1 with
      | some env1 => match n env1 ih1 with
        | .ok true ih2 => match me env1 ih2 with
          | .ok y ih3 => match ih3[d]? with
            | some (.lst acc) => if acc.length < 100000 then lcGo s g n me d env f (i + 1) (ih3.set d (.lst (acc ++ [y]))) else .stuck
            | _ => .stuck
          | _ => .stuck
        | .ok false ih2 => lcGo s g n me d env f (i + 1) ih2
        | _ => .stuck
      | none => .stuck
def m_lc (vs : List Nat) (mi : Env → IH → Res Src) (g : IV → Env → IH → Option Env) (n : Env → IH → Res Bool) (me : Env → IH → Res IV) (env : Env) (ih : IH) : Res IV := (mi env ih).bind fun s ih1 => lcGo s g n me ih1.length (wipeI env vs) (s.size ih1 + 1) 0 (ih1 ++ [.lst []])
def n_yes (_ : Env) (ih : IH) : Res Bool := .ok true ih
abbrev W0 : WX := fun _ _ _ _ => False
theorem wipe_get {σ : St} : ∀ {vs : List Nat} {j : Nat}, j ∈ vs → j < σ.length → (wipe σ vs)[j]? = some none
  | v :: vs, j, h, hl => by
    unfold wipe
    by_cases e : v = j
    · rw [e, List.getElem?_set_self (by rw [wipe_length]; exact hl)]
    · rw [List.getElem?_set_ne e]
      exact wipe_get ((List.mem_cons.mp h).resolve_left fun z => e z.symm) hl
theorem wipe_agree {σ σ' : St} {vs ks : List Nat} (hk : ∀ k ∈ ks, k ∈ vs) (hl : σ'.length = (wipe σ vs).length) (h : ∀ j, j ∉ ks → σ'[j]? = (wipe σ vs)[j]?) : wipe σ' vs = wipe σ vs := by
  apply List.ext_getElem?
  intro j
  by_cases hj : j ∈ vs
  · by_cases hb : j < σ.length
    · rw [wipe_get hj hb, wipe_get hj (by rw [hl, wipe_length]; exact hb)]
    · rw [List.getElem?_eq_none (by rw [wipe_length, hl, wipe_length]; omega), List.getElem?_eq_none (by rw [wipe_length]; omega)]
  · rw [wipe_out hj, h j fun z => hj (hk j z)]
section
variable {X : Cx} {W : WX} {K : PySem.W.Frag}
theorem lc_weak {ks vs : List Nat} {g : TG} {f : IV → Env → IH → Option Env} {mi : Env → IH → Res Src} {n : Env → IH → Res Bool} {me : Env → IH → Res IV} {σ : St} {H : Hp} {Q : VK} (sg : SndG K ks g f) (hk : ∀ k ∈ ks, k ∈ vs) (h : tM K W (m_lc vs mi f n me) σ H Q) :
    tLc (tMI K W mi) g (tMT K W0 n) (tM K W0 me) vs σ H Q := by
  obtain ⟨r, ih, env, hr, he, q⟩ := h
  refine tG.imp (tG_bind hr he q) fun J H1 ⟨r1, ih1, s, p, hr1, hj, q1⟩ D hD => ?_
  dsimp only at q1
  have hr1' : Rel K (r1 ++ [D]) (ih1 ++ [.lst []]) (upd H1 D (.lst [])) := hr1.new hD rfl fun H' e => ⟨[], e, .nil⟩
  have hd : (r1 ++ [D])[ih1.length]? = some D := by
    obtain ⟨a, e, z⟩ := R.newest (p := D) hr1.len
    cases z
    exact e
  have hw := (he.mono (pre_trans p (pre_one (p := D)))).wipe vs
  refine ⟨fun i m H => ∃ r2 ih2, r1 ++ [D] <+: r2 ∧ Rel K r2 ih2 H ∧ PGen R K W σ r2 (lcGo s f n me ih1.length (wipeI env vs) m i ih2) Q, ⟨_, r1 ++ [D], _, pre_refl _, hr1', PGen.mono pre_one q1⟩, fun i m H2 ⟨r2, ih2, p2, hr2, q2⟩ => ?_⟩
  cases m with
  | zero => exact q2.elim
  | succ m =>
    unfold lcGo at q2
    have t := turn_ok (i := i) (hj.mono (pre_trans pre_one p2)) hr2
    split at q2
    · exact q2.elim
    · rename_i e
      rw [e] at t
      exact .inl ⟨t, tG_end q2 hr2 ⟨D, pre_get p2 hd, rfl⟩⟩
    · rename_i v ih3 e
      rw [e] at t
      refine .inr ⟨t.1, fun H3 => ∃ r3 ih3, r1 ++ [D] <+: r3 ∧ Rel K r3 ih3 H3 ∧ PGen R K W σ r3 (lcGo s f n me ih1.length (wipeI env vs) m (i + 1) ih3) Q, fun H3 h => ⟨m, Nat.lt_succ_self m, h⟩, fun x H3 hy => ?_⟩
      obtain ⟨r3, p3, hr3, hv⟩ := t.2 x H3 hy
      cases eg : f v (wipeI env vs) ih3 with
      | none =>
        rw [eg] at q2
        exact q2.elim
      | some env3 =>
        rw [eg] at q2
        refine sg r3 ih3 H3 v x (wipeI env vs) (wipe σ vs) _ hr3 hv (hw.mono (pre_trans p2 p3)) ⟨env3, eg, fun σ3 he3 l3 k3 => ⟨wipe_agree hk l3 k3, r3, ih3, env3, hr3, he3, ?_⟩⟩
        dsimp only at q2
        cases en : n env3 ih3 with
        | stuck => rw [en] at q2; exact q2.elim
        | exc c ih4 => rw [en] at q2; exact q2.elim
        | ok b ih4 =>
          rw [en] at q2
          intro r4 H4 b' p4 hr4 hb
          obtain rfl : b' = b := hb
          cases b' with
          | false => exact ⟨r4, ih4, pre_trans (pre_trans p2 p3) p4, hr4, PGen.mono (pre_trans p3 p4) q2⟩
          | true =>
            show if true = true then _ else _
            rw [if_pos rfl]
            refine ⟨r4, ih4, env3, hr4, he3.mono p4, ?_⟩
            dsimp only at q2
            cases em : me env3 ih4 with
            | stuck => rw [em] at q2; exact q2.elim
            | exc c ih5 => rw [em] at q2; exact q2.elim
            | ok y ih5 =>
              rw [em] at q2
              intro r5 H5 u p5 hr5 hu
              dsimp only at q2
              split at q2
              · rename_i acc ea
                split at q2
                · rename_i hl
                  have hD5 := pre_get (pre_trans (pre_trans (pre_trans p2 p3) p4) p5) hd
                  obtain ⟨ys, h1, h2⟩ := hr5.get _ D _ hD5 ea
                  exact ⟨ys, h1, by rw [← h2.length]; exact line5l hl, r5, _, pre_trans (pre_trans (pre_trans p2 p3) p4) p5, hr5.write hD5 ea (h2.append (.cons hu .nil)), PGen.mono (pre_trans (pre_trans p3 p4) p5) q2⟩
                · exact q2.elim
              · exact q2.elim
theorem lts_nil : PTs X [] (tMT X.K W n_yes) := ⟨fun pins s σ H Q I ⟨r, ih, env, hr, he, q⟩ => pts_nil.run pins s σ H Q I (tG_end q hr rfl)⟩
theorem lts_one {c : Expr} {n : Env → IH → Res Bool} (h : PT X c (tMT X.K W n)) : PTs X [c] (tMT X.K W n) := pts_one h
theorem lm_lc {elt tg iter : Expr} {ifs : List Expr} {scope : Scope} {own : List (Str × Nat)} {pos : Pos} {ks : List Nat} {g : TG} {f : IV → Env → IH → Option Env} {mi : Env → IH → Res Src} {n : Env → IH → Res Bool} {me : Env → IH → Res IV} (hc : X.calm = true) (hN : X.N.Nodup) (hi : PI X tg iter (tMI X.K W mi))
    (ok : BlkOk X.N X.env.scope scope own) (sg : SndG X.K ks g f) (hk : ∀ k ∈ ks, k ∈ own.map (·.2))
    (hg : ∀ (s : Shared) (H : Hp) (C : Addr) (cl : List (Str × Addr)) (fp : List Addr), PG (X.blk s H scope (compEnvC scope cl C X.env) fp) tg g) (ht : ∀ (s : Shared) (H : Hp) (C : Addr) (cl : List (Str × Addr)) (fp : List Addr), PTs (X.blk s H scope (compEnvC scope cl C X.env) fp) ifs (tMT X.K W0 n))
    (he : ∀ (s : Shared) (H : Hp) (C : Addr) (cl : List (Str × Addr)) (fp : List Addr), PE (X.blk s H scope (compEnvC scope cl C X.env) fp) elt (tM X.K W0 me)) (hs : ∀ x, foldedSetIterable iter X.env x = pure x := by intro _; rfl) :
    PE X (.ListComp elt [⟨tg, iter, ifs, 0⟩] scope pos) (tM X.K W (m_lc (own.map (·.2)) mi f n me)) := PE.of (pe_lc hc hN hi ok hg ht he hs) fun σ H Q h => lc_weak sg hk h
/-- name = [..] on one line, the name a local -/
theorem ls_lc {i : Nat} {y : Str} {py spos : Pos} {elt tg iter : Expr} {ifs : List Expr} {scope : Scope} {own : List (Str × Nat)} {pos : Pos} {ks : List Nat} {g : TG} {f : IV → Env → IH → Option Env} {mi : Env → IH → Res Src} {n : Env → IH → Res Bool} {me : Env → IH → Res IV} (hc : X.calm = true) (hN : X.N.Nodup) (hy : X.N[i]? = some y)
    (hyl : X.env.scope.names.lookup y = some .local) (hsw : swapsWith (.ListComp elt [⟨tg, iter, ifs, 0⟩] scope pos) (some (.Name y py)) spos.line X.env = pure true) (hi : PI X tg iter (tMI X.K W mi))
    (ok : BlkOk X.N X.env.scope scope own) (sg : SndG X.K ks g f) (hk : ∀ k ∈ ks, k ∈ own.map (·.2))
    (hg : ∀ (s : Shared) (H : Hp) (C : Addr) (cl : List (Str × Addr)) (fp : List Addr), PG (X.blk s H scope (compEnvC scope cl C X.env) fp) tg g) (ht : ∀ (s : Shared) (H : Hp) (C : Addr) (cl : List (Str × Addr)) (fp : List Addr), PTs (X.blk s H scope (compEnvC scope cl C X.env) fp) ifs (tMT X.K W0 n))
    (he : ∀ (s : Shared) (H : Hp) (C : Addr) (cl : List (Str × Addr)) (fp : List Addr), PE (X.blk s H scope (compEnvC scope cl C X.env) fp) elt (tM X.K W0 me)) (hs : ∀ x, foldedSetIterable iter X.env x = pure x := by intro _; rfl) :
    PS X (.Assign [.Name y py] (.ListComp elt [⟨tg, iter, ifs, 0⟩] scope pos) spos) (tMS X.K W (ms_set (g_nm i) (m_lc (own.map (·.2)) mi f n me))) := PS.of (ps_setLc hc hN hy hyl hsw hi ok hg ht he hs) fun D σ H h => lc_weak sg hk (set_core (sg_nm i) h)
end
end L3
/-! L3g: defs, their calls, try, the law's end. -/
namespace L3
variable [TabT] [LamT]
open PySem PySem.Spec PyProof.Rows L2

/-- a def's promise: it does what its mirror m does -/
def spM (K : PySem.W.Frag) (n : Nat) (m : List IV → IH → Res IV) : Sp := fun vs H Q E => ∃ r ih args, args.length = n ∧ Rel K r ih H ∧ Rs r args vs ∧ PGen R K (fun cls d _ H => E cls d H) [] r (m args ih) Q
/-- a def of the text: x its name, dvs its defaults, n the number of its parameters -/
structure Df (P : Program) (w : World) (K : PySem.W.Frag) (mg : Str → Option Value) (base : Heap) (k : Nat) (x : Str) (n : Nat) (dvs : List IV) (m : List IV → IH → Res IV) : Prop where
  flat : ∀ d ∈ dvs, ∀ i, d ≠ .ref i
  ex : ∃ (f : Addr) (fd : FuncData) (ps : List Str), ps.length = n ∧ mg x = some (.ref f) ∧ PySem.W.keepIn K (.ref f) = true ∧ FnOk P w K mg base (L2.CX P w) k f fd ps (spM K n m) ∧ ∀ j, j ≤ dvs.length → ∃ ds, Vals ((dvs.drop j).map IV.toV) ds ∧ Binds K fd ps ds
/-- the call with the defaults behind the first j filled up -/
def f_call (n : Nat) (ds : List IV) (m : List IV → IH → Res IV) (xs : List IV) (ih : IH) : Res IV := if (xs ++ ds).length = n then m (xs ++ ds) ih else .stuck
section
variable {X : Cx} {W : WX} {k n j : Nat} {x : Str} {dvs : List IV} {m : List IV → IH → Res IV} {a : Expr} {es : List Expr} {p pos : Pos} {ma : Env → IH → Res (List IV)}
theorem run_fnD {CX : CXT} {f : Addr} {fd : FuncData} {ps : List Str} {sp : Sp} {pins : List (Addr × Obj)} {σ : L2.St} {H : Hp} {s : Shared} {Q : VK} {us : List Value} {vs dv : List V} {ds : List Value} {E : L2.St → XK} (F : FnOk X.prog X.w X.K X.mg X.base CX k f fd ps sp) (hr : Room k X.A) (hb : Binds X.K fd ps ds) (hd : Vals dv ds)
    (hx : PassesAt CX X σ (E σ)) (I : L2.Inv X pins σ H s) (r : Vals vs us) (h : sp (vs ++ dv) H Q (E σ)) : wpAny (model X.prog X.w) X.A (call (.ref f) us) (EP X pins σ Q) X.xe s := by
  have r2 : Vals (vs ++ dv) (us ++ ds) := r.append hd
  have hl : (us ++ ds).length = ps.length := by rw [← r2.length]; exact F.len _ _ _ _ h
  refine wpAny_call (codeAny_mono (F.run X.A X.stack s H ⟨us, []⟩ (us ++ ds) (vs ++ dv) Q (E σ) hr I.env0 (hb s us I.kIn hl) r2 h) fun r s' hq => ?_)
  cases r with
  | error e => exact hx pins H s e s' I hq
  | ok fl =>
    cases fl with
    | ret u => exact I.after hq
    | next => exact False.elim hq
    | brk => exact False.elim hq
    | cont => exact False.elim hq
theorem pe_callD {CX : CXT} {f : Addr} {fd : FuncData} {ps : List Str} {sp : Sp} {dv : List V} {ds : List Value} {E : L2.St → XK} {t : TA} (F : FnOk X.prog X.w X.K X.mg X.base CX k f fd ps sp) (hr : Room k X.A) (hg : Gl X x) (hm : X.mg x = some (.ref f)) (hk : PySem.W.keepIn X.K (.ref f) = true) (hb : Binds X.K fd ps ds) (hd : Vals dv ds) (hx : ∀ σ, PassesAt CX X σ (E σ))
    (ha : PA X (a :: es) t) (hdb : (x == ("__debug__" : Str)) = false := by decide) (he : starEach (a :: es) X.env = (false, eval a X.env) :: starEach es X.env := by rfl) (hpl : (backTo pos (starEach es X.env)).any (·.1) = false := by rfl) :
    PE X (.Call (.Name x p) (a :: es) [] pos) (fun σ H Q => t σ H fun vs H1 => sp (vs ++ dv) H1 Q (E σ)) := by
  refine ⟨fun pins s σ H Q I h => ?_⟩
  refine wpAny_Call_Name_kw (ld_glob I hg hm ?_ hdb)
  refine PySem.W.callWith_K (h₀ := X.base) I.ok.mod.kin hk (thn (ha.run pos pins s σ H _ I h) fun us s1 ⟨vs, H1, I1, r, q⟩ => ⟨I1.kIn, ?_⟩) he hpl
  exact run_fnD F hr hb hd (hx σ) I1 r q
theorem Rs.toV {r : List Addr} : ∀ {ds : List IV}, (∀ d ∈ ds, ∀ i, d ≠ .ref i) → Rs r ds (ds.map IV.toV)
  | [], _ => .nil
  | d :: ds, h => .cons (by
      have := h d List.mem_cons_self
      cases d with
      | ref i => exact absurd rfl (this i)
      | _ => rfl) (Rs.toV fun e he => h e (List.mem_cons_of_mem _ he))
theorem lm_call (D : Df X.prog X.w X.K X.mg X.base k x n dvs m) (j : Nat) (hj : j ≤ dvs.length) (hr : Room k X.A) (hg : Gl X x) (tk : Takes X W) (ha : PA X (a :: es) (tMA X.K W ma)) (hdb : (x == ("__debug__" : Str)) = false := by decide)
    (he : starEach (a :: es) X.env = (false, eval a X.env) :: starEach es X.env := by rfl) (hpl : (backTo pos (starEach es X.env)).any (·.1) = false := by rfl) : PE X (.Call (.Name x p) (a :: es) [] pos) (tM X.K W (m_app (f_call n (dvs.drop j) m) ma)) := by
  obtain ⟨f, fd, ps, hn, hm, hk, F, hB⟩ := D.ex
  obtain ⟨ds, hd, hb⟩ := hB j hj
  refine PE.of (pe_callD F hr hg hm hk hb hd (fun σ => passAt tk σ) ha hdb he hpl) fun σ H Q ⟨r, ih, env, hr, he, q⟩ => tG.imp (tG_bind hr he q) fun u H1 ⟨r1, ih1, v, p, hr1, hv, q1⟩ => ?_
  dsimp only at q1
  unfold f_call at q1
  split at q1
  · rename_i hl
    refine ⟨r1, ih1, v ++ dvs.drop j, hl, hr1, hv.append (Rs.toV fun d hd => D.flat d (List.mem_of_mem_drop hd)), ?_⟩
    cases e : m (v ++ dvs.drop j) ih1 with
    | ok y ih2 => rw [e] at q1; exact q1
    | exc c ih2 => rw [e] at q1; exact q1
    | stuck => rw [e] at q1; exact q1
  · exact q1.elim
end

/-- a def's run by its body's mirror -/
def startI (N : Nat) (args : List IV) : Env := args.map some ++ List.replicate (N - args.length) none
def RS.out (r : RS) : Res IV := match r with
  | .ok (.ret v) ih => .ok v ih
  | .ok (.next _) ih => .ok .non ih
  | .ok (.brk _) _ => .stuck
  | .ok (.cont _) _ => .stuck
  | .exc c _ ih => .exc c ih
  | .stuck => .stuck
@[simp] theorem RS.out_ret (v : IV) (ih : IH) : (RS.ok (.ret v) ih).out = .ok v ih := rfl
@[simp] theorem RS.out_next (v : Env) (ih : IH) : (RS.ok (.next v) ih).out = .ok .non ih := rfl
@[simp] theorem RS.out_exc (c : Addr) (v : Env) (ih : IH) : (RS.exc c v ih).out = .exc c ih := rfl
def defRun (N : Nat) (mb : Env → IH → RS) (args : List IV) (ih : IH) : Res IV := (mb (startI N args) ih).out
theorem start_rel {r : List Addr} {args : List IV} {vs : List V} {N : List Str} (h : Rs r args vs) : REnv r (startI N.length args) (L2.start N vs) := by
  unfold startI L2.start
  refine ⟨by rw [List.length_append, List.length_append, List.length_map, List.length_map, List.length_replicate, List.length_replicate, h.length], fun i v e => ?_⟩
  by_cases hi : i < args.length
  · rw [List.getElem?_append_left (by simpa using hi), List.getElem?_map] at e
    obtain ⟨w, e1, e2⟩ := Option.map_eq_some_iff.mp e
    cases e2
    obtain ⟨u, h1, h2⟩ := h.get e1
    exact ⟨u, by rw [List.getElem?_append_left (by rw [List.length_map, ← h.length]; exact hi), List.getElem?_map, h1]; rfl, h2⟩
  · rw [List.getElem?_append_right (by simpa using hi), List.getElem?_replicate] at e
    split at e <;> cases e
section
variable {P : Program} {w : World} {K : PySem.W.Frag} {mg : Str → Option Value} {base : Heap} {k : Nat} {x qual : Str} {st : Stmt} {dv : List V} {f : Addr} {fd : FuncData} {N ps : List Str} {mb : Env → IH → RS}
theorem df_fn (F : FunD K x qual (defArgs st) (defBody st) (defScope st) dv [] f fd) (S : FnScope N ps (defScope st))
    (hbody : ∀ (cdv : Value) (A : Around) (outer : List PySem.Env) (s : Shared) (H : Hp) (E : XK), Room k (A.deeper (envOfC qual (defScope st) s.heap.objs.size f cdv)) →
      PSs (cxOf (L2.CX P w) P w K mg base N qual (defScope st) f cdv A outer s H E) (defBody st) (tMS K (fun cls d _ H => E cls d H) mb)) :
    FnOk P w K mg base (L2.CX P w) (k + 1) f fd ps (spM K ps.length (defRun N.length mb)) := by
  refine F.ok S (fun vs H Q E ⟨r, ih, args, e, _, rs, _⟩ => rs.length ▸ e) fun cdv A outer s H vs Q E hr ⟨r, ih, args, e, hrel, rs, q⟩ => ⟨_, hbody cdv A outer s H E hr, r, ih, _, hrel, start_rel rs, ?_⟩
  unfold defRun at q
  cases z : mb (startI N.length args) ih with
  | ok fl ih2 =>
    rw [z] at q
    cases fl with
    | ret v => exact q
    | next env => exact fun r' H' σ' p hr' he' => q r' H' .non p hr' rfl
    | brk env => exact q.elim
    | cont env => exact q.elim
  | exc c env ih2 =>
    rw [z] at q
    exact fun r' H' σ' p hr' he' => q r' H' p hr'
  | stuck => rw [z] at q; exact q
/-- a def without defaults -/
theorem df_mk0 (F : FunD K x qual (defArgs st) (defBody st) (defScope st) [] [] f fd) (S : FnScope N ps (defScope st)) (hm : mg x = some (.ref f))
    (h : ∀ (kV doc pm : Value) (an : Option Addr) (cdv ct : Value) (us : List Value), us.length = ps.length → bindArgs (PySem.W.fnOf x qual (defArgs st) (defBody st) (defScope st) .none kV doc pm an cdv ct) ⟨us, []⟩ = pure (ps.zip us))
    (hbody : ∀ (cdv : Value) (A : Around) (outer : List PySem.Env) (s : Shared) (H : Hp) (E : XK), Room k (A.deeper (envOfC qual (defScope st) s.heap.objs.size f cdv)) →
      PSs (cxOf (L2.CX P w) P w K mg base N qual (defScope st) f cdv A outer s H E) (defBody st) (tMS K (fun cls d _ H => E cls d H) mb)) :
    Df P w K mg base (k + 1) x ps.length [] (defRun N.length mb) :=
  ⟨fun _ h => (nomatch h), f, fd, ps, rfl, hm, F.kp, df_fn F S hbody, fun j _ => ⟨[], by rw [List.drop_nil]; exact .nil, F.bindsN h⟩⟩
end

/-! ### try -/
/-- behind an except suite: its name goes -/
def RS.unset (r : RS) (i : Nat) : RS := match r with
  | .ok (.next env) ih => .ok (.next (env.set i none)) ih
  | .ok (.brk env) ih => .ok (.brk (env.set i none)) ih
  | .ok (.cont env) ih => .ok (.cont (env.set i none)) ih
  | .ok (.ret v) ih => .ok (.ret v) ih
  | .exc _ _ _ => .stuck
  | .stuck => .stuck
open Classical in
noncomputable def ms_try (i : Nat) (exm : Addr → Option Bool) (mb : Env → IH → RS) (ms : Addr → Addr → Env → IH → RS) (env : Env) (ih : IH) : RS := match mb env ih with
  | .exc c env1 ih1 => match exm c with
    | some true => if ∀ a, (ms a c (env1.set i (some (.gl a))) ih1).unset i = (ms 0 c (env1.set i (some (.gl 0))) ih1).unset i then (ms 0 c (env1.set i (some (.gl 0))) ih1).unset i else .stuck
    | some false => .exc c env1 ih1
    | none => .stuck
  | z => z
section
variable {X : Cx} {W : WX} {mb : Env → IH → RS} {ms : Addr → Addr → Env → IH → RS} {x n : Str} {c : Value} {i : Nat} {body suite : List Stmt} {b₀ : Stmt} {np pos pos' : Pos}
theorem ls_try (hs : X.stack = X.env :: X.outer) (hf : X.env.frame = some X.env.locals) (hN : X.N.Nodup) (hi : X.N[i]? = some n) (hln : X.env.kindOf n = some .local) (hc : Names X x c) (tk : Takes X W)
    (hb : ∀ (W : WX) (pn : List (Addr × Obj)) (xe : Value → Shared → Prop), Takes (X.tr pn xe) W → PassesOwn (model X.prog X.w) X.A X.env xe → PSs (X.tr pn xe) body (tMS X.K W mb))
    (hsu : ∀ (a cl : Addr) (oe : Obj) (pn : List (Addr × Obj)), Zc (.ref cl) none oe → (∃ vs, oe.data = .fields vs) → PSs (X.suite a ((a, oe) :: pn)) (b₀ :: suite) (tMS X.K W0 (ms a cl))) :
    PS X (.Try body [.ExceptHandler (some (.Name x np)) (some n) (b₀ :: suite) pos'] [] [] pos) (tMS X.K W (ms_try i (fun cl => PySem.W.exmOne X.K (.ref cl) c) mb ms)) := by
  refine PS.of (ps_try_as (tb := fun W => tMS X.K W mb) (ts := fun a cls d D σ H => ∃ cl, cls = .ref cl ∧ d = none ∧ tMS X.K W0 (ms a cl) D σ H) hs hf hN hi hln hc tk hb fun a oe cls d pn hz hd => ⟨fun pins s σ H D I ⟨cl, e1, e2, h⟩ => ?_⟩) fun D σ H ⟨r, ih, env, hr, he, q⟩ => ?_
  · subst e1
    subst e2
    exact (hsu a cl oe pn hz hd).run pins s σ H D I h
  · refine ⟨r, ih, env, hr, he, ?_⟩
    unfold ms_try at q
    cases e : mb env ih with
    | ok f ih1 =>
      rw [e] at q
      cases f with
      | next _ => exact q
      | brk _ => exact q
      | cont _ => exact q
      | ret _ => exact q
    | stuck => rw [e] at q; exact q
    | exc cl env1 ih1 =>
      rw [e] at q
      intro r1 H1 σ1 p1 hr1 he1
      dsimp only at q
      cases z : PySem.W.exmOne X.K (.ref cl) c with
      | none => rw [z] at q; exact q.elim
      | some b =>
        rw [z] at q
        refine ⟨b, z, fun hb1 a ha => ?_, fun hb0 => ?_⟩
        · subst hb1
          dsimp only at q
          split at q
          · rename_i hall
            rw [← hall a] at q
            refine ⟨cl, rfl, rfl, r1, ih1, env1.set i (some (.gl a)), hr1, he1.set (x := IV.gl a) (y := V.ref a) rfl i, ?_⟩
            cases z2 : ms a cl (env1.set i (some (.gl a))) ih1 with
            | ok f ih2 =>
              rw [z2] at q
              cases f with
              | next env2 => exact fun r2 H2 σ2 p2 hr2 he2 => q r2 H2 _ (pre_trans p1 p2) hr2 (he2.setN i)
              | brk env2 => exact fun r2 H2 σ2 p2 hr2 he2 => q r2 H2 _ (pre_trans p1 p2) hr2 (he2.setN i)
              | cont env2 => exact fun r2 H2 σ2 p2 hr2 he2 => q r2 H2 _ (pre_trans p1 p2) hr2 (he2.setN i)
              | ret v => exact fun r2 H2 u p2 hr2 hv => q r2 H2 u (pre_trans p1 p2) hr2 hv
            | exc c2 env2 ih2 => rw [z2] at q; exact q.elim
            | stuck => rw [z2] at q; exact q.elim
          · exact q.elim
        · subst hb0
          exact q r1 H1 σ1 p1 hr1 he1
end
/-- isinstance of the exception that the suite holds -/
def clsOf : IV → Option Value
  | .gl C => some (.ref C)
  | .ty T => some (.type T)
  | _ => none
open Classical in
noncomputable def f_isE (K : PySem.W.Frag) (a c : Addr) (xs : List IV) (ih : IH) : Res IV := match xs with
  | [.gl b, y] => if b = a ∧ ExcC K c then (match clsOf y with
    | some cv => match PySem.W.kitOne K (.ref c) cv with
      | some k => .ok (.bl k) ih
      | none => .stuck
    | none => .stuck) else .stuck
  | _ => .stuck
section
variable {X : Cx} {K : PySem.W.Frag} {W : WX} {a c : Addr} {oe : Obj} {pn : List (Addr × Obj)}
theorem call_isEA (hz : Zc (.ref c) none oe) (hf : ∃ vs, oe.data = .fields vs) : CallR (X.suite a ((a, oe) :: pn)) (.builtin "isinstance") (fun xs H Q => ExcC X.K c ∧ rIsE X.K c a xs H Q) :=
  fun pins s σ H xs us Q I r ⟨h1, h2⟩ => call_isE h1 hz hf pins s σ H xs us Q I r h2
theorem s_isE : SndC K W (fun xs H Q => ExcC K c ∧ rIsE K c a xs H Q) (f_isE K a c) := by
  intro r ih H xs us σ Q hr hx q
  unfold f_isE at q
  split at q
  · obtain ⟨u, v, rfl, h1, h2⟩ := hx.two
    split at q
    · rename_i hb
      split at q
      · rename_i cv e1
        split at q
        · rename_i k e2
          obtain rfl : u = .ref _ := h1
          refine ⟨hb.2, v, cv, k, by rw [hb.1], fun w hw => ?_, e2, tG_end q hr rfl⟩
          unfold clsOf at e1
          split at e1
          · cases e1
            obtain rfl : v = .ref _ := h2
            exact hw
          · cases e1
            obtain rfl : v = .ty _ := h2
            exact hw
          · cases e1
        · exact q.elim
      · exact q.elim
    · exact q.elim
  · exact q.elim
end

end L3
/-! L3h: the text's facts; defs, once more. -/
namespace L3
variable [TabT] [LamT]
open PySem PySem.Spec PyProof.Rows L2

/-- the program's own classes by their addresses -/
structure Cs where
  K : PySem.W.Frag
  KernelError : Addr
  NoWidth : Addr
  NoLooks : Addr
  NoCycle : Addr
  NoRate : Addr
  NoReading : Addr
  NoLine : Addr
  NoProcessor : Addr
  NoTick : Addr
  NoLevels : Addr
  NoClock : Addr
  NoSlew : Addr
  Stopped : Addr
  NotStopped : Addr
  NoSlack : Addr
  NoPeriod : Addr
  NoFragile : Addr
  NoTimer : Addr
  NoWindow : Addr
  NoSpan : Addr
  NoProcess : Addr
  NoThread : Addr
  NoQuantum : Addr
  NoKernel : Addr
  NoCall : Addr
  TooMany : Addr
  NoRow : Addr
def IV.flat : IV → Bool
  | .ref _ => false
  | _ => true
/-- an own error class of the text -/
structure ExcX (K : PySem.W.Frag) (mg : Str → Option Value) (x : Str) (C : Addr) : Prop where
  g : mg x = some (.ref C)
  q : PySem.W.excIn K C [.type "ValueError", .type "Exception", .type "BaseException", .type "object"] "ValueError.__new__" = true
  k : PySem.W.keepIn K (.ref C) = true
  b : PySem.W.subIn K (.ref C) (.type "BaseException") = some true
  t : PySem.W.typeIn K (.ref C) = some (.type "type")
theorem lg_glob {X : Cx} {x : Str} {v : V} {pos : Pos} (h : ∃ u, X.mg x = some u ∧ RelV v u) (hg : Gl X x) (hd : (x == ("__debug__" : Str)) = false := by decide) : PE X (.Name x pos) (tC v) := by
  obtain ⟨u, h1, h2⟩ := h
  exact pe_glob hg h1 h2 hd
def f_addI := f_I0 fun i j => .int (i + j)
theorem s_addI {K : PySem.W.Frag} {W : WX} : Snd2 K W (rI0 fun i j => .int (i + j)) f_addI := snd_I0 fun _ _ _ => rfl
theorem iop_mulX {X : Cx} : OpR X (inplaceOp .Mult) (rI CMulX fun i j => .int (i * j)) := opI fun _ _ _ _ _ _ _ hc q => imul_int q hc.ok
/-- a chain of two comparisons -/
def m_chain (f g : IV → IV → IH → Res IV) (ma mb mc : Env → IH → Res IV) (env : Env) (ih : IH) : Res IV := (ma env ih).bind fun x ih1 => (mb env ih1).bind fun y ih2 => (f x y ih2).bind fun z ih3 => match z with
  | .bl k => if k = true then (mc env ih3).bind fun u ih4 => g y u ih4 else .ok (.bl false) ih3
  | _ => .stuck
section
variable {P : Program} {w : World} {K : PySem.W.Frag} {mg : Str → Option Value} {base : Heap} {k : Nat} {x qual : Str} {st : Stmt} {dv : List V} {f : Addr} {fd : FuncData} {N ps : List Str} {mb : Env → IH → RS}
/-- what a body may use: its context is a def's -/
abbrev BodyOk (P : Program) (w : World) (K : PySem.W.Frag) (mg : Str → Option Value) (base : Heap) (k : Nat) (N : List Str) (qual : Str) (st : Stmt) (f : Addr) (mb : Env → IH → RS) : Prop :=
  ∀ (cdv : Value) (A : Around) (outer : List PySem.Env) (s : Shared) (H : Hp) (E : XK), Room k (cxOf (L2.CX P w) P w K mg base N qual (defScope st) f cdv A outer s H E).A →
    Takes (cxOf (L2.CX P w) P w K mg base N qual (defScope st) f cdv A outer s H E) (fun cls d _ H => E cls d H) →
    PassesOwn (model P w) (cxOf (L2.CX P w) P w K mg base N qual (defScope st) f cdv A outer s H E).A (cxOf (L2.CX P w) P w K mg base N qual (defScope st) f cdv A outer s H E).env (cxOf (L2.CX P w) P w K mg base N qual (defScope st) f cdv A outer s H E).xe →
    (cxOf (L2.CX P w) P w K mg base N qual (defScope st) f cdv A outer s H E).A.units + 64 < cLine →
    PSs (cxOf (L2.CX P w) P w K mg base N qual (defScope st) f cdv A outer s H E) (defBody st) (tMS K (fun cls d _ H => E cls d H) mb)
theorem df_fn2 (F : FunD K x qual (defArgs st) (defBody st) (defScope st) dv [] f fd) (S : FnScope N ps (defScope st)) (hbody : BodyOk P w K mg base k N qual st f mb) : FnOk P w K mg base (L2.CX P w) (k + 1) f fd ps (spM K ps.length (defRun N.length mb)) :=
  df_fn F S fun cdv A outer s H E hr => hbody cdv A outer s H E hr (takes_of rfl rfl rfl rfl) (passes_of rfl) (by
    have h := hr.un
    show (A.deeper (envOfC qual (defScope st) s.heap.objs.size f cdv)).units + 64 < cLine
    omega)
theorem df0 (F : FunD K x qual (defArgs st) (defBody st) (defScope st) [] [] f fd) (S : FnScope N ps (defScope st)) (hm : mg x = some (.ref f))
    (h : ∀ (kV doc pm : Value) (an : Option Addr) (cdv ct : Value) (us : List Value), us.length = ps.length → bindArgs (PySem.W.fnOf x qual (defArgs st) (defBody st) (defScope st) .none kV doc pm an cdv ct) ⟨us, []⟩ = pure (ps.zip us))
    (hbody : BodyOk P w K mg base k N qual st f mb) : Df P w K mg base (k + 1) x ps.length [] (defRun N.length mb) :=
  ⟨fun _ h => (nomatch h), f, fd, ps, rfl, hm, F.kp, df_fn2 F S hbody, fun j _ => ⟨[], by rw [List.drop_nil]; exact .nil, F.bindsN h⟩⟩
theorem dfD {dvs : List IV} (F : FunD K x qual (defArgs st) (defBody st) (defScope st) dv [] f fd) (S : FnScope N ps (defScope st)) (hm : mg x = some (.ref f)) (hf : dvs.all IV.flat = true) (hd : dvs.map IV.toV = dv) (hn : dvs.length = dv.length)
    (hB : ∀ j, j ≤ dv.length → ∃ ds, Vals (dv.drop j) ds ∧ Binds K fd ps ds)
    (hbody : BodyOk P w K mg base k N qual st f mb) : Df P w K mg base (k + 1) x ps.length dvs (defRun N.length mb) :=
  ⟨fun d h i e => (by
    have z := List.all_eq_true.mp hf d h
    rw [e] at z
    cases z), f, fd, ps, rfl, hm, F.kp, df_fn2 F S hbody, fun j hj => by
    rw [List.map_drop, hd]
    exact hB j (by rw [← hn]; exact hj)⟩
/-- from the facts of the head -/
theorem fun0 {oc : Value} {od an : Option Addr} {osl : Array (Option Value)} {kV doc pm cdv ct : Value} (l : K.lookup f = some ⟨oc, od, .func (PySem.W.fnOf x qual (defArgs st) (defBody st) (defScope st) .none kV doc pm an cdv ct), osl⟩)
    (c : PySem.W.codeIn K cdv qual = true) (k : PySem.W.keepIn K (.ref f) = true) : FunD K x qual (defArgs st) (defBody st) (defScope st) [] [] f (PySem.W.fnOf x qual (defArgs st) (defBody st) (defScope st) .none kV doc pm an cdv ct) :=
  ⟨⟨oc, od, .none, kV, doc, pm, an, cdv, ct, osl, rfl, l, c, .inl ⟨rfl, rfl⟩, .inl rfl⟩, k⟩
theorem funD {oc : Value} {od an : Option Addr} {osl : Array (Option Value)} {kV doc pm cdv ct : Value} {T : Addr} {o : Obj} {its : List Value} {n : Nat} (l : K.lookup f = some ⟨oc, od, .func (PySem.W.fnOf x qual (defArgs st) (defBody st) (defScope st) (.ref T) kV doc pm an cdv ct), osl⟩)
    (c : PySem.W.codeIn K cdv qual = true) (k : PySem.W.keepIn K (.ref f) = true) (lT : K.lookup T = some o) (oT : o.data = .seq its.toArray n) (hv : Vals dv its) (hd : dv ≠ []) : FunD K x qual (defArgs st) (defBody st) (defScope st) dv [] f (PySem.W.fnOf x qual (defArgs st) (defBody st) (defScope st) (.ref T) kV doc pm an cdv ct) :=
  ⟨⟨oc, od, .ref T, kV, doc, pm, an, cdv, ct, osl, rfl, l, c, .inr ⟨hd, T, o, its, n, rfl, lT, oT, hv⟩, .inl rfl⟩, k⟩
end
end L3
/-! L3i: the law's promise, from its mirror. -/
namespace L3
variable [TabT] [LamT]
open PySem PySem.Spec PyProof.Rows L2

/-- the law's promise: True of every script -/
def spLaw (K : PySem.W.Frag) : Sp := fun vs H Q _ => ∃ (a : Addr) (ns : List Int), vs = [.ref a] ∧ ns.length ≤ 63 ∧ (∀ z ∈ ns, Builtin.Int.intBits z ≤ 1048576) ∧ Only H ∧ SqL K H a (ns.map V.int) ∧ ∀ H', Q (.bl true) H'
theorem law_imp {K : PySem.W.Frag} {m : List IV → IH → Res IV} (hT : TabT.T = []) (hr0 : LamT.r0 = [] ∧ LamT.cs = []) (h : ∀ ns : List Int, ns.length ≤ 63 → (∀ z ∈ ns, Builtin.Int.intBits z ≤ 1048576) → ∃ ih, m [.ref 0] [.ro (ns.map IV.int)] = .ok (.bl true) ih) :
    ∀ vs H Q E, spLaw K vs H Q E → spM K 1 m vs H Q E := fun vs H Q E ⟨a, ns, e, h1, h2, hO, hS, q⟩ => by
  subst e
  obtain ⟨ih, h⟩ := h ns h1 h2
  refine ⟨[a], [.ro (ns.map IV.int)], [.ref 0], rfl, ⟨rfl, fun n b o e1 e2 => ?_, fun n k b o u e1 e2 e3 e4 s1 s2 => ?_, (by rw [hT]; exact fun p hp => nomatch hp), (by rw [hr0.1]; exact List.nil_prefix), (by rw [hr0.2]; exact fun p hp => nomatch hp)⟩, .cons ⟨a, rfl, rfl⟩ .nil, ?_⟩
  · cases n with
    | succ n => cases e1
    | zero =>
      cases e1
      cases e2
      refine ⟨ns.map V.int, ?_, Rs.flats_mk (f := IV.int) (g := V.int) (fun _ => rfl) ns⟩
      rcases hS with (z | ⟨o, z⟩) | z
      · rcases hO a with y | ⟨o, xs, y⟩
        · rw [y] at z; cases z
        · rw [y] at z; cases z
      · exact .inl ⟨o, z⟩
      · exact .inr (.inr z)
  · cases n with
    | succ n => cases e1
    | zero =>
      cases e3
      cases s1
  · rw [h]
    exact fun r' H' u p hr hv => by
      obtain rfl : u = .bl true := hv
      exact q H'
theorem cx_none {P : Program} {w : World} {H : Hp} {s : Shared} {e : Value} {s' : Shared} (h : L2.CX P w [] H s (fun _ _ _ => False) e s') : False := by
  obtain ⟨_, _, _, _, _, _, _, _, _, _, _, _, z⟩ := h
  exact z
end L3
/-! L3j: chains of two comparisons. -/
namespace L3
variable [TabT] [LamT]
open PySem L2
def mi_rng3 (m : Env → IH → Res (List IV)) (env : Env) (ih : IH) : Res Src := (m env ih).bind fun vs ih1 => match vs with
  | [.int i, .int j, .int k] => if k = -1 ∧ smallI i = true ∧ smallI j = true then .ok (.rng i (-1) (i - j).toNat) ih1 else .stuck
  | _ => .stuck
section
variable {X : Cx} {W : WX} {a b c : Expr} {ma mb mc : Env → IH → Res IV} {pos : Pos}
theorem chain_core {rr rr' : R2} {f g : IV → IV → IH → Res IV} (hf : Snd2 X.K W rr f) (hg : Snd2 X.K W rr' g) {σ : St} {H : Hp} {Q : VK} (h : tM X.K W (m_chain f g ma mb mc) σ H Q) : tChain rr rr' (tM X.K W ma) (tM X.K W mb) (tM X.K W mc) σ H Q := by
  obtain ⟨r, ih, env, hr, he, q⟩ := h
  refine tG.imp (tG_bind hr he q) fun u H1 ⟨r1, ih1, v, p, hr1, hv, q1⟩ => tG.imp (tG_bind hr1 (he.mono p) q1) fun w H2 ⟨r2, ih2, y, p2, hr2, hy, q2⟩ => hf r2 ih2 H2 v y u w σ _ hr2 (hv.mono p2) hy ?_
  dsimp only at q2
  cases e : f v y ih2 with
  | ok z ih3 =>
    rw [e] at q2
    intro r3 H3 z' p3 hr3 hz
    cases z with
    | bl k =>
      obtain rfl : z' = .bl k := hz
      refine ⟨k, rfl, ?_⟩
      cases k with
      | true =>
        rw [if_pos rfl]
        have q3 : PGen R X.K W σ r2 ((mc env ih3).bind fun u ih4 => g y u ih4) Q := q2
        exact tG.imp (tG_bind hr3 (he.mono (pre_trans p (pre_trans p2 p3))) (PGen.mono p3 q3)) fun u4 H4 ⟨r4, ih4, v4, p4, hr4, hv4, q4⟩ => hg _ _ _ _ _ _ _ _ _ hr4 (hy.mono (pre_trans p3 p4)) hv4 q4
      | false =>
        rw [if_neg (by decide)]
        have q3 : PGen R X.K W σ r2 (.ok (.bl false) ih3) Q := q2
        exact q3 r3 H3 _ p3 hr3 rfl
    | _ => exact (q2 : False).elim
  | exc c ih3 =>
    rw [e] at q2
    exact q2
  | stuck =>
    rw [e] at q2
    exact q2
theorem lm_chain {op op' : CmpOp} {rr rr' : R2} {f g : IV → IV → IH → Res IV} (ho : OpR X (compareOp op) rr) (hf : Snd2 X.K W rr f) (ho' : OpR X (compareOp op') rr') (hg : Snd2 X.K W rr' g) (ha : PE X a (tM X.K W ma)) (hb : PE X b (tM X.K W mb)) (hc : PE X c (tM X.K W mc))
    (hm : lastMarks [op, op'] [b, c] = false := by with_unfolding_all rfl) : PE X (.Compare a [op, op'] [b, c] pos) (tM X.K W (m_chain f g ma mb mc)) := PE.of (pe_chain ho ho' ha hb hc hm) fun σ H Q h => chain_core hf hg h
theorem lt_chain {op op' : CmpOp} {rr rr' : R2} {f g : IV → IV → IH → Res IV} (ho : OpR X (compareOp op) rr) (hf : Snd2 X.K W rr f) (ho' : OpR X (compareOp op') rr') (hg : Snd2 X.K W rr' g) (ha : PE X a (tM X.K W ma)) (hb : PE X b (tM X.K W mb)) (hc : PE X c (tM X.K W mc))
    (hm : lastMarks [op, op'] [b, c] = false := by with_unfolding_all rfl) : PT X (.Compare a [op, op'] [b, c] pos) (tMT X.K W (m_tb (m_chain f g ma mb mc))) := PT.of (pt_chain ho ho' ha hb hc hm) fun σ H Q h => chain_core hf hg (tb_core h)
theorem li_rng3 {tg a b d : Expr} {ml : Env → IH → Res (List IV)} {p pos : Pos} (hg : Gl X "range") (hm : X.mg "range" = none) (ha : PA X [a, b, d] (tMA X.K W ml))
    (hs : starEach [a, b, d] X.env = (false, eval a X.env) :: starEach [b, d] X.env := by rfl) (hpl : (backTo pos (starEach [b, d] X.env)).any (·.1) = false := by rfl) : PI X tg (.Call (.Name "range" p) [a, b, d] [] pos) (tMI X.K W (mi_rng3 ml)) :=
  PI.of (pi_range3 hg hm ha hs hpl) fun σ H Q ⟨r, ih, env, hr, he, q⟩ => tG.imp (tG_bind hr he q) fun u H1 ⟨r1, ih1, v, p, hr1, hv, q1⟩ => by
    dsimp only at q1
    split at q1
    · rename_i i j k
      cases hv with
      | cons v1 t1 =>
        cases t1 with
        | cons v2 t2 =>
          cases t2 with
          | cons v3 t3 =>
            cases t3
            obtain rfl := (show _ = V.int i from v1)
            obtain rfl := (show _ = V.int j from v2)
            obtain rfl := (show _ = V.int k from v3)
            split at q1
            · rename_i hj
              obtain ⟨rfl, hi, hj⟩ := hj
              obtain ⟨h1, h2⟩ := smallI_of hi
              obtain ⟨h3, h4⟩ := smallI_of hj
              exact ⟨i, j, -1, _, rfl, RgC.neg h1 h2 h3 h4, tG_end q1 hr1 ⟨rfl, rfl, rfl⟩⟩
            · exact q1.elim
    · exact q1.elim
end
end L3
/-! L3k: sorted. -/
namespace L3
variable [TabT] [LamT]
open PySem L2
/-- y put in behind all that it is not before -/
def insB {α : Type} (lt : α → α → Bool) (y : α) : List α → List α
  | [] => [y]
  | x :: l => if lt y x = true then y :: x :: l else x :: insB lt y l
def isB {α : Type} (lt : α → α → Bool) : List α → List α → List α
  | acc, [] => acc
  | acc, y :: r => isB lt (insB lt y acc) r
section
variable {α : Type} {lt : α → α → Bool}
theorem insB_split (O : SrtO.Swo lt) (y : α) : ∀ {l : List α}, SrtO.Srtd lt l → ∃ M N, l = M ++ N ∧ insB lt y l = M ++ y :: N ∧ (∀ x ∈ M, lt y x = false) ∧ ∀ x ∈ N, lt y x = true
  | [], _ => ⟨[], [], rfl, rfl, (fun _ h => nomatch h), fun _ h => nomatch h⟩
  | x :: l, h => by
    unfold insB
    split
    · rename_i hx
      exact ⟨[], x :: l, rfl, rfl, (fun _ h => nomatch h), O.lt_all h hx⟩
    · rename_i hx
      obtain ⟨M, N, e1, e2, h1, h2⟩ := insB_split O y (List.pairwise_cons.mp h).2
      refine ⟨x :: M, N, by rw [e1]; rfl, by rw [e2]; rfl, fun z hz => ?_, h2⟩
      rcases List.mem_cons.mp hz with e | e
      · rw [e]
        cases hh : lt y x with
        | true => exact absurd hh hx
        | false => rfl
      · exact h1 z e
theorem isB_spec (O : SrtO.Swo lt) : ∀ (r acc pre : List α), SrtO.Srtd lt acc → SrtO.Stb lt acc pre → SrtO.Srtd lt (isB lt acc r) ∧ SrtO.Stb lt (isB lt acc r) (pre ++ r)
  | [], acc, pre, h, s => ⟨h, by rw [List.append_nil]; exact s⟩
  | y :: r, acc, pre, h, s => by
    obtain ⟨M, N, e1, e2, h1, h2⟩ := insB_split O y h
    subst e1
    have k := isB_spec O r (insB lt y (M ++ N)) (pre ++ [y]) (by rw [e2]; exact SrtO.ins_srtd O h h1 h2) (by rw [e2]; exact SrtO.ins_stb O h2 s)
    rw [List.append_assoc] at k
    exact k
theorem isB_all (O : SrtO.Swo lt) (l : List α) : SrtO.Srtd lt (isB lt [] l) ∧ SrtO.Stb lt (isB lt [] l) l := isB_spec O l [] [] List.Pairwise.nil (SrtO.Stb.refl [])
end
theorem Stb.symm {α : Type} {lt : α → α → Bool} {l m : List α} (h : SrtO.Stb lt l m) : SrtO.Stb lt m l := ⟨h.perm.symm, fun x => (h.cls x).symm⟩
/-- the same steps on both sides -/
theorem ins_par {α β : Type} {T : α → β → Prop} {l1 : α → α → Bool} {l2 : β → β → Bool} (hT : ∀ x y u w, T x u → T y w → l1 x y = l2 u w) {y : α} {w : β} (hy : T y w) : ∀ {xs : List α} {us : List β}, Paired T xs us → Paired T (insB l1 y xs) (insB l2 w us)
  | _, _, .nil => .cons hy .nil
  | _, _, .cons (a := x) (b := u) q t => by
    unfold insB
    rw [hT y x w u hy q]
    split
    · exact .cons hy (.cons q t)
    · exact .cons q (ins_par hT hy t)
theorem is_par {α β : Type} {T : α → β → Prop} {l1 : α → α → Bool} {l2 : β → β → Bool} (hT : ∀ x y u w, T x u → T y w → l1 x y = l2 u w) : ∀ {xs : List α} {us : List β} {as : List α} {bs : List β}, Paired T as bs → Paired T xs us → Paired T (isB l1 as xs) (isB l2 bs us)
  | _, _, _, _, h, .nil => h
  | _, _, _, _, h, .cons q t => by
    unfold isB
    exact is_par hT (ins_par hT q h) t
/-! ### ints -/
def isI (ns : List Int) : List Int := isB (fun a b : Int => decide (a < b)) [] ns
theorem swoI : SrtO.Swo (fun a b : Int => decide (a < b)) := ⟨fun x y h => by
    simp only [decide_eq_true_eq, decide_eq_false_iff_not] at *
    omega, fun x y z h1 h2 => by
    simp only [decide_eq_true_eq, decide_eq_false_iff_not] at *
    omega⟩
theorem isI_perm (ns : List Int) : (isI ns).Perm ns := (isB_all swoI ns).2.perm
theorem isI_le (ns : List Int) : (isI ns).Pairwise (· ≤ ·) := ((isB_all swoI ns).1).imp fun h => by
  simp only [decide_eq_false_iff_not] at h
  omega
def f_sorted : List IV → IH → Res IV := f_ints fun ns ih => .ok (.ref ih.length) (ih ++ [.lst ((isI ns).map IV.int)])
theorem Rs.ints (r : List Addr) : ∀ ns : List Int, Rs r (ns.map IV.int) (ns.map V.int)
  | [] => .nil
  | _ :: l => .cons rfl (Rs.ints r l)
section
variable {K : PySem.W.Frag} {W : WX}
theorem s_sorted : SndC K W (rSortedI K) f_sorted := fun r ih H xs us σ Q hr hx q => by
  obtain ⟨a, ns, e, h, q2⟩ := ints_got hr hx q
  refine ⟨a, ns, e, h, fun ns' p hp hle hn => ?_⟩
  have e2 : ns' = isI ns := List.Perm.eq_of_pairwise (le := (· ≤ ·)) (fun a b _ _ h1 h2 => Int.le_antisymm h1 h2) hle (isI_le ns) (hp.trans (isI_perm ns).symm)
  rw [e2]
  exact end_lst q2 hr (Rs.ints r _) hn
end
/-! ### pairs of ints -/
def kI (ih : IH) : IV → Int × Int
  | .ref n => match ih[n]? with
    | some (.tup [.int i, .int j]) => (i, j)
    | _ => (0, 0)
  | _ => (0, 0)
def isPr (ih : IH) : IV → Bool
  | .ref n => match ih[n]? with
    | some (.tup [.int i, .int j]) => true
    | _ => false
  | _ => false
def ltI (ih : IH) (x y : IV) : Bool := SrtO.lexB (kI ih x) (kI ih y)
def f_sortP (xs : List IV) (ih : IH) : Res IV := match xs with
  | [.ref n] => match ih[n]? with
    | some o => if o.isL = true ∧ o.xs.all (isPr ih) = true then .ok (.ref ih.length) (ih ++ [.lst (isB (ltI ih) [] o.xs)]) else .stuck
    | none => .stuck
  | _ => .stuck
def kV (H : Hp) : V → Int × Int
  | .ref a => match H a with
    | some (.tup [.int i, .int j]) => (i, j)
    | _ => (0, 0)
  | _ => (0, 0)
theorem isPr_of {ih : IH} {x : IV} (h : isPr ih x = true) : ∃ n i j, x = .ref n ∧ ih[n]? = some (.tup [.int i, .int j]) := by
  unfold isPr at h
  split at h
  · rename_i n
    split at h
    · rename_i i j e
      exact ⟨n, i, j, rfl, e⟩
    · cases h
  · cases h
section
variable {K : PySem.W.Frag} {W : WX}
theorem pr_rel {r : List Addr} {ih : IH} {H : Hp} (hr : Rel K r ih H) {x : IV} {u : V} (h : R r x u) (hp : isPr ih x = true) : kI ih x = kV H u ∧ ∃ t, u = V.ref t ∧ H t = some (.tup [.int (kV H u).1, .int (kV H u).2]) := by
  obtain ⟨n, i, j, rfl, e⟩ := isPr_of hp
  obtain ⟨a, ea, rfl⟩ := h
  obtain ⟨ys, h1, h2⟩ := hr.get n a _ ea e
  have h3 : ys = [V.int i, V.int j] := by
    cases h2 with
    | cons q1 t =>
      cases t with
      | cons q2 t =>
        cases t
        cases q1
        cases q2
        rfl
  subst h3
  have e1 : kI ih (.ref n) = (i, j) := by
    unfold kI
    dsimp only
    rw [e]
  have e2 : kV H (.ref a) = (i, j) := by
    unfold kV
    dsimp only
    rw [h1]
  rw [e1, e2]
  exact ⟨rfl, a, rfl, h1⟩
theorem s_sortP : SndC K W (rSortedPO K) f_sortP := fun r ih H xs us σ Q hr hx q => by
  unfold f_sortP at q
  split at q
  · rename_i n
    cases hx with
    | cons h1 h2 =>
      cases h2
      obtain ⟨a, ea, rfl⟩ := h1.ref
      split at q
      · rename_i o e1
        split at q
        · rename_i hl
          obtain ⟨ys, h3, h4⟩ := (hr.get n a _ ea e1).l hl.1
          have hall := List.all_eq_true.mp hl.2
          have par : ∀ {zs : List IV} {ws : List V}, (∀ z ∈ zs, isPr ih z = true) → Rs r zs ws → Paired (fun x u => R r x u ∧ isPr ih x = true) zs ws := by
            intro zs ws hz h
            induction h with
            | nil => exact .nil
            | cons q t ihh => exact .cons ⟨q, hz _ List.mem_cons_self⟩ (ihh fun z h => hz z (List.mem_cons_of_mem _ h))
          have P4 := par hall h4
          have mem : ∀ {zs : List IV} {ws : List V}, Paired (fun x u => R r x u ∧ isPr ih x = true) zs ws → ∀ u ∈ ws, ∃ x, R r x u ∧ isPr ih x = true := by
            intro zs ws h
            induction h with
            | nil => intro u h; cases h
            | cons q t ihh =>
              intro u h
              rcases List.mem_cons.mp h with e | e
              · rw [e]; exact ⟨_, q⟩
              · exact ihh u e
          refine ⟨a, ys, kV H, rfl, h3, fun u hu => ?_, fun zs p s1 s2 hn => ?_⟩
          · obtain ⟨x, q1, q2⟩ := mem P4 u hu
            exact (pr_rel hr q1 q2).2
          · obtain ⟨k1, k2⟩ := isB_all (ltP_swo (kV H)) ys
            have e2 : zs = isB (ltP (kV H)) [] ys := SrtO.stb_uniq (ltP_swo (kV H)) s1 k1 (s2.trans (Stb.symm k2))
            rw [e2]
            have P5 := is_par (l1 := ltI ih) (l2 := ltP (kV H)) (fun x y u w h1 h2 => by
              show SrtO.lexB (kI ih x) (kI ih y) = SrtO.lexB (kV H u) (kV H w)
              rw [(pr_rel hr h1.1 h1.2).1, (pr_rel hr h2.1 h2.2).1]) .nil P4
            exact end_lst q hr (Paired.mapP P5 fun _ _ h => h.1) hn
        · exact q.elim
      · exact q.elim
  · exact q.elim
end
end L3
/-! L3l: list(range(a, b)), xs[::-1], x & 1, lists compared. -/
namespace L3
variable [TabT] [LamT]
open PySem L2
theorem Rs.reverse {r : List Addr} : ∀ {xs : List IV} {ys : List V}, Rs r xs ys → Rs r xs.reverse ys.reverse
  | _, _, .nil => .nil
  | _, _, .cons q t => by
    rw [List.reverse_cons, List.reverse_cons]
    exact Rs.append (Rs.reverse t) (.cons q .nil)
def f_rev (x : IV) (ih : IH) : Res IV := match x with
  | .ref n => match ih[n]? with
    | some o => if o.isL = true then .ok (.ref ih.length) (ih ++ [.lst o.xs.reverse]) else .stuck
    | none => .stuck
  | _ => .stuck
def rgI (a b : Int) : List IV := (List.range (b - a).toNat).map fun i : Nat => IV.int (a + (i : Int))
instance (a b : Int) : Decidable (RgOk a b) := by unfold RgOk; infer_instance
def f_lrg (xs : List IV) (ih : IH) : Res IV := match xs with
  | [.int i, .int j] => if RgOk i j then .ok (.ref ih.length) (ih ++ [.lst (rgI i j)]) else .stuck
  | _ => .stuck
def f_odd (x y : IV) (ih : IH) : Res IV := match x, y with
  | .int i, .int j => if 0 ≤ i ∧ j = 1 then .ok (.int (i % 2)) ih else .stuck
  | _, _ => .stuck
open Classical in
noncomputable def f_gtD (x y : IV) (ih : IH) : Res IV :=
  if h : ∃ p : PyData × PyData, Is ih x p.1 ∧ Is ih y p.2 ∧ PySem.W.alike p.1 p.2 = true ∧ p.1 ≠ .none ∧ p.1.depth ≤ 64 then .ok (.bl (PySem.W.dataLt h.choose.2 h.choose.1)) ih else .stuck
theorem f_gtD_of {x y : IV} {ih : IH} {d e : PyData} (h1 : Is ih x d) (h2 : Is ih y e) (s1 : PySem.W.alike d e = true) (s2 : d ≠ .none) (s3 : d.depth ≤ 64) : f_gtD x y ih = .ok (.bl (PySem.W.dataLt e d)) ih := by
  unfold f_gtD
  have h : ∃ p : PyData × PyData, Is ih x p.1 ∧ Is ih y p.2 ∧ PySem.W.alike p.1 p.2 = true ∧ p.1 ≠ .none ∧ p.1.depth ≤ 64 := ⟨(d, e), h1, h2, s1, s2, s3⟩
  rw [dif_pos h]
  have k := h.choose_spec
  rw [Is.uniq _ _ _ k.1 h1, Is.uniq _ _ _ k.2.1 h2]
def rGtD (K : PySem.W.Frag) : R2 := fun x y H Q => ∃ d e, Dp K H x d ∧ Dp K H y e ∧ PySem.W.alike d e = true ∧ d ≠ .none ∧ d.depth ≤ 64 ∧ Q (.bl (PySem.W.dataLt e d)) H
section
variable {X : Cx} {W : WX} {a b : Expr} {ma mb : Env → IH → Res IV} {pos : Pos}
theorem op_gtD (hu : X.A.units + 64 < cLine) : OpR X (compareOp .Gt) (rGtD X.K) := by
  intro pins s σ H x y v u Q I rx ry h
  obtain ⟨d, e, hd, he, sd, se, sz, q⟩ := h
  obtain ⟨as, r1⟩ := Dp.reads I d x v hd rx
  obtain ⟨bs, r2⟩ := Dp.reads I e y u he ry
  exact PySem.W.gt_data r1 r2 sd se (by have := Nat.min_le_left d.depth e.depth; omega) ⟨.bl _, H, I, rfl, q⟩
theorem s_gtD {K : PySem.W.Frag} {W : WX} : Snd2 K W (rGtD K) f_gtD := by
  intro r ih H x y u w σ Q hr hx hy q
  unfold f_gtD at q
  split at q
  · rename_i h
    have k := h.choose_spec
    exact ⟨_, _, Is.dp hr _ _ _ k.1 hx, Is.dp hr _ _ _ k.2.1 hy, k.2.2.1, k.2.2.2.1, k.2.2.2.2, tG_end q hr rfl⟩
  · exact q.elim
theorem s_odd {K : PySem.W.Frag} {W : WX} : Snd2 K W (fun x y H Q => ∃ n : Nat, x = .int (n : Int) ∧ y = .int 1 ∧ Q (.int ((n % 2 : Nat) : Int)) H) f_odd := by
  intro r ih H x y u w σ Q hr hx hy q
  unfold f_odd at q
  split at q
  · rename_i i j
    split at q
    · rename_i hh
      obtain ⟨n, rfl⟩ := Int.eq_ofNat_of_zero_le hh.1
      obtain rfl := hh.2
      cases hx
      cases hy
      refine ⟨n, rfl, rfl, ?_⟩
      exact tG_end q hr (by show V.int _ = V.int _; rw [Int.natCast_emod]; rfl)
    · exact q.elim
  · exact q.elim
theorem lm_rev {k : Nat} {p1 p2 p3 : Pos} (ha : PE X a (tM X.K W ma)) : PE X (.Subscript a (.Slice none none (some (.UnaryOp .USub (.Constant (.int 1) k p1) p2)) p3) pos) (tM X.K W (m_un f_rev ma)) :=
  PE.of (pe_revL ha) fun σ H Q ⟨r, ih, env, hr, he, q⟩ => tG.imp (tG_bind hr he q) fun u H1 ⟨r1, ih1, v, p, hr1, hv, q1⟩ => by
    replace q1 : PGen R X.K W σ r1 (f_rev v ih1) Q := q1
    unfold f_rev at q1
    split at q1
    · rename_i n
      obtain ⟨c, ec, rfl⟩ := hv.ref
      split at q1
      · rename_i o e1
        split at q1
        · rename_i hl
          obtain ⟨ys, h3, h4⟩ := (hr1.get n c _ ec e1).l hl
          exact ⟨c, ys, rfl, h3, fun l hp => end_lst q1 hr1 h4.reverse hp⟩
        · exact q1.elim
      · exact q1.elim
    · exact q1.elim
theorem app2 {f : List IV → IH → Res IV} {env : Env} {ih : IH} : m_app f (m_cons ma (m_cons mb m_nil)) env ih = (ma env ih).bind fun x ih1 => (mb env ih1).bind fun y ih2 => f [x, y] ih2 := by
  unfold m_app m_cons m_nil
  cases ma env ih with
  | ok x ih1 =>
    dsimp only [Res.bind]
    cases mb env ih1 <;> rfl
  | exc c ih1 => rfl
  | stuck => rfl
theorem Rs.rg (r : List Addr) (i j : Int) : Rs r (rgI i j) (rgV i j) := by
  unfold rgI rgV
  generalize List.range (j - i).toNat = l
  induction l with
  | nil => exact .nil
  | cons k l ihl => exact .cons rfl ihl
theorem lm_lrg {p q qos : Pos} (hc : X.calm = true) (h1 : Gl X "list") (h2 : X.mg "list" = none) (h3 : Gl X "range") (h4 : X.mg "range" = none) (ha : PE X a (tM X.K W ma)) (hb : PE X b (tM X.K W mb))
    (na : starEach [a, b] X.env = (false, eval a X.env) :: starEach [b] X.env := by rfl) (nb : starEach [b] X.env = (false, eval b X.env) :: starEach [] X.env := by rfl) (hp : (backTo qos (starEach [b] X.env)).any (·.1) = false := by rfl)
    (nc : starEach [.Call (.Name "range" q) [a, b] [] qos] X.env = (false, eval (.Call (.Name "range" q) [a, b] [] qos) X.env) :: starEach [] X.env := by rfl) :
    PE X (.Call (.Name "list" p) [.Call (.Name "range" q) [a, b] [] qos] [] pos) (tM X.K W (m_app f_lrg (m_cons ma (m_cons mb m_nil)))) :=
  PE.of (pe_listRg hc h1 h2 (prg_2 h3 h4 ha hb na nb hp) nc) fun σ H Q ⟨r, ih, env, hr, he, q⟩ => by
    rw [app2] at q
    exact tG.imp (tG_bind hr he q) fun u H1 ⟨r1, ih1, v, p, hr1, hv, q1⟩ => tG.imp (tG_bind hr1 (he.mono p) q1) fun w H2 ⟨r2, ih2, y, p2, hr2, hy, q2⟩ => by
      have hv2 := hv.mono p2
      replace q2 : PGen R X.K W σ r2 (f_lrg [v, y] ih2) Q := q2
      unfold f_lrg at q2
      split at q2
      · rename_i i j e
        cases e
        split at q2
        · rename_i ok
          cases hv2
          cases hy
          exact ⟨i, j, rfl, rfl, ok, fun l hp => end_lst q2 hr2 (Rs.rg _ i j) hp⟩
        · exact q2.elim
      · exact q2.elim
end
end L3
/-! L3n: chains of three comparisons, in, {}. -/
namespace L3
variable [TabT] [LamT]
open PySem L2 PyProof.Rows
theorem room65 {k : Nat} {A : Around} (h : Room k A) : A.units + 65 < cLine := by
  have := h.un
  omega
/-! ### {} -/
def m_dct (_ : Env) (ih : IH) : Res IV := .ok (.ref ih.length) (ih ++ [.dct])
theorem lm_dct {X : Cx} {W : WX} {pos : Pos} : PE X (.Dict [] [] pos) (tM X.K W m_dct) := PE.of pe_dnewK fun σ H Q ⟨r, ih, env, hr, he, q⟩ p hp =>
  q (r ++ [p]) _ _ pre_one (hr.new hp rfl fun H' e => ⟨_, e⟩) (R.newest hr.len)
/-! ### in -/
open Classical in
noncomputable def f_inn (neg : Bool) (x y : IV) (ih : IH) : Res IV :=
  if h : ∃ p : PyData × List PyData, Is ih x p.1 ∧ Is ih y (.list p.2) ∧ SeqAt.shaped p.1 = true ∧ SeqAt.shaped (.list p.2) = true then .ok (.bl (if neg = true then !(h.choose.2.any fun z => PyData.eqv z h.choose.1) else h.choose.2.any fun z => PyData.eqv z h.choose.1)) ih else .stuck
noncomputable def f_in := f_inn false
noncomputable def f_nin := f_inn true
theorem f_inn_of {neg : Bool} {x y : IV} {ih : IH} {d : PyData} {ds : List PyData} (h1 : Is ih x d) (h2 : Is ih y (.list ds)) (s1 : SeqAt.shaped d = true) (s2 : SeqAt.shaped (.list ds) = true) : f_inn neg x y ih = .ok (.bl (if neg = true then !(ds.any fun z => PyData.eqv z d) else ds.any fun z => PyData.eqv z d)) ih := by
  unfold f_inn
  have h : ∃ p : PyData × List PyData, Is ih x p.1 ∧ Is ih y (.list p.2) ∧ SeqAt.shaped p.1 = true ∧ SeqAt.shaped (.list p.2) = true := ⟨(d, ds), h1, h2, s1, s2⟩
  rw [dif_pos h]
  have k := h.choose_spec
  have e2 : h.choose.2 = ds := by
    have := Is.uniq _ _ _ k.2.1 h2
    cases this
    rfl
  rw [Is.uniq _ _ _ k.1 h1, e2]
theorem s_in {K : PySem.W.Frag} {W : WX} : Snd2 K W (rInD K) f_in := by
  intro r ih H x y u w σ Q hr hx hy q
  unfold f_in f_inn at q
  split at q
  · rename_i h
    have k := h.choose_spec
    exact ⟨_, _, Is.dp hr _ _ _ k.1 hx, Is.dp hr _ _ _ k.2.1 hy, k.2.2.1, k.2.2.2, tG_end q hr rfl⟩
  · exact q.elim
theorem s_nin {K : PySem.W.Frag} {W : WX} : Snd2 K W (rNotInD K) f_nin := by
  intro r ih H x y u w σ Q hr hx hy q
  unfold f_nin f_inn at q
  split at q
  · rename_i h
    have k := h.choose_spec
    exact ⟨_, _, Is.dp hr _ _ _ k.1 hx, Is.dp hr _ _ _ k.2.1 hy, k.2.2.1, k.2.2.2, tG_end q hr rfl⟩
  · exact q.elim
/-! ### a < b <= c < d -/
def m_chain3 (f g h : IV → IV → IH → Res IV) (ma mb mc md : Env → IH → Res IV) (env : Env) (ih : IH) : Res IV := (ma env ih).bind fun x ih1 => (mb env ih1).bind fun y ih2 => (f x y ih2).bind fun z ih3 => match z with
  | .bl k => if k = true then ((mc env ih3).bind fun u ih4 => (g y u ih4).bind fun z ih5 => match z with
    | .bl k => if k = true then (md env ih5).bind fun v ih6 => h u v ih6 else .ok (.bl false) ih5
    | _ => .stuck) else .ok (.bl false) ih3
  | _ => .stuck
def tChain3 (r r' r2 : R2) (ta tb tc td : TE) : TE := fun σ H Q => ta σ H fun x H1 => tb σ H1 fun y H2 => r x y H2 fun z H3 => ∃ k, z = .bl k ∧
  (if k = true then tc σ H3 fun u H4 => r' y u H4 fun z H5 => ∃ k, z = .bl k ∧ (if k = true then td σ H5 fun v H6 => r2 u v H6 Q else Q (.bl false) H5) else Q (.bl false) H3)
section
variable {X : Cx} {W : WX} {a b c d : Expr} {ta tb tc td : TE} {ma mb mc md : Env → IH → Res IV} {pos : Pos}
theorem pe_chain3 {o1 o2 o3 : CmpOp} {r1 r2 r3 : R2} (h1 : OpR X (compareOp o1) r1) (h2 : OpR X (compareOp o2) r2) (h3 : OpR X (compareOp o3) r3) (ha : PE X a ta) (hb : PE X b tb) (hc : PE X c tc) (hd : PE X d td)
    (hm : lastMarks [o1, o2, o3] [b, c, d] = false := by with_unfolding_all rfl) : PE X (.Compare a [o1, o2, o3] [b, c, d] pos) (tChain3 r1 r2 r3 ta tb tc td) := by
  refine ⟨fun pins s σ H Q I h => ?_⟩
  refine Compare_chain (thn (ha.run pins s σ H _ I h) fun v s1 ⟨x, H1, I1, q1, p1⟩ => chain_link (thn (hb.run pins s1 σ H1 _ I1 p1) fun u s2 ⟨y, H2, I2, q2, p2⟩ => thn (h1 pins s2 σ H2 x y v u _ I2 q1 q2 p2) fun e s3 ⟨z, H3, I3, q3, k, ez, p3⟩ => ?_)) hm
  subst ez
  cases q3
  refine wpAny_truthy_bool ?_
  cases k with
  | false => exact ite_ff ⟨.bl false, H3, I3, rfl, p3⟩
  | true =>
    refine ite_tt (chain_link (thn (hc.run pins s3 σ H3 _ I3 p3) fun w s4 ⟨y2, H4, I4, q4, p4⟩ => thn (h2 pins s4 σ H4 y y2 u w _ I4 q2 q4 p4) fun e s5 ⟨z, H5, I5, q5, k, ez, p5⟩ => ?_))
    subst ez
    cases q5
    refine wpAny_truthy_bool ?_
    cases k with
    | false => exact ite_ff ⟨.bl false, H5, I5, rfl, p5⟩
    | true => exact ite_tt (chain_last (thn (hd.run pins s5 σ H5 _ I5 p5) fun w2 s6 ⟨y3, H6, I6, q6, p6⟩ => h3 pins s6 σ H6 y2 y3 w w2 Q I6 q4 q6 p6))
theorem pt_chain3 {o1 o2 o3 : CmpOp} {r1 r2 r3 : R2} (h1 : OpR X (compareOp o1) r1) (h2 : OpR X (compareOp o2) r2) (h3 : OpR X (compareOp o3) r3) (ha : PE X a ta) (hb : PE X b tb) (hc : PE X c tc) (hd : PE X d td)
    (hm : lastMarks [o1, o2, o3] [b, c, d] = false := by with_unfolding_all rfl) : PT X (.Compare a [o1, o2, o3] [b, c, d] pos) (tTest (tChain3 r1 r2 r3 ta tb tc td)) := by
  refine ⟨fun pins s σ H Q I h => ?_⟩
  refine isTrue_chain (thn (ha.run pins s σ H _ I h) fun v s1 ⟨x, H1, I1, q1, p1⟩ => test_link (thn (hb.run pins s1 σ H1 _ I1 p1) fun u s2 ⟨y, H2, I2, q2, p2⟩ => thn (h1 pins s2 σ H2 x y v u _ I2 q1 q2 p2) fun e s3 ⟨z, H3, I3, q3, k, ez, p3⟩ => ?_)) hm
  subst ez
  cases q3
  refine wpAny_truthy_bool ?_
  cases k with
  | false =>
    obtain ⟨k', e', q'⟩ := p3
    cases e'
    exact ite_ff ⟨H3, I3, q'⟩
  | true =>
    refine ite_tt (test_link (thn (hc.run pins s3 σ H3 _ I3 p3) fun w s4 ⟨y2, H4, I4, q4, p4⟩ => thn (h2 pins s4 σ H4 y y2 u w _ I4 q2 q4 p4) fun e s5 ⟨z, H5, I5, q5, k, ez, p5⟩ => ?_))
    subst ez
    cases q5
    refine wpAny_truthy_bool ?_
    cases k with
    | false =>
      obtain ⟨k', e', q'⟩ := p5
      cases e'
      exact ite_ff ⟨H5, I5, q'⟩
    | true =>
      refine ite_tt (test_last (thn (hd.run pins s5 σ H5 _ I5 p5) fun w2 s6 ⟨y3, H6, I6, q6, p6⟩ => thn (h3 pins s6 σ H6 y2 y3 w w2 _ I6 q4 q6 p6) fun d' s7 ⟨z2, H7, I7, q7, k2, e2, p7⟩ => ?_))
      subst e2
      cases q7
      exact wpAny_truthy_bool ⟨H7, I7, p7⟩
theorem chain3_core {r1 r2 r3 : R2} {f g e : IV → IV → IH → Res IV} (hf : Snd2 X.K W r1 f) (hg : Snd2 X.K W r2 g) (he' : Snd2 X.K W r3 e) {σ : L2.St} {H : Hp} {Q : VK} (h : tM X.K W (m_chain3 f g e ma mb mc md) σ H Q) : tChain3 r1 r2 r3 (tM X.K W ma) (tM X.K W mb) (tM X.K W mc) (tM X.K W md) σ H Q := by
  obtain ⟨r, ih, env, hr, he, q⟩ := h
  refine tG.imp (tG_bind hr he q) fun u H1 ⟨r1, ih1, v, p, hr1, hv, q1⟩ => tG.imp (tG_bind hr1 (he.mono p) q1) fun w H2 ⟨r2, ih2, y, p2, hr2, hy, q2⟩ => hf r2 ih2 H2 v y u w σ _ hr2 (hv.mono p2) hy ?_
  dsimp only at q2
  cases e1 : f v y ih2 with
  | ok z ih3 =>
    rw [e1] at q2
    intro r3 H3 z' p3 hr3 hz
    cases z with
    | bl k =>
      obtain rfl : z' = .bl k := hz
      refine ⟨k, rfl, ?_⟩
      cases k with
      | true =>
        rw [if_pos rfl]
        have q3 : PGen R X.K W σ r2 ((mc env ih3).bind fun u ih4 => (g y u ih4).bind fun z ih5 => match z with
          | .bl k => if k = true then (md env ih5).bind fun v ih6 => e u v ih6 else .ok (.bl false) ih5
          | _ => .stuck) Q := q2
        have P3 := pre_trans p (pre_trans p2 p3)
        refine tG.imp (tG_bind hr3 (he.mono P3) (PGen.mono p3 q3)) fun u4 H4 ⟨r4, ih4, v4, p4, hr4, hv4, q4⟩ => hg r4 ih4 H4 y v4 w u4 σ _ hr4 (hy.mono (pre_trans p3 p4)) hv4 ?_
        dsimp only at q4
        cases e2 : g y v4 ih4 with
        | ok z ih5 =>
          rw [e2] at q4
          intro r5 H5 z' p5 hr5 hz
          cases z with
          | bl k =>
            obtain rfl : z' = .bl k := hz
            refine ⟨k, rfl, ?_⟩
            cases k with
            | true =>
              rw [if_pos rfl]
              have q5 : PGen R X.K W σ r4 ((md env ih5).bind fun v ih6 => e v4 v ih6) Q := q4
              exact tG.imp (tG_bind hr5 (he.mono (pre_trans P3 (pre_trans p4 p5))) (PGen.mono p5 q5)) fun u6 H6 ⟨r6, ih6, v6, p6, hr6, hv6, q6⟩ => he' _ _ _ _ _ _ _ _ _ hr6 (hv4.mono (pre_trans p5 p6)) hv6 q6
            | false =>
              rw [if_neg (by decide)]
              have q5 : PGen R X.K W σ r4 (.ok (.bl false) ih5) Q := q4
              exact q5 r5 H5 _ p5 hr5 rfl
          | _ => exact (q4 : False).elim
        | exc c ih5 =>
          rw [e2] at q4
          exact q4
        | stuck =>
          rw [e2] at q4
          exact q4
      | false =>
        rw [if_neg (by decide)]
        have q3 : PGen R X.K W σ r2 (.ok (.bl false) ih3) Q := q2
        exact q3 r3 H3 _ p3 hr3 rfl
    | _ => exact (q2 : False).elim
  | exc c ih3 =>
    rw [e1] at q2
    exact q2
  | stuck =>
    rw [e1] at q2
    exact q2
theorem lm_chain3 {o1 o2 o3 : CmpOp} {r1 r2 r3 : R2} {f g e : IV → IV → IH → Res IV} (h1 : OpR X (compareOp o1) r1) (hf : Snd2 X.K W r1 f) (h2 : OpR X (compareOp o2) r2) (hg : Snd2 X.K W r2 g) (h3 : OpR X (compareOp o3) r3) (he : Snd2 X.K W r3 e) (ha : PE X a (tM X.K W ma)) (hb : PE X b (tM X.K W mb)) (hc : PE X c (tM X.K W mc)) (hd : PE X d (tM X.K W md))
    (hm : lastMarks [o1, o2, o3] [b, c, d] = false := by with_unfolding_all rfl) : PE X (.Compare a [o1, o2, o3] [b, c, d] pos) (tM X.K W (m_chain3 f g e ma mb mc md)) := PE.of (pe_chain3 h1 h2 h3 ha hb hc hd hm) fun σ H Q h => chain3_core hf hg he h
theorem lt_chain3 {o1 o2 o3 : CmpOp} {r1 r2 r3 : R2} {f g e : IV → IV → IH → Res IV} (h1 : OpR X (compareOp o1) r1) (hf : Snd2 X.K W r1 f) (h2 : OpR X (compareOp o2) r2) (hg : Snd2 X.K W r2 g) (h3 : OpR X (compareOp o3) r3) (he : Snd2 X.K W r3 e) (ha : PE X a (tM X.K W ma)) (hb : PE X b (tM X.K W mb)) (hc : PE X c (tM X.K W mc)) (hd : PE X d (tM X.K W md))
    (hm : lastMarks [o1, o2, o3] [b, c, d] = false := by with_unfolding_all rfl) : PT X (.Compare a [o1, o2, o3] [b, c, d] pos) (tMT X.K W (m_tb (m_chain3 f g e ma mb mc md))) := PT.of (pt_chain3 h1 h2 h3 ha hb hc hd hm) fun σ H Q h => chain3_core hf hg he (tb_core h)
end
end L3
/-! L3x: a try with several clauses without names; min of a list of pairs. -/
namespace L3
variable [TabT] [LamT]
open PySem PySem.Spec PyProof.Rows L2
abbrev Hd1 := (Addr → Option Bool) × (Env → IH → RS)
def goH : List Hd1 → Addr → Env → IH → RS
  | [], c, env, ih => .exc c env ih
  | (exm, ms) :: r, c, env, ih => match exm c with
    | some true => (match ms env ih with
      | .exc _ _ _ => .stuck
      | z => z)
    | some false => goH r c env ih
    | none => .stuck
def ms_tries (hs : List Hd1) (mb : Env → IH → RS) (env : Env) (ih : IH) : RS := match mb env ih with
  | .exc c env1 ih1 => goH hs c env1 ih1
  | z => z
/-- the clauses, one by one -/
inductive LHs (X : Cx) : List ExceptHandler → List (Value × (Env → IH → RS)) → Prop
  | nil : LHs X [] []
  | cons {x : Str} {c : Value} {ms : Env → IH → RS} {b₀ : Stmt} {suite : List Stmt} {np pos' : Pos} {hds : List ExceptHandler} {l : List (Value × (Env → IH → RS))} (hc : Names X x c)
      (hsu : ∀ (a : Addr) (pn : List (Addr × Obj)), PSs (X.suite a pn) (b₀ :: suite) (tMS X.K W0 ms)) (r : LHs X hds l) : LHs X (.ExceptHandler (some (.Name x np)) none (b₀ :: suite) pos' :: hds) ((c, ms) :: l)
abbrev hd1 (K : PySem.W.Frag) (p : Value × (Env → IH → RS)) : Hd1 := (fun cl => PySem.W.exmOne K (.ref cl) p.1, p.2)
abbrev hdW (K : PySem.W.Frag) (p : Value × (Env → IH → RS)) : Value × (Addr → Value → Option Addr → TS) := (p.1, fun _ cls d D σ H => ∃ cl, cls = .ref cl ∧ d = none ∧ tMS K W0 p.2 D σ H)
section
variable {X : Cx} {W : WX} {mb : Env → IH → RS} {body : List Stmt} {h₀ : ExceptHandler} {hds : List ExceptHandler} {l : List (Value × (Env → IH → RS))} {pos : Pos}
theorem LHs.ok (h : LHs X hds l) : HdsOk X hds (l.map (hdW X.K)) := by
  induction h with
  | nil => exact .nil
  | cons hc hsu r ih =>
    refine .cons hc (fun a oe cls d pn hz hd => ⟨fun pins s σ H D I ⟨cl, e1, e2, h⟩ => ?_⟩) ih
    exact (hsu a ((a, oe) :: pn)).run pins s σ H D I h
theorem goH_ok {r : List Addr} {D : Ends} {cl : Addr} : ∀ {l : List (Value × (Env → IH → RS))} {env : Env} {ih : IH} {r1 : List Addr} {H : Hp} {σ : L2.St}, r <+: r1 → Rel X.K r1 ih H → REnv r1 env σ →
    PStm X.K W r (goH (l.map (hd1 X.K)) cl env ih) D → wMany X.K W D (l.map (hdW X.K)) (.ref cl) none σ H
  | [], env, ih, r1, H, σ, p, hr, he, q => q r1 H σ p hr he
  | (c, ms) :: l, env, ih, r1, H, σ, p, hr, he, q => by
    rw [List.map_cons] at q ⊢
    unfold goH at q
    dsimp only at q
    cases z : PySem.W.exmOne X.K (.ref cl) c with
    | none => rw [z] at q; exact q.elim
    | some b =>
      rw [z] at q
      refine ⟨b, z, fun hb a _ => ?_, fun hb => ?_⟩
      · subst hb
        dsimp only at q
        refine ⟨cl, rfl, rfl, r1, ih, env, hr, he, PStm.mono p ?_⟩
        cases z2 : ms env ih with
        | ok f ih2 =>
          rw [z2] at q
          show PStm X.K W0 r (ms env ih) D
          rw [z2]
          cases f <;> exact q
        | exc c2 env2 ih2 => rw [z2] at q; exact q.elim
        | stuck => rw [z2] at q; exact q.elim
      · subst hb
        exact goH_ok p hr he q
theorem ls_tries (hs : X.stack = X.env :: X.outer) (hf : X.env.frame = some X.env.locals) (tk : Takes X W)
    (hb : ∀ (W : WX) (pn : List (Addr × Obj)) (xe : Value → Shared → Prop), Takes (X.tr pn xe) W → PassesOwn (model X.prog X.w) X.A X.env xe → PSs (X.tr pn xe) body (tMS X.K W mb))
    (hh : LHs X (h₀ :: hds) l) : PS X (.Try body (h₀ :: hds) [] [] pos) (tMS X.K W (ms_tries (l.map (hd1 X.K)) mb)) := by
  refine PS.of (ps_try_many (tb := fun W => tMS X.K W mb) hs hf tk hb hh.ok) fun D σ H ⟨r, ih, env, hr, he, q⟩ => ⟨r, ih, env, hr, he, ?_⟩
  unfold ms_tries at q
  cases e : mb env ih with
  | ok f ih1 =>
    rw [e] at q
    cases f with
    | next _ => exact q
    | brk _ => exact q
    | cont _ => exact q
    | ret _ => exact q
  | stuck => rw [e] at q; exact q
  | exc cl env1 ih1 =>
    rw [e] at q
    exact fun r1 H1 σ1 p1 hr1 he1 => goH_ok p1 hr1 he1 q
end
/-! ### min of a list of pairs of whole numbers -/
def minGo (ih : IH) (x : IV) (xs : List IV) : IV := xs.foldl (fun a y => if ltI ih y a then y else a) x
def f_minP (xs : List IV) (ih : IH) : Res IV := match xs with
  | [.ref n] => match ih[n]? with
    | some o => match o.xs with
      | x :: r => if o.isL = true ∧ o.xs.all (isPr ih) = true then .ok (minGo ih x r) ih else .stuck
      | [] => .stuck
    | none => .stuck
  | _ => .stuck
theorem dataLt_pr (a b c d : Int) : PySem.W.dataLt (.tuple [.int a, .int b]) (.tuple [.int c, .int d]) = SrtO.lexB (a, b) (c, d) := by
  have e : PySem.W.dataLt (.tuple [.int a, .int b]) (.tuple [.int c, .int d]) = PySem.W.dataLt (.list [.int a, .int b]) (.list [.int c, .int d]) := by
    unfold PySem.W.dataLt
    simp only [PySem.W.keyToks]
  have al : ∀ x y : Int, PySem.W.alike (.int x) (.int y) = true := fun x y => by simp [PySem.W.alike]
  rw [e, PySem.W.dataLt_list]
  unfold SrtO.lexB
  dsimp only
  by_cases h : a = c
  · subst h
    rw [if_pos rfl, PySem.W.dataLt_all_yes (al a a) (by simp [PyData.eqv])]
    by_cases h2 : b = d
    · subst h2
      rw [PySem.W.dataLt_all_yes (al b b) (by simp [PyData.eqv]), decide_eq_false (Int.lt_irrefl b)]
      rfl
    · rw [PySem.W.dataLt_all_no (al b d) (by simp [PyData.eqv, h2]), PySem.W.dataLt_int]
  · rw [if_neg h, PySem.W.dataLt_all_no (al a c) (by simp [PyData.eqv, h]), PySem.W.dataLt_int]
theorem best_congr {f g : Nat → Nat → Bool} : ∀ k : Nat, (∀ i j, i ≤ k → j ≤ k → f i j = g i j) → argBest f k = argBest g k ∧ argBest f k ≤ k
  | 0, _ => ⟨rfl, Nat.le_refl _⟩
  | k + 1, h => by
    obtain ⟨e, l⟩ := best_congr k fun i j hi hj => h i j (by omega) (by omega)
    unfold argBest
    rw [← e, h (k + 1) (argBest f k) (Nat.le_refl _) (by omega)]
    refine ⟨rfl, ?_⟩
    split <;> omega
/-- a pair in the heap -/
def IsP (H : Hp) (u : V) : Prop := ∃ t, u = V.ref t ∧ H t = some (.tup [.int (L3.kV H u).1, .int (L3.kV H u).2])
def minV (H : Hp) (x : V) (xs : List V) : V := xs.foldl (fun a y => if SrtO.lexB (L3.kV H y) (L3.kV H a) then y else a) x
def rMinP (K : PySem.W.Frag) : List V → Hp → VK → Prop := fun vs H Q => ∃ (a : Addr) (x : V) (xs : List V), vs = [V.ref a] ∧ SqL K H a (x :: xs) ∧ (∀ u ∈ x :: xs, IsP H u) ∧ Q (minV H x xs) H
def dV (H : Hp) (u : V) : PyData := .tuple [.int (L3.kV H u).1, .int (L3.kV H u).2]
theorem dp_all {K : PySem.W.Frag} {H : Hp} : ∀ {xs : List V}, (∀ u ∈ xs, IsP H u) → DpAll K H xs (xs.map (dV H))
  | [], _ => .nil
  | x :: xs, h => by
    obtain ⟨t, e, ht⟩ := h x List.mem_cons_self
    refine .cons ?_ (dp_all fun u hu => h u (List.mem_cons_of_mem _ hu))
    unfold dV
    generalize L3.kV H x = z at ht ⊢
    rw [e]
    exact .tup (SqT.of ht) (.cons (.int _) (.cons (.int _) .nil))
section
variable {X : Cx}
theorem cr_minP (hc : X.calm = true) (hu : X.A.units + 64 < cLine) : CallR X (.builtin "min") (rMinP X.K) := by
  intro pins s σ H vs us Q I r h
  obtain ⟨a, x, xs, rfl, hs, hp, q⟩ := h
  obtain ⟨its, rv, hl, _⟩ := I.list hs
  rw [Vals.ref1 r]
  obtain ⟨as, hr⟩ := Dp.readsAll I ((x :: xs).map (dV H)) (x :: xs) its (dp_all hp) rv
  have ha : PySem.W.AlikeAll ((x :: xs).map (dV H)) := by
    constructor
    · intro d hd e he
      obtain ⟨u, _, rfl⟩ := List.mem_map.mp hd
      obtain ⟨w, _, rfl⟩ := List.mem_map.mp he
      simp [dV, PySem.W.alike, PySem.W.alikeAll]
    · intro d hd e
      obtain ⟨u, _, rfl⟩ := List.mem_map.mp hd
      cases e
  have dp : PyData.depthAll ((x :: xs).map (dV H)) ≤ 3 := by
    have : ∀ l : List V, PyData.depthAll (l.map (dV H)) ≤ 3 := by
      intro l
      induction l with
      | nil => simp [PyData.depthAll]
      | cons y l ih =>
        simp only [List.map_cons, PyData.depthAll, dV, PyData.depth]
        omega
    exact this _
  have hn : its.length = xs.length + 1 := by rw [← rv.length]; rfl
  refine PySem.call_min_walkH (PySem.W.iter_listW (A := X.A.in1) (I.ok.hd hc) hl.isList fun s2 e wk st f1 f2 f3 => ?_)
  have cmp := PySem.W.cmpIn_lt (prog := X.prog) (w := X.w) (A := X.A.in1) (s := s) (vs := its.toArray) (by simpa using hr) ha (by
    show X.A.units + 1 + _ < _
    omega)
  refine ⟨_, _, _, _, _, _, _, s.heap, _, rfl, wk, st, f1, (by simp [hn]), f2, f3, cmp, fun v s' hP m => ?_⟩
  obtain ⟨h', tk, es, k⟩ := PySem.W.moved_old e rfl m
  subst es
  have e1 : its.toArray.size - 1 = xs.length := by simp [hn]
  rw [e1] at hP
  obtain ⟨g1, g2⟩ := best_congr (f := fun i j => PySem.W.dataLt (((x :: xs).map (dV H)).getD i .none) (((x :: xs).map (dV H)).getD j .none)) (g := fun i j => SrtO.lexB (L3.kV H ((x :: xs).getD i .non)) (L3.kV H ((x :: xs).getD j .non))) xs.length (fun i j hi hj => by
    have i1 : i < (x :: xs).length := by simp; omega
    have j1 : j < (x :: xs).length := by simp; omega
    simp only [List.getD_eq_getElem?_getD, List.getElem?_map, List.getElem?_eq_getElem i1, List.getElem?_eq_getElem j1, Option.map_some, Option.getD_some]
    exact dataLt_pr _ _ _ _)
  have fd := (PySem.W.argBest_fold (fun a b : V => SrtO.lexB (L3.kV H a) (L3.kV H b)) .non x xs xs.length (Nat.le_refl _)).2
  rw [List.take_length] at fd
  generalize argBest (fun i j => PySem.W.dataLt (((x :: xs).map (dV H)).getD i .none) (((x :: xs).map (dV H)).getD j .none)) xs.length = b at hP g1 g2
  rw [← g1] at fd
  have b1 : b < (x :: xs).length := by simp; omega
  have ev : (x :: xs)[b]? = some (minV H x xs) := by
    rw [List.getElem?_eq_getElem b1]
    rw [List.getD_eq_getElem?_getD, List.getElem?_eq_getElem b1] at fd
    exact congrArg some fd
  obtain ⟨w, hw, rw'⟩ := Vals.get rv ev
  have hv : v = w := by
    have : its[b]? = some v := by simpa using hP
    rw [hw] at this
    exact (Option.some.inj this).symm
  subst hv
  exact ⟨_, H, I.kept k, rw', q⟩
end
section
variable {K : PySem.W.Frag} {W : WX}
theorem min_rel {r : List Addr} {ih : IH} {H : Hp} (hr : Rel K r ih H) : ∀ {xs : List IV} {us : List V} {x : IV} {u : V}, R r x u → isPr ih x = true → Rs r xs us → xs.all (isPr ih) = true → R r (minGo ih x xs) (minV H u us)
  | [], _, x, u, h, _, .nil, _ => h
  | y :: xs, z :: us, x, u, h, hp, .cons q t, ha => by
    rw [List.all_cons, Bool.and_eq_true] at ha
    have e1 := (pr_rel hr h hp).1
    have e2 := (pr_rel hr q ha.1).1
    have el : ltI ih y x = SrtO.lexB (L3.kV H z) (L3.kV H u) := by
      unfold ltI
      rw [e1, e2]
    show R r (xs.foldl _ (if ltI ih y x then y else x)) (List.foldl _ (if SrtO.lexB (L3.kV H z) (L3.kV H u) then z else u) _)
    rw [el]
    split
    · exact min_rel hr q ha.1 t ha.2
    · exact min_rel hr h hp t ha.2
theorem s_minP : SndC K W (rMinP K) f_minP := by
  intro r ih H vs us σ Q hr hx q
  unfold f_minP at q
  split at q
  · rename_i n
    cases hx with
    | cons h0 t =>
      cases t
      obtain ⟨a, ea, rfl⟩ := h0.ref
      split at q
      · rename_i o e1
        split at q
        · rename_i x xs ex
          split at q
          · rename_i hh
            obtain ⟨ys, h1, h2⟩ := (hr.get n a _ ea e1).l hh.1
            rw [ex] at h2 hh
            rw [List.all_cons, Bool.and_eq_true] at hh
            cases h2 with
            | @cons _ u _ us2 q1 t1 =>
              have all : ∀ {zs : List IV} {ws : List V}, Rs r zs ws → zs.all (isPr ih) = true → ∀ w ∈ ws, IsP H w := by
                intro zs ws h
                induction h with
                | nil => intro _ w hw; cases hw
                | cons q t iht =>
                  intro ha w hw
                  rw [List.all_cons, Bool.and_eq_true] at ha
                  rcases List.mem_cons.mp hw with e | e
                  · rw [e]
                    exact (pr_rel hr q ha.1).2
                  · exact iht ha.2 w e
              exact ⟨a, u, us2, rfl, h1, all (.cons q1 t1) (by rw [List.all_cons, hh.2.1, hh.2.2]; rfl), tG_end q hr (min_rel hr q1 hh.2.1 t1 hh.2.2)⟩
          · exact q.elim
        · exact q.elim
      · exact q.elim
  · exact q.elim
end
/-! ### a, b, c = x, y, z -/
def ms_par3 (i j l : Nat) (m : Env → IH → Res (List IV)) (env : Env) (ih : IH) : RS := (m env ih).stm env fun vs ih1 => match vs with
  | [u, v, w] => .ok (.next (((env.set i (some u)).set j (some v)).set l (some w))) ih1
  | _ => .stuck
section
variable {X : Cx} {W : WX}
theorem ls_par3 {i j l : Nat} {x y z : Str} {a b c : Expr} {mm : Env → IH → Res (List IV)} {px py pz pt : Pos} {kt k2 : Nat} {pt2 pos : Pos}
    (hP : ∀ {ta : TA}, PA X [a, b, c] ta → PS X (.Assign [.Tuple [.Name x px, .Name y py, .Name z pz] kt pt] (.Tuple [a, b, c] k2 pt2) pos) (tPar3 i j l ta))
    (ha : PA X [a, b, c] (tMA X.K W mm)) : PS X (.Assign [.Tuple [.Name x px, .Name y py, .Name z pz] kt pt] (.Tuple [a, b, c] k2 pt2) pos) (tMS X.K W (ms_par3 i j l mm)) :=
  PS.of (hP ha) fun D σ H ⟨r, ih, env, hr, he, q⟩ => tG.imp (tG_stm hr he q) fun us H1 ⟨r1, ih1, vs, p, hr1, hv, q1⟩ => by
    dsimp only at q1
    split at q1
    · cases hv with
      | cons h1 t =>
        obtain ⟨u2, u3, rfl, h2, h3⟩ := Rs.two t
        exact ⟨_, u2, u3, rfl, st_end q1 hr1 ((((he.mono p).set h1 i).set h2 j).set h3 l)⟩
    · exact q1.elim
end
/-! ### is False -/
def f_isB (x y : IV) (ih : IH) : Res IV := match x, y with
  | .bl a, .bl b => .ok (.bl (decide (a = b))) ih
  | _, _ => .stuck
theorem s_isB {K : PySem.W.Frag} {W : WX} : Snd2 K W rIsB f_isB := by
  intro r ih H x y u w σ Q hr hx hy q
  unfold f_isB at q
  split at q
  · rename_i a b
    obtain rfl : u = .bl a := hx
    obtain rfl : w = .bl b := hy
    exact ⟨a, b, rfl, rfl, tG_end q hr rfl⟩
  · exact q.elim
end L3
/-! L4: how mirrors are run; sizes of ints. -/
namespace L3
instance : TabT := ⟨[]⟩
instance : LamT := ⟨[], []⟩
open PySem PySem.Spec PyProof.Rows L2

theorem startI_cons (N : Nat) (a : IV) (r : List IV) : startI (N + 1) (a :: r) = some a :: startI N r := by
  unfold startI
  rw [List.map_cons, List.length_cons, Nat.add_sub_add_right]
  rfl
theorem startI_nil (N : Nat) : startI N [] = List.replicate N none := rfl
theorem rep_succ (N : Nat) : List.replicate (N + 1) (none : Option IV) = none :: List.replicate N none := rfl
theorem rep_zero : List.replicate 0 (none : Option IV) = [] := rfl

/-! ### operations, applied -/
section
variable {ih : IH} {i j : Int} {n m : Nat} {o : MO} {v : IV}
theorem a_int : f_int [.int i] ih = .ok (.int i) ih := rfl
theorem a_add : f_add (.int i) (.int j) ih = .ok (.int (i + j)) ih := rfl
theorem a_addI : f_addI (.int i) (.int j) ih = .ok (.int (i + j)) ih := rfl
theorem a_sub : f_sub (.int i) (.int j) ih = .ok (.int (i - j)) ih := rfl
theorem a_neg : f_neg (.int i) ih = .ok (.int (-i)) ih := rfl
theorem a_lt : f_lt (.int i) (.int j) ih = .ok (.bl (decide (i < j))) ih := rfl
theorem a_le : f_le (.int i) (.int j) ih = .ok (.bl (decide (i ≤ j))) ih := rfl
theorem a_gt : f_gt (.int i) (.int j) ih = .ok (.bl (decide (j < i))) ih := rfl
theorem a_ge : f_ge (.int i) (.int j) ih = .ok (.bl (decide (j ≤ i))) ih := rfl
theorem a_max2 : f_max2 [.int i, .int j] ih = .ok (.int (if j > i then j else i)) ih := rfl
theorem a_min2 : f_min2 [.int i, .int j] ih = .ok (.int (if j < i then j else i)) ih := rfl
theorem a_abs : f_abs [.int i] ih = .ok (.int (if i < 0 then -i else i)) ih := rfl
theorem a_mul (h : cMul i j = true) : f_mulA (.int i) (.int j) ih = .ok (.int (i * j)) ih := by
  show (if cMul i j = true then _ else _) = _
  rw [if_pos h]
theorem a_mulI (h : cMul i j = true) : f_mul (.int i) (.int j) ih = .ok (.int (i * j)) ih := by
  show (if cMul i j = true then _ else _) = _
  rw [if_pos h]
theorem a_fdiv (h : cDiv i j = true) : f_fdiv (.int i) (.int j) ih = .ok (.int (i / j)) ih := by
  show (if cDiv i j = true then _ else _) = _
  rw [if_pos h]
theorem a_mod (h : 0 < j) : f_mod (.int i) (.int j) ih = .ok (.int (i % j)) ih := by
  show (if cMod i j = true then _ else _) = _
  exact if_pos (decide_eq_true h)
theorem a_shl (h : cShl i j = true) : f_shl (.int i) (.int j) ih = .ok (.int (i * 2 ^ j.toNat)) ih := by
  show (if cShl i j = true then _ else _) = _
  rw [if_pos h]
theorem a_shr (h : 0 ≤ j) : f_shr (.int i) (.int j) ih = .ok (.int (i / 2 ^ j.toNat)) ih := by
  show (if cShr i j = true then _ else _) = _
  exact if_pos (decide_eq_true h)
theorem a_pow (h : cPow i j = true) : f_pow (.int i) (.int j) ih = .ok (.int (i ^ j.toNat)) ih := by
  show (if cPow i j = true then _ else _) = _
  rw [if_pos h]
theorem a_len (h : ih[n]? = some o) (hd : o.isS = true := by rfl) : f_len [.ref n] ih = .ok (.int o.xs.length) ih := by
  unfold f_len
  dsimp only
  rw [h]
  cases o with
  | dct => cases hd
  | dk _ => cases hd
  | clo => cases hd
  | _ => rfl
theorem a_ix (h : ih[n]? = some o) (hv : atI o.xs i = some v) : f_ix (.ref n) (.int i) ih = .ok v ih := by
  unfold f_ix
  dsimp only
  rw [h]
  dsimp only
  rw [hv]
theorem a_isN {x : IV} : f_isN x .non ih = .ok (.bl (decide (x = .non))) ih := by
  unfold f_isN
  rw [if_pos rfl]
theorem a_notN {x : IV} : f_notN x .non ih = .ok (.bl (!decide (x = .non))) ih := by
  unfold f_notN
  rw [if_pos rfl]
theorem a_lst {xs : List IV} (h : xs.length ≤ 100000) : f_lst xs ih = .ok (.ref ih.length) (ih ++ [.lst xs]) := by
  unfold f_lst
  rw [if_pos h]
theorem a_tup {xs : List IV} (h : xs.length ≤ 100000) : f_tup xs ih = .ok (.ref ih.length) (ih ++ [.tup xs]) := by
  unfold f_tup
  rw [if_pos h]
theorem a_list (h : ih[n]? = some o) (hd : o.isS = true := by rfl) : f_list [.ref n] ih = .ok (.ref ih.length) (ih ++ [.lst o.xs]) := by
  unfold f_list
  dsimp only
  rw [h]
  cases o with
  | dct => cases hd
  | dk _ => cases hd
  | clo => cases hd
  | _ => rfl
theorem a_append {xs : List IV} {y : IV} (h : ih[n]? = some (.lst xs)) (hl : xs.length < 100000) : f_append (.ref n) [y] ih = .ok .non (ih.set n (.lst (xs ++ [y]))) := by
  unfold f_append
  dsimp only
  rw [h]
  dsimp only
  rw [if_pos hl]
theorem a_isLst (h : ih[n]? = some o) (hl : o.isL = true) : isLst (.ref n) ih = true := by
  unfold isLst
  dsimp only
  rw [h]
  exact hl
theorem a_setL {xs : List IV} {y : IV} {k : Nat} (h : ih[n]? = some (.lst xs)) (hk : ixN xs.length i = some k) : f_setL (.ref n) (.int i) y ih = some (ih.set n (.lst (xs.set k y))) := by
  unfold f_setL
  dsimp only
  rw [h]
  dsimp only
  rw [hk]
theorem a_call {xs ds : List IV} {f : List IV → IH → Res IV} (h : (xs ++ ds).length = n) : f_call n ds f xs ih = f (xs ++ ds) ih := by
  unfold f_call
  rw [if_pos h]
theorem atI_ok {α : Type} {xs : List α} {k : Nat} {v : α} (hi : i = (k : Int)) (h : xs[k]? = some v) : atI xs i = some v := by
  rw [hi]
  exact atI_nat h
end
theorem atI_nn {α : Type} (xs : List α) (k : Nat) : atI xs (k : Int) = xs[k]? := by
  unfold atI ixN
  rw [if_pos (Int.natCast_nonneg k)]
  by_cases h : k < xs.length
  · rw [if_pos (by omega)]
    rfl
  · rw [if_neg (by omega), List.getElem?_eq_none (by omega)]
    rfl
theorem atI_0 {α : Type} (xs : List α) : atI xs 0 = xs[0]? := atI_nn xs 0
theorem atI_1 {α : Type} (xs : List α) : atI xs 1 = xs[1]? := atI_nn xs 1
theorem atI_2 {α : Type} (xs : List α) : atI xs 2 = xs[2]? := atI_nn xs 2
theorem atI_3 {α : Type} (xs : List α) : atI xs 3 = xs[3]? := atI_nn xs 3
theorem atI_4 {α : Type} (xs : List α) : atI xs 4 = xs[4]? := atI_nn xs 4
theorem atI_5 {α : Type} (xs : List α) : atI xs 5 = xs[5]? := atI_nn xs 5
theorem atI_6 {α : Type} (xs : List α) : atI xs 6 = xs[6]? := atI_nn xs 6
theorem atI_7 {α : Type} (xs : List α) : atI xs 7 = xs[7]? := atI_nn xs 7
theorem atI_8 {α : Type} (xs : List α) : atI xs 8 = xs[8]? := atI_nn xs 8
theorem atI_9 {α : Type} (xs : List α) : atI xs 9 = xs[9]? := atI_nn xs 9
theorem atI_10 {α : Type} (xs : List α) : atI xs 10 = xs[10]? := atI_nn xs 10
theorem atI_11 {α : Type} (xs : List α) : atI xs 11 = xs[11]? := atI_nn xs 11
theorem atI_12 {α : Type} (xs : List α) : atI xs 12 = xs[12]? := atI_nn xs 12
theorem ixN_30 : ixN 3 0 = some 0 := rfl
theorem ixN_31 : ixN 3 1 = some 1 := rfl
theorem ixN_32 : ixN 3 2 = some 2 := rfl
theorem xs_lst (xs : List IV) : (MO.lst xs).xs = xs := rfl
theorem xs_tup (xs : List IV) : (MO.tup xs).xs = xs := rfl
theorem xs_ro (xs : List IV) : (MO.ro xs).xs = xs := rfl
theorem xs_rot (xs : List IV) : (MO.rot xs).xs = xs := rfl
theorem isL_lst (xs : List IV) : (MO.lst xs).isL = true := rfl
theorem isL_tup (xs : List IV) : (MO.tup xs).isL = false := rfl
theorem isL_ro (xs : List IV) : (MO.ro xs).isL = true := rfl
theorem isT_tup (xs : List IV) : (MO.tup xs).isT = true := rfl
theorem isT_rot (xs : List IV) : (MO.rot xs).isT = true := rfl
theorem isL_rot (xs : List IV) : (MO.rot xs).isL = false := rfl
/-! ### sizes of ints -/
/-- an int of at most n bits -/
def B (n : Nat) (i : Int) : Prop := i.natAbs < 2 ^ n
section
variable {i j : Int} {n m k : Nat}
theorem B.mono (h : B n i) (e : n ≤ m) : B m i := Nat.lt_of_lt_of_le h (Nat.pow_le_pow_right (by decide) e)
theorem B.ib (h : B n i) : ibits i ≤ n := PyProof.Rows.intBits_le h
theorem B.of_ib (h : ibits i ≤ n) : B n i := by
  unfold ibits Builtin.Int.intBits at h
  split at h
  · rename_i h0
    have : i = 0 := by simpa using h0
    subst this
    exact Nat.two_pow_pos n
  · exact Nat.lt_of_lt_of_le Nat.lt_log2_self (Nat.pow_le_pow_right (by decide) h)
theorem B.add (h : B n i) (g : B n j) : B (n + 1) (i + j) := by
  unfold B at *
  rw [Nat.pow_succ]
  omega
theorem B.sub (h : B n i) (g : B n j) : B (n + 1) (i - j) := by
  unfold B at *
  rw [Nat.pow_succ]
  omega
theorem B.neg (h : B n i) : B n (-i) := by
  unfold B at *
  rw [Int.natAbs_neg]
  exact h
theorem B.mul (h : B n i) (g : B m j) : B (n + m) (i * j) := by
  unfold B at *
  rw [Int.natAbs_mul, Nat.pow_add]
  exact Nat.mul_lt_mul'' h g
theorem B.div (h : B n i) (g : 0 < j) : B n (i / j) := by
  unfold B at *
  have : (i / j).natAbs ≤ i.natAbs := by
    rcases Int.le_total 0 i with hi | hi
    · have h1 := Int.ediv_nonneg hi (Int.le_of_lt g)
      have h2 := Int.ediv_le_self j hi
      omega
    · have h1 : i / j ≤ 0 := by
        have := Int.ediv_le_ediv g hi
        rw [Int.zero_ediv] at this
        exact this
      have h2 : i ≤ i / j := by
        rw [Int.le_ediv_iff_mul_le g]
        have : i * j ≤ i * 1 := Int.mul_le_mul_of_nonpos_left hi (by omega)
        omega
      omega
  omega
theorem B.mod (g : 0 < j) (h : B n j) : B n (i % j) := by
  unfold B at *
  have h1 := Int.emod_nonneg i (Int.ne_of_gt g)
  have h2 := Int.emod_lt_of_pos i g
  omega
theorem B.le (h0 : 0 ≤ i) (h : i ≤ j) (g : B n j) : B n i := by
  unfold B at *
  omega
theorem B.lt (h0 : 0 ≤ i) (h : i < 2 ^ n) : B n i := by
  unfold B
  have e : ((2 ^ n : Nat) : Int) = 2 ^ n := by rw [Int.natCast_pow]; rfl
  omega
theorem B.cmul (h : B n i) (g : B m j) (e : n + m ≤ 134217728) : cMul i j = true := by
  have := h.ib
  have := g.ib
  exact decide_eq_true (by omega)
theorem cDiv_of (g : 0 < j) (h : B n j) (h0 : 0 < n) (e : n ≤ 9000) : cDiv i j = true := by
  unfold cDiv
  rw [Bool.and_eq_true]
  exact ⟨decide_eq_true g, decide_eq_true (Nat.lt_of_lt_of_le (PySem.Flt.log2_lt_of h0 h) e)⟩
theorem cShl_of (h : B n i) (e : n + k ≤ 134217728) : cShl i (k : Int) = true := by
  have := h.ib
  unfold cShl
  rw [Bool.and_eq_true]
  exact ⟨decide_eq_true (by omega), decide_eq_true (by omega)⟩
end

/-! ### heaps that grow -/
def Ext (a b : IH) : Prop := ∀ (n : Nat) (o : MO), a[n]? = some o → b[n]? = some o
theorem Ext.refl (a : IH) : Ext a a := fun _ _ h => h
theorem Ext.trans {a b d : IH} (h : Ext a b) (k : Ext b d) : Ext a d := fun n o e => k n o (h n o e)
theorem Ext.app (a b : IH) : Ext a (a ++ b) := fun n o e => by
  rw [List.getElem?_append_left (List.getElem?_eq_some_iff.mp e).1]
  exact e
/-- all objects but the one at p stay -/
def ExtP (p : Nat) (a b : IH) : Prop := ∀ (n : Nat) (o : MO), n ≠ p → a[n]? = some o → b[n]? = some o
theorem ExtP.refl (p : Nat) (a : IH) : ExtP p a a := fun _ _ _ h => h
theorem ExtP.trans {p : Nat} {a b d : IH} (h : ExtP p a b) (k : ExtP p b d) : ExtP p a d := fun n o hn e => k n o hn (h n o hn e)
theorem Ext.p {a b : IH} (h : Ext a b) (p : Nat) : ExtP p a b := fun n o _ e => h n o e
theorem ExtP.set (p : Nat) (a : IH) (o : MO) : ExtP p a (a.set p o) := fun n u hn e => by
  rw [List.getElem?_set_ne (Ne.symm hn)]
  exact e
theorem get_new (a : IH) (o : MO) : (a ++ [o])[a.length]? = some o := by
  rw [List.getElem?_append_right (Nat.le_refl _), Nat.sub_self]
  rfl
theorem get_set {a : IH} {p : Nat} {o u : MO} (h : a[p]? = some u) : (a.set p o)[p]? = some o := List.getElem?_set_self (List.getElem?_eq_some_iff.mp h).1
theorem lt_of_get {a : IH} {p : Nat} {u : MO} (h : a[p]? = some u) : p < a.length := (List.getElem?_eq_some_iff.mp h).1
end L3
/-! L6: loops and comprehensions of mirrors. -/
namespace L3
open PySem PySem.Spec PyProof.Rows L2

/-! ### for -/
/-- a loop whose turns all go on -/
theorem forGo_ind {s : Src} {g : IV → Env → IH → Option Env} {mb : Env → IH → RS} (k : Nat) (P : Nat → Env → IH → Prop)
    (turn : ∀ i env ih, i < k → P i env ih → ∃ v ih1 env1 env2 ih2, s.turn i ih = .item v ih1 ∧ g v env ih1 = some env1 ∧ mb env1 ih1 = .ok (.next env2) ih2 ∧ P (i + 1) env2 ih2)
    (stop : ∀ env ih, P k env ih → s.turn k ih = .stop) :
    ∀ (f i : Nat) (env : Env) (ih : IH), i ≤ k → k - i < f → P i env ih → ∃ env' ih', forGo s g mb f i env ih = .ok (.next env') ih' ∧ P k env' ih' := by
  intro f
  induction f with
  | zero => intro i env ih h1 h2; omega
  | succ f ihf =>
    intro i env ih h1 h2 hp
    unfold forGo
    by_cases hk : i = k
    · subst hk
      rw [stop env ih hp]
      exact ⟨env, ih, rfl, hp⟩
    · obtain ⟨v, ih1, env1, env2, ih2, t1, t2, t3, t4⟩ := turn i env ih (by omega) hp
      rw [t1]
      dsimp only
      rw [t2]
      dsimp only
      rw [t3]
      exact ihf (i + 1) env2 ih2 (by omega) (by omega) t4
/-- a loop that may hand back -/
theorem forGo_ret {s : Src} {g : IV → Env → IH → Option Env} {mb : Env → IH → RS} (k : Nat) (P : Nat → Env → IH → Prop) (Z : IV → IH → Prop)
    (turn : ∀ i env ih, i < k → P i env ih → ∃ v ih1 env1, s.turn i ih = .item v ih1 ∧ g v env ih1 = some env1 ∧ ((∃ env2 ih2, mb env1 ih1 = .ok (.next env2) ih2 ∧ P (i + 1) env2 ih2) ∨ ∃ u ih2, mb env1 ih1 = .ok (.ret u) ih2 ∧ Z u ih2))
    (stop : ∀ env ih, P k env ih → s.turn k ih = .stop) :
    ∀ (f i : Nat) (env : Env) (ih : IH), i ≤ k → k - i < f → P i env ih → (∃ env' ih', forGo s g mb f i env ih = .ok (.next env') ih' ∧ P k env' ih') ∨ ∃ u ih', forGo s g mb f i env ih = .ok (.ret u) ih' ∧ Z u ih' := by
  intro f
  induction f with
  | zero => intro i env ih h1 h2; omega
  | succ f ihf =>
    intro i env ih h1 h2 hp
    unfold forGo
    by_cases hk : i = k
    · subst hk
      rw [stop env ih hp]
      exact .inl ⟨env, ih, rfl, hp⟩
    · obtain ⟨v, ih1, env1, t1, t2, t3⟩ := turn i env ih (by omega) hp
      rw [t1]
      dsimp only
      rw [t2]
      dsimp only
      rcases t3 with ⟨env2, ih2, t3, t4⟩ | ⟨u, ih2, t3, t4⟩
      · rw [t3]
        exact ihf (i + 1) env2 ih2 (by omega) (by omega) t4
      · rw [t3]
        exact .inr ⟨u, ih2, rfl, t4⟩
theorem turn_rng {lo d : Int} {k i : Nat} {ih : IH} (h : i < k) : (Src.rng lo d k).turn i ih = .item (.int (lo + (i : Int) * d)) ih := if_pos h
theorem stop_rng {lo d : Int} {k : Nat} {ih : IH} : (Src.rng lo d k).turn k ih = .stop := if_neg (Nat.lt_irrefl k)
theorem lAt_of {ih : IH} {n : Nat} {o : MO} (h : ih[n]? = some o) (hl : o.isL = true) : lAt ih n true = some o.xs := by
  unfold lAt
  rw [h]
  exact if_pos hl
theorem turn_lst {ih : IH} {n i : Nat} {o : MO} {v : IV} (h : ih[n]? = some o) (hl : o.isL = true) (hv : o.xs[i]? = some v) : (Src.lst n).turn i ih = .item v ih := by
  unfold Src.turn
  dsimp only
  rw [lAt_of h hl]
  dsimp only
  rw [hv]
theorem stop_lst {ih : IH} {n : Nat} {o : MO} (h : ih[n]? = some o) (hl : o.isL = true) : (Src.lst n).turn o.xs.length ih = .stop := by
  unfold Src.turn
  dsimp only
  rw [lAt_of h hl]
  dsimp only
  rw [List.getElem?_eq_none (Nat.le_refl _)]
theorem turn_enm {ih : IH} {n i : Nat} {o : MO} {v : IV} (h : ih[n]? = some o) (hl : o.isL = true) (hv : o.xs[i]? = some v) : (Src.enm n).turn i ih = .item (.ref ih.length) (ih ++ [.tup [.int (i : Int), v]]) := by
  unfold Src.turn
  dsimp only
  rw [lAt_of h hl]
  dsimp only
  rw [hv]
theorem stop_enm {ih : IH} {n : Nat} {o : MO} (h : ih[n]? = some o) (hl : o.isL = true) : (Src.enm n).turn o.xs.length ih = .stop := by
  unfold Src.turn
  dsimp only
  rw [lAt_of h hl]
  dsimp only
  rw [List.getElem?_eq_none (Nat.le_refl _)]
theorem turn_zip {ih : IH} {n m i : Nat} {o u : MO} {v w : IV} (h : ih[n]? = some o) (hl : o.isL = true) (hv : o.xs[i]? = some v) (h2 : ih[m]? = some u) (hl2 : u.isL = true) (hw : u.xs[i]? = some w) : (Src.zip n m).turn i ih = .item (.ref ih.length) (ih ++ [.tup [v, w]]) := by
  unfold Src.turn
  dsimp only
  rw [lAt_of h hl, lAt_of h2 hl2]
  dsimp only
  rw [hv, hw]
theorem stop_zip {ih : IH} {n m i : Nat} {o u : MO} (h : ih[n]? = some o) (hl : o.isL = true) (h2 : ih[m]? = some u) (hl2 : u.isL = true) (hi : o.xs.length ≤ i ∨ u.xs.length ≤ i) : (Src.zip n m).turn i ih = .stop := by
  unfold Src.turn
  dsimp only
  rw [lAt_of h hl, lAt_of h2 hl2]
  dsimp only
  rcases hi with hi | hi
  · rw [List.getElem?_eq_none hi]
  · rw [List.getElem?_eq_none hi]
    split <;> first | rfl | (rename_i z; cases z)
theorem for_rng1 {g : IV → Env → IH → Option Env} {mb : Env → IH → RS} {m : Env → IH → Res (List IV)} {env : Env} {ih ih1 : IH} {j : Int} (hm : m env ih = .ok [.int j] ih1) (hj : smallI j = true) : ms_for (mi_rng1 m) g mb env ih = forGo (.rng 0 1 j.toNat) g mb (j.toNat + 1) 0 env ih1 := by
  unfold ms_for mi_rng1
  rw [hm, Res.bind_ok]
  dsimp only
  rw [if_pos hj]
  rfl
theorem for_rng2 {g : IV → Env → IH → Option Env} {mb : Env → IH → RS} {m : Env → IH → Res (List IV)} {env : Env} {ih ih1 : IH} {i j : Int} (hm : m env ih = .ok [.int i, .int j] ih1) (hi : smallI i = true) (hj : smallI j = true) : ms_for (mi_rng2 m) g mb env ih = forGo (.rng i 1 (j - i).toNat) g mb ((j - i).toNat + 1) 0 env ih1 := by
  unfold ms_for mi_rng2
  rw [hm, Res.bind_ok]
  dsimp only
  rw [if_pos ⟨hi, hj⟩]
  rfl
theorem for_lst {g : IV → Env → IH → Option Env} {mb : Env → IH → RS} {m : Env → IH → Res IV} {env : Env} {ih ih1 : IH} {n : Nat} {o : MO} (hm : m env ih = .ok (.ref n) ih1) (h : ih1[n]? = some o) (hl : o.isL = true) : ms_for (mi_lst m) g mb env ih = forGo (.lst n) g mb (o.xs.length + 1) 0 env ih1 := by
  unfold ms_for mi_lst
  rw [hm, Res.bind_ok]
  dsimp only
  rw [lAt_of h hl]
  show forGo (.lst n) g mb ((Src.lst n).size ih1 + 1) 0 env ih1 = _
  unfold Src.size
  dsimp only
  rw [h]
theorem for_enm {g : IV → Env → IH → Option Env} {mb : Env → IH → RS} {m : Env → IH → Res (List IV)} {env : Env} {ih ih1 : IH} {n : Nat} {o : MO} (hm : m env ih = .ok [.ref n] ih1) (h : ih1[n]? = some o) (hl : o.isL = true) : ms_for (mi_enm m) g mb env ih = forGo (.enm n) g mb (o.xs.length + 1) 0 env ih1 := by
  unfold ms_for mi_enm
  rw [hm, Res.bind_ok]
  dsimp only
  rw [lAt_of h hl]
  show forGo (.enm n) g mb ((Src.enm n).size ih1 + 1) 0 env ih1 = _
  unfold Src.size
  dsimp only
  rw [h]
theorem smallI_mk {i : Int} (h : -(2 ^ 62) ≤ i) (h2 : i < 2 ^ 62) : smallI i = true := by
  unfold smallI
  rw [decide_eq_true h, decide_eq_true h2]
  rfl

/-! ### comprehensions -/
theorem lcGo_ind {s : Src} {g : IV → Env → IH → Option Env} {n : Env → IH → Res Bool} {me : Env → IH → Res IV} {d : Nat} {env : Env} (k : Nat) (P : Nat → List IV → IH → Prop)
    (turn : ∀ i acc ih, i < k → P i acc ih → ih[d]? = some (.lst acc) → ∃ v ih1 env1 b ih2, s.turn i ih = .item v ih1 ∧ g v env ih1 = some env1 ∧ n env1 ih1 = .ok b ih2 ∧ (b = false → ih2[d]? = some (.lst acc) ∧ P (i + 1) acc ih2) ∧
      (b = true → ∃ y ih3, me env1 ih2 = .ok y ih3 ∧ ih3[d]? = some (.lst acc) ∧ acc.length < 100000 ∧ P (i + 1) (acc ++ [y]) (ih3.set d (.lst (acc ++ [y])))))
    (stop : ∀ acc ih, P k acc ih → ih[d]? = some (.lst acc) → s.turn k ih = .stop) :
    ∀ (f i : Nat) (acc : List IV) (ih : IH), i ≤ k → k - i < f → P i acc ih → ih[d]? = some (.lst acc) → ∃ acc' ih', lcGo s g n me d env f i ih = .ok (.ref d) ih' ∧ ih'[d]? = some (.lst acc') ∧ P k acc' ih' := by
  intro f
  induction f with
  | zero => intro i acc ih h1 h2; omega
  | succ f ihf =>
    intro i acc ih h1 h2 hp hd
    unfold lcGo
    by_cases hk : i = k
    · subst hk
      rw [stop acc ih hp hd]
      exact ⟨acc, ih, rfl, hd, hp⟩
    · obtain ⟨v, ih1, env1, b, ih2, t1, t2, t3, t4, t5⟩ := turn i acc ih (by omega) hp hd
      rw [t1]
      dsimp only
      rw [t2]
      dsimp only
      rw [t3]
      cases b with
      | false =>
        obtain ⟨h3, h4⟩ := t4 rfl
        exact ihf (i + 1) acc ih2 (by omega) (by omega) h4 h3
      | true =>
        obtain ⟨y, ih3, h3, h4, h5, h6⟩ := t5 rfl
        dsimp only
        rw [h3]
        dsimp only
        rw [h4]
        dsimp only
        rw [if_pos h5]
        exact ihf (i + 1) (acc ++ [y]) _ (by omega) (by omega) h6 (get_set h4)
theorem set_append_last (a : IH) (o u : MO) : (a ++ [o]).set a.length u = a ++ [u] := by
  rw [List.set_append_right _ _ (Nat.le_refl _), Nat.sub_self]
  rfl
/-- [me for x in xs if n], over a list; the parts leave the heap -/
theorem lc_lst {vs : List Nat} {m : Env → IH → Res IV} {i : Nat} {n : Env → IH → Res Bool} {me : Env → IH → Res IV} {env : Env} {ih ih1 : IH} {p : Nat} {o : MO} (F : IV → IV) (T : IV → Bool) (hm : m env ih = .ok (.ref p) ih1) (ho : ih1[p]? = some o) (hl : o.isL = true) (hz : o.xs.length < 100000)
    (ht : ∀ x ∈ o.xs, ∀ ih', Ext ih1 ih' → n ((wipeI env vs).set i (some x)) ih' = .ok (T x) ih') (he : ∀ x ∈ o.xs, T x = true → ∀ ih', Ext ih1 ih' → me ((wipeI env vs).set i (some x)) ih' = .ok (F x) ih') :
    m_lc vs (mi_lst m) (g_nm i) n me env ih = .ok (.ref ih1.length) (ih1 ++ [.lst ((o.xs.filter T).map F)]) := by
  unfold m_lc mi_lst
  rw [hm, Res.bind_ok]
  dsimp only
  rw [lAt_of ho hl]
  dsimp only
  rw [Res.bind_ok]
  have hs : (Src.lst p).size ih1 = o.xs.length := by
    unfold Src.size
    dsimp only
    rw [ho]
  rw [hs]
  obtain ⟨acc', ih', e1, e2, e3⟩ := lcGo_ind (s := .lst p) (g := g_nm i) (n := n) (me := me) (d := ih1.length) (env := wipeI env vs) o.xs.length (fun k acc ih => acc = ((o.xs.take k).filter T).map F ∧ ih = ih1 ++ [.lst acc])
    (fun k acc ih hk ⟨ha, hi⟩ hd => by
      subst hi
      have hx : (ih1 ++ [MO.lst acc])[p]? = some o := Ext.app _ _ _ _ ho
      have hxk : o.xs[k]? = some o.xs[k] := List.getElem?_eq_getElem hk
      have hmem : o.xs[k] ∈ o.xs := List.getElem_mem hk
      have etk : (o.xs.take (k + 1)) = o.xs.take k ++ [o.xs[k]] := by rw [List.take_add_one, hxk]; rfl
      refine ⟨o.xs[k], _, _, T o.xs[k], _, turn_lst hx hl hxk, rfl, ht _ hmem _ (Ext.app _ _), fun hb => ⟨hd, ?_, rfl⟩, fun hb => ⟨_, _, he _ hmem hb _ (Ext.app _ _), hd, ?_, ?_, ?_⟩⟩
      · rw [etk, List.filter_append, ha, List.filter_cons, hb]
        simp
      · rw [ha, List.length_map]
        exact Nat.lt_of_le_of_lt (List.length_filter_le _ _) (Nat.lt_of_le_of_lt (List.length_take_le' _ _) hz)
      · rw [etk, List.filter_append, ha, List.filter_cons, hb]
        simp
      · rw [set_append_last])
    (fun acc ih ⟨ha, hi⟩ hd => by
      subst hi
      exact stop_lst (Ext.app _ _ _ _ ho) hl)
    (o.xs.length + 1) 0 [] (ih1 ++ [.lst []]) (Nat.zero_le _) (by omega) ⟨by simp, rfl⟩ (get_new _ _)
  rw [e1]
  obtain ⟨h1, h2⟩ := e3
  rw [h2, h1, List.take_length]
theorem filter_true (xs : List IV) : xs.filter (fun _ => true) = xs := List.filter_eq_self.mpr fun _ _ => rfl
/-- without a test -/
theorem lc_map {vs : List Nat} {m : Env → IH → Res IV} {i : Nat} {me : Env → IH → Res IV} {env : Env} {ih ih1 : IH} {p : Nat} {o : MO} (F : IV → IV) (hm : m env ih = .ok (.ref p) ih1) (ho : ih1[p]? = some o) (hl : o.isL = true) (hz : o.xs.length < 100000)
    (he : ∀ x ∈ o.xs, ∀ ih', Ext ih1 ih' → me ((wipeI env vs).set i (some x)) ih' = .ok (F x) ih') :
    m_lc vs (mi_lst m) (g_nm i) n_yes me env ih = .ok (.ref ih1.length) (ih1 ++ [.lst (o.xs.map F)]) := by
  have h := lc_lst (n := n_yes) F (fun _ => true) hm ho hl hz (fun x _ ih' _ => rfl) (fun x hx _ ih' e => he x hx ih' e)
  rw [filter_true] at h
  exact h
/-- over a range -/
theorem lc_rng {vs : List Nat} {m : Env → IH → Res (List IV)} {i : Nat} {me : Env → IH → Res IV} {env : Env} {ih ih1 : IH} {j : Int} (F : Nat → IV) (hm : m env ih = .ok [.int j] ih1) (hj : smallI j = true) (hz : j < 100000)
    (he : ∀ k : Nat, (k : Int) < j → ∀ ih', Ext ih1 ih' → me ((wipeI env vs).set i (some (.int (k : Int)))) ih' = .ok (F k) ih') :
    m_lc vs (mi_rng1 m) (g_nm i) n_yes me env ih = .ok (.ref ih1.length) (ih1 ++ [.lst ((List.range j.toNat).map F)]) := by
  unfold m_lc mi_rng1
  rw [hm, Res.bind_ok]
  dsimp only
  rw [if_pos hj, Res.bind_ok]
  show lcGo (.rng 0 1 j.toNat) (g_nm i) n_yes me ih1.length (wipeI env vs) (j.toNat + 1) 0 (ih1 ++ [.lst []]) = _
  obtain ⟨acc', ih', e1, e2, e3⟩ := lcGo_ind (s := .rng 0 1 j.toNat) (g := g_nm i) (n := n_yes) (me := me) (d := ih1.length) (env := wipeI env vs) j.toNat (fun k acc ih => acc = (List.range k).map F ∧ ih = ih1 ++ [.lst acc])
    (fun k acc ih hk ⟨ha, hi⟩ hd => by
      subst hi
      have e0 : (0 : Int) + (k : Int) * 1 = (k : Int) := by omega
      refine ⟨.int (k : Int), _, _, true, _, by rw [turn_rng hk, e0], rfl, rfl, (fun hb => nomatch hb), fun _ => ⟨_, _, he k (by omega) _ (Ext.app _ _), hd, ?_, ?_, ?_⟩⟩
      · rw [ha, List.length_map, List.length_range]
        omega
      · rw [ha, List.range_succ, List.map_append]
        rfl
      · rw [set_append_last])
    (fun acc ih _ hd => stop_rng) (j.toNat + 1) 0 [] (ih1 ++ [.lst []]) (Nat.zero_le _) (by omega) ⟨by simp, rfl⟩ (get_new _ _)
  rw [e1]
  obtain ⟨h1, h2⟩ := e3
  rw [h2, h1]
theorem ExtP.of_set {a b : IH} {d : Nat} {o : MO} (h : Ext a b) (hd : a.length ≤ d) : Ext a (b.set d o) := fun n u e => by
  have := (List.getElem?_eq_some_iff.mp e).1
  rw [List.getElem?_set_ne (by omega)]
  exact h n u e
/-- [me for a, b in zip(xs, ys)]: the pairs stay behind -/
theorem lc_zip {vs : List Nat} {m : Env → IH → Res (List IV)} {i j : Nat} {me : Env → IH → Res IV} {env : Env} {ih ih1 : IH} {p q : Nat} {o u : MO} (F : IV → IV → IV) (hm : m env ih = .ok [.ref p, .ref q] ih1) (ho : ih1[p]? = some o) (hl : o.isL = true) (hu : ih1[q]? = some u) (hl2 : u.isL = true) (hz : o.xs.length < 100000)
    (he : ∀ (k : Nat) (x y : IV), o.xs[k]? = some x → u.xs[k]? = some y → ∀ ih', Ext ih1 ih' → me (((wipeI env vs).set i (some x)).set j (some y)) ih' = .ok (F x y) ih') :
    ∃ ih', m_lc vs (mi_zip m) (g_tup 2 (g_cons (g_nm i) (g_cons (g_nm j) g_nil))) n_yes me env ih = .ok (.ref ih1.length) ih' ∧ Ext ih1 ih' ∧ ih'[ih1.length]? = some (.lst (List.zipWith F o.xs u.xs)) := by
  unfold m_lc mi_zip
  rw [hm, Res.bind_ok]
  dsimp only
  rw [lAt_of ho hl, lAt_of hu hl2]
  dsimp only
  rw [Res.bind_ok]
  have hs : (Src.zip p q).size ih1 = o.xs.length := by
    unfold Src.size
    dsimp only
    rw [ho]
  rw [hs]
  obtain ⟨acc', ih', e1, e2, e3⟩ := lcGo_ind (s := .zip p q) (g := g_tup 2 (g_cons (g_nm i) (g_cons (g_nm j) g_nil))) (n := n_yes) (me := me) (d := ih1.length) (env := wipeI env vs) (min o.xs.length u.xs.length) (fun k acc ih => acc = List.zipWith F (o.xs.take k) (u.xs.take k) ∧ Ext ih1 ih)
    (fun k acc ih hk ⟨ha, hi⟩ hd => by
      have hk1 : k < o.xs.length := by omega
      have hk2 : k < u.xs.length := by omega
      have hx : o.xs[k]? = some o.xs[k] := List.getElem?_eq_getElem hk1
      have hy : u.xs[k]? = some u.xs[k] := List.getElem?_eq_getElem hk2
      have e0 : Ext ih (ih ++ [.tup [o.xs[k], u.xs[k]]]) := Ext.app _ _
      refine ⟨.ref ih.length, _, _, true, _, turn_zip (hi _ _ ho) hl hx (hi _ _ hu) hl2 hy, ?_, rfl, (fun hb => nomatch hb), fun _ => ⟨_, _, he k _ _ hx hy _ (hi.trans e0), e0 _ _ hd, ?_, ?_, ?_⟩⟩
      · unfold g_tup
        dsimp only
        rw [get_new]
        rfl
      · rw [ha, List.length_zipWith, List.length_take, List.length_take]
        omega
      · have e3 : o.xs.take (k + 1) = o.xs.take k ++ [o.xs[k]] := by rw [List.take_add_one, hx]; rfl
        have e4 : u.xs.take (k + 1) = u.xs.take k ++ [u.xs[k]] := by rw [List.take_add_one, hy]; rfl
        rw [ha, e3, e4, List.zipWith_append (by rw [List.length_take, List.length_take]; omega)]
        rfl
      · exact ExtP.of_set (hi.trans e0) (Nat.le_refl _))
    (fun acc ih ⟨ha, hi⟩ hd => stop_zip (hi _ _ ho) hl (hi _ _ hu) hl2 (by omega))
    (o.xs.length + 1) 0 [] (ih1 ++ [.lst []]) (Nat.zero_le _) (by omega) ⟨by simp, Ext.app _ _⟩ (get_new _ _)
  refine ⟨ih', e1, e3.2, ?_⟩
  rw [e2, e3.1]
  congr 2
  exact (List.zipWith_eq_zipWith_take_min (f := F)).symm

/-! ### built-ins over lists -/
theorem a_ints {g : List Int → IH → Res IV} {n : Nat} {ih : IH} {o : MO} {ns : List Int} (h : ih[n]? = some o) (hl : o.isL = true) (hx : o.xs = ns.map IV.int) : f_ints g [.ref n] ih = g ns ih := by
  unfold f_ints
  dsimp only
  rw [h]
  dsimp only
  rw [if_pos hl, hx, ints?_map]
theorem a_bls {g : List Bool → IH → Res IV} {n : Nat} {ih : IH} {o : MO} {ns : List Bool} (h : ih[n]? = some o) (hl : o.isL = true) (hx : o.xs = ns.map IV.bl) : f_bls g [.ref n] ih = g ns ih := by
  unfold f_bls
  dsimp only
  rw [h]
  dsimp only
  rw [if_pos hl, hx, bls?_map]
theorem a_sum {n : Nat} {ih : IH} {o : MO} {ns : List Int} (h : ih[n]? = some o) (hl : o.isL = true) (hx : o.xs = ns.map IV.int) : f_sum [.ref n] ih = .ok (.int ns.sum) ih := a_ints h hl hx
theorem a_all {n : Nat} {ih : IH} {o : MO} {ns : List Bool} (h : ih[n]? = some o) (hl : o.isL = true) (hx : o.xs = ns.map IV.bl) : f_all [.ref n] ih = .ok (.bl (ns.all id)) ih := a_bls h hl hx
theorem a_any {n : Nat} {ih : IH} {o : MO} {ns : List Bool} (h : ih[n]? = some o) (hl : o.isL = true) (hx : o.xs = ns.map IV.bl) : f_any [.ref n] ih = .ok (.bl (ns.any id)) ih := a_bls h hl hx
theorem a_slL {n : Nat} {ih : IH} {xs : List IV} {lo hi : Option Int} (h : ih[n]? = some (.lst xs)) : f_sl (.ref n) lo hi ih = .ok (.ref ih.length) (ih ++ [.lst (cutI xs lo hi)]) := by
  unfold f_sl
  dsimp only
  rw [h]
theorem cutI_1 (xs : List IV) : cutI xs (some 1) none = xs.drop 1 := by
  unfold cutI
  rw [show HT.sIx xs.length 0 (some 1) = min 1 xs.length from HT.sIx_nat xs.length 0 1, HT.sIx_none]
  cases xs with
  | nil => rfl
  | cons x r =>
    rw [show min 1 (x :: r).length = 1 by rw [List.length_cons]; omega]
    show (List.take ((x :: r).length - 1) r) = r
    rw [List.length_cons, Nat.add_sub_cancel]
    exact List.take_length
/-! ### equal data -/
theorem Is.ext {a b : IH} (e : Ext a b) : ∀ (d : PyData) (v : IV), Is a v d → Is b v d := by
  intro d
  have both : (∀ (d : PyData) (v : IV), Is a v d → Is b v d) ∧ (∀ (ds : List PyData) (vs : List IV), IsAll a vs ds → IsAll b vs ds) := by
    constructor
    · intro d v h
      exact Is.rec (motive_1 := fun v d _ => Is b v d) (motive_2 := fun vs ds _ => IsAll b vs ds) .non .bl .int .str (fun h1 h2 _ h3 => .lst (e _ _ h1) h2 h3) (fun h1 h2 _ h3 => .tup (e _ _ h1) h2 h3) .nil (fun _ _ h1 h2 => .cons h1 h2) h
    · intro ds vs h
      exact IsAll.rec (motive_1 := fun v d _ => Is b v d) (motive_2 := fun vs ds _ => IsAll b vs ds) .non .bl .int .str (fun h1 h2 _ h3 => .lst (e _ _ h1) h2 h3) (fun h1 h2 _ h3 => .tup (e _ _ h1) h2 h3) .nil (fun _ _ h1 h2 => .cons h1 h2) h
  exact both.1 d
theorem IsAll.ints (ih : IH) : ∀ ns : List Int, IsAll ih (ns.map IV.int) (ns.map PyData.int)
  | [] => .nil
  | n :: r => .cons (.int n) (IsAll.ints ih r)
theorem Is.ints {ih : IH} {n : Nat} {o : MO} {ns : List Int} (h : ih[n]? = some o) (hl : o.isL = true) (hx : o.xs = ns.map IV.int) : Is ih (.ref n) (.list (ns.map .int)) := .lst h hl (hx ▸ IsAll.ints ih ns)
theorem shaped_int (i : Int) : SeqAt.shaped (.int i) = true := by
  unfold SeqAt.shaped
  simp [PyData.canLay0, PyData.depth]
theorem canLay_ints : ∀ ns : List Int, PyData.canLayAll0 (ns.map PyData.int) = true
  | [] => by simp [PyData.canLayAll0]
  | n :: r => by
    rw [List.map_cons]
    simp [PyData.canLayAll0, PyData.canLay0, canLay_ints r]
theorem depth_ints : ∀ ns : List Int, PyData.depthAll (ns.map PyData.int) = 0
  | [] => by simp [PyData.depthAll]
  | n :: r => by
    rw [List.map_cons]
    simp [PyData.depthAll, PyData.depth, depth_ints r]
theorem shaped_ints (ns : List Int) : SeqAt.shaped (.list (ns.map .int)) = true := by
  unfold SeqAt.shaped
  simp [PyData.canLay0, PyData.depth, canLay_ints, depth_ints]
theorem eqv_ints : ∀ ns ms : List Int, PyData.eqvAll (ns.map .int) (ms.map .int) = decide (ns = ms)
  | [], [] => by simp [PyData.eqvAll]
  | [], _ :: _ => by simp [PyData.eqvAll]
  | _ :: _, [] => by simp [PyData.eqvAll]
  | n :: r, m :: s => by
    rw [List.map_cons, List.map_cons]
    simp only [PyData.eqvAll, PyData.eqv, eqv_ints r s]
    by_cases h : n = m
    · subst h
      simp
    · simp [h]
theorem eqv_list (ns ms : List Int) : PyData.eqv (.list (ns.map .int)) (.list (ms.map .int)) = decide (ns = ms) := by
  simp only [PyData.eqv, eqv_ints]
theorem eqv_same {d : PyData} (h : SeqAt.shaped d = true) : PyData.eqv d d = true := by
  unfold SeqAt.shaped at h
  rw [Bool.and_eq_true] at h
  exact PySem.SeqAt.eqv_refl d h.1
theorem a_eq_int {i j : Int} {ih : IH} : f_eq (.int i) (.int j) ih = .ok (.bl (decide (i = j))) ih := by
  rw [f_eq_of (.int i) (.int j) (shaped_int i) (shaped_int j)]
  simp only [PyData.eqv]
  rfl
theorem a_ne_int {i j : Int} {ih : IH} : f_ne (.int i) (.int j) ih = .ok (.bl (!decide (i = j))) ih := by
  rw [f_ne_of (.int i) (.int j) (shaped_int i) (shaped_int j)]
  simp only [PyData.eqv]
  rfl
/-- equal things: != is False, == is True -/
theorem a_ne_same {x y : IV} {ih : IH} {d : PyData} (h1 : Is ih x d) (h2 : Is ih y d) (s : SeqAt.shaped d = true) : f_ne x y ih = .ok (.bl false) ih := by
  rw [f_ne_of h1 h2 s s, eqv_same s]
  rfl
theorem a_eq_same {x y : IV} {ih : IH} {d : PyData} (h1 : Is ih x d) (h2 : Is ih y d) (s : SeqAt.shaped d = true) : f_eq x y ih = .ok (.bl true) ih := by
  rw [f_eq_of h1 h2 s s, eqv_same s]
end L3
/-! L7: mirrors, run backwards: what is wanted behind a mirror. -/
namespace L3
open PySem PySem.Spec PyProof.Rows L2

abbrev PQ (α : Type) := α → IH → Prop
abbrev EQ := Addr → IH → Prop
abbrev SQ := Fl → IH → Prop
abbrev ES := Addr → Env → IH → Prop
def wp {α : Type} (r : Res α) (Q : PQ α) (E : EQ) : Prop := match r with
  | .ok v ih => Q v ih
  | .exc c ih => E c ih
  | .stuck => False
def ws (r : RS) (Q : SQ) (E : ES) : Prop := match r with
  | .ok f ih => Q f ih
  | .exc c env ih => E c env ih
  | .stuck => False
def E0 : EQ := fun _ _ => False
def S0 : ES := fun _ _ _ => False
def kE (E : ES) (env : Env) : EQ := fun c ih => E c env ih
section
variable {α β : Type} {v : α} {ih : IH} {Q Q' : PQ α} {E E' : EQ} {c : Addr} {r : Res α} {env : Env} {f : Fl} {S : SQ} {F : ES}
theorem wp_ok : wp (.ok v ih) Q E = Q v ih := rfl
theorem wp_exc : wp (.exc c ih) Q E = E c ih := rfl
theorem wp_stuck : wp (.stuck) Q E = False := rfl
theorem ws_ok : ws (.ok f ih) S F = S f ih := rfl
theorem ws_exc : ws (.exc c env ih) S F = F c env ih := rfl
theorem ws_stuck : ws .stuck S F = False := rfl
theorem wp.imp (h : wp r Q E) (q : ∀ v ih, Q v ih → Q' v ih) (e : ∀ c ih, E c ih → E' c ih) : wp r Q' E' := by
  cases r with
  | ok v ih => exact q _ _ h
  | exc c ih => exact e _ _ h
  | stuck => exact h
theorem ws.imp {r : RS} {S' : SQ} {F' : ES} (h : ws r S F) (q : ∀ v ih, S v ih → S' v ih) (e : ∀ c env ih, F c env ih → F' c env ih) : ws r S' F' := by
  cases r with
  | ok v ih => exact q _ _ h
  | exc c env ih => exact e _ _ _ h
  | stuck => exact h
theorem wp_bind {r : Res α} {k : α → IH → Res β} {Q : PQ β} : wp (r.bind k) Q E = wp r (fun v ih => wp (k v ih) Q E) E := by
  cases r <;> rfl
theorem ws_stm {r : Res α} {k : α → IH → RS} : ws (r.stm env k) S F = wp r (fun v ih => ws (k v ih) S F) (kE F env) := by
  cases r <;> rfl
/-- an outcome -/
theorem wp.out (h : wp r Q E0) : ∃ v ih', r = .ok v ih' ∧ Q v ih' := by
  cases r with
  | ok v ih => exact ⟨v, ih, rfl, h⟩
  | exc c ih => exact h.elim
  | stuck => exact h.elim
theorem wp.eq {a : α} {b : IH} (h : wp r (fun v ih' => v = a ∧ ih' = b) E0) : r = .ok a b := by
  obtain ⟨v, ih', e, rfl, rfl⟩ := h.out
  exact e
theorem wp.of {a : α} {b : IH} (h : r = .ok a b) (q : Q a b) : wp r Q E := by
  rw [h]
  exact q
theorem ws.out {r : RS} (h : ws r S S0) : ∃ f ih', r = .ok f ih' ∧ S f ih' := by
  cases r with
  | ok v ih => exact ⟨v, ih, rfl, h⟩
  | exc c env ih => exact h.elim
  | stuck => exact h.elim
end

/-! ### what is left, as constants -/
section
variable {α β γ : Type}
def k_un (f : α → IH → Res β) (Q : PQ β) (E : EQ) : PQ α := fun x ih => wp (f x ih) Q E
def k_op (f : IV → IV → IH → Res IV) (mb : Env → IH → Res IV) (env : Env) (Q : PQ IV) (E : EQ) : PQ IV := fun x ih => wp (mb env ih) (k_un (f x) Q E) E
def k_cons2 (x : IV) (Q : PQ (List IV)) : PQ (List IV) := fun xs ih => Q (x :: xs) ih
def k_cons (mr : Env → IH → Res (List IV)) (env : Env) (Q : PQ (List IV)) (E : EQ) : PQ IV := fun x ih => wp (mr env ih) (k_cons2 x Q) E
def k_if (ma mb : Env → IH → Res α) (env : Env) (Q : PQ α) (E : EQ) : PQ Bool := fun b ih => if b = true then wp (ma env ih) Q E else wp (mb env ih) Q E
def k_and (mb : Env → IH → Res Bool) (env : Env) (Q : PQ Bool) (E : EQ) : PQ Bool := fun b ih => if b = true then wp (mb env ih) Q E else Q false ih
def k_or (mb : Env → IH → Res Bool) (env : Env) (Q : PQ Bool) (E : EQ) : PQ Bool := fun b ih => if b = true then Q true ih else wp (mb env ih) Q E
def k_not (Q : PQ Bool) : PQ Bool := fun b ih => Q (!b) ih
def k_tb (Q : PQ Bool) : PQ IV := fun v ih => match v with
  | .bl b => Q b ih
  | _ => False
def k_andV (mb : Env → IH → Res IV) (env : Env) (Q : PQ IV) (E : EQ) : PQ Bool := fun b ih => if b = true then wp (mb env ih) Q E else Q (.bl false) ih
def k_orV (mb : Env → IH → Res IV) (env : Env) (Q : PQ IV) (E : EQ) : PQ Bool := fun b ih => if b = true then Q (.bl true) ih else wp (mb env ih) Q E
def k_notV (Q : PQ IV) : PQ Bool := fun b ih => Q (.bl !b) ih
def k_some (Q : PQ (Option Int)) : PQ IV := fun v ih => match v with
  | .int i => Q (some i) ih
  | _ => False
def k_sl3 (x : IV) (l : Option Int) (Q : PQ IV) (E : EQ) : PQ (Option Int) := fun h ih => wp (f_sl x l h ih) Q E
def k_sl2 (x : IV) (mh : Env → IH → Res (Option Int)) (env : Env) (Q : PQ IV) (E : EQ) : PQ (Option Int) := fun l ih => wp (mh env ih) (k_sl3 x l Q E) E
def k_sl (ml mh : Env → IH → Res (Option Int)) (env : Env) (Q : PQ IV) (E : EQ) : PQ IV := fun x ih => wp (ml env ih) (k_sl2 x mh env Q E) E
def k_mL2 (f : IV → List IV → IH → Res IV) (x : IV) (Q : PQ IV) (E : EQ) : PQ (List IV) := fun xs ih => wp (f x xs ih) Q E
def k_mL (f : IV → List IV → IH → Res IV) (mr : Env → IH → Res (List IV)) (env : Env) (Q : PQ IV) (E : EQ) : PQ IV := fun x ih => isLst x ih = true ∧ wp (mr env ih) (k_mL2 f x Q E) E
def k_mL0 (f : IV → List IV → IH → Res IV) (Q : PQ IV) (E : EQ) : PQ IV := fun x ih => isLst x ih = true ∧ wp (f x [] ih) Q E
def k_ch3 (g : IV → IV → IH → Res IV) (y : IV) (mc : Env → IH → Res IV) (env : Env) (Q : PQ IV) (E : EQ) : PQ Bool := fun k ih => if k = true then wp (mc env ih) (k_un (g y) Q E) E else Q (.bl false) ih
def k_ch2 (f g : IV → IV → IH → Res IV) (x : IV) (mc : Env → IH → Res IV) (env : Env) (Q : PQ IV) (E : EQ) : PQ IV := fun y ih => wp (f x y ih) (k_tb (k_ch3 g y mc env Q E)) E
def k_ch (f g : IV → IV → IH → Res IV) (mb mc : Env → IH → Res IV) (env : Env) (Q : PQ IV) (E : EQ) : PQ IV := fun x ih => wp (mb env ih) (k_ch2 f g x mc env Q E) E
def ks_set (g : IV → Env → IH → Option Env) (env : Env) (S : SQ) : PQ IV := fun v ih => match g v env ih with
  | some env' => S (.next env') ih
  | none => False
def ks_expr (env : Env) (S : SQ) : PQ IV := fun _ ih => S (.next env) ih
def ks_ret (S : SQ) : PQ IV := fun v ih => S (.ret v) ih
def ks_if (ma mb : Env → IH → RS) (env : Env) (S : SQ) (F : ES) : PQ Bool := fun b ih => if b = true then ws (ma env ih) S F else ws (mb env ih) S F
def ks_seq (mb : Env → IH → RS) (S : SQ) (F : ES) : SQ := fun f ih => match f with
  | .next env => ws (mb env ih) S F
  | z => S z ih
def ks_aug2 (i : Nat) (env : Env) (S : SQ) : PQ IV := fun z ih => S (.next (env.set i (some z))) ih
def ks_aug (i : Nat) (f : IV → IV → IH → Res IV) (x : IV) (env : Env) (S : SQ) (F : ES) : PQ IV := fun y ih => wp (f x y ih) (ks_aug2 i env S) (kE F env)
def ks_par (i j : Nat) (env : Env) (S : SQ) : PQ (List IV) := fun vs ih => match vs with
  | [v, w] => S (.next ((env.set i (some v)).set j (some w))) ih
  | _ => False
def ks_sl4 (o i v : IV) (env : Env) (S : SQ) (ih : IH) : Prop := match f_setL o i v ih with
  | some ih4 => S (.next env) ih4
  | none => False
def ks_sl3 (v o : IV) (env : Env) (S : SQ) : PQ IV := fun i ih => ks_sl4 o i v env S ih
def ks_sl2 (v : IV) (mi : Env → IH → Res IV) (env : Env) (S : SQ) (F : ES) : PQ IV := fun o ih => wp (mi env ih) (ks_sl3 v o env S) (kE F env)
def ks_sl (mo mi : Env → IH → Res IV) (env : Env) (S : SQ) (F : ES) : PQ IV := fun v ih => wp (mo env ih) (ks_sl2 v mi env S F) (kE F env)
def kd (Q : PQ IV) : SQ := fun f ih => match f with
  | .ret v => Q v ih
  | .next _ => Q .non ih
  | _ => False
def kdE (E : EQ) : ES := fun c _ ih => E c ih
/-- of a source: the loop -/
def ks_for (g : IV → Env → IH → Option Env) (mb : Env → IH → RS) (env : Env) (S : SQ) (F : ES) : PQ Src := fun s ih => ws (forGo s g mb (s.size ih + 1) 0 env ih) S F
def k_lc (vs : List Nat) (g : IV → Env → IH → Option Env) (n : Env → IH → Res Bool) (me : Env → IH → Res IV) (env : Env) (Q : PQ IV) (E : EQ) : PQ Src := fun s ih => wp (lcGo s g n me ih.length (wipeI env vs) (s.size ih + 1) 0 (ih ++ [.lst []])) Q E
def k_r1 (Q : PQ Src) : PQ (List IV) := fun vs ih => match vs with
  | [.int j] => smallI j = true ∧ Q (.rng 0 1 j.toNat) ih
  | _ => False
def k_r2 (Q : PQ Src) : PQ (List IV) := fun vs ih => match vs with
  | [.int i, .int j] => (smallI i = true ∧ smallI j = true) ∧ Q (.rng i 1 (j - i).toNat) ih
  | _ => False
def k_il2 (n : Nat) (Q : PQ Src) (ih : IH) : Option (List IV) → Prop
  | some _ => Q (.lst n) ih
  | none => False
def k_il (Q : PQ Src) : PQ IV := fun v ih => match v with
  | .ref n => k_il2 n Q ih (lAt ih n true)
  | _ => False
def k_it2 (n : Nat) (Q : PQ Src) (ih : IH) : Option (List IV) → Prop
  | some _ => Q (.tup n) ih
  | none => False
def k_it (Q : PQ Src) : PQ IV := fun v ih => match v with
  | .ref n => k_it2 n Q ih (lAt ih n false)
  | _ => False
def k_ie2 (n : Nat) (Q : PQ Src) (ih : IH) : Option (List IV) → Prop
  | some _ => Q (.enm n) ih
  | none => False
def k_ie (Q : PQ Src) : PQ (List IV) := fun v ih => match v with
  | [.ref n] => k_ie2 n Q ih (lAt ih n true)
  | _ => False
def k_iz2 (n k : Nat) (Q : PQ Src) (ih : IH) : Option (List IV) → Option (List IV) → Prop
  | some _, some _ => Q (.zip n k) ih
  | _, _ => False
def k_iz (Q : PQ Src) : PQ (List IV) := fun v ih => match v with
  | [.ref n, .ref k] => k_iz2 n k Q ih (lAt ih n true) (lAt ih k true)
  | _ => False
/-- reading at a place -/
def k_ix2 (Q : PQ IV) (ih : IH) : Option IV → Prop
  | some v => Q v ih
  | none => False
def k_ix (i : Int) (Q : PQ IV) (ih : IH) : Option MO → Prop
  | some o => k_ix2 Q ih (atI o.xs i)
  | none => False
def k_len (Q : PQ IV) (ih : IH) : Option MO → Prop
  | some .dct => False
  | some (.dk _) => False
  | some .clo => False
  | some o => Q (.int o.xs.length) ih
  | none => False
def k_app1 (n : Nat) (y : IV) (Q : PQ IV) (ih : IH) : Option MO → Prop
  | some (.lst xs) => xs.length < 100000 ∧ Q .non (ih.set n (.lst (xs ++ [y])))
  | _ => False
def k_setL (n : Nat) (i : Int) (v : IV) (env : Env) (S : SQ) (ih : IH) : Option MO → Prop
  | some (.lst xs) => match ixN xs.length i with
    | some j => S (.next env) (ih.set n (.lst (xs.set j v)))
    | none => False
  | _ => False
end

/-! ### the steps -/
section
variable {α β : Type} {ma mb mc mr2 : Env → IH → Res IV} {mt nb : Env → IH → Res Bool} {mr : Env → IH → Res (List IV)} {ml mh : Env → IH → Res (Option Int)} {sa sb : Env → IH → RS} {env env' : Env} {ih ih' : IH} {Q : PQ IV} {QB : PQ Bool} {QL : PQ (List IV)} {QO : PQ (Option Int)} {QS : PQ Src} {E : EQ} {S : SQ} {F : ES} {f g : IV → IV → IH → Res IV} {x y v w : IV} {xs : List IV} {i j : Int} {n m : Nat} {b : Bool} {p q : Prop} {o : MO} {c : Addr}
theorem wp_op : wp (m_op f ma mb env ih) Q E = wp (ma env ih) (k_op f mb env Q E) E := by
  unfold m_op
  rw [wp_bind]
  simp only [wp_bind]
  rfl
theorem kk_op : k_op f mb env Q E x ih = wp (mb env ih) (k_un (f x) Q E) E := rfl
theorem kk_un {f : α → IH → Res β} {Q : PQ β} {x : α} : k_un f Q E x ih = wp (f x ih) Q E := rfl
theorem wp_un {f : IV → IH → Res IV} : wp (m_un f ma env ih) Q E = wp (ma env ih) (k_un f Q E) E := by
  unfold m_un
  rw [wp_bind]
  rfl
theorem wp_cons : wp (m_cons ma mr env ih) QL E = wp (ma env ih) (k_cons mr env QL E) E := by
  unfold m_cons
  rw [wp_bind]
  simp only [wp_bind]
  rfl
theorem kk_cons : k_cons mr env QL E x ih = wp (mr env ih) (k_cons2 x QL) E := rfl
theorem kk_cons2 : k_cons2 x QL xs ih = QL (x :: xs) ih := rfl
theorem wp_nil : wp (m_nil env ih) QL E = QL [] ih := rfl
theorem wp_c : wp (m_c v env ih) Q E = Q v ih := rfl
theorem wp_app {f : List IV → IH → Res IV} : wp (m_app f mr env ih) Q E = wp (mr env ih) (k_un f Q E) E := by
  unfold m_app
  rw [wp_bind]
  rfl
theorem wp_if : wp (m_if mt ma mb env ih) Q E = wp (mt env ih) (k_if ma mb env Q E) E := by
  unfold m_if
  rw [wp_bind]
  congr 1
  funext b ih
  cases b <;> rfl
theorem kk_if1 {ma mb : Env → IH → Res α} {Q : PQ α} : k_if ma mb env Q E true ih = wp (ma env ih) Q E := rfl
theorem kk_if0 {ma mb : Env → IH → Res α} {Q : PQ α} : k_if ma mb env Q E false ih = wp (mb env ih) Q E := rfl
theorem wp_and : wp (m_and mt nb env ih) QB E = wp (mt env ih) (k_and nb env QB E) E := by
  unfold m_and
  rw [wp_bind]
  congr 1
  funext b ih
  cases b <;> rfl
theorem kk_and1 : k_and nb env QB E true ih = wp (nb env ih) QB E := rfl
theorem kk_and0 : k_and nb env QB E false ih = QB false ih := rfl
theorem wp_or : wp (m_or mt nb env ih) QB E = wp (mt env ih) (k_or nb env QB E) E := by
  unfold m_or
  rw [wp_bind]
  congr 1
  funext b ih
  cases b <;> rfl
theorem kk_or1 : k_or nb env QB E true ih = QB true ih := rfl
theorem kk_or0 : k_or nb env QB E false ih = wp (nb env ih) QB E := rfl
theorem wp_not : wp (m_not mt env ih) QB E = wp (mt env ih) (k_not QB) E := by
  unfold m_not
  rw [wp_bind]
  rfl
theorem kk_not : k_not QB b ih = QB (!b) ih := rfl
theorem wp_tb : wp (m_tb ma env ih) QB E = wp (ma env ih) (k_tb QB) E := by
  unfold m_tb
  rw [wp_bind]
  congr 1
  funext v ih
  cases v <;> rfl
theorem kk_tb : k_tb QB (.bl b) ih = QB b ih := rfl
theorem wp_andV : wp (m_andV ma mb env ih) Q E = wp (ma env ih) (k_tb (k_andV mb env Q E)) E := by
  unfold m_andV
  rw [wp_bind]
  congr 1
  funext v ih
  cases v with
  | bl b => cases b <;> rfl
  | _ => rfl
theorem kk_andV1 : k_andV mb env Q E true ih = wp (mb env ih) Q E := rfl
theorem kk_andV0 : k_andV mb env Q E false ih = Q (.bl false) ih := rfl
theorem wp_orV : wp (m_orV ma mb env ih) Q E = wp (ma env ih) (k_tb (k_orV mb env Q E)) E := by
  unfold m_orV
  rw [wp_bind]
  congr 1
  funext v ih
  cases v with
  | bl b => cases b <;> rfl
  | _ => rfl
theorem kk_orV1 : k_orV mb env Q E true ih = Q (.bl true) ih := rfl
theorem kk_orV0 : k_orV mb env Q E false ih = wp (mb env ih) Q E := rfl
theorem wp_notV : wp (m_notV ma env ih) Q E = wp (ma env ih) (k_tb (k_notV Q)) E := by
  unfold m_notV
  rw [wp_bind]
  congr 1
  funext v ih
  cases v <;> rfl
theorem kk_notV : k_notV Q b ih = Q (.bl !b) ih := rfl
theorem wp_noneS : wp (m_none env ih) QO E = QO none ih := rfl
theorem wp_some : wp (m_some ma env ih) QO E = wp (ma env ih) (k_some QO) E := by
  unfold m_some
  rw [wp_bind]
  congr 1
  funext v ih
  cases v <;> rfl
theorem kk_some : k_some QO (.int i) ih = QO (some i) ih := rfl
theorem wp_sl : wp (m_sl ma ml mh env ih) Q E = wp (ma env ih) (k_sl ml mh env Q E) E := by
  unfold m_sl
  rw [wp_bind]
  simp only [wp_bind]
  rfl
theorem kk_sl : k_sl ml mh env Q E x ih = wp (ml env ih) (k_sl2 x mh env Q E) E := rfl
theorem kk_sl2 {l : Option Int} : k_sl2 x mh env Q E l ih = wp (mh env ih) (k_sl3 x l Q E) E := rfl
theorem kk_sl3 {l h : Option Int} : k_sl3 x l Q E h ih = wp (f_sl x l h ih) Q E := rfl
theorem wp_mL {f : IV → List IV → IH → Res IV} : wp (m_mL f ma mr env ih) Q E = wp (ma env ih) (k_mL f mr env Q E) E := by
  unfold m_mL
  rw [wp_bind]
  congr 1
  funext v ih
  unfold k_mL
  by_cases h : isLst v ih = true
  · rw [if_pos h, wp_bind, eq_true h, true_and]
    rfl
  · rw [if_neg h, eq_false h, false_and]
    rfl
theorem kk_mL {f : IV → List IV → IH → Res IV} : k_mL f mr env Q E x ih = (isLst x ih = true ∧ wp (mr env ih) (k_mL2 f x Q E) E) := rfl
theorem kk_mL2 {f : IV → List IV → IH → Res IV} : k_mL2 f x Q E xs ih = wp (f x xs ih) Q E := rfl
theorem wp_mL0 {f : IV → List IV → IH → Res IV} : wp (m_mL0 f ma env ih) Q E = wp (ma env ih) (k_mL0 f Q E) E := by
  unfold m_mL0
  rw [wp_bind]
  congr 1
  funext v ih
  unfold k_mL0
  by_cases h : isLst v ih = true
  · rw [if_pos h, eq_true h, true_and]
  · rw [if_neg h, eq_false h, false_and]
    rfl
theorem kk_mL0 {f : IV → List IV → IH → Res IV} : k_mL0 f Q E x ih = (isLst x ih = true ∧ wp (f x [] ih) Q E) := rfl
theorem wp_chain : wp (m_chain f g ma mb mc env ih) Q E = wp (ma env ih) (k_ch f g mb mc env Q E) E := by
  unfold m_chain
  rw [wp_bind]
  congr 1
  funext x ih
  rw [wp_bind]
  unfold k_ch
  congr 1
  funext y ih
  rw [wp_bind]
  unfold k_ch2
  congr 1
  funext z ih
  cases z with
  | bl k =>
    cases k with
    | true =>
      show wp (if true = true then (mc env ih).bind _ else _) Q E = _
      rw [if_pos rfl, wp_bind]
      rfl
    | false => rfl
  | _ => rfl
theorem kk_ch : k_ch f g mb mc env Q E x ih = wp (mb env ih) (k_ch2 f g x mc env Q E) E := rfl
theorem kk_ch2 : k_ch2 f g x mc env Q E y ih = wp (f x y ih) (k_tb (k_ch3 g y mc env Q E)) E := rfl
theorem kk_ch31 : k_ch3 g y mc env Q E true ih = wp (mc env ih) (k_un (g y) Q E) E := rfl
theorem kk_ch30 : k_ch3 g y mc env Q E false ih = Q (.bl false) ih := rfl
-- statements
theorem ws_set {g : IV → Env → IH → Option Env} : ws (ms_set g ma env ih) S F = wp (ma env ih) (ks_set g env S) (kE F env) := by
  unfold ms_set
  rw [ws_stm]
  congr 1
  funext v ih
  unfold ks_set
  cases g v env ih <;> rfl
theorem kks_nm : ks_set (g_nm n) env S v ih = S (.next (env.set n (some v))) ih := rfl
def ks_g (S : SQ) (ih : IH) : Option Env → Prop
  | some env => S (.next env) ih
  | none => False
theorem kks_g {S : SQ} {env : Env} : ks_g S ih (some env) = S (.next env) ih := rfl
theorem kks_tup {f : List IV → Env → IH → Option Env} : ks_set (g_tup n f) env S v ih = ks_g S ih (g_tup n f v env ih) := by
  unfold ks_set
  cases g_tup n f v env ih <;> rfl
theorem kks_lst {f : List IV → Env → IH → Option Env} : ks_set (g_lst n f) env S v ih = ks_g S ih (g_lst n f v env ih) := by
  unfold ks_set
  cases g_lst n f v env ih <;> rfl
theorem ws_expr : ws (ms_expr ma env ih) S F = wp (ma env ih) (ks_expr env S) (kE F env) := by
  unfold ms_expr
  rw [ws_stm]
  rfl
theorem kks_expr : ks_expr env S v ih = S (.next env) ih := rfl
theorem ws_ret : ws (ms_ret ma env ih) S F = wp (ma env ih) (ks_ret S) (kE F env) := by
  unfold ms_ret
  rw [ws_stm]
  rfl
theorem kks_ret : ks_ret S v ih = S (.ret v) ih := rfl
theorem ws_retN : ws (ms_retN env ih) S F = S (.ret .non) ih := rfl
theorem ws_pass : ws (ms_pass env ih) S F = S (.next env) ih := rfl
theorem ws_brk : ws (ms_brk env ih) S F = S (.brk env) ih := rfl
theorem ws_cont : ws (ms_cont env ih) S F = S (.cont env) ih := rfl
theorem ws_raise : ws (ms_raise c env ih) S F = F c env ih := rfl
theorem ws_if : ws (ms_if mt sa sb env ih) S F = wp (mt env ih) (ks_if sa sb env S F) (kE F env) := by
  unfold ms_if
  rw [ws_stm]
  congr 1
  funext b ih
  cases b <;> rfl
theorem kks_if1 : ks_if sa sb env S F true ih = ws (sa env ih) S F := rfl
theorem kks_if0 : ks_if sa sb env S F false ih = ws (sb env ih) S F := rfl
theorem ws_seq : ws (ms_seq sa sb env ih) S F = ws (sa env ih) (ks_seq sb S F) F := by
  unfold ms_seq
  cases sa env ih with
  | ok f ih =>
    cases f <;> rfl
  | exc c env ih => rfl
  | stuck => rfl
theorem kks_next : ks_seq sb S F (.next env) ih = ws (sb env ih) S F := rfl
theorem kks_retS : ks_seq sb S F (.ret v) ih = S (.ret v) ih := rfl
theorem kks_brk : ks_seq sb S F (.brk env) ih = S (.brk env) ih := rfl
theorem kks_cont : ks_seq sb S F (.cont env) ih = S (.cont env) ih := rfl
def k_augE (i : Nat) (f : IV → IV → IH → Res IV) (m : Env → IH → Res IV) (env : Env) (ih : IH) (S : SQ) (F : ES) : Option (Option IV) → Prop
  | some (some x) => wp (m env ih) (ks_aug i f x env S F) (kE F env)
  | _ => False
theorem kk_augE : k_augE n f ma env ih S F (some (some x)) = wp (ma env ih) (ks_aug n f x env S F) (kE F env) := rfl
theorem ws_aug : ws (ms_aug n f ma env ih) S F = k_augE n f ma env ih S F env[n]? := by
  unfold ms_aug
  cases e : env[n]? with
  | none => rfl
  | some a =>
    cases a with
    | none => rfl
    | some x =>
      show ws ((ma env ih).stm env _) S F = _
      rw [ws_stm]
      simp only [ws_stm]
      rfl
theorem kks_aug : ks_aug n f x env S F y ih = wp (f x y ih) (ks_aug2 n env S) (kE F env) := rfl
theorem kks_aug2 : ks_aug2 n env S v ih = S (.next (env.set n (some v))) ih := rfl
theorem ws_par : ws (ms_par n m mr env ih) S F = wp (mr env ih) (ks_par n m env S) (kE F env) := by
  unfold ms_par
  rw [ws_stm]
  congr 1
  funext vs ih
  rcases vs with _ | ⟨a, _ | ⟨z, _ | ⟨y, r⟩⟩⟩ <;> rfl
theorem kks_par : ks_par n m env S [v, w] ih = S (.next ((env.set n (some v)).set m (some w))) ih := rfl
theorem ws_setL {m mo mi : Env → IH → Res IV} : ws (ms_setL m mo mi env ih) S F = wp (m env ih) (ks_sl mo mi env S F) (kE F env) := by
  unfold ms_setL
  rw [ws_stm]
  congr 1
  funext v ih
  rw [ws_stm]
  unfold ks_sl
  congr 1
  funext o ih
  rw [ws_stm]
  unfold ks_sl2
  congr 1
  funext i ih
  unfold ks_sl3 ks_sl4
  cases f_setL o i v ih <;> rfl
theorem kks_sl {mo mi : Env → IH → Res IV} : ks_sl mo mi env S F v ih = wp (mo env ih) (ks_sl2 v mi env S F) (kE F env) := rfl
theorem kks_sl2 {mi : Env → IH → Res IV} : ks_sl2 v mi env S F w ih = wp (mi env ih) (ks_sl3 v w env S) (kE F env) := rfl
theorem kks_sl3 : ks_sl3 v (.ref n) env S (.int i) ih = k_setL n i v env S ih ih[n]? := by
  unfold ks_sl3 ks_sl4 f_setL k_setL
  dsimp only
  cases ih[n]? with
  | none => rfl
  | some o =>
    cases o with
    | lst xs =>
      dsimp only
      cases ixN xs.length i <;> rfl
    | _ => rfl
theorem kk_setL : k_setL n i v env S ih (some (.lst xs)) = k_setL n i v env S ih (some (.lst xs)) := rfl
theorem wp_def {sm : Env → IH → RS} : wp (defRun n sm xs ih) Q E = ws (sm (startI n xs) ih) (kd Q) (kdE E) := by
  unfold defRun
  cases sm (startI n xs) ih with
  | ok f ih =>
    cases f <;> rfl
  | exc c env ih => rfl
  | stuck => rfl
theorem kkd_ret : kd Q (.ret v) ih = Q v ih := rfl
theorem kkd_next : kd Q (.next env) ih = Q .non ih := rfl
theorem kkdE : kdE E c env ih = E c ih := rfl
theorem kkE : kE F env c ih = F c env ih := rfl
-- loops
theorem ws_for {mi : Env → IH → Res Src} {g : IV → Env → IH → Option Env} : ws (ms_for mi g sa env ih) S F = wp (mi env ih) (ks_for g sa env S F) (kE F env) := by
  unfold ms_for
  rw [ws_stm]
  rfl
theorem wp_lc {vs : List Nat} {mi : Env → IH → Res Src} {g : IV → Env → IH → Option Env} : wp (m_lc vs mi g mt ma env ih) Q E = wp (mi env ih) (k_lc vs g mt ma env Q E) E := by
  unfold m_lc
  rw [wp_bind]
  rfl
theorem wp_r1 : wp (mi_rng1 mr env ih) QS E = wp (mr env ih) (k_r1 QS) E := by
  unfold mi_rng1
  rw [wp_bind]
  congr 1
  funext vs ih
  rcases vs with _ | ⟨a, _ | ⟨z, r⟩⟩
  · rfl
  · cases a with
    | int j =>
      show wp (if smallI j = true then _ else _) QS E = (smallI j = true ∧ _)
      by_cases h : smallI j = true
      · rw [if_pos h, eq_true h, true_and]
        rfl
      · rw [if_neg h, eq_false h, false_and]
        rfl
    | _ => rfl
  · cases a <;> rfl
theorem kk_r1 : k_r1 QS [.int j] ih = (smallI j = true ∧ QS (.rng 0 1 j.toNat) ih) := rfl
theorem wp_r2 : wp (mi_rng2 mr env ih) QS E = wp (mr env ih) (k_r2 QS) E := by
  unfold mi_rng2
  rw [wp_bind]
  congr 1
  funext vs ih
  rcases vs with _ | ⟨a, _ | ⟨z, _ | ⟨y, r⟩⟩⟩
  · rfl
  · cases a <;> rfl
  · cases a with
    | int i =>
      cases z with
      | int j =>
        show wp (if smallI i = true ∧ smallI j = true then _ else _) QS E = ((smallI i = true ∧ smallI j = true) ∧ _)
        by_cases h : smallI i = true ∧ smallI j = true
        · rw [if_pos h, eq_true h, true_and]
          rfl
        · rw [if_neg h, eq_false h, false_and]
          rfl
      | _ => rfl
    | _ => rfl
  · cases a <;> cases z <;> rfl
theorem kk_r2 : k_r2 QS [.int i, .int j] ih = ((smallI i = true ∧ smallI j = true) ∧ QS (.rng i 1 (j - i).toNat) ih) := rfl
def k_r3 (Q : PQ Src) : PQ (List IV) := fun vs ih => match vs with
  | [.int i, .int j, .int k] => (k = -1 ∧ smallI i = true ∧ smallI j = true) ∧ Q (.rng i (-1) (i - j).toNat) ih
  | _ => False
theorem wp_r3 : wp (mi_rng3 mr env ih) QS E = wp (mr env ih) (k_r3 QS) E := by
  unfold mi_rng3
  rw [wp_bind]
  congr 1
  funext vs ih
  rcases vs with _ | ⟨a, _ | ⟨z, _ | ⟨y, _ | ⟨x, r⟩⟩⟩⟩
  · rfl
  · cases a <;> rfl
  · cases a <;> cases z <;> rfl
  · cases a with
    | int i =>
      cases z with
      | int j =>
        cases y with
        | int k =>
          show wp (if k = -1 ∧ smallI i = true ∧ smallI j = true then _ else _) QS E = ((k = -1 ∧ smallI i = true ∧ smallI j = true) ∧ _)
          by_cases h : k = -1 ∧ smallI i = true ∧ smallI j = true
          · rw [if_pos h, eq_true h, true_and]
            rfl
          · rw [if_neg h, eq_false h, false_and]
            rfl
        | _ => rfl
      | _ => rfl
    | _ => rfl
  · cases a <;> cases z <;> cases y <;> rfl
theorem kk_r3 {k : Int} : k_r3 QS [.int i, .int j, .int k] ih = ((k = -1 ∧ smallI i = true ∧ smallI j = true) ∧ ∀ n, n = (i - j).toNat → QS (.rng i (-1) n) ih) := by
  rw [forall_eq]
  rfl
theorem wp_il : wp (mi_lst ma env ih) QS E = wp (ma env ih) (k_il QS) E := by
  unfold mi_lst
  rw [wp_bind]
  congr 1
  funext v ih
  cases v with
  | ref n =>
    show wp (match lAt ih n true with
      | some _ => _
      | none => _) QS E = k_il2 n QS ih (lAt ih n true)
    cases lAt ih n true <;> rfl
  | _ => rfl
theorem wp_it : wp (mi_tup ma env ih) QS E = wp (ma env ih) (k_it QS) E := by
  unfold mi_tup
  rw [wp_bind]
  congr 1
  funext v ih
  cases v with
  | ref n =>
    show wp (match lAt ih n false with
      | some _ => _
      | none => _) QS E = k_it2 n QS ih (lAt ih n false)
    cases lAt ih n false <;> rfl
  | _ => rfl
theorem wp_ie : wp (mi_enm mr env ih) QS E = wp (mr env ih) (k_ie QS) E := by
  unfold mi_enm
  rw [wp_bind]
  congr 1
  funext v ih
  rcases v with _ | ⟨a, _ | ⟨z, r⟩⟩
  · rfl
  · cases a with
    | ref n =>
      show wp (match lAt ih n true with
        | some _ => _
        | none => _) QS E = k_ie2 n QS ih (lAt ih n true)
      cases lAt ih n true <;> rfl
    | _ => rfl
  · cases a <;> rfl
theorem wp_iz : wp (mi_zip mr env ih) QS E = wp (mr env ih) (k_iz QS) E := by
  unfold mi_zip
  rw [wp_bind]
  congr 1
  funext v ih
  rcases v with _ | ⟨a, _ | ⟨z, _ | ⟨y, r⟩⟩⟩
  · rfl
  · cases a <;> rfl
  · cases a with
    | ref n =>
      cases z with
      | ref k =>
        show wp (match lAt ih n true, lAt ih k true with
          | some _, some _ => _
          | _, _ => _) QS E = k_iz2 n k QS ih (lAt ih n true) (lAt ih k true)
        cases lAt ih n true <;> cases lAt ih k true <;> rfl
      | _ => rfl
    | _ => rfl
  · cases a <;> cases z <;> rfl
theorem kk_il : k_il QS (.ref n) ih = k_il2 n QS ih (lAt ih n true) := rfl
theorem kk_il2 : k_il2 n QS ih (some xs) = QS (.lst n) ih := rfl
theorem kk_it : k_it QS (.ref n) ih = k_it2 n QS ih (lAt ih n false) := rfl
theorem kk_it2 : k_it2 n QS ih (some xs) = QS (.tup n) ih := rfl
theorem kk_ie : k_ie QS [.ref n] ih = k_ie2 n QS ih (lAt ih n true) := rfl
theorem kk_ie2 : k_ie2 n QS ih (some xs) = QS (.enm n) ih := rfl
theorem kk_iz : k_iz QS [.ref n, .ref m] ih = k_iz2 n m QS ih (lAt ih n true) (lAt ih m true) := rfl
theorem kk_iz2 {ys : List IV} : k_iz2 n m QS ih (some xs) (some ys) = QS (.zip n m) ih := rfl
def k_lAt (l : Bool) : Option MO → Option (List IV)
  | some o => if o.isK l = true then some o.xs else none
  | none => none
theorem lAt_k {l : Bool} : lAt ih n l = k_lAt l ih[n]? := by
  unfold lAt k_lAt
  cases ih[n]? <;> rfl
theorem k_lAtL : k_lAt true (some (.lst xs)) = some xs := rfl
theorem k_lAtO : k_lAt true (some (.ro xs)) = some xs := rfl
theorem k_lAtT : k_lAt false (some (.tup xs)) = some xs := rfl
-- operations
theorem wp_int : wp (f_int [.int i] ih) Q E = Q (.int i) ih := rfl
theorem wp_add : wp (f_add (.int i) (.int j) ih) Q E = Q (.int (i + j)) ih := rfl
theorem wp_addI : wp (f_addI (.int i) (.int j) ih) Q E = Q (.int (i + j)) ih := rfl
theorem wp_sub : wp (f_sub (.int i) (.int j) ih) Q E = Q (.int (i - j)) ih := rfl
theorem wp_neg : wp (f_neg (.int i) ih) Q E = Q (.int (-i)) ih := rfl
theorem wp_lt : wp (f_lt (.int i) (.int j) ih) Q E = Q (.bl (decide (i < j))) ih := rfl
theorem wp_le : wp (f_le (.int i) (.int j) ih) Q E = Q (.bl (decide (i ≤ j))) ih := rfl
theorem wp_gt : wp (f_gt (.int i) (.int j) ih) Q E = Q (.bl (decide (j < i))) ih := rfl
theorem wp_ge : wp (f_ge (.int i) (.int j) ih) Q E = Q (.bl (decide (j ≤ i))) ih := rfl
theorem wp_max2 : wp (f_max2 [.int i, .int j] ih) Q E = Q (.int (if j > i then j else i)) ih := rfl
theorem wp_min2 : wp (f_min2 [.int i, .int j] ih) Q E = Q (.int (if j < i then j else i)) ih := rfl
theorem wp_abs : wp (f_abs [.int i] ih) Q E = Q (.int (if i < 0 then -i else i)) ih := rfl
theorem wp_I {C : Int → Int → Bool} {g : Int → Int → IV} : wp (f_I C g (.int i) (.int j) ih) Q E = (C i j = true ∧ Q (g i j) ih) := by
  unfold f_I
  dsimp only
  by_cases h : C i j = true
  · rw [if_pos h, eq_true h, true_and]
    rfl
  · rw [if_neg h, eq_false h, false_and]
    rfl
theorem wp_mulI : wp (f_mul (.int i) (.int j) ih) Q E = (cMul i j = true ∧ Q (.int (i * j)) ih) := wp_I
theorem wp_mul : wp (f_mulA (.int i) (.int j) ih) Q E = (cMul i j = true ∧ Q (.int (i * j)) ih) := by
  show wp (if cMul i j = true then _ else _) Q E = _
  by_cases h : cMul i j = true
  · rw [if_pos h, eq_true h, true_and]
    rfl
  · rw [if_neg h, eq_false h, false_and]
    rfl
theorem wp_fdiv : wp (f_fdiv (.int i) (.int j) ih) Q E = (cDiv i j = true ∧ Q (.int (i / j)) ih) := wp_I
theorem wp_mod : wp (f_mod (.int i) (.int j) ih) Q E = (0 < j ∧ Q (.int (i % j)) ih) := by
  refine wp_I.trans ?_
  unfold cMod
  rw [decide_eq_true_eq]
theorem wp_shl : wp (f_shl (.int i) (.int j) ih) Q E = (cShl i j = true ∧ Q (.int (i * 2 ^ j.toNat)) ih) := wp_I
theorem wp_shr : wp (f_shr (.int i) (.int j) ih) Q E = (0 ≤ j ∧ Q (.int (i / 2 ^ j.toNat)) ih) := by
  refine wp_I.trans ?_
  unfold cShr
  rw [decide_eq_true_eq]
theorem wp_pow : wp (f_pow (.int i) (.int j) ih) Q E = (cPow i j = true ∧ Q (.int (i ^ j.toNat)) ih) := wp_I
theorem wp_isN : wp (f_isN x .non ih) Q E = Q (.bl (decide (x = .non))) ih := rfl
theorem wp_notN : wp (f_notN x .non ih) Q E = Q (.bl (!decide (x = .non))) ih := rfl
theorem wp_eqI : wp (f_eq (.int i) (.int j) ih) Q E = Q (.bl (decide (i = j))) ih := by
  rw [a_eq_int]
  rfl
theorem wp_neI : wp (f_ne (.int i) (.int j) ih) Q E = Q (.bl (!decide (i = j))) ih := by
  rw [a_ne_int]
  rfl
theorem wp_ix : wp (f_ix (.ref n) (.int i) ih) Q E = k_ix i Q ih ih[n]? := by
  unfold f_ix
  dsimp only
  cases ih[n]? with
  | none => rfl
  | some o =>
    show wp (match atI o.xs i with
      | some v => _
      | none => _) Q E = k_ix2 Q ih (atI o.xs i)
    cases atI o.xs i <;> rfl
theorem kk_ix : k_ix i Q ih (some o) = k_ix2 Q ih (atI o.xs i) := rfl
theorem kk_ix2 : k_ix2 Q ih (some v) = Q v ih := rfl
theorem wp_len : wp (f_len [.ref n] ih) Q E = k_len Q ih ih[n]? := by
  unfold f_len
  dsimp only
  cases ih[n]? with
  | none => rfl
  | some o => cases o <;> rfl
theorem kk_lenL : k_len Q ih (some (.lst xs)) = Q (.int xs.length) ih := rfl
theorem kk_lenT : k_len Q ih (some (.tup xs)) = Q (.int xs.length) ih := rfl
theorem kk_lenO : k_len Q ih (some (.ro xs)) = Q (.int xs.length) ih := rfl
theorem kk_lenP : k_len Q ih (some (.rot xs)) = Q (.int xs.length) ih := rfl
theorem wp_appd : wp (f_append (.ref n) [y] ih) Q E = k_app1 n y Q ih ih[n]? := by
  unfold f_append
  dsimp only
  cases ih[n]? with
  | none => rfl
  | some o =>
    cases o with
    | lst xs =>
      show wp (if xs.length < 100000 then _ else _) Q E = (xs.length < 100000 ∧ _)
      by_cases h : xs.length < 100000
      · rw [if_pos h, eq_true h, true_and]
        rfl
      · rw [if_neg h, eq_false h, false_and]
        rfl
    | _ => rfl
theorem kk_app1 : k_app1 n y Q ih (some (.lst xs)) = (xs.length < 100000 ∧ Q .non (ih.set n (.lst (xs ++ [y])))) := rfl
def k_isL : Option MO → Bool
  | some o => o.isL
  | none => false
theorem isL_k : isLst (.ref n) ih = k_isL ih[n]? := by
  show (match ih[n]? with
    | some o => o.isL
    | none => false) = k_isL ih[n]?
  cases ih[n]? <;> rfl
theorem kk_isL : k_isL (some o) = o.isL := rfl
-- by hand: new objects
theorem wp_lst (hl : xs.length ≤ 100000) (k : Q (.ref ih.length) (ih ++ [.lst xs])) : wp (f_lst xs ih) Q E := by
  rw [a_lst hl]
  exact k
theorem wp_tup (hl : xs.length ≤ 100000) (k : Q (.ref ih.length) (ih ++ [.tup xs])) : wp (f_tup xs ih) Q E := by
  rw [a_tup hl]
  exact k
theorem wp_list (h : ih[n]? = some o) (k : Q (.ref ih.length) (ih ++ [.lst o.xs])) (hd : o.isS = true := by rfl) : wp (f_list [.ref n] ih) Q E := by
  rw [a_list h hd]
  exact k
/-- a choice out of a list -/
theorem wp_pick (h : ih[n]? = some o) (h0 : 0 ≤ i) (h1 : i < (o.xs.length : Int)) (k : ∀ v ∈ o.xs, Q v ih) : wp (f_ix (.ref n) (.int i) ih) Q E := by
  obtain ⟨m, rfl⟩ := Int.eq_ofNat_of_zero_le h0
  have hm : m < o.xs.length := by omega
  rw [a_ix h (v := o.xs[m]) (by rw [atI_nn]; exact List.getElem?_eq_getElem hm)]
  exact k _ (List.getElem_mem hm)
theorem wp_eq {d e : PyData} (h1 : Is ih x d) (h2 : Is ih y e) (s1 : SeqAt.shaped d = true) (s2 : SeqAt.shaped e = true) (k : Q (.bl (PyData.eqv d e)) ih) : wp (f_eq x y ih) Q E := by
  rw [f_eq_of h1 h2 s1 s2]
  exact k
theorem wp_ne {d e : PyData} (h1 : Is ih x d) (h2 : Is ih y e) (s1 : SeqAt.shaped d = true) (s2 : SeqAt.shaped e = true) (k : Q (.bl (!PyData.eqv d e)) ih) : wp (f_ne x y ih) Q E := by
  rw [f_ne_of h1 h2 s1 s2]
  exact k
theorem wp_isi {T t : String} (h : tyN x ih = some t) (k : kitB t T = some b) (q : Q (.bl b) ih) : wp (f_isi [x, .ty T] ih) Q E := by
  unfold f_isi
  dsimp only
  rw [h]
  dsimp only
  rw [k]
  exact q
-- both ways
theorem dec_if [Decidable p] {ma mb : Env → IH → Res α} {Q : PQ α} (h1 : p → k_if ma mb env Q E true ih) (h0 : ¬ p → k_if ma mb env Q E false ih) : k_if ma mb env Q E (decide p) ih := by
  by_cases h : p
  · rw [decide_eq_true h]; exact h1 h
  · rw [decide_eq_false h]; exact h0 h
theorem dec_ifs [Decidable p] (h1 : p → ks_if sa sb env S F true ih) (h0 : ¬ p → ks_if sa sb env S F false ih) : ks_if sa sb env S F (decide p) ih := by
  by_cases h : p
  · rw [decide_eq_true h]; exact h1 h
  · rw [decide_eq_false h]; exact h0 h
end
end L3
/-! L8: loops and lists, run backwards. -/
namespace L3
open PySem PySem.Spec PyProof.Rows L2
/-- all but p, and what is new, is as before -/
abbrev Fr (p : Nat) (ih ih' : IH) : Prop := ∀ n, n < ih.length → n ≠ p → ih'[n]? = ih[n]?
abbrev Fx (ih ih' : IH) : Prop := ∀ n, n < ih.length → ih'[n]? = ih[n]?
theorem g_new {ih : IH} {o : MO} : (ih ++ [o])[ih.length]? = some o := get_new _ _
theorem g_nw {ih : IH} {o : MO} {n : Nat} (h : n = ih.length) : (ih ++ [o])[n]? = some o := h ▸ get_new _ _
theorem g_old {ih : IH} {o : MO} {n : Nat} (h : n < ih.length) : (ih ++ [o])[n]? = ih[n]? := List.getElem?_append_left h
theorem g_set {ih : IH} {o : MO} {n : Nat} (h : n < ih.length) : (ih.set n o)[n]? = some o := List.getElem?_set_self h
theorem g_sne {ih : IH} {o : MO} {n m : Nat} (h : m ≠ n) : (ih.set m o)[n]? = ih[n]? := List.getElem?_set_ne h
theorem Fr.refl {p : Nat} {ih : IH} : Fr p ih ih := fun _ _ _ => rfl
theorem Fx.refl {ih : IH} : Fx ih ih := fun _ _ => rfl
theorem Fx.fr {p : Nat} {a b : IH} (h : Fx a b) : Fr p a b := fun n l _ => h n l
theorem Fr.trans {p : Nat} {a b c : IH} (h : Fr p a b) (k : Fr p b c) (l : a.length ≤ b.length) : Fr p a c := fun n h1 h2 => by rw [k n (by omega) h2, h n h1 h2]
theorem Fx.trans {a b c : IH} (h : Fx a b) (k : Fx b c) (l : a.length ≤ b.length) : Fx a c := fun n h1 => by rw [k n (by omega), h n h1]
theorem Fx.app {a : IH} {o : MO} : Fx a (a ++ [o]) := fun n h => g_old h
theorem Fx.ext {a b : IH} (h : Fx a b) : Ext a b := fun n o e => by rw [h n (lt_of_get e)]; exact e
theorem Ext.fx {a b : IH} (h : Ext a b) : Fx a b := fun n l => by
  rw [List.getElem?_eq_getElem l]
  exact h n _ (List.getElem?_eq_getElem l)
theorem Fx.set {a b : IH} {n : Nat} {o : MO} (h : Fx a b) (l : a.length ≤ n) : Fx a (b.set n o) := fun m hm => by
  rw [g_sne (by omega)]
  exact h m hm
theorem Fr.set {p : Nat} {a b : IH} {n : Nat} {o : MO} (h : Fr p a b) (l : a.length ≤ n) : Fr p a (b.set n o) := fun m hm hp => by
  rw [g_sne (by omega)]
  exact h m hm hp
theorem Fr.setp {p : Nat} {a b : IH} {o : MO} (h : Fr p a b) : Fr p a (b.set p o) := fun m hm hp => by
  rw [g_sne (by omega)]
  exact h m hm hp
/-- a loop's body -/
def kf (P : Env → IH → Prop) (S : SQ) : SQ := fun f ih => match f with
  | .next e => P e ih
  | .cont e => P e ih
  | .brk e => S (.next e) ih
  | .ret v => S (.ret v) ih
section
variable {P : Env → IH → Prop} {S : SQ} {F : ES} {env : Env} {ih : IH} {v : IV}
/-- what holds behind a turn -/
def Inv (P : Env → IH → Prop) (env : Env) (ih : IH) : Prop := P env ih
theorem Inv.mk (h : P env ih) : Inv P env ih := h
theorem kf_next : kf P S (.next env) ih = Inv P env ih := rfl
theorem kf_cont : kf P S (.cont env) ih = Inv P env ih := rfl
theorem kf_brk : kf P S (.brk env) ih = S (.next env) ih := rfl
theorem kf_ret : kf P S (.ret v) ih = S (.ret v) ih := rfl
theorem ws_loop {r : RS} {k : Env → IH → RS} (h : ws r (kf P S) F) (hk : ∀ env ih, P env ih → ws (k env ih) S F) : ws (r.loop k) S F := by
  cases r with
  | ok f ih =>
    cases f with
    | next e => exact hk _ _ h
    | cont e => exact hk _ _ h
    | brk e => exact h
    | ret v => exact h
  | exc c e ih => exact h
  | stuck => exact h
theorem go_ind {s : Src} {g : IV → Env → IH → Option Env} {mb : Env → IH → RS} (k : Nat) (P : Nat → Env → IH → Prop)
    (turn : ∀ i env ih, i < k → P i env ih → ∃ v ih1 env1, s.turn i ih = .item v ih1 ∧ g v env ih1 = some env1 ∧ ws (mb env1 ih1) (kf (P (i + 1)) S) F)
    (stop : ∀ env ih, P k env ih → s.turn k ih = .stop ∧ S (.next env) ih) : ∀ (f i : Nat) (env : Env) (ih : IH), i ≤ k → k - i < f → P i env ih → ws (forGo s g mb f i env ih) S F := by
  intro f
  induction f with
  | zero => intro i env ih h1 h2; omega
  | succ f hf =>
    intro i env ih h1 h2 hP
    unfold forGo
    by_cases hi : i = k
    · subst hi
      obtain ⟨e1, e2⟩ := stop env ih hP
      rw [e1]
      exact e2
    · obtain ⟨v, ih1, env1, e1, e2, e3⟩ := turn i env ih (by omega) hP
      rw [e1]
      dsimp only
      rw [e2]
      exact ws_loop e3 fun env2 ih2 h => hf (i + 1) env2 ih2 (by omega) (by omega) h
/-- for x in range -/
theorem for_rng {mb : Env → IH → RS} {x : Nat} {lo d : Int} {k : Nat} (P : Nat → Env → IH → Prop) (h0 : P 0 env ih)
    (step : ∀ i env ih, i < k → P i env ih → ws (mb (env.set x (some (.int (lo + (i : Int) * d)))) ih) (kf (P (i + 1)) S) F) (fin : ∀ env ih, P k env ih → S (.next env) ih) : ks_for (g_nm x) mb env S F (.rng lo d k) ih :=
  go_ind k P (fun i env ih hi h => ⟨_, _, _, turn_rng hi, rfl, step i env ih hi h⟩) (fun env ih h => ⟨stop_rng, fin env ih h⟩) _ 0 env ih (Nat.zero_le _) (by show k - 0 < k + 1; omega) h0
theorem for_rng0 {mb : Env → IH → RS} {x : Nat} {k : Nat} (P : Nat → Env → IH → Prop) (h0 : P 0 env ih)
    (step : ∀ i env ih, i < k → P i env ih → ws (mb (env.set x (some (.int (i : Int)))) ih) (kf (P (i + 1)) S) F) (fin : ∀ env ih, P k env ih → S (.next env) ih) : ks_for (g_nm x) mb env S F (.rng 0 1 k) ih :=
  for_rng P h0 (fun i env ih hi h => by rw [show (0 : Int) + (i : Int) * 1 = (i : Int) by omega]; exact step i env ih hi h) fin
theorem for_rng1' {mb : Env → IH → RS} {x : Nat} {lo : Int} {k : Nat} (P : Nat → Env → IH → Prop) (h0 : P 0 env ih)
    (step : ∀ i env ih, i < k → P i env ih → ws (mb (env.set x (some (.int (lo + (i : Int))))) ih) (kf (P (i + 1)) S) F) (fin : ∀ env ih, P k env ih → S (.next env) ih) : ks_for (g_nm x) mb env S F (.rng lo 1 k) ih :=
  for_rng P h0 (fun i env ih hi h => by rw [show lo + (i : Int) * 1 = lo + (i : Int) by omega]; exact step i env ih hi h) fin
/-- for x in a list that stays -/
theorem for_lstG {g : IV → Env → IH → Option Env} {mb : Env → IH → RS} {n : Nat} {o : MO} (P : Nat → Env → IH → Prop) (hg : ih[n]? = some o) (hl : o.isL = true) (h0 : P 0 env ih) (ho : ∀ i env ih, P i env ih → ih[n]? = some o)
    (step : ∀ i v env ih, o.xs[i]? = some v → P i env ih → ∃ env1, g v env ih = some env1 ∧ ws (mb env1 ih) (kf (P (i + 1)) S) F) (fin : ∀ env ih, P o.xs.length env ih → S (.next env) ih) : ks_for g mb env S F (.lst n) ih :=
  go_ind o.xs.length P (fun i env ih hi h => by
    obtain ⟨env1, e1, e2⟩ := step i _ env ih (List.getElem?_eq_getElem hi) h
    exact ⟨_, _, env1, turn_lst (ho _ _ _ h) hl (List.getElem?_eq_getElem hi), e1, e2⟩) (fun env ih h => ⟨stop_lst (ho _ _ _ h) hl, fin env ih h⟩) _ 0 env ih (Nat.zero_le _) (by
    show _ < (Src.lst n).size ih + 1
    unfold Src.size
    dsimp only
    rw [hg]
    dsimp only
    omega) h0
theorem for_lst1 {mb : Env → IH → RS} {x n : Nat} {o : MO} (P : Nat → Env → IH → Prop) (hg : ih[n]? = some o) (hl : o.isL = true) (h0 : P 0 env ih) (ho : ∀ i env ih, P i env ih → ih[n]? = some o)
    (step : ∀ i v env ih, o.xs[i]? = some v → P i env ih → ws (mb (env.set x (some v)) ih) (kf (P (i + 1)) S) F) (fin : ∀ env ih, P o.xs.length env ih → S (.next env) ih) : ks_for (g_nm x) mb env S F (.lst n) ih :=
  for_lstG P hg hl h0 ho (fun i v env ih e h => ⟨_, rfl, step i v env ih e h⟩) fin
theorem for_enum {g : IV → Env → IH → Option Env} {mb : Env → IH → RS} {n : Nat} {o : MO} (P : Nat → Env → IH → Prop) (hg : ih[n]? = some o) (hl : o.isL = true) (h0 : P 0 env ih) (ho : ∀ i env ih, P i env ih → ih[n]? = some o)
    (step : ∀ i v env ih, o.xs[i]? = some v → P i env ih → ∃ env1, g (.ref ih.length) env (ih ++ [.tup [.int (i : Int), v]]) = some env1 ∧ ws (mb env1 (ih ++ [.tup [.int (i : Int), v]])) (kf (P (i + 1)) S) F) (fin : ∀ env ih, P o.xs.length env ih → S (.next env) ih) : ks_for g mb env S F (.enm n) ih :=
  go_ind o.xs.length P (fun i env ih hi h => by
    obtain ⟨env1, e1, e2⟩ := step i _ env ih (List.getElem?_eq_getElem hi) h
    exact ⟨_, _, env1, turn_enm (ho _ _ _ h) hl (List.getElem?_eq_getElem hi), e1, e2⟩) (fun env ih h => ⟨stop_enm (ho _ _ _ h) hl, fin env ih h⟩) _ 0 env ih (Nat.zero_le _) (by
    show _ < (Src.enm n).size ih + 1
    unfold Src.size
    dsimp only
    rw [hg]
    dsimp only
    omega) h0
theorem for_zip2 {g : IV → Env → IH → Option Env} {mb : Env → IH → RS} {n m : Nat} {o u : MO} (P : Nat → Env → IH → Prop) (hg : ih[n]? = some o) (hl : o.isL = true) (hl2 : u.isL = true) (h0 : P 0 env ih) (ho : ∀ i env ih, P i env ih → ih[n]? = some o ∧ ih[m]? = some u)
    (step : ∀ i v w env ih, o.xs[i]? = some v → u.xs[i]? = some w → P i env ih → ∃ env1, g (.ref ih.length) env (ih ++ [.tup [v, w]]) = some env1 ∧ ws (mb env1 (ih ++ [.tup [v, w]])) (kf (P (i + 1)) S) F) (fin : ∀ env ih, P (min o.xs.length u.xs.length) env ih → S (.next env) ih) : ks_for g mb env S F (.zip n m) ih :=
  go_ind (min o.xs.length u.xs.length) P (fun i env ih hi h => by
    obtain ⟨env1, e1, e2⟩ := step i _ _ env ih (List.getElem?_eq_getElem (by omega)) (List.getElem?_eq_getElem (by omega)) h
    exact ⟨_, _, env1, turn_zip (ho _ _ _ h).1 hl (List.getElem?_eq_getElem (by omega)) (ho _ _ _ h).2 hl2 (List.getElem?_eq_getElem (by omega)), e1, e2⟩) (fun env ih h => ⟨stop_zip (ho _ _ _ h).1 hl (ho _ _ _ h).2 hl2 (by omega), fin env ih h⟩) _ 0 env ih (Nat.zero_le _) (by
    show _ < (Src.zip n m).size ih + 1
    unfold Src.size
    dsimp only
    rw [hg]
    dsimp only
    omega) h0
/-- while, with what gets less -/
theorem while_ind {n : Env → IH → Res Bool} {mb : Env → IH → RS} (P : Env → IH → Prop) (μ : Env → IH → Nat → Prop)
    (step : ∀ k env ih, P env ih → μ env ih k → wp (n env ih) (fun b ih1 => if b = true then ws (mb env ih1) (kf (fun e i => P e i ∧ ∃ j, j < k ∧ μ e i j) S) F else S (.next env) ih1) (kE F env)) :
    ∀ (f k : Nat) (env : Env) (ih : IH), P env ih → μ env ih k → k < f → ws (whileGo n mb f env ih) S F := by
  intro f
  induction f with
  | zero => intro k env ih _ _ h; omega
  | succ f hf =>
    intro k env ih hP hm hk
    unfold whileGo
    rw [ws_stm]
    refine wp.imp (step k env ih hP hm) (fun b ih1 h => ?_) fun _ _ h => h
    cases b with
    | true =>
      rw [if_pos rfl] at h ⊢
      exact ws_loop h fun env2 ih2 ⟨h1, j, h2, h3⟩ => hf j env2 ih2 h1 h3 (by omega)
    | false => exact h
end
section
variable {Q : PQ IV} {E : EQ} {env : Env} {ih : IH}
theorem k_lAt_of {ih : IH} {n : Nat} {o : MO} (h : ih[n]? = some o) (hl : o.isL = true) : lAt ih n true = some o.xs := lAt_of h hl
/-- [me for x in xs if n] -/
theorem lc_flt {vs : List Nat} {i n : Nat} {mt : Env → IH → Res Bool} {me : Env → IH → Res IV} {o : MO} (F : IV → IV) (T : IV → Bool) (ho : ih[n]? = some o) (hl : o.isL = true) (hz : o.xs.length < 100000)
    (ht : ∀ x ∈ o.xs, ∀ ih', Fx ih ih' → wp (mt ((wipeI env vs).set i (some x)) ih') (fun b ih'' => b = T x ∧ ih'' = ih') E0)
    (he : ∀ x ∈ o.xs, T x = true → ∀ ih', Fx ih ih' → wp (me ((wipeI env vs).set i (some x)) ih') (fun v ih'' => v = F x ∧ ih'' = ih') E0)
    (q : Q (.ref ih.length) (ih ++ [.lst ((o.xs.filter T).map F)])) : k_lc vs (g_nm i) mt me env Q E (.lst n) ih := by
  have h := lc_lst (vs := vs) (m := m_c (.ref n)) (i := i) (n := mt) (me := me) (env := env) (ih := ih) F T rfl ho hl hz (fun x hx ih' e => (ht x hx ih' e.fx).eq) fun x hx t ih' e => (he x hx t ih' e.fx).eq
  have k := wp.of (E := E) h q
  rw [wp_lc, wp_il, wp_c, kk_il, lAt_of ho hl, kk_il2] at k
  exact k
/-- [me for x in xs] -/
theorem lc_all {vs : List Nat} {i n : Nat} {me : Env → IH → Res IV} {o : MO} (F : IV → IV) (ho : ih[n]? = some o) (hl : o.isL = true) (hz : o.xs.length < 100000)
    (he : ∀ x ∈ o.xs, ∀ ih', Fx ih ih' → wp (me ((wipeI env vs).set i (some x)) ih') (fun v ih'' => v = F x ∧ ih'' = ih') E0)
    (q : Q (.ref ih.length) (ih ++ [.lst (o.xs.map F)])) : k_lc vs (g_nm i) n_yes me env Q E (.lst n) ih := by
  have h := lc_map (vs := vs) (m := m_c (.ref n)) (i := i) (me := me) (env := env) (ih := ih) F rfl ho hl hz fun x hx ih' e => (he x hx ih' e.fx).eq
  have k := wp.of (E := E) h q
  rw [wp_lc, wp_il, wp_c, kk_il, lAt_of ho hl, kk_il2] at k
  exact k
/-- over a list of ints -/
theorem lc_int {vs : List Nat} {i n : Nat} {me : Env → IH → Res IV} {o : MO} {ns : List Int} (F : Int → IV) (ho : ih[n]? = some o) (hl : o.isL = true) (hx : o.xs = ns.map IV.int) (hz : ns.length < 100000)
    (he : ∀ x ∈ ns, ∀ ih', Fx ih ih' → wp (me ((wipeI env vs).set i (some (.int x))) ih') (fun v ih'' => v = F x ∧ ih'' = ih') E0)
    (q : Q (.ref ih.length) (ih ++ [.lst (ns.map F)])) : k_lc vs (g_nm i) n_yes me env Q E (.lst n) ih := by
  have e : (ns.map IV.int).map (fun | .int k => F k | _ => .non) = ns.map F := by rw [List.map_map]; rfl
  refine lc_all (fun | .int k => F k | _ => .non) ho hl (by rw [hx, List.length_map]; exact hz) (fun x hx' ih' f => ?_) (by rw [hx, e]; exact q)
  rw [hx] at hx'
  obtain ⟨k, hk, rfl⟩ := List.mem_map.mp hx'
  exact he k hk ih' f
/-- [me for i in range(j)] -/
theorem lc_rngW {vs : List Nat} {i : Nat} {me : Env → IH → Res IV} {j : Nat} (F : Nat → IV) (hz : j < 100000)
    (he : ∀ k, k < j → ∀ ih', Fx ih ih' → wp (me ((wipeI env vs).set i (some (.int (k : Int)))) ih') (fun v ih'' => v = F k ∧ ih'' = ih') E0)
    (q : Q (.ref ih.length) (ih ++ [.lst ((List.range j).map F)])) : k_lc vs (g_nm i) n_yes me env Q E (.rng 0 1 j) ih := by
  have sj : smallI (j : Int) = true := smallI_mk (by omega) (by omega)
  have h := lc_rng (vs := vs) (m := fun _ ih => .ok [.int (j : Int)] ih) (i := i) (me := me) (env := env) (ih := ih) (j := (j : Int)) F rfl sj (by omega) fun x hx ih' e => (he x (by omega) ih' e.fx).eq
  rw [Int.toNat_natCast] at h
  have k : wp (m_lc vs (mi_rng1 fun _ ih => .ok [.int (j : Int)] ih) (g_nm i) n_yes me env ih) Q E := by
    rw [h, wp_ok]
    exact q
  rw [wp_lc, wp_r1] at k
  have k2 := k.2
  rw [Int.toNat_natCast] at k2
  exact k2
theorem lc_zipW {vs : List Nat} {i j n m : Nat} {me : Env → IH → Res IV} {o u : MO} (F : IV → IV → IV) (ho : ih[n]? = some o) (hl : o.isL = true) (hu : ih[m]? = some u) (hl2 : u.isL = true) (hz : o.xs.length < 100000)
    (he : ∀ (k : Nat) (x y : IV), o.xs[k]? = some x → u.xs[k]? = some y → ∀ ih', Fx ih ih' → wp (me (((wipeI env vs).set i (some x)).set j (some y)) ih') (fun v ih'' => v = F x y ∧ ih'' = ih') E0)
    (q : ∀ ih', Fx ih ih' → ih.length < ih'.length → ih'[ih.length]? = some (.lst (List.zipWith F o.xs u.xs)) → Q (.ref ih.length) ih') : k_lc vs (g_tup 2 (g_cons (g_nm i) (g_cons (g_nm j) g_nil))) n_yes me env Q E (.zip n m) ih := by
  obtain ⟨ih', h, x, g⟩ := lc_zip (vs := vs) (m := fun _ ih => .ok [.ref n, .ref m] ih) (i := i) (j := j) (me := me) (env := env) (ih := ih) F rfl ho hl hu hl2 hz fun k x y h1 h2 ih' e => (he k x y h1 h2 ih' e.fx).eq
  have k := wp.of (E := E) h (q ih' x.fx (lt_of_get g) g)
  rw [wp_lc, wp_iz] at k
  have k2 : k_iz (k_lc vs (g_tup 2 (g_cons (g_nm i) (g_cons (g_nm j) g_nil))) n_yes me env Q E) [.ref n, .ref m] ih := k
  rw [kk_iz, lAt_of ho hl, lAt_of hu hl2, kk_iz2] at k2
  exact k2
theorem wp_sumW {n : Nat} {o : MO} {ns : List Int} (h : ih[n]? = some o) (hl : o.isL = true) (hx : o.xs = ns.map IV.int) (q : Q (.int ns.sum) ih) : wp (f_sum [.ref n] ih) Q E := wp.of (a_sum h hl hx) q
theorem wp_allW {n : Nat} {o : MO} {ns : List Bool} (h : ih[n]? = some o) (hl : o.isL = true) (hx : o.xs = ns.map IV.bl) (q : Q (.bl (ns.all id)) ih) : wp (f_all [.ref n] ih) Q E := wp.of (a_all h hl hx) q
theorem wp_anyW {n : Nat} {o : MO} {ns : List Bool} (h : ih[n]? = some o) (hl : o.isL = true) (hx : o.xs = ns.map IV.bl) (q : Q (.bl (ns.any id)) ih) : wp (f_any [.ref n] ih) Q E := wp.of (a_any h hl hx) q
theorem wp_slL {n : Nat} {xs : List IV} {lo hi : Option Int} (h : ih[n]? = some (.lst xs)) (q : Q (.ref ih.length) (ih ++ [.lst (cutI xs lo hi)])) : wp (f_sl (.ref n) lo hi ih) Q E := wp.of (a_slL h) q
end
/-- a choice -/
theorem k_pick {Q : PQ IV} {ih : IH} {xs : List IV} {i : Int} (h0 : 0 ≤ i) (h1 : i < (xs.length : Int)) (k : ∀ v ∈ xs, Q v ih) : k_ix2 Q ih (atI xs i) := by
  obtain ⟨m, rfl⟩ := Int.eq_ofNat_of_zero_le h0
  have hm : m < xs.length := by omega
  rw [atI_nn, List.getElem?_eq_getElem hm]
  exact k _ (List.getElem_mem hm)
def allI (P : Int → Prop) : List IV → Prop
  | [] => True
  | .int z :: r => P z ∧ allI P r
  | _ :: _ => False
theorem allI_mem {P : Int → Prop} : ∀ {xs : List IV}, allI P xs → ∀ v ∈ xs, ∃ z, v = .int z ∧ P z
  | [], _, v, h => nomatch h
  | .int z :: r, h, v, hv => by
    rcases List.mem_cons.mp hv with e | e
    · exact ⟨z, e, h.1⟩
    · exact allI_mem h.2 v e
theorem k_pickI (P : Int → Prop) {Q : PQ IV} {ih : IH} {xs : List IV} {i : Int} (h0 : 0 ≤ i) (h1 : i < (xs.length : Int)) (ha : allI P xs) (k : ∀ z, P z → Q (.int z) ih) : k_ix2 Q ih (atI xs i) := k_pick h0 h1 fun v hv => by
  obtain ⟨z, rfl, hz⟩ := allI_mem ha v hv
  exact k z hz
theorem wp_allL {Q : PQ IV} {E : EQ} {ih : IH} {n : Nat} (ns : List Bool) (h : ih[n]? = some (.lst (ns.map IV.bl))) (q : Q (.bl (ns.all id)) ih) : wp (f_all [.ref n] ih) Q E := wp.of (a_all h rfl rfl) q
theorem wp_anyL {Q : PQ IV} {E : EQ} {ih : IH} {n : Nat} (ns : List Bool) (h : ih[n]? = some (.lst (ns.map IV.bl))) (q : Q (.bl (ns.any id)) ih) : wp (f_any [.ref n] ih) Q E := wp.of (a_any h rfl rfl) q
theorem wp_sumL {Q : PQ IV} {E : EQ} {ih : IH} {n : Nat} (ns : List Int) (h : ih[n]? = some (.lst (ns.map IV.int))) (q : Q (.int ns.sum) ih) : wp (f_sum [.ref n] ih) Q E := wp.of (a_sum h rfl rfl) q
/-- over a list of ints -/
theorem lc_intL {Q : PQ IV} {E : EQ} {env : Env} {ih : IH} {vs : List Nat} {i n : Nat} {me : Env → IH → Res IV} (ns : List Int) (F : Int → IV) (ho : ih[n]? = some (.lst (ns.map IV.int))) (hz : ns.length < 100000)
    (he : ∀ x ∈ ns, ∀ ih', Fx ih ih' → wp (me ((wipeI env vs).set i (some (.int x))) ih') (fun v ih'' => v = F x ∧ ih'' = ih') E0)
    (q : Q (.ref ih.length) (ih ++ [.lst (ns.map F)])) : k_lc vs (g_nm i) n_yes me env Q E (.lst n) ih := lc_int F ho rfl rfl hz he q
/-- over a list of ints, with a test -/
theorem lc_intT {Q : PQ IV} {E : EQ} {env : Env} {ih : IH} {vs : List Nat} {i n : Nat} {mt : Env → IH → Res Bool} {me : Env → IH → Res IV} (ns : List Int) (T : Int → Bool) (F : Int → IV) (ho : ih[n]? = some (.lst (ns.map IV.int))) (hz : ns.length < 100000)
    (ht : ∀ x ∈ ns, ∀ ih', Fx ih ih' → wp (mt ((wipeI env vs).set i (some (.int x))) ih') (fun v ih'' => v = T x ∧ ih'' = ih') E0)
    (he : ∀ x ∈ ns, T x = true → ∀ ih', Fx ih ih' → wp (me ((wipeI env vs).set i (some (.int x))) ih') (fun v ih'' => v = F x ∧ ih'' = ih') E0)
    (q : Q (.ref ih.length) (ih ++ [.lst ((ns.filter T).map F)])) : k_lc vs (g_nm i) mt me env Q E (.lst n) ih := by
  refine lc_flt (fun | .int k => F k | _ => .non) (fun | .int k => T k | _ => false) ho rfl (by rw [xs_lst, List.length_map]; exact hz) (fun x hx ih' f => ?_) (fun x hx t ih' f => ?_) ?_
  · obtain ⟨k, hk, rfl⟩ := List.mem_map.mp hx
    exact ht k hk ih' f
  · obtain ⟨k, hk, rfl⟩ := List.mem_map.mp hx
    exact he k hk t ih' f
  · rw [xs_lst, List.filter_map, List.map_map]
    exact q
/-- what is new, by a name of its own -/
theorem newN {P : IV → IH → Prop} {ih : IH} {o : MO} (k : ∀ n ih', ih.length ≤ n → n < ih'.length → ih'.length ≤ ih.length + 1 → Fx ih ih' → ih'[n]? = some o → P (.ref n) ih') : P (.ref ih.length) (ih ++ [o]) := k _ _ (Nat.le_refl _) (by simp) (by simp) Fx.app g_new
/-- both ways give the same -/
theorem if_join {α : Type} {ma mb : Env → IH → Res α} {env : Env} {ih : IH} {Q : PQ α} {E : EQ} {b : Bool} (v : α) (h1 : b = true → wp (ma env ih) (fun x ih' => x = v ∧ ih' = ih) E0) (h0 : b = false → wp (mb env ih) (fun x ih' => x = v ∧ ih' = ih) E0) (q : Q v ih) : k_if ma mb env Q E b ih := by
  cases b with
  | true => exact wp.of (h1 rfl).eq q
  | false => exact wp.of (h0 rfl).eq q
theorem ws_while {n : Nat} {mt : Env → IH → Res Bool} {mb : Env → IH → RS} {env : Env} {ih : IH} {S : SQ} {F : ES} : ws (ms_while n mt mb env ih) S F = ws (whileGo mt mb n env ih) S F := rfl
theorem ws_whileA {n : Nat} {mt : Env → IH → Res Bool} {mb : Env → IH → RS} {env : Env} {ih : IH} {S : SQ} {F : ES} : ws (ms_while n mt mb env ih) S F = ∀ fu, fu = n → ws (whileGo mt mb fu env ih) S F := by
  rw [forall_eq]
  rfl
theorem g_pair {i j : Nat} {v w : IV} {env : Env} {ih : IH} : g_tup 2 (g_cons (g_nm i) (g_cons (g_nm j) g_nil)) (.ref ih.length) env (ih ++ [.tup [v, w]]) = some ((env.set i (some v)).set j (some w)) := by
  unfold g_tup
  dsimp only
  rw [g_new]
  rfl
theorem cutI_m1 (xs : List IV) (x : IV) : cutI (xs ++ [x]) none (some (-1)) = xs := by
  unfold cutI
  rw [HT.sIx_none]
  have e : HT.sIx (xs ++ [x]).length (xs ++ [x]).length (some (-1)) = xs.length := by
    have h := HT.clip_eq (-1) (xs ++ [x]).length (xs ++ [x]).length
    rw [if_pos (by decide)] at h
    simp only [List.length_append, List.length_singleton] at h ⊢
    omega
  rw [e, List.drop_zero, Nat.sub_zero, List.take_left']
  rfl
/-! ### isinstance -/
section
variable {Q : PQ IV} {E : EQ} {ih : IH} {n : Nat} {i : Int} {xs : List IV}
theorem kit_ii : kitB "int" "int" = some true := by decide +kernel
theorem kit_ib : kitB "int" "bool" = some false := by decide +kernel
theorem kit_ll : kitB "list" "list" = some true := by decide +kernel
theorem kit_tt : kitB "tuple" "tuple" = some true := by decide +kernel
theorem kit_lt : kitB "list" "tuple" = some false := by decide +kernel
theorem kit_tl : kitB "tuple" "list" = some false := by decide +kernel
theorem kit2_NoneType_int : kitB "NoneType" "int" = some false := by decide +kernel
theorem kit2_NoneType_bool : kitB "NoneType" "bool" = some false := by decide +kernel
theorem kit2_NoneType_list : kitB "NoneType" "list" = some false := by decide +kernel
theorem kit2_NoneType_tuple : kitB "NoneType" "tuple" = some false := by decide +kernel
theorem kit2_NoneType_str : kitB "NoneType" "str" = some false := by decide +kernel
theorem kit2_bool_int : kitB "bool" "int" = some true := by decide +kernel
theorem kit2_bool_bool : kitB "bool" "bool" = some true := by decide +kernel
theorem kit2_bool_list : kitB "bool" "list" = some false := by decide +kernel
theorem kit2_bool_tuple : kitB "bool" "tuple" = some false := by decide +kernel
theorem kit2_bool_str : kitB "bool" "str" = some false := by decide +kernel
theorem kit2_str_int : kitB "str" "int" = some false := by decide +kernel
theorem kit2_str_bool : kitB "str" "bool" = some false := by decide +kernel
theorem kit2_str_list : kitB "str" "list" = some false := by decide +kernel
theorem kit2_str_tuple : kitB "str" "tuple" = some false := by decide +kernel
theorem kit2_str_str : kitB "str" "str" = some true := by decide +kernel
theorem kit2_dict_int : kitB "dict" "int" = some false := by decide +kernel
theorem kit2_dict_bool : kitB "dict" "bool" = some false := by decide +kernel
theorem kit2_dict_list : kitB "dict" "list" = some false := by decide +kernel
theorem kit2_dict_tuple : kitB "dict" "tuple" = some false := by decide +kernel
theorem kit2_dict_str : kitB "dict" "str" = some false := by decide +kernel
theorem kit2_list_int : kitB "list" "int" = some false := by decide +kernel
theorem kit2_list_bool : kitB "list" "bool" = some false := by decide +kernel
theorem kit2_list_str : kitB "list" "str" = some false := by decide +kernel
theorem kit2_tuple_int : kitB "tuple" "int" = some false := by decide +kernel
theorem kit2_tuple_bool : kitB "tuple" "bool" = some false := by decide +kernel
theorem kit2_tuple_str : kitB "tuple" "str" = some false := by decide +kernel
theorem kit2_int_list : kitB "int" "list" = some false := by decide +kernel
theorem kit2_int_tuple : kitB "int" "tuple" = some false := by decide +kernel
theorem kit2_int_str : kitB "int" "str" = some false := by decide +kernel
theorem wp_isiII : wp (f_isi [.int i, .ty "int"] ih) Q E = Q (.bl true) ih := by
  rw [show f_isi [.int i, .ty "int"] ih = .ok (.bl true) ih by
    unfold f_isi
    dsimp only [tyN]
    rw [kit_ii]]
  rfl
theorem wp_isiIB : wp (f_isi [.int i, .ty "bool"] ih) Q E = Q (.bl false) ih := by
  rw [show f_isi [.int i, .ty "bool"] ih = .ok (.bl false) ih by
    unfold f_isi
    dsimp only [tyN]
    rw [kit_ib]]
  rfl
def tyO : Option MO → Option String
  | some (.lst _) => some "list"
  | some (.tup _) => some "tuple"
  | some .dct => some "dict"
  | some (.dk _) => some "dict"
  | _ => none
def k_isi2 (Q : PQ IV) (ih : IH) : Option Bool → Prop
  | some b => Q (.bl b) ih
  | none => False
def k_isi (T : String) (Q : PQ IV) (ih : IH) : Option String → Prop
  | some t => k_isi2 Q ih (kitB t T)
  | none => False
theorem wp_isiN {T : String} : wp (f_isi [.non, .ty T] ih) Q E = k_isi2 Q ih (kitB "NoneType" T) := by
  unfold f_isi
  dsimp only [tyN]
  show wp (match kitB "NoneType" T with
    | some b => _
    | none => _) Q E = k_isi2 Q ih (kitB "NoneType" T)
  cases kitB "NoneType" T <;> rfl
theorem wp_isiBl {T : String} {b : Bool} : wp (f_isi [.bl b, .ty T] ih) Q E = k_isi2 Q ih (kitB "bool" T) := by
  unfold f_isi
  dsimp only [tyN]
  show wp (match kitB "bool" T with
    | some b => _
    | none => _) Q E = k_isi2 Q ih (kitB "bool" T)
  cases kitB "bool" T <;> rfl
theorem wp_isiS {T : String} {z : Str} : wp (f_isi [.str z, .ty T] ih) Q E = k_isi2 Q ih (kitB "str" T) := by
  unfold f_isi
  dsimp only [tyN]
  show wp (match kitB "str" T with
    | some b => _
    | none => _) Q E = k_isi2 Q ih (kitB "str" T)
  cases kitB "str" T <;> rfl
theorem wp_isiR {T : String} : wp (f_isi [.ref n, .ty T] ih) Q E = k_isi T Q ih (tyO ih[n]?) := by
  unfold f_isi
  dsimp only [tyN]
  cases ih[n]? with
  | none => rfl
  | some o =>
    cases o with
    | lst xs =>
      show wp (match kitB "list" T with
        | some b => _
        | none => _) Q E = k_isi2 Q ih (kitB "list" T)
      cases kitB "list" T <;> rfl
    | tup xs =>
      show wp (match kitB "tuple" T with
        | some b => _
        | none => _) Q E = k_isi2 Q ih (kitB "tuple" T)
      cases kitB "tuple" T <;> rfl
    | dct =>
      show wp (match kitB "dict" T with
        | some b => _
        | none => _) Q E = k_isi2 Q ih (kitB "dict" T)
      cases kitB "dict" T <;> rfl
    | dk kvs =>
      show wp (match kitB "dict" T with
        | some b => _
        | none => _) Q E = k_isi2 Q ih (kitB "dict" T)
      cases kitB "dict" T <;> rfl
    | _ => rfl
theorem tyO_l : tyO (some (.lst xs)) = some "list" := rfl
theorem tyO_d : tyO (some .dct) = some "dict" := rfl
theorem tyO_t : tyO (some (.tup xs)) = some "tuple" := rfl
theorem kk_isi {T t : String} : k_isi T Q ih (some t) = k_isi2 Q ih (kitB t T) := rfl
theorem kk_isi2 {b : Bool} : k_isi2 Q ih (some b) = Q (.bl b) ih := rfl
end
/-- over a range, with a test -/
theorem lc_rngT {Q : PQ IV} {E : EQ} {env : Env} {ih : IH} {vs : List Nat} {i : Nat} {mt : Env → IH → Res Bool} {me : Env → IH → Res IV} {j : Nat} {lo : Int} (T : Nat → Bool) (F : Nat → IV) (hz : j < 100000)
    (ht : ∀ k, k < j → ∀ ih', Fx ih ih' → wp (mt ((wipeI env vs).set i (some (.int (lo + (k : Int))))) ih') (fun v ih'' => v = T k ∧ ih'' = ih') E0)
    (he : ∀ k, k < j → T k = true → ∀ ih', Fx ih ih' → wp (me ((wipeI env vs).set i (some (.int (lo + (k : Int))))) ih') (fun v ih'' => v = F k ∧ ih'' = ih') E0)
    (q : Q (.ref ih.length) (ih ++ [.lst (((List.range j).filter T).map F)])) : k_lc vs (g_nm i) mt me env Q E (.rng lo 1 j) ih := by
  show wp (lcGo (.rng lo 1 j) (g_nm i) mt me ih.length (wipeI env vs) (j + 1) 0 (ih ++ [.lst []])) Q E
  obtain ⟨acc', ih', e1, e2, e3⟩ := lcGo_ind (s := .rng lo 1 j) (g := g_nm i) (n := mt) (me := me) (d := ih.length) (env := wipeI env vs) j (fun k acc ih' => acc = ((List.range k).filter T).map F ∧ ih' = ih ++ [.lst acc])
    (fun k acc ih2 hk ⟨ha, hi⟩ hd => by
      subst hi
      have e0 : lo + (k : Int) * 1 = lo + (k : Int) := by omega
      refine ⟨.int (lo + (k : Int)), _, _, T k, _, by rw [turn_rng hk, e0], rfl, (ht k hk _ Fx.app).eq, fun hb => ⟨hd, ?_, rfl⟩, fun hb => ⟨_, _, (he k hk hb _ Fx.app).eq, hd, ?_, ?_, ?_⟩⟩
      · rw [List.range_succ, List.filter_append, ha, List.filter_cons, hb]
        simp
      · rw [ha, List.length_map]
        exact Nat.lt_of_le_of_lt (List.length_filter_le _ _) (by rw [List.length_range]; omega)
      · rw [List.range_succ, List.filter_append, ha, List.filter_cons, hb]
        simp
      · rw [set_append_last])
    (fun acc ih _ hd => stop_rng) (j + 1) 0 [] (ih ++ [.lst []]) (Nat.zero_le _) (by omega) ⟨by simp, rfl⟩ (get_new _ _)
  obtain ⟨h1, h2⟩ := e3
  rw [h2, h1] at e1
  exact wp.of e1 q
/-- over a range from 0, with a test -/
theorem lc_rngT0 {Q : PQ IV} {E : EQ} {env : Env} {ih : IH} {vs : List Nat} {i : Nat} {mt : Env → IH → Res Bool} {me : Env → IH → Res IV} {j : Nat} (T : Nat → Bool) (F : Nat → IV) (hz : j < 100000)
    (ht : ∀ k, k < j → ∀ ih', Fx ih ih' → wp (mt ((wipeI env vs).set i (some (.int (k : Int)))) ih') (fun v ih'' => v = T k ∧ ih'' = ih') E0)
    (he : ∀ k, k < j → T k = true → ∀ ih', Fx ih ih' → wp (me ((wipeI env vs).set i (some (.int (k : Int)))) ih') (fun v ih'' => v = F k ∧ ih'' = ih') E0)
    (q : Q (.ref ih.length) (ih ++ [.lst (((List.range j).filter T).map F)])) : k_lc vs (g_nm i) mt me env Q E (.rng 0 1 j) ih :=
  lc_rngT T F hz (fun k hk ih' f => by rw [Int.zero_add]; exact ht k hk ih' f) (fun k hk t ih' f => by rw [Int.zero_add]; exact he k hk t ih' f) q
/-- lists put together -/
theorem wp_cat {Q : PQ IV} {E : EQ} {ih : IH} {n m : Nat} {xs ys : List IV} (h1 : ih[n]? = some (.lst xs)) (h2 : ih[m]? = some (.lst ys)) (hl : xs.length + ys.length ≤ 100000) (q : Q (.ref ih.length) (ih ++ [.lst (xs ++ ys)])) : wp (f_add (.ref n) (.ref m) ih) Q E := by
  have e : f_add (.ref n) (.ref m) ih = .ok (.ref ih.length) (ih ++ [.lst (xs ++ ys)]) := by
    unfold f_add
    dsimp only
    rw [h1, h2]
    dsimp only
    rw [if_pos hl]
  exact wp.of e q
end L3
namespace L3
open PySem PySem.Spec PyProof.Rows L2

noncomputable def b_law_mixed (c : Cs) : Env → IH → RS := (ms_seq (ms_set (g_nm 2) (m_op f_add (m_op f_mod (m_app f_int (m_cons (m_var 0) m_nil)) (m_c (.int 2147483629))) (m_op f_mulA (m_op f_fdiv (m_var 0) (m_c (.int 2147483629))) (m_c (.int 30011)))))
 (ms_seq (ms_set (g_nm 2) (m_op f_mod (m_app f_int (m_cons (m_op f_mulA (m_op f_add (m_op f_add (m_var 2) (m_op f_mulA (m_c (.int 69621)) (m_var 1))) (m_c (.int 1))) (m_c (.int 48271))) m_nil)) (m_c (.int 2147483629))))
 (ms_seq (ms_set (g_nm 2) (m_op f_mod (m_app f_int (m_cons (m_op f_mulA (m_var 2) (m_op f_add (m_op f_add (m_op f_fdiv (m_var 2) (m_c (.int 907))) (m_c (.int 16831))) (m_var 1))) m_nil)) (m_c (.int 2147483587))))
 (ms_ret (m_op f_mod (m_app f_int (m_cons (m_op f_mulA (m_var 2) (m_op f_add (m_op f_fdiv (m_var 2) (m_c (.int 1201))) (m_c (.int 30011)))) m_nil)) (m_c (.int 2147483563)))))))
noncomputable def m_law_mixed (c : Cs) : List IV → IH → Res IV := defRun 3 (b_law_mixed c)
noncomputable def b_law_next (c : Cs) : Env → IH → RS := (ms_seq (ms_if (m_tb (m_op f_ge (m_op f_ix (m_var 0) (m_c (.int 0))) (m_op f_pow (m_c (.int 10)) (m_c (.int 18)))))
 (ms_seq (ms_set (g_nm 2) (m_op f_mod (m_app f_int (m_cons (m_op f_ix (m_var 0) (m_c (.int 0))) m_nil)) (m_var 1)))
 (ms_seq (ms_setL (m_op f_fdiv (m_op f_ix (m_var 0) (m_c (.int 0))) (m_var 1)) (m_var 0) (m_c (.int 0)))
 (ms_ret (m_var 2))))
 ms_pass)
 (ms_seq (ms_setL (m_op f_add (m_op f_ix (m_var 0) (m_c (.int 2))) (m_c (.int 1))) (m_var 0) (m_c (.int 2)))
 (ms_ret (m_op f_mod (m_app f_int (m_cons (m_app (f_call 2 [] (m_law_mixed c)) (m_cons (m_op f_ix (m_var 0) (m_c (.int 1))) (m_cons (m_op f_ix (m_var 0) (m_c (.int 2))) m_nil))) m_nil)) (m_var 1)))))
noncomputable def m_law_next (c : Cs) : List IV → IH → Res IV := defRun 3 (b_law_next c)
noncomputable def b_is_whole (c : Cs) : Env → IH → RS := (ms_ret (m_andV (m_app f_isi (m_cons (m_var 0) (m_cons (m_c (.ty "int")) m_nil))) (m_andV (m_notV (m_app f_isi (m_cons (m_var 0) (m_cons (m_c (.ty "bool")) m_nil)))) (m_orV (m_op f_isN (m_var 1) (m_c .non)) (m_op f_ge (m_var 0) (m_var 1))))))
noncomputable def m_is_whole (c : Cs) : List IV → IH → Res IV := defRun 2 (b_is_whole c)
noncomputable def b_check_cycle (c : Cs) : Env → IH → RS := (ms_if (m_not (m_tb (m_app (f_call 2 [] (m_is_whole c)) (m_cons (m_var 0) (m_cons (m_var 1) m_nil)))))
 (ms_raise c.NoCycle)
 ms_pass)
noncomputable def m_check_cycle (c : Cs) : List IV → IH → Res IV := defRun 2 (b_check_cycle c)
noncomputable def b_is_stretch (c : Cs) : Env → IH → RS := (ms_ret (m_andV (m_app f_isi (m_cons (m_var 0) (m_cons (m_c (.ty "tuple")) m_nil))) (m_andV (m_op f_eq (m_app f_len (m_cons (m_var 0) m_nil)) (m_c (.int 2))) (m_andV (m_app (f_call 2 [] (m_is_whole c)) (m_cons (m_op f_ix (m_var 0) (m_c (.int 0))) (m_cons (m_c (.int 0)) m_nil))) (m_app (f_call 2 [] (m_is_whole c)) (m_cons (m_op f_ix (m_var 0) (m_c (.int 1))) (m_cons (m_op f_ix (m_var 0) (m_c (.int 0))) m_nil)))))))
noncomputable def m_is_stretch (c : Cs) : List IV → IH → Res IV := defRun 1 (b_is_stretch c)
noncomputable def le_check_frame_1 (c : Cs) : Env → IH → Res IV := (m_app (f_call 1 [] (m_is_stretch c)) (m_cons (m_var 4) m_nil))
noncomputable def lc_check_frame_1 (c : Cs) : Env → IH → Res IV := m_lc [4] (mi_lst (m_var 1)) (g_nm 4) n_yes (le_check_frame_1 c)
noncomputable def b_check_frame (c : Cs) : Env → IH → RS := (ms_seq (ms_if (m_not (m_tb (m_app (f_call 2 [] (m_is_whole c)) (m_cons (m_var 0) (m_cons (m_c (.int 1)) m_nil)))))
 (ms_raise c.NoSpan)
 ms_pass)
 (ms_seq (ms_if (m_or (m_not (m_tb (m_app f_isi (m_cons (m_var 1) (m_cons (m_c (.ty "list")) m_nil))))) (m_not (m_tb (m_app f_all (m_cons (lc_check_frame_1 c) m_nil)))))
 (ms_raise c.NoWindow)
 ms_pass)
 (ms_seq (ms_expr (m_app (f_call 2 [(.int 0)] (m_check_cycle c)) (m_cons (m_var 2) m_nil)))
 (ms_expr (m_app (f_call 2 [] (m_check_cycle c)) (m_cons (m_var 3) (m_cons (m_var 2) m_nil)))))))
noncomputable def m_check_frame (c : Cs) : List IV → IH → Res IV := defRun 5 (b_check_frame c)
noncomputable def le_open_ends_1 (c : Cs) : Env → IH → Res IV := (m_var 4)
noncomputable def ln_open_ends_1 (c : Cs) : Env → IH → Res Bool := (m_and (m_tb (m_op f_gt (m_var 3) (m_var 1))) (m_tb (m_op f_lt (m_var 4) (m_var 2))))
noncomputable def lc_open_ends_1 (c : Cs) : Env → IH → Res IV := m_lc [3, 4] (mi_lst (m_var 0)) (g_tup 2 (g_cons (g_nm 3) (g_cons (g_nm 4) g_nil))) (ln_open_ends_1 c) (le_open_ends_1 c)
noncomputable def b_open_ends (c : Cs) : Env → IH → RS := (ms_ret (lc_open_ends_1 c))
noncomputable def m_open_ends (c : Cs) : List IV → IH → Res IV := defRun 5 (b_open_ends c)
noncomputable def wb_fewest_1 (c : Cs) : Env → IH → RS := (ms_seq (ms_set (g_nm 6) (m_app (f_call 3 [] (m_open_ends c)) (m_cons (m_var 1) (m_cons (m_var 5) (m_cons (m_var 3) m_nil)))))
 (ms_seq (ms_if (m_and (m_tb (m_op f_eq (m_var 6) (m_app f_lst m_nil))) (m_tb (m_op f_le (m_op f_sub (m_var 3) (m_var 5)) (m_var 0))))
 (ms_ret (m_var 4))
 ms_pass)
 (ms_seq (ms_set (g_nm 5) (m_app f_min1 (m_cons (m_op f_add (m_var 6) (m_app f_lst (m_cons (m_op f_add (m_var 5) (m_var 0)) m_nil))) m_nil)))
 (ms_seq (ms_expr (m_mL f_append (m_var 4) (m_cons (m_var 5) m_nil)))
 (ms_if (m_tb (m_op f_gt (m_app f_len (m_cons (m_var 4) m_nil)) (m_c (.int 2000))))
 (ms_raise c.TooMany)
 ms_pass)))))
noncomputable def wt_fewest_1 (c : Cs) : Env → IH → Res Bool := (m_tb (m_c (.bl true)))
noncomputable def b_fewest (c : Cs) : Env → IH → RS := (ms_seq (ms_expr (m_app (f_call 4 [] (m_check_frame c)) (m_cons (m_var 0) (m_cons (m_var 1) (m_cons (m_var 2) (m_cons (m_var 3) m_nil))))))
 (ms_seq (ms_set (g_nm 4) (m_app f_lst m_nil))
 (ms_seq (ms_set (g_nm 5) (m_var 2))
 (ms_while 1000000 (wt_fewest_1 c)
 (wb_fewest_1 c)))))
noncomputable def m_fewest (c : Cs) : List IV → IH → Res IV := defRun 7 (b_fewest c)
noncomputable def le_law_bound_right_1 (c : Cs) : Env → IH → Res IV := (m_op f_add (m_var 2) (m_op f_mulA (m_var 1) (m_var 6)))
noncomputable def lc_law_bound_right_1 (c : Cs) : Env → IH → Res IV := m_lc [6] (mi_rng2 (m_cons (m_c (.int 1)) (m_cons (m_op f_add (m_var 3) (m_c (.int 1))) m_nil))) (g_nm 6) n_yes (le_law_bound_right_1 c)
noncomputable def tb_law_bound_right_1 (c : Cs) : Env → IH → RS := (ms_seq (ms_set (g_nm 5) (m_app (f_call 4 [] (m_fewest c)) (m_cons (m_var 1) (m_cons (m_app f_lst m_nil) (m_cons (m_var 2) (m_cons (m_op f_add (m_op f_add (m_var 2) (m_op f_mulA (m_var 3) (m_var 1))) (m_c (.int 1))) m_nil))))))
 (ms_if (m_tb (m_op f_ne (m_var 5) (lc_law_bound_right_1 c)))
 (ms_ret (m_c (.bl false)))
 ms_pass))
noncomputable def ts_law_bound_right_1 (c : Cs) : Env → IH → RS := (ms_ret (m_c (.bl false)))
noncomputable def ts_law_bound_right_2 (c : Cs) : Env → IH → RS := (ms_set (g_nm 4) (m_c (.str "many")))
noncomputable def lb_law_bound_right_1 (c : Cs) : Env → IH → RS := (ms_seq (ms_set (g_nm 4) (m_c (.str "told")))
 (ms_seq (ms_tries [(fun cl => PySem.W.exmOne c.K (.ref cl) (.ref c.TooMany), (ts_law_bound_right_2 c)), (fun cl => PySem.W.exmOne c.K (.ref cl) (.ref c.KernelError), (ts_law_bound_right_1 c))] (tb_law_bound_right_1 c))
 (ms_if (m_tb (m_op f_ne (m_var 4) (m_op f_ix (m_app f_lst (m_cons (m_c (.str "told")) (m_cons (m_c (.str "many")) m_nil))) (m_app f_int (m_cons (m_op f_gt (m_var 3) (m_c (.int 2000))) m_nil)))))
 (ms_ret (m_c (.bl false)))
 ms_pass)))
noncomputable def b_law_bound_right (c : Cs) : Env → IH → RS := (ms_seq (ms_set (g_nm 2) (m_app (f_call 2 [] (m_law_next c)) (m_cons (m_var 0) (m_cons (m_c (.int 1000)) m_nil))))
 (ms_seq (ms_for (mi_lst (m_app f_lst (m_cons (m_c (.int 2000)) (m_cons (m_c (.int 2001)) m_nil)))) (g_nm 3)
 (lb_law_bound_right_1 c))
 (ms_ret (m_c (.bl true)))))
noncomputable def m_law_bound_right (c : Cs) : List IV → IH → Res IV := defRun 7 (b_law_bound_right c)
noncomputable def b_law_far (c : Cs) : Env → IH → RS := (ms_ret (m_op f_ix (m_app f_lst (m_cons (m_c (.int 10)) (m_cons (m_c (.int 1000)) (m_cons (m_op f_pow (m_c (.int 10)) (m_c (.int 12))) (m_cons (m_op f_pow (m_c (.int 10)) (m_c (.int 45))) m_nil))))) (m_app (f_call 2 [] (m_law_next c)) (m_cons (m_var 0) (m_cons (m_c (.int 4)) m_nil)))))
noncomputable def m_law_far (c : Cs) : List IV → IH → Res IV := defRun 1 (b_law_far c)
noncomputable def lb_law_enough_1 (c : Cs) : Env → IH → RS := (ms_seq (ms_if (m_tb (m_op f_gt (m_op f_sub (m_var 6) (m_var 5)) (m_var 0)))
 (ms_ret (m_c (.bl false)))
 ms_pass)
 (ms_set (g_nm 5) (m_var 6)))
noncomputable def le_law_enough_1 (c : Cs) : Env → IH → Res IV := (m_var 6)
noncomputable def ln_law_enough_1 (c : Cs) : Env → IH → Res Bool := (m_tb (m_chain f_le f_le (m_var 7) (m_var 6) (m_var 8)))
noncomputable def lc_law_enough_1 (c : Cs) : Env → IH → Res IV := m_lc [6] (mi_lst (m_op f_add (m_app f_lst (m_cons (m_var 2) m_nil)) (m_var 4))) (g_nm 6) (ln_law_enough_1 c) (le_law_enough_1 c)
noncomputable def lb_law_enough_2 (c : Cs) : Env → IH → RS := (ms_seq (ms_set (g_nm 9) (lc_law_enough_1 c))
 (ms_if (m_and (m_tb (m_chain f_le f_lt (m_var 2) (m_var 8) (m_var 3))) (m_tb (m_op f_eq (m_var 9) (m_app f_lst m_nil))))
 (ms_ret (m_c (.bl false)))
 ms_pass))
noncomputable def b_law_enough (c : Cs) : Env → IH → RS := (ms_seq (ms_set (g_nm 5) (m_var 2))
 (ms_seq (ms_for (mi_lst (m_op f_add (m_var 4) (m_app f_lst (m_cons (m_var 3) m_nil)))) (g_nm 6)
 (lb_law_enough_1 c))
 (ms_seq (ms_for (mi_lst (m_var 1)) (g_tup 2 (g_cons (g_nm 7) (g_cons (g_nm 8) g_nil)))
 (lb_law_enough_2 c))
 (ms_ret (m_c (.bl true))))))
noncomputable def m_law_enough (c : Cs) : List IV → IH → Res IV := defRun 10 (b_law_enough c)
noncomputable def le_law_reasons_1 (c : Cs) : Env → IH → Res IV := (m_app f_tup (m_cons (m_var 11) (m_cons (m_var 10) m_nil)))
noncomputable def ln_law_reasons_1 (c : Cs) : Env → IH → Res Bool := (m_and (m_tb (m_op f_gt (m_var 10) (m_var 6))) (m_tb (m_op f_lt (m_var 11) (m_var 3))))
noncomputable def lc_law_reasons_1 (c : Cs) : Env → IH → Res IV := m_lc [10, 11] (mi_lst (m_var 1)) (g_tup 2 (g_cons (g_nm 10) (g_cons (g_nm 11) g_nil))) (ln_law_reasons_1 c) (le_law_reasons_1 c)
noncomputable def lb_law_reasons_1 (c : Cs) : Env → IH → RS := (ms_seq (ms_set (g_nm 8) (lc_law_reasons_1 c))
 (ms_seq (ms_set (g_nm 9) (m_app f_minP (m_cons (m_op f_add (m_app f_lst (m_cons (m_app f_tup (m_cons (m_op f_add (m_var 6) (m_var 0)) (m_cons (m_op f_add (m_var 6) (m_c (.int 1))) m_nil))) m_nil)) (m_var 8)) m_nil)))
 (ms_seq (ms_if (m_tb (m_op f_ne (m_var 7) (m_op f_ix (m_var 9) (m_c (.int 0)))))
 (ms_ret (m_c .non))
 ms_pass)
 (ms_seq (ms_expr (m_mL f_append (m_var 5) (m_cons (m_app f_tup (m_cons (m_op f_ix (m_var 9) (m_c (.int 1))) (m_cons (m_var 7) m_nil))) m_nil)))
 (ms_set (g_nm 6) (m_var 7))))))
noncomputable def b_law_reasons (c : Cs) : Env → IH → RS := (ms_seq (ms_set (g_tup 2 (g_cons (g_nm 5) (g_cons (g_nm 6) g_nil))) (m_app f_tup (m_cons (m_app f_lst m_nil) (m_cons (m_var 2) m_nil))))
 (ms_seq (ms_for (mi_lst (m_var 4)) (g_nm 7)
 (lb_law_reasons_1 c))
 (ms_ret (m_var 5))))
noncomputable def m_law_reasons (c : Cs) : List IV → IH → Res IV := defRun 12 (b_law_reasons c)
noncomputable def le_is_certificate_1 (c : Cs) : Env → IH → Res IV := (m_app (f_call 1 [] (m_is_stretch c)) (m_cons (m_var 5) m_nil))
noncomputable def lc_is_certificate_1 (c : Cs) : Env → IH → Res IV := m_lc [5] (mi_lst (m_var 4)) (g_nm 5) n_yes (le_is_certificate_1 c)
noncomputable def le_is_certificate_2 (c : Cs) : Env → IH → Res IV := (m_op f_lt (m_op f_ix (m_var 5) (m_c (.int 1))) (m_op f_ix (m_var 6) (m_c (.int 0))))
noncomputable def lc_is_certificate_2 (c : Cs) : Env → IH → Res IV := m_lc [5, 6] (mi_zip (m_cons (m_var 4) (m_cons (m_sl (m_var 4) (m_some (m_c (.int 1))) m_none) m_nil))) (g_tup 2 (g_cons (g_nm 5) (g_cons (g_nm 6) g_nil))) n_yes (le_is_certificate_2 c)
noncomputable def le_is_certificate_3 (c : Cs) : Env → IH → Res IV := (m_orV (m_op f_in (m_var 5) (m_var 1)) (m_op f_eq (m_op f_add (m_op f_sub (m_op f_ix (m_var 5) (m_c (.int 1))) (m_op f_ix (m_var 5) (m_c (.int 0)))) (m_c (.int 1))) (m_var 0)))
noncomputable def lc_is_certificate_3 (c : Cs) : Env → IH → Res IV := m_lc [5] (mi_lst (m_var 4)) (g_nm 5) n_yes (le_is_certificate_3 c)
noncomputable def b_is_certificate (c : Cs) : Env → IH → RS := (ms_seq (ms_expr (m_app (f_call 4 [] (m_check_frame c)) (m_cons (m_var 0) (m_cons (m_var 1) (m_cons (m_var 2) (m_cons (m_var 3) m_nil))))))
 (ms_seq (ms_if (m_or (m_not (m_tb (m_app f_isi (m_cons (m_var 4) (m_cons (m_c (.ty "list")) m_nil))))) (m_not (m_tb (m_app f_all (m_cons (lc_is_certificate_1 c) m_nil)))))
 (ms_ret (m_c (.bl false)))
 ms_pass)
 (ms_seq (ms_if (m_and (m_tb (m_op f_ne (m_var 4) (m_app f_lst m_nil))) (m_or (m_tb (m_op f_le (m_op f_ix (m_op f_ix (m_var 4) (m_c (.int 0))) (m_c (.int 0))) (m_var 2))) (m_tb (m_op f_ge (m_op f_ix (m_op f_ix (m_var 4) (m_un f_neg (m_c (.int 1)))) (m_c (.int 1))) (m_var 3)))))
 (ms_ret (m_c (.bl false)))
 ms_pass)
 (ms_seq (ms_if (m_not (m_tb (m_app f_all (m_cons (lc_is_certificate_2 c) m_nil))))
 (ms_ret (m_c (.bl false)))
 ms_pass)
 (ms_ret (m_app f_all (m_cons (lc_is_certificate_3 c) m_nil)))))))
noncomputable def m_is_certificate (c : Cs) : List IV → IH → Res IV := defRun 7 (b_is_certificate c)
noncomputable def le_is_looks_1 (c : Cs) : Env → IH → Res IV := (m_andV (m_app (f_call 2 [] (m_is_whole c)) (m_cons (m_var 3) (m_cons (m_op f_add (m_var 1) (m_c (.int 1))) m_nil))) (m_op f_lt (m_var 3) (m_var 2)))
noncomputable def lc_is_looks_1 (c : Cs) : Env → IH → Res IV := m_lc [3] (mi_lst (m_var 0)) (g_nm 3) n_yes (le_is_looks_1 c)
noncomputable def le_is_looks_2 (c : Cs) : Env → IH → Res IV := (m_op f_lt (m_var 3) (m_var 4))
noncomputable def lc_is_looks_2 (c : Cs) : Env → IH → Res IV := m_lc [3, 4] (mi_zip (m_cons (m_var 0) (m_cons (m_sl (m_var 0) (m_some (m_c (.int 1))) m_none) m_nil))) (g_tup 2 (g_cons (g_nm 3) (g_cons (g_nm 4) g_nil))) n_yes (le_is_looks_2 c)
noncomputable def b_is_looks (c : Cs) : Env → IH → RS := (ms_seq (ms_if (m_or (m_not (m_tb (m_app f_isi (m_cons (m_var 0) (m_cons (m_c (.ty "list")) m_nil))))) (m_not (m_tb (m_app f_all (m_cons (lc_is_looks_1 c) m_nil)))))
 (ms_ret (m_c (.bl false)))
 ms_pass)
 (ms_ret (m_app f_all (m_cons (lc_is_looks_2 c) m_nil))))
noncomputable def m_is_looks (c : Cs) : List IV → IH → Res IV := defRun 5 (b_is_looks c)
noncomputable def le_suffices_1 (c : Cs) : Env → IH → Res IV := (m_op f_le (m_op f_sub (m_var 9) (m_var 8)) (m_var 0))
noncomputable def lc_suffices_1 (c : Cs) : Env → IH → Res IV := m_lc [8, 9] (mi_zip (m_cons (m_var 5) (m_cons (m_sl (m_var 5) (m_some (m_c (.int 1))) m_none) m_nil))) (g_tup 2 (g_cons (g_nm 8) (g_cons (g_nm 9) g_nil))) n_yes (le_suffices_1 c)
noncomputable def le_suffices_2 (c : Cs) : Env → IH → Res IV := (m_app f_tup (m_cons (m_var 10) (m_cons (m_var 11) m_nil)))
noncomputable def ln_suffices_1 (c : Cs) : Env → IH → Res Bool := (m_tb (m_chain f_le f_lt (m_var 2) (m_var 11) (m_var 3)))
noncomputable def lc_suffices_2 (c : Cs) : Env → IH → Res IV := m_lc [10, 11] (mi_lst (m_var 1)) (g_tup 2 (g_cons (g_nm 10) (g_cons (g_nm 11) g_nil))) (ln_suffices_1 c) (le_suffices_2 c)
noncomputable def le_suffices_3 (c : Cs) : Env → IH → Res IV := (m_chain f_le f_le (m_var 10) (m_var 12) (m_var 11))
noncomputable def lc_suffices_3 (c : Cs) : Env → IH → Res IV := m_lc [12] (mi_lst (m_var 6)) (g_nm 12) n_yes (le_suffices_3 c)
noncomputable def le_suffices_4 (c : Cs) : Env → IH → Res IV := (m_app f_any (m_cons (lc_suffices_3 c) m_nil))
noncomputable def lc_suffices_4 (c : Cs) : Env → IH → Res IV := m_lc [10, 11] (mi_lst (m_var 7)) (g_tup 2 (g_cons (g_nm 10) (g_cons (g_nm 11) g_nil))) n_yes (le_suffices_4 c)
noncomputable def b_suffices (c : Cs) : Env → IH → RS := (ms_seq (ms_set (g_nm 5) (m_op f_add (m_op f_add (m_app f_lst (m_cons (m_var 2) m_nil)) (m_var 4)) (m_app f_lst (m_cons (m_var 3) m_nil))))
 (ms_seq (ms_if (m_not (m_tb (m_app f_all (m_cons (lc_suffices_1 c) m_nil))))
 (ms_ret (m_c (.bl false)))
 ms_pass)
 (ms_seq (ms_set (g_nm 6) (m_op f_add (m_app f_lst (m_cons (m_var 2) m_nil)) (m_var 4)))
 (ms_seq (ms_set (g_nm 7) (lc_suffices_2 c))
 (ms_ret (m_app f_all (m_cons (lc_suffices_4 c) m_nil)))))))
noncomputable def m_suffices (c : Cs) : List IV → IH → Res IV := defRun 13 (b_suffices c)
noncomputable def b_is_enough (c : Cs) : Env → IH → RS := (ms_seq (ms_expr (m_app (f_call 4 [] (m_check_frame c)) (m_cons (m_var 0) (m_cons (m_var 1) (m_cons (m_var 2) (m_cons (m_var 3) m_nil))))))
 (ms_ret (m_andV (m_app (f_call 3 [] (m_is_looks c)) (m_cons (m_var 4) (m_cons (m_var 2) (m_cons (m_var 3) m_nil)))) (m_app (f_call 5 [] (m_suffices c)) (m_cons (m_var 0) (m_cons (m_var 1) (m_cons (m_var 2) (m_cons (m_var 3) (m_cons (m_var 4) m_nil)))))))))
noncomputable def m_is_enough (c : Cs) : List IV → IH → Res IV := defRun 5 (b_is_enough c)
noncomputable def le_law_right_1 (c : Cs) : Env → IH → Res IV := (m_var 6)
noncomputable def ln_law_right_1 (c : Cs) : Env → IH → Res Bool := (m_not (m_tb (m_chain f_lt f_lt (m_var 2) (m_var 6) (m_var 3))))
noncomputable def lc_law_right_1 (c : Cs) : Env → IH → Res IV := m_lc [6] (mi_lst (m_var 4)) (g_nm 6) (ln_law_right_1 c) (le_law_right_1 c)
noncomputable def b_law_right (c : Cs) : Env → IH → RS := (ms_seq (ms_set (g_nm 4) (m_app (f_call 4 [] (m_fewest c)) (m_cons (m_var 0) (m_cons (m_var 1) (m_cons (m_var 2) (m_cons (m_var 3) m_nil))))))
 (ms_seq (ms_if (m_not (m_tb (m_app (f_call 5 [] (m_law_enough c)) (m_cons (m_var 0) (m_cons (m_var 1) (m_cons (m_var 2) (m_cons (m_var 3) (m_cons (m_var 4) m_nil))))))))
 (ms_ret (m_c (.bl false)))
 ms_pass)
 (ms_seq (ms_if (m_not (m_tb (m_app (f_call 5 [] (m_is_enough c)) (m_cons (m_var 0) (m_cons (m_var 1) (m_cons (m_var 2) (m_cons (m_var 3) (m_cons (m_var 4) m_nil))))))))
 (ms_ret (m_c (.bl false)))
 ms_pass)
 (ms_seq (ms_set (g_nm 5) (m_app (f_call 5 [] (m_law_reasons c)) (m_cons (m_var 0) (m_cons (m_var 1) (m_cons (m_var 2) (m_cons (m_var 3) (m_cons (m_var 4) m_nil)))))))
 (ms_seq (ms_if (m_or (m_tb (m_op f_isN (m_var 5) (m_c .non))) (m_not (m_tb (m_app (f_call 5 [] (m_is_certificate c)) (m_cons (m_var 0) (m_cons (m_var 1) (m_cons (m_var 2) (m_cons (m_var 3) (m_cons (m_var 5) m_nil)))))))))
 (ms_ret (m_c (.bl false)))
 ms_pass)
 (ms_ret (m_op f_eq (lc_law_right_1 c) (m_app f_lst m_nil))))))))
noncomputable def m_law_right (c : Cs) : List IV → IH → Res IV := defRun 7 (b_law_right c)
noncomputable def le_needed_1 (c : Cs) : Env → IH → Res IV := (m_var 9)
noncomputable def ln_needed_1 (c : Cs) : Env → IH → Res Bool := (m_tb (m_op f_le (m_var 9) (m_var 8)))
noncomputable def lc_needed_1 (c : Cs) : Env → IH → Res IV := m_lc [9] (mi_lst (m_var 4)) (g_nm 9) (ln_needed_1 c) (le_needed_1 c)
noncomputable def wb_needed_1 (c : Cs) : Env → IH → RS := (ms_seq (ms_set (g_nm 7) (m_app (f_call 3 [] (m_open_ends c)) (m_cons (m_var 1) (m_cons (m_var 6) (m_cons (m_var 3) m_nil)))))
 (ms_seq (ms_if (m_and (m_tb (m_op f_eq (m_var 7) (m_app f_lst m_nil))) (m_tb (m_op f_le (m_op f_sub (m_var 3) (m_var 6)) (m_var 0))))
 (ms_ret (m_var 5))
 ms_pass)
 (ms_seq (ms_set (g_nm 8) (m_app f_min1 (m_cons (m_op f_add (m_var 7) (m_app f_lst (m_cons (m_op f_add (m_var 6) (m_var 0)) m_nil))) m_nil)))
 (ms_seq (ms_set (g_nm 6) (m_op f_ix (lc_needed_1 c) (m_un f_neg (m_c (.int 1)))))
 (ms_expr (m_mL f_append (m_var 5) (m_cons (m_var 6) m_nil)))))))
noncomputable def wt_needed_1 (c : Cs) : Env → IH → Res Bool := (m_tb (m_c (.bl true)))
noncomputable def b_needed (c : Cs) : Env → IH → RS := (ms_seq (ms_expr (m_app (f_call 4 [] (m_check_frame c)) (m_cons (m_var 0) (m_cons (m_var 1) (m_cons (m_var 2) (m_cons (m_var 3) m_nil))))))
 (ms_seq (ms_if (m_not (m_tb (m_app (f_call 3 [] (m_is_looks c)) (m_cons (m_var 4) (m_cons (m_var 2) (m_cons (m_var 3) m_nil))))))
 (ms_raise c.NoLooks)
 ms_pass)
 (ms_seq (ms_if (m_not (m_tb (m_app (f_call 5 [] (m_suffices c)) (m_cons (m_var 0) (m_cons (m_var 1) (m_cons (m_var 2) (m_cons (m_var 3) (m_cons (m_var 4) m_nil))))))))
 (ms_ret (m_c .non))
 ms_pass)
 (ms_seq (ms_set (g_nm 5) (m_app f_lst m_nil))
 (ms_seq (ms_set (g_nm 6) (m_var 2))
 (ms_while 1000000 (wt_needed_1 c)
 (wb_needed_1 c)))))))
noncomputable def m_needed (c : Cs) : List IV → IH → Res IV := defRun 10 (b_needed c)
noncomputable def lb_law_long_right_1 (c : Cs) : Env → IH → RS := (ms_seq (ms_set (g_nm 5) (m_op f_add (m_op f_add (m_var 5) (m_c (.int 1))) (m_app (f_call 2 [] (m_law_next c)) (m_cons (m_var 0) (m_cons (m_c (.int 9)) m_nil)))))
 (ms_expr (m_mL f_append (m_var 4) (m_cons (m_app f_tup (m_cons (m_var 5) (m_cons (m_op f_add (m_var 5) (m_app (f_call 2 [] (m_law_next c)) (m_cons (m_var 0) (m_cons (m_c (.int 12)) m_nil)))) m_nil))) m_nil))))
noncomputable def b_law_long_right (c : Cs) : Env → IH → RS := (ms_seq (ms_par 1 2 (m_cons (m_app (f_call 2 [] (m_law_next c)) (m_cons (m_var 0) (m_cons (m_c (.int 1000)) m_nil))) (m_cons (m_op f_add (m_c (.int 150)) (m_app (f_call 2 [] (m_law_next c)) (m_cons (m_var 0) (m_cons (m_c (.int 51)) m_nil)))) m_nil)))
 (ms_seq (ms_par3 3 4 5 (m_cons (m_op f_pow (m_c (.int 10)) (m_c (.int 50))) (m_cons (m_app f_lst m_nil) (m_cons (m_op f_add (m_var 1) (m_c (.int 1))) m_nil))))
 (ms_seq (ms_for (mi_rng1 (m_cons (m_var 2) m_nil)) (g_nm 6)
 (lb_law_long_right_1 c))
 (ms_seq (ms_set (g_nm 5) (m_op f_add (m_var 5) (m_c (.int 20))))
 (ms_seq (ms_if (m_tb (m_op f_eq (m_app (f_call 2 [] (m_law_next c)) (m_cons (m_var 0) (m_cons (m_c (.int 2)) m_nil))) (m_c (.int 0))))
 (ms_seq (ms_par 3 4 (m_cons (m_op f_add (m_c (.int 1)) (m_app (f_call 2 [] (m_law_next c)) (m_cons (m_var 0) (m_cons (m_op f_pow (m_c (.int 10)) (m_c (.int 9))) m_nil)))) (m_cons (m_app f_lst m_nil) m_nil)))
 (ms_set (g_nm 5) (m_op f_add (m_op f_add (m_var 1) (m_op f_mulA (m_var 2) (m_var 3))) (m_c (.int 1)))))
 ms_pass)
 (ms_seq (ms_if (m_not (m_tb (m_app (f_call 4 [] (m_law_right c)) (m_cons (m_var 3) (m_cons (m_var 4) (m_cons (m_var 1) (m_cons (m_var 5) m_nil)))))))
 (ms_ret (m_c (.bl false)))
 ms_pass)
 (ms_seq (ms_set (g_nm 7) (m_app (f_call 4 [] (m_fewest c)) (m_cons (m_var 3) (m_cons (m_var 4) (m_cons (m_var 1) (m_cons (m_var 5) m_nil))))))
 (ms_seq (ms_if (m_tb (m_op f_ne (m_app (f_call 5 [] (m_needed c)) (m_cons (m_var 3) (m_cons (m_un f_rev (m_var 4)) (m_cons (m_var 1) (m_cons (m_var 5) (m_cons (m_var 7) m_nil)))))) (m_var 7)))
 (ms_ret (m_c (.bl false)))
 ms_pass)
 (ms_seq (ms_set (g_nm 8) (m_app (f_call 2 [] (m_law_next c)) (m_cons (m_var 0) (m_cons (m_app f_len (m_cons (m_var 7) m_nil)) m_nil))))
 (ms_seq (ms_set (g_nm 9) (m_op f_add (m_sl (m_var 7) m_none (m_some (m_var 8))) (m_sl (m_var 7) (m_some (m_op f_add (m_var 8) (m_c (.int 1)))) m_none)))
 (ms_seq (ms_set (g_nm 10) (m_app (f_call 5 [] (m_is_enough c)) (m_cons (m_var 3) (m_cons (m_var 4) (m_cons (m_var 1) (m_cons (m_var 5) (m_cons (m_var 9) m_nil)))))))
 (ms_ret (m_andV (m_op f_isB (m_var 10) (m_c (.bl false))) (m_op f_isN (m_app (f_call 5 [] (m_needed c)) (m_cons (m_var 3) (m_cons (m_var 4) (m_cons (m_var 1) (m_cons (m_var 5) (m_cons (m_var 9) m_nil)))))) (m_c .non)))))))))))))))
noncomputable def m_law_long_right (c : Cs) : List IV → IH → Res IV := defRun 11 (b_law_long_right c)
noncomputable def b_law_cell_at (c : Cs) : Env → IH → RS := (ms_seq (ms_if (m_tb (m_op f_lt (m_var 1) (m_app f_len (m_cons (m_var 0) m_nil))))
 (ms_ret (m_op f_ix (m_var 0) (m_var 1)))
 ms_pass)
 (ms_ret (m_c (.int 0))))
noncomputable def m_law_cell_at (c : Cs) : List IV → IH → Res IV := defRun 2 (b_law_cell_at c)
noncomputable def b_law_source (c : Cs) : Env → IH → RS := (ms_seq (ms_if (m_tb (m_op f_lt (m_var 1) (m_app f_len (m_cons (m_var 0) m_nil))))
 (ms_ret (m_app f_lst (m_cons (m_op f_ix (m_var 0) (m_var 1)) (m_cons (m_op f_ix (m_var 0) (m_var 1)) (m_cons (m_c (.int 0)) m_nil)))))
 ms_pass)
 (ms_seq (ms_set (g_nm 2) (m_app (f_call 2 [] (m_law_mixed c)) (m_cons (m_app (f_call 2 [] (m_law_cell_at c)) (m_cons (m_var 0) (m_cons (m_c (.int 0)) m_nil))) (m_cons (m_op f_add (m_c (.int 1000)) (m_var 1)) m_nil))))
 (ms_ret (m_app f_lst (m_cons (m_var 2) (m_cons (m_var 2) (m_cons (m_c (.int 0)) m_nil)))))))
noncomputable def m_law_source (c : Cs) : List IV → IH → Res IV := defRun 3 (b_law_source c)
noncomputable def lb_law_1 (c : Cs) : Env → IH → RS := (ms_seq (ms_set (g_nm 9) (m_app (f_call 2 [] (m_law_next c)) (m_cons (m_var 2) (m_cons (m_op f_add (m_var 5) (m_var 3)) m_nil))))
 (ms_seq (ms_set (g_nm 10) (m_op f_ix (m_app f_lst (m_cons (m_c (.int 0)) (m_cons (m_app (f_call 2 [] (m_law_next c)) (m_cons (m_var 2) (m_cons (m_c (.int 10)) m_nil))) (m_cons (m_app (f_call 2 [] (m_law_next c)) (m_cons (m_var 2) (m_cons (m_op f_mulA (m_c (.int 5)) (m_var 3)) m_nil))) m_nil)))) (m_app (f_call 2 [] (m_law_next c)) (m_cons (m_var 2) (m_cons (m_c (.int 3)) m_nil)))))
 (ms_expr (m_mL f_append (m_var 7) (m_cons (m_app f_tup (m_cons (m_var 9) (m_cons (m_op f_add (m_var 9) (m_var 10)) m_nil))) m_nil)))))
noncomputable def lb_law_2 (c : Cs) : Env → IH → RS := (ms_seq (ms_set (g_nm 2) (m_app (f_call 2 [] (m_law_source c)) (m_cons (m_var 0) (m_cons (m_var 1) m_nil))))
 (ms_seq (ms_set (g_nm 3) (m_app (f_call 1 [] (m_law_far c)) (m_cons (m_var 2) m_nil)))
 (ms_seq (ms_set (g_nm 4) (m_app (f_call 2 [] (m_law_next c)) (m_cons (m_var 2) (m_cons (m_var 3) m_nil))))
 (ms_seq (ms_set (g_nm 5) (m_op f_add (m_var 4) (m_app (f_call 2 [] (m_law_next c)) (m_cons (m_var 2) (m_cons (m_op f_mulA (m_c (.int 30)) (m_var 3)) m_nil)))))
 (ms_seq (ms_set (g_nm 6) (m_op f_ix (m_app f_lst (m_cons (m_op f_add (m_op f_add (m_c (.int 1)) (m_op f_fdiv (m_var 3) (m_c (.int 2)))) (m_app (f_call 2 [] (m_law_next c)) (m_cons (m_var 2) (m_cons (m_var 3) m_nil)))) (m_cons (m_op f_add (m_c (.int 1)) (m_op f_mulA (m_c (.int 5)) (m_var 3))) (m_cons (m_op f_pow (m_c (.int 10)) (m_c (.int 50))) m_nil)))) (m_app (f_call 2 [] (m_law_next c)) (m_cons (m_var 2) (m_cons (m_c (.int 3)) m_nil)))))
 (ms_seq (ms_set (g_nm 7) (m_app f_lst m_nil))
 (ms_seq (ms_for (mi_rng1 (m_cons (m_app (f_call 2 [] (m_law_next c)) (m_cons (m_var 2) (m_cons (m_c (.int 31)) m_nil))) m_nil)) (g_nm 8)
 (lb_law_1 c))
 (ms_if (m_not (m_tb (m_app (f_call 4 [] (m_law_right c)) (m_cons (m_var 6) (m_cons (m_var 7) (m_cons (m_var 4) (m_cons (m_var 5) m_nil)))))))
 (ms_ret (m_c (.bl false)))
 ms_pass))))))))
noncomputable def b_law (c : Cs) : Env → IH → RS := (ms_seq (ms_for (mi_rng1 (m_cons (m_app f_max2 (m_cons (m_c (.int 1)) (m_cons (m_app f_min2 (m_cons (m_c (.int 6)) (m_cons (m_app f_len (m_cons (m_var 0) m_nil)) m_nil))) m_nil))) m_nil)) (g_nm 1)
 (lb_law_2 c))
 (ms_seq (ms_set (g_nm 2) (m_app (f_call 2 [] (m_law_source c)) (m_cons (m_var 0) (m_cons (m_c (.int 0)) m_nil))))
 (ms_seq (ms_if (m_not (m_tb (m_app (f_call 1 [] (m_law_long_right c)) (m_cons (m_var 2) m_nil))))
 (ms_ret (m_c (.bl false)))
 ms_pass)
 (ms_ret (m_app (f_call 2 [] (m_law_bound_right c)) (m_cons (m_var 2) (m_cons (m_op f_add (m_c (.int 1)) (m_app (f_call 2 [] (m_law_next c)) (m_cons (m_var 2) (m_cons (m_op f_pow (m_c (.int 10)) (m_c (.int 20))) m_nil)))) m_nil)))))))
noncomputable def m_law (c : Cs) : List IV → IH → Res IV := defRun 11 (b_law c)
structure CsOk (c : Cs) : Prop where
  xm_NoCycle_KernelError : PySem.W.exmOne c.K (.ref c.NoCycle) (.ref c.KernelError) = some true
  xm_NoCycle_TooMany : PySem.W.exmOne c.K (.ref c.NoCycle) (.ref c.TooMany) = some false
  xm_NoLooks_KernelError : PySem.W.exmOne c.K (.ref c.NoLooks) (.ref c.KernelError) = some true
  xm_NoLooks_TooMany : PySem.W.exmOne c.K (.ref c.NoLooks) (.ref c.TooMany) = some false
  xm_NoSpan_KernelError : PySem.W.exmOne c.K (.ref c.NoSpan) (.ref c.KernelError) = some true
  xm_NoSpan_TooMany : PySem.W.exmOne c.K (.ref c.NoSpan) (.ref c.TooMany) = some false
  xm_NoWindow_KernelError : PySem.W.exmOne c.K (.ref c.NoWindow) (.ref c.KernelError) = some true
  xm_NoWindow_TooMany : PySem.W.exmOne c.K (.ref c.NoWindow) (.ref c.TooMany) = some false
  xm_TooMany_KernelError : PySem.W.exmOne c.K (.ref c.TooMany) (.ref c.KernelError) = some true
  xm_TooMany_TooMany : PySem.W.exmOne c.K (.ref c.TooMany) (.ref c.TooMany) = some true
end L3
/-! L5: the draws that every law makes. -/
namespace L3
open PySem PySem.Spec PyProof.Rows L2
local macro_rules | `(tactic| walk_at "run") => `(tactic| simp only [m_op, m_var, m_c, m_un, m_nil, m_cons, m_if, m_and, m_or, m_not, m_tb, m_andV, m_orV, m_notV, m_app, m_sl, m_none, m_some, m_mL, m_mL0, ms_set, ms_expr, ms_ret, ms_retN, ms_pass, ms_brk, ms_cont, ms_if, ms_seq, ms_aug, ms_par, ms_setL, ms_raise,
  Res.bind_ok, Res.bind_exc, Res.bind_stuck, Res.stm_ok, Res.stm_exc, Res.stm_stuck, RS.seq_next, RS.seq_ret, RS.seq_brk, RS.seq_cont, RS.seq_exc, RS.seq_stuck, RS.out_ret, RS.out_next, RS.out_exc,
  startI_cons, startI_nil, rep_succ, rep_zero, List.getElem?_cons_zero, List.getElem?_cons_succ, List.set_cons_zero, List.set_cons_succ, defRun, g_nm, f_call, List.append_nil, List.nil_append, List.cons_append, List.length_cons, List.length_nil, if_true, if_false,
  a_int, a_add, a_addI, a_sub, a_neg, a_lt, a_le, a_gt, a_ge, a_max2, a_min2, a_abs, a_isN, a_notN, a_mul, a_mulI, a_fdiv, a_mod, a_shl, a_shr, a_pow, a_lst, a_tup, f_ix, f_len, f_list, f_append, f_setL, isLst, atI_0, atI_1, atI_2, atI_3, atI_4, atI_5, atI_6, atI_7, atI_8, atI_9, atI_10, atI_11, atI_12, ixN_30, ixN_31, ixN_32, Int.toNat_zero, Int.reduceToNat, Int.reduceNeg, xs_lst, xs_tup, xs_ro, xs_rot, isL_lst, isL_tup, isL_ro, isL_rot,
  Bool.false_eq_true, Bool.true_eq_false, Bool.not_true, Bool.not_false, decide_true, decide_false, ↓reduceIte, Int.reduceLT, Int.reduceLE, Nat.reduceLT, Nat.reduceLeDiff, Nat.reduceAdd, *])
/-- the script stands at 0 -/
def Scr (ns : List Int) (ih : IH) : Prop := ih[0]? = some (.ro (ns.map IV.int))
theorem atI_map {ns : List Int} {k : Nat} {i : Int} (hi : i = (k : Int)) (h : k < ns.length) : atI (ns.map IV.int) i = some (.int (ns.getD k 0)) := by
  refine atI_ok hi ?_
  rw [List.getElem?_map, List.getElem?_eq_getElem h, List.getD_eq_getElem?_getD, List.getElem?_eq_getElem h]
  rfl
theorem run_cell_at (c : Cs) {ns : List Int} {k : Nat} {ih : IH} (h : Scr ns ih) : m_law_cell_at c [.ref 0, .int (k : Int)] ih = .ok (.int (ns.getD k 0)) ih := by
  have e : (ns.map IV.int).length = ns.length := List.length_map _
  unfold m_law_cell_at b_law_cell_at
  have h' : ih[0]? = some (.ro (ns.map IV.int)) := h
  clear h
  by_cases hk : k < ns.length
  · have e1 : decide ((k : Int) < (ns.length : Int)) = true := decide_eq_true (by omega)
    have e2 := atI_map (i := (k : Int)) rfl hk
    clear hk
    walk_at "run"
  · have e1 : decide ((k : Int) < (ns.length : Int)) = false := decide_eq_false (by omega)
    have e2 : ns.getD k 0 = 0 := by
      rw [List.getD_eq_getElem?_getD, List.getElem?_eq_none (by omega)]
      rfl
    clear hk
    walk_at "run"
theorem lit {i : Int} (n : Nat) (h : i.natAbs < 2 ^ n := by decide) : B n i := h
theorem run_mixed (c : Cs) {a k : Int} (ih : IH) (ha : B 1100000 a) (hk : B 64 k) : ∃ v : Int, m_law_mixed c [.int a, .int k] ih = .ok (.int v) ih ∧ 0 ≤ v ∧ v < 2147483563 := by
  unfold m_law_mixed b_law_mixed
  have h1 : B 31 (a % 2147483629) := B.mod (by decide) (lit 31)
  have h2 : B 1100000 (a / 2147483629) := B.div ha (by decide)
  have h3 : B 1100016 (a / 2147483629 * 30011) := B.mul (m := 16) h2 (lit 16)
  have h4 : B 1100017 (a % 2147483629 + a / 2147483629 * 30011) := B.add (h1.mono (by decide)) h3
  have h5 : B 81 (69621 * k) := B.mul (n := 17) (lit 17) hk
  have h6 : B 1100018 (a % 2147483629 + a / 2147483629 * 30011 + 69621 * k) := B.add h4 (h5.mono (by decide))
  have h7 : B 1100019 (a % 2147483629 + a / 2147483629 * 30011 + 69621 * k + 1) := B.add h6 ((lit 1 : B 1 1).mono (by decide))
  have c1 : cDiv a 2147483629 = true := cDiv_of (by decide) (lit 32) (by decide) (by decide)
  have c2 : cMul (a / 2147483629) 30011 = true := B.cmul h2 (lit 16 : B 16 30011) (by decide)
  have c3 : cMul 69621 k = true := B.cmul (lit 17 : B 17 69621) hk (by decide)
  have c4 : cMul (a % 2147483629 + a / 2147483629 * 30011 + 69621 * k + 1) 48271 = true := B.cmul h7 (lit 16 : B 16 48271) (by decide)
  obtain ⟨x, ex⟩ : ∃ x, (a % 2147483629 + a / 2147483629 * 30011 + 69621 * k + 1) * 48271 % 2147483629 = x := ⟨_, rfl⟩
  have g1 : B 31 x := ex ▸ B.mod (by decide) (lit 31)
  have g2 : B 66 (x / 907 + 16831 + k) := B.add (B.add (n := 64) ((B.div g1 (by decide)).mono (by decide)) ((lit 15 : B 15 16831).mono (by decide))) (hk.mono (by decide))
  have c5 : cDiv x 907 = true := cDiv_of (by decide) (lit 10 : B 10 907) (by decide) (by decide)
  have c6 : cMul x (x / 907 + 16831 + k) = true := B.cmul g1 g2 (by decide)
  obtain ⟨y, ey⟩ : ∃ y, x * (x / 907 + 16831 + k) % 2147483587 = y := ⟨_, rfl⟩
  have k1 : B 31 y := ey ▸ B.mod (by decide) (lit 31)
  have k2 : B 32 (y / 1201 + 30011) := B.add ((B.div k1 (by decide)).mono (by decide)) ((lit 15 : B 15 30011).mono (by decide))
  have c7 : cDiv y 1201 = true := cDiv_of (by decide) (lit 11 : B 11 1201) (by decide) (by decide)
  have c8 : cMul y (y / 1201 + 30011) = true := B.cmul k1 k2 (by decide)
  clear h1 h2 h3 h4 h5 h6 h7 g1 g2 k1 k2 ha hk
  walk_at "run"
  exact ⟨_, rfl, Int.emod_nonneg _ (by decide), Int.emod_lt_of_pos _ (by decide)⟩
/-- a source of draws at p; so many draws were made off it at most -/
def Src0 (p : Nat) (m : Nat) (ih : IH) : Prop := ∃ a b k : Int, ih[p]? = some (.lst [.int a, .int b, .int k]) ∧ B 1100000 a ∧ B 1100000 b ∧ 0 ≤ k ∧ k ≤ (m : Int)
theorem Src0.mono {p m n : Nat} {ih : IH} (h : Src0 p m ih) (e : m ≤ n) : Src0 p n ih := by
  obtain ⟨a, b, k, h1, h2, h3, h4, h5⟩ := h
  exact ⟨a, b, k, h1, h2, h3, h4, by omega⟩
theorem Src0.ext {p m : Nat} {ih ih' : IH} (h : Src0 p m ih) (e : Ext ih ih') : Src0 p m ih' := by
  obtain ⟨a, b, k, h1, h2⟩ := h
  exact ⟨a, b, k, e _ _ h1, h2⟩
theorem B64 {k : Int} {m : Nat} (h0 : 0 ≤ k) (h : k ≤ (m : Int)) (hm : m ≤ 1000000000) : B 64 k := B.lt h0 (by omega)
theorem at3_0 {a b k : IV} : atI [a, b, k] (0 : Int) = some a := rfl
theorem at3_1 {a b k : IV} : atI [a, b, k] (1 : Int) = some b := rfl
theorem at3_2 {a b k : IV} : atI [a, b, k] (2 : Int) = some k := rfl
theorem run_next (c : Cs) {p m : Nat} {many : Int} {ih : IH} (h : Src0 p m ih) (hm : m ≤ 1000000) (h0 : 0 < many) (hb : B 8000 many) : ∃ (v : Int) (ih' : IH), m_law_next c [.ref p, .int many] ih = .ok (.int v) ih' ∧ 0 ≤ v ∧ v < many ∧ Src0 p (m + 1) ih' ∧ ExtP p ih ih' ∧ ih'.length = ih.length := by
  obtain ⟨a, b, k, h1, ha, hbb, hk0, hk⟩ := h
  unfold m_law_next b_law_next
  have p1 : cPow 10 18 = true := by decide
  by_cases hc : (10 : Int) ^ 18 ≤ a
  · refine ⟨a % many, ih.set p (.lst [.int (a / many), .int b, .int k]), ?_, Int.emod_nonneg _ (Int.ne_of_gt h0), Int.emod_lt_of_pos _ h0, ⟨_, b, k, get_set h1, B.div ha h0, hbb, hk0, by omega⟩, ExtP.set _ _ _, List.length_set⟩
    have c1 := decide_eq_true hc
    have c2 : cDiv a many = true := cDiv_of h0 hb (by decide) (by decide)
    clear hc hb ha hbb hk0 hk hm
    walk_at "run"
  · obtain ⟨v, e3, v0, v1⟩ := run_mixed c (ih.set p (MO.lst [.int a, .int b, .int (k + 1)])) hbb (B64 (k := k + 1) (m := m + 1) (by omega) (by omega) (by omega))
    have e2 := get_set (o := MO.lst [.int a, .int b, .int (k + 1)]) h1
    refine ⟨v % many, ih.set p (MO.lst [.int a, .int b, .int (k + 1)]), ?_, Int.emod_nonneg _ (Int.ne_of_gt h0), Int.emod_lt_of_pos _ h0, ⟨a, b, k + 1, e2, ha, hbb, by omega, by omega⟩, ExtP.set _ _ _, List.length_set⟩
    have c1 := decide_eq_false hc
    clear hc hb ha hbb hk0 hk hm v0 v1
    walk_at "run"
theorem run_source (c : Cs) {ns : List Int} {k : Nat} {ih : IH} (h : Scr ns ih) (hb : ∀ z ∈ ns, ibits z ≤ 1048576) (hk : k ≤ 1000000) : ∃ ih', m_law_source c [.ref 0, .int (k : Int)] ih = .ok (.ref ih.length) ih' ∧ Src0 ih.length 0 ih' ∧ Ext ih ih' ∧ ih'.length = ih.length + 1 := by
  have e : (MO.ro (ns.map IV.int)).xs.length = ns.length := List.length_map _
  have bz : ∀ j, B 1100000 (ns.getD j 0) := fun j => by
    by_cases hj : j < ns.length
    · rw [List.getD_eq_getElem?_getD, List.getElem?_eq_getElem hj]
      exact (B.of_ib (hb _ (List.getElem_mem hj))).mono (by decide)
    · rw [List.getD_eq_getElem?_getD, List.getElem?_eq_none (by omega)]
      exact lit 1100000 (Nat.two_pow_pos _)
  unfold m_law_source b_law_source
  have h' : ih[0]? = some (.ro (ns.map IV.int)) := h
  have e : (ns.map IV.int).length = ns.length := List.length_map _
  have l3 : ∀ a b k : IV, [a, b, k].length ≤ 100000 := fun _ _ _ => by simp
  by_cases hk2 : k < ns.length
  · refine ⟨_, ?_, ⟨_, _, 0, get_new _ _, bz k, bz k, by omega, by omega⟩, Ext.app _ _, by simp⟩
    have e1 : decide ((k : Int) < (ns.length : Int)) = true := decide_eq_true (by omega)
    have e2 := atI_map (i := (k : Int)) rfl hk2
    clear hk hk2 h bz hb
    walk_at "run"
  · obtain ⟨v, e3, v0, v1⟩ := run_mixed c (a := ns.getD 0 0) (k := 1000 + (k : Int)) ih (bz 0) (B.lt (by omega) (by omega))
    refine ⟨_, ?_, ⟨v, v, 0, get_new _ _, (B.lt (n := 40) v0 (by omega)).mono (by decide), (B.lt (n := 40) v0 (by omega)).mono (by decide), by omega, by omega⟩, Ext.app _ _, by simp⟩
    have e1 : decide ((k : Int) < (ns.length : Int)) = false := decide_eq_false (by omega)
    have e4 : m_law_cell_at c [.ref 0, .int 0] ih = .ok (.int (ns.getD 0 0)) ih := run_cell_at (k := 0) c h
    clear hk hk2 h bz hb v0 v1
    walk_at "run"
end L3
/-! D1: the draws, backwards. -/
namespace L3
open PySem PySem.Spec PyProof.Rows L2
theorem ExtP.fr {p : Nat} {a b : IH} (h : ExtP p a b) : Fr p a b := fun n l ne => by
  rw [List.getElem?_eq_getElem l]
  exact h n _ ne (List.getElem?_eq_getElem l)
theorem Src0.lt {p m : Nat} {ih : IH} (h : Src0 p m ih) : p < ih.length := by
  obtain ⟨_, _, _, g, _⟩ := h
  exact lt_of_get g
theorem Src0.fx {p m : Nat} {a b : IH} (h : Src0 p m a) (e : Fx a b) : Src0 p m b := h.ext e.ext
theorem Src0.app {p m : Nat} {a : IH} {o : MO} (h : Src0 p m a) : Src0 p m (a ++ [o]) := h.fx Fx.app
theorem Src0.set {p m n : Nat} {a : IH} {o : MO} (h : Src0 p m a) (e : n ≠ p) : Src0 p m (a.set n o) := by
  obtain ⟨x, y, k, g, r⟩ := h
  exact ⟨x, y, k, by rw [g_sne e]; exact g, r⟩
theorem w_next (c : Cs) {p m : Nat} {many : Int} {ih : IH} {Q : PQ IV} {E : EQ} (h : Src0 p m ih) (h0 : 0 < many) (hb : B 8000 many) (hm : m ≤ 1000000)
    (k : ∀ v ih', 0 ≤ v → v < many → Src0 p (m + 1) ih' → Fr p ih ih' → ih'.length = ih.length → Q (.int v) ih') : wp (m_law_next c [.ref p, .int many] ih) Q E := by
  obtain ⟨v, ih', e, a, b, s, x, l⟩ := run_next c h hm h0 hb
  exact wp.of e (k v ih' a b s x.fr l)
theorem w_source (c : Cs) {ns : List Int} {k : Nat} {ih : IH} {Q : PQ IV} {E : EQ} (h : Scr ns ih) (hb : ∀ z ∈ ns, ibits z ≤ 1048576) (hk : k ≤ 1000000)
    (q : ∀ ih', Src0 ih.length 0 ih' → Fx ih ih' → ih'.length = ih.length + 1 → Q (.ref ih.length) ih') : wp (m_law_source c [.ref 0, .int (k : Int)] ih) Q E := by
  obtain ⟨ih', e, s, x, l⟩ := run_source c h hb hk
  exact wp.of e (q ih' s x.fx l)
end L3
/-! L9: comprehensions whose parts allocate or draw; rows of pairs. -/
namespace L3
open PySem PySem.Spec PyProof.Rows L2
section
variable {Q : PQ IV} {E : EQ} {env : Env} {ih : IH}
/-- a comprehension, with an invariant -/
theorem lc_gen {vs : List Nat} {g : IV → Env → IH → Option Env} {mt : Env → IH → Res Bool} {me : Env → IH → Res IV} {s : Src} (k : Nat) (P : Nat → List IV → IH → Prop) (hk : k ≤ s.size ih) (h0 : P 0 [] (ih ++ [.lst []]))
    (turn : ∀ i acc ih', i < k → P i acc ih' → ih'[ih.length]? = some (.lst acc) → ∃ v ih1 env1, s.turn i ih' = .item v ih1 ∧ g v (wipeI env vs) ih1 = some env1 ∧ wp (mt env1 ih1) (fun b ih2 => (b = false → ih2[ih.length]? = some (.lst acc) ∧ P (i + 1) acc ih2) ∧
      (b = true → wp (me env1 ih2) (fun y ih3 => ih3[ih.length]? = some (.lst acc) ∧ acc.length < 100000 ∧ P (i + 1) (acc ++ [y]) (ih3.set ih.length (.lst (acc ++ [y])))) E0)) E0)
    (stop : ∀ acc ih', P k acc ih' → ih'[ih.length]? = some (.lst acc) → s.turn k ih' = .stop)
    (fin : ∀ acc ih', P k acc ih' → ih'[ih.length]? = some (.lst acc) → Q (.ref ih.length) ih') : k_lc vs g mt me env Q E s ih := by
  obtain ⟨acc', ih', e1, e2, e3⟩ := lcGo_ind (s := s) (g := g) (n := mt) (me := me) (d := ih.length) (env := wipeI env vs) k P
    (fun i acc ih' hi hp hd => by
      obtain ⟨v, ih1, env1, t1, t2, t3⟩ := turn i acc ih' hi hp hd
      obtain ⟨b, ih2, e1, e2, e3⟩ := t3.out
      refine ⟨v, ih1, env1, b, ih2, t1, t2, e1, e2, fun hb => ?_⟩
      obtain ⟨y, ih3, f1, f2, f3, f4⟩ := (e3 hb).out
      exact ⟨y, ih3, f1, f2, f3, f4⟩)
    stop (s.size ih + 1) 0 [] (ih ++ [.lst []]) (Nat.zero_le _) (by omega) h0 (get_new _ _)
  exact wp.of e1 (fin acc' ih' e3 e2)
/-- over a range, with a test that allocates -/
theorem lc_rngA {vs : List Nat} {i : Nat} {mt : Env → IH → Res Bool} {me : Env → IH → Res IV} {j : Nat} {lo : Int} (T : Nat → Bool) (F : Nat → IV) (hz : j < 100000)
    (ht : ∀ k, k < j → ∀ ih', Fx ih ih' → ih.length ≤ ih'.length → wp (mt ((wipeI env vs).set i (some (.int (lo + (k : Int))))) ih') (fun v ih'' => v = T k ∧ Fx ih' ih'' ∧ ih'.length ≤ ih''.length) E0)
    (he : ∀ k, k < j → T k = true → ∀ ih', Fx ih ih' → ih.length ≤ ih'.length → wp (me ((wipeI env vs).set i (some (.int (lo + (k : Int))))) ih') (fun v ih'' => v = F k ∧ Fx ih' ih'' ∧ ih'.length ≤ ih''.length) E0)
    (q : ∀ ih', Fx ih ih' → ih.length < ih'.length → ih'[ih.length]? = some (.lst (((List.range j).filter T).map F)) → Q (.ref ih.length) ih') : k_lc vs (g_nm i) mt me env Q E (.rng lo 1 j) ih := by
  refine lc_gen j (fun k acc ih' => acc = ((List.range k).filter T).map F ∧ Fx ih ih' ∧ ih.length < ih'.length) (Nat.le_refl _) ⟨by simp, Fx.app, by simp⟩ (fun k acc ih' hk ⟨ha, fx, lx⟩ hd => ?_) (fun acc ih' _ _ => stop_rng) fun acc ih' ⟨ha, fx, lx⟩ hd => q ih' fx lx (by rw [← ha]; exact hd)
  have e0 : lo + (k : Int) * 1 = lo + (k : Int) := by omega
  refine ⟨.int (lo + (k : Int)), _, _, by rw [turn_rng hk, e0], rfl, (ht k hk ih' fx (by omega)).imp (fun v ih2 ⟨hv, f2, l2⟩ => ⟨fun hb => ⟨by rw [f2 _ lx]; exact hd, ?_, fx.trans f2 (by omega), by omega⟩, fun hb => (he k hk (by rw [← hv]; exact hb) ih2 (fx.trans f2 (by omega)) (by omega)).imp (fun y ih3 ⟨hy, f3, l3⟩ => ⟨by rw [f3 _ (by omega), f2 _ lx]; exact hd, ?_, ?_, ?_, ?_⟩) fun _ _ h => h⟩) fun _ _ h => h⟩
  · rw [List.range_succ, List.filter_append, ha, List.filter_cons, ← hv, hb]
    simp
  · rw [ha, List.length_map]
    exact Nat.lt_of_le_of_lt (List.length_filter_le _ _) (by rw [List.length_range]; omega)
  · rw [List.range_succ, List.filter_append, ha, List.filter_cons, ← hv, hb, hy]
    simp
  · exact ((fx.trans f2 (by omega)).trans f3 (by omega)).set (Nat.le_refl _)
  · rw [List.length_set]
    omega
end
/-- rows: references to pairs of ints -/
def PR (ih : IH) : List IV → List (Int × Int) → Prop
  | [], [] => True
  | .ref t :: xs, r :: rs => ih[t]? = some (.tup [.int r.1, .int r.2]) ∧ PR ih xs rs
  | _, _ => False
theorem PR.len {ih : IH} : ∀ {xs : List IV} {rs : List (Int × Int)}, PR ih xs rs → xs.length = rs.length
  | [], [], _ => rfl
  | .ref t :: xs, r :: rs, h => by
    rw [List.length_cons, List.length_cons, PR.len h.2]
theorem PR.mono {a b : IH} (f : ∀ (t : Nat) (i j : Int), a[t]? = some (.tup [.int i, .int j]) → b[t]? = some (.tup [.int i, .int j])) : ∀ {xs : List IV} {rs : List (Int × Int)}, PR a xs rs → PR b xs rs
  | [], [], _ => trivial
  | .ref t :: xs, r :: rs, h => ⟨f _ _ _ h.1, PR.mono f h.2⟩
theorem PR.fx {a b : IH} {xs : List IV} {rs : List (Int × Int)} (h : PR a xs rs) (f : Fx a b) : PR b xs rs := h.mono fun t i j e => by rw [f t (lt_of_get e)]; exact e
theorem PR.fr {a b : IH} {p : Nat} {o : List IV} {xs : List IV} {rs : List (Int × Int)} (h : PR a xs rs) (f : Fr p a b) (hp : a[p]? = some (.lst o)) : PR b xs rs := h.mono fun t i j e => by
  by_cases ht : t = p
  · subst ht
    rw [hp] at e
    cases e
  · rw [f t (lt_of_get e) ht]
    exact e
theorem PR.get {ih : IH} : ∀ {xs : List IV} {rs : List (Int × Int)} {i : Nat} {x : IV}, PR ih xs rs → xs[i]? = some x → ∃ t r, x = .ref t ∧ rs[i]? = some r ∧ ih[t]? = some (.tup [.int r.1, .int r.2])
  | .ref t :: xs, r :: rs, 0, x, h, e => ⟨t, r, (Option.some.inj e).symm, rfl, h.1⟩
  | .ref t :: xs, r :: rs, i + 1, x, h, e => PR.get (i := i) h.2 e
theorem PR.take {ih : IH} : ∀ {xs : List IV} {rs : List (Int × Int)} (n : Nat), PR ih xs rs → PR ih (xs.take n) (rs.take n)
  | _, _, 0, _ => trivial
  | [], [], n + 1, _ => trivial
  | .ref t :: xs, r :: rs, n + 1, h => ⟨h.1, PR.take n h.2⟩
theorem PR.app {ih : IH} {t : Nat} {r : Int × Int} (ht : ih[t]? = some (.tup [.int r.1, .int r.2])) : ∀ {xs : List IV} {rs : List (Int × Int)}, PR ih xs rs → PR ih (xs ++ [.ref t]) (rs ++ [r])
  | [], [], _ => ⟨ht, trivial⟩
  | .ref _ :: xs, _ :: rs, h => ⟨h.1, PR.app ht h.2⟩
theorem PR.append {ih : IH} : ∀ {xs ys : List IV} {rs ss : List (Int × Int)}, PR ih xs rs → PR ih ys ss → PR ih (xs ++ ys) (rs ++ ss)
  | [], _, [], _, _, k => k
  | .ref _ :: xs, _, _ :: rs, _, h, k => ⟨h.1, PR.append h.2 k⟩
theorem g_pairR {i j n : Nat} {v w : IV} {env : Env} {ih : IH} (h : ih[n]? = some (.tup [v, w])) : g_tup 2 (g_cons (g_nm i) (g_cons (g_nm j) g_nil)) (.ref n) env ih = some ((env.set i (some v)).set j (some w)) := by
  unfold g_tup
  dsimp only
  rw [h]
  rfl
/-- [me for a, b in rows], the element leaves the heap -/
theorem lc_rows {Q : PQ IV} {E : EQ} {env : Env} {ih : IH} {vs : List Nat} {i j n : Nat} {me : Env → IH → Res IV} {o : MO} {rs : List (Int × Int)} (F : Int × Int → IV) (ho : ih[n]? = some o) (hl : o.isL = true) (pr : PR ih o.xs rs) (hz : rs.length < 100000)
    (he : ∀ r ∈ rs, ∀ ih', Fx ih ih' → wp (me (((wipeI env vs).set i (some (.int r.1))).set j (some (.int r.2))) ih') (fun v ih'' => v = F r ∧ ih'' = ih') E0)
    (q : Q (.ref ih.length) (ih ++ [.lst (rs.map F)])) : k_lc vs (g_tup 2 (g_cons (g_nm i) (g_cons (g_nm j) g_nil))) n_yes me env Q E (.lst n) ih := by
  have hs : (Src.lst n).size ih = o.xs.length := by
    unfold Src.size
    dsimp only
    rw [ho]
  refine lc_gen o.xs.length (fun k acc ih' => acc = (rs.take k).map F ∧ ih' = ih ++ [.lst acc]) (by rw [hs]; exact Nat.le_refl _) ⟨by simp, rfl⟩ (fun k acc ih' hk ⟨ha, ei⟩ hd => ?_) (fun acc ih' ⟨_, ei⟩ _ => ?_) fun acc ih' ⟨ha, ei⟩ hd => ?_
  · subst ei
    have hx : o.xs[k]? = some o.xs[k] := List.getElem?_eq_getElem hk
    obtain ⟨t, r, e1, e2, e3⟩ := pr.get hx
    have ho' : (ih ++ [MO.lst acc])[n]? = some o := by rw [g_old (lt_of_get ho)]; exact ho
    have e3' : (ih ++ [MO.lst acc])[t]? = some (.tup [.int r.1, .int r.2]) := by rw [g_old (lt_of_get e3)]; exact e3
    have hr : r ∈ rs := List.mem_of_getElem? e2
    have hkr : k < rs.length := (List.getElem?_eq_some_iff.mp e2).1
    refine ⟨.ref t, _, _, by rw [turn_lst ho' hl hx, e1], g_pairR e3', ⟨(fun h => nomatch h), fun _ => wp.imp (he r hr _ Fx.app) (fun v ih2 hvi => ?_) fun _ _ h => h⟩⟩
    obtain ⟨hv, hi⟩ := hvi
    subst hi hv
    refine ⟨hd, ?_, ?_, ?_⟩
    · rw [ha, List.length_map, List.length_take]
      omega
    · rw [List.take_add_one, e2, ha, List.map_append]
      rfl
    · rw [set_append_last]
  · subst ei
    exact stop_lst (by rw [g_old (lt_of_get ho)]; exact ho) hl
  · rw [pr.len, List.take_length] at ha
    rw [ei, ha]
    exact q
/-- sorted of two rows -/
theorem wp_sortP2 {Q : PQ IV} {E : EQ} {ih : IH} {n s t : Nat} {a b x y : Int} (h : ih[n]? = some (.lst [.ref s, .ref t])) (hs : ih[s]? = some (.tup [.int a, .int b])) (ht : ih[t]? = some (.tup [.int x, .int y]))
    (q1 : (x < a ∨ (x = a ∧ y < b)) → Q (.ref ih.length) (ih ++ [.lst [.ref t, .ref s]])) (q2 : ¬ (x < a ∨ (x = a ∧ y < b)) → Q (.ref ih.length) (ih ++ [.lst [.ref s, .ref t]])) : wp (f_sortP [.ref n] ih) Q E := by
  have k1 : kI ih (.ref s) = (a, b) := by
    unfold kI
    dsimp only
    rw [hs]
  have k2 : kI ih (.ref t) = (x, y) := by
    unfold kI
    dsimp only
    rw [ht]
  have p1 : isPr ih (.ref s) = true := by
    unfold isPr
    dsimp only
    rw [hs]
  have p2 : isPr ih (.ref t) = true := by
    unfold isPr
    dsimp only
    rw [ht]
  have e : f_sortP [.ref n] ih = .ok (.ref ih.length) (ih ++ [.lst (isB (ltI ih) [] [.ref s, .ref t])]) := by
    unfold f_sortP
    dsimp only
    rw [h]
    dsimp only
    rw [if_pos ⟨rfl, by rw [xs_lst]; simp [p1, p2]⟩]
    rfl
  refine wp.of e ?_
  have e2 : isB (ltI ih) [] [.ref s, .ref t] = if SrtO.lexB (x, y) (a, b) = true then [.ref t, .ref s] else [.ref s, .ref t] := by
    show insB (ltI ih) (.ref t) [.ref s] = _
    unfold insB
    show (if SrtO.lexB (kI ih (.ref t)) (kI ih (.ref s)) = true then _ else _) = _
    rw [k1, k2]
    rfl
  rw [e2]
  by_cases hh : SrtO.lexB (x, y) (a, b) = true
  · rw [if_pos hh]
    exact q1 (by simpa using SrtO.lexB_iff.mp hh)
  · rw [if_neg hh]
    refine q2 fun hc => hh (SrtO.lexB_iff.mpr (by simpa using hc))
theorem wp_max1 {Q : PQ IV} {E : EQ} {ih : IH} {n : Nat} (ns : List Int) (h : ih[n]? = some (.lst (ns.map IV.int))) (hn : 0 < ns.length) (q : ∀ m, m ∈ ns → (∀ y ∈ ns, y ≤ m) → Q (.int m) ih) : wp (f_max1 [.ref n] ih) Q E := by
  have e : f_max1 [.ref n] ih = .ok (.int (maxI ns)) ih := by
    unfold f_max1 f_ints
    dsimp only
    rw [h]
    dsimp only
    rw [if_pos (isL_lst _), xs_lst, ints?_map]
    dsimp only
    rw [if_pos hn]
  exact wp.of e (q _ (maxI_spec hn).1 (maxI_spec hn).2)
theorem wp_min1 {Q : PQ IV} {E : EQ} {ih : IH} {n : Nat} (ns : List Int) (h : ih[n]? = some (.lst (ns.map IV.int))) (hn : 0 < ns.length) (q : ∀ m, m ∈ ns → (∀ y ∈ ns, m ≤ y) → Q (.int m) ih) : wp (f_min1 [.ref n] ih) Q E := by
  have e : f_min1 [.ref n] ih = .ok (.int (minI ns)) ih := by
    unfold f_min1 f_ints
    dsimp only
    rw [h]
    dsimp only
    rw [if_pos (isL_lst _), xs_lst, ints?_map]
    dsimp only
    rw [if_pos hn]
  exact wp.of e (q _ (minI_spec hn).1 (minI_spec hn).2)
/-! ### an int or None -/
def ofO : Option Int → IV
  | some i => .int i
  | none => .non
def oD : Option Int → PyData
  | some i => .int i
  | none => .none
theorem Is.ofO {ih : IH} : ∀ x : Option Int, Is ih (ofO x) (oD x)
  | some i => .int i
  | none => .non
theorem shaped_oD : ∀ x : Option Int, SeqAt.shaped (oD x) = true
  | some i => shaped_int i
  | none => by simp [oD, SeqAt.shaped, PyData.canLay0, PyData.depth]
theorem Is.fx {a b : IH} {d : PyData} {v : IV} (h : Is a v d) (f : Fx a b) : Is b v d := Is.ext f.ext d v h
theorem cutI_take {xs : List IV} {k : Nat} (h : k ≤ xs.length) : cutI xs none (some (k : Int)) = xs.take k := by
  unfold cutI
  rw [HT.sIx_none]
  have e : HT.sIx xs.length xs.length (some (k : Int)) = k := by
    have h2 := HT.clip_eq (k : Int) xs.length xs.length
    rw [if_neg (by omega)] at h2
    omega
  rw [e, List.drop_zero, Nat.sub_zero]
def prD (r : Int × Int) : PyData := .tuple [.int r.1, .int r.2]
theorem canLay_prs : ∀ rs : List (Int × Int), PyData.canLayAll0 (rs.map prD) = true
  | [] => by simp [PyData.canLayAll0]
  | r :: rs => by simp [prD, PyData.canLayAll0, PyData.canLay0, canLay_prs rs]
theorem depth_prs : ∀ rs : List (Int × Int), PyData.depthAll (rs.map prD) ≤ 3
  | [] => by simp [PyData.depthAll]
  | r :: rs => by
    have := depth_prs rs
    simp only [List.map_cons, PyData.depthAll, prD, PyData.depth]
    omega
theorem PR.is {ih : IH} : ∀ {xs : List IV} {rs : List (Int × Int)}, PR ih xs rs → IsAll ih xs (rs.map prD)
  | [], [], _ => .nil
  | .ref t :: xs, r :: rs, h => .cons (.tup h.1 rfl (.cons (.int r.1) (.cons (.int r.2) .nil))) (PR.is h.2)
end L3
/-! L14: tries of several clauses, three targets, min of pairs, run backwards. -/
namespace L3
open PySem PySem.Spec PyProof.Rows L2
/-- a fact that the walk does not see -/
structure Hide (p : Prop) : Prop where
  get : p
def k_tries (hs : List Hd1) (S : SQ) (F : ES) : ES := fun c env ih => ws (goH hs c env ih) S F
def k_goH (ms : Env → IH → RS) (r : List Hd1) (S : SQ) (F : ES) (c : Addr) (env : Env) (ih : IH) : Option Bool → Prop
  | some true => ws (ms env ih) S S0
  | some false => k_tries r S F c env ih
  | none => False
section
variable {hs : List Hd1} {mb ms : Env → IH → RS} {exm : Addr → Option Bool} {S : SQ} {F : ES} {Q : PQ IV} {E : EQ} {env : Env} {ih : IH} {c : Addr} {mr : Env → IH → Res (List IV)} {n m l : Nat} {u v w : IV}
theorem ws_tries : ws (ms_tries hs mb env ih) S F = ws (mb env ih) S (k_tries hs S F) := by
  unfold ms_tries
  cases mb env ih <;> rfl
theorem kk_tries0 : k_tries [] S F c env ih = F c env ih := rfl
theorem kk_tries : k_tries ((exm, ms) :: hs) S F c env ih = k_goH ms hs S F c env ih (exm c) := by
  unfold k_tries goH k_goH
  cases exm c with
  | none => rfl
  | some b =>
    cases b with
    | false => rfl
    | true =>
      dsimp only
      cases ms env ih <;> rfl
theorem kk_goHt : k_goH ms hs S F c env ih (some true) = ws (ms env ih) S S0 := rfl
theorem kk_goHf : k_goH ms hs S F c env ih (some false) = k_tries hs S F c env ih := rfl
def ks_par3 (i j l : Nat) (env : Env) (S : SQ) : PQ (List IV) := fun vs ih => match vs with
  | [u, v, w] => S (.next (((env.set i (some u)).set j (some v)).set l (some w))) ih
  | _ => False
theorem ws_par3 : ws (ms_par3 n m l mr env ih) S F = wp (mr env ih) (ks_par3 n m l env S) (kE F env) := by
  unfold ms_par3
  rw [ws_stm]
  congr 1
  funext vs ih
  unfold ks_par3
  split <;> simp_all [ws_ok, ws_stuck]
theorem kks_par3 : ks_par3 n m l env S [u, v, w] ih = S (.next (((env.set n (some u)).set m (some v)).set l (some w))) ih := rfl
theorem wp_isB {a b : Bool} : wp (f_isB (.bl a) (.bl b) ih) Q E = Q (.bl (decide (a = b))) ih := rfl
theorem wp_intBl {b : Bool} : wp (f_int [.bl b] ih) Q E = Q (.int (if b then 1 else 0)) ih := rfl
/-- the least pair -/
theorem wp_minP {q : Nat} {xs : List IV} {rs : List (Int × Int)} (h : ih[q]? = some (.lst xs)) (pr : PR ih xs rs) (hn : 0 < rs.length)
    (k : ∀ t r, r ∈ rs → ih[t]? = some (.tup [.int r.1, .int r.2]) → (∀ x ∈ rs, ¬ (x.1 < r.1 ∨ (x.1 = r.1 ∧ x.2 < r.2))) → Q (.ref t) ih) : wp (f_minP [.ref q] ih) Q E := by
  cases xs with
  | nil =>
    have := pr.len
    simp at this
    omega
  | cons x r =>
    have all : (x :: r).all (isPr ih) = true := by
      refine List.all_eq_true.mpr fun y hy => ?_
      obtain ⟨i, hi⟩ := List.mem_iff_getElem?.mp hy
      obtain ⟨t, z, rfl, _, e⟩ := pr.get hi
      unfold isPr
      dsimp only
      rw [e]
    have e1 : f_minP [.ref q] ih = .ok (minGo ih x r) ih := by
      unfold f_minP
      dsimp only
      rw [h]
      show (if (MO.lst (x :: r)).isL = true ∧ (x :: r).all (isPr ih) = true then _ else _) = _
      rw [if_pos ⟨rfl, all⟩]
    have key : ∀ (l : List IV) (a : IV), minGo ih a l ∈ a :: l ∧ ∀ y ∈ a :: l, ltI ih y (minGo ih a l) = false := by
      intro l
      induction l with
      | nil =>
        intro a
        refine ⟨List.mem_singleton_self a, fun y hy => ?_⟩
        rw [List.mem_singleton.mp hy]
        show ltI ih a a = false
        exact Bool.eq_false_iff.mpr fun hh => by
          have := SrtO.lexB_iff.mp hh
          omega
      | cons b l ihl =>
        intro a
        have e : minGo ih a (b :: l) = minGo ih (if ltI ih b a then b else a) l := rfl
        obtain ⟨m1, m2⟩ := ihl (if ltI ih b a then b else a)
        rw [e]
        have mh := m2 _ List.mem_cons_self
        refine ⟨?_, fun y hy => ?_⟩
        · rcases List.mem_cons.mp m1 with z | z
          · rw [z]
            split
            · exact List.mem_cons_of_mem _ List.mem_cons_self
            · exact List.mem_cons_self
          · exact List.mem_cons_of_mem _ (List.mem_cons_of_mem _ z)
        · have lt3 : ∀ {p q : IV}, ltI ih p q = false ↔ ¬ ((kI ih p).1 < (kI ih q).1 ∨ ((kI ih p).1 = (kI ih q).1 ∧ (kI ih p).2 < (kI ih q).2)) := fun {p q} => by
            rw [← SrtO.lexB_iff]
            exact Bool.eq_false_iff
          cases hb : ltI ih b a with
          | true =>
            rw [hb] at mh m2
            simp only [↓reduceIte] at mh m2 ⊢
            have hb' := SrtO.lexB_iff.mp hb
            have mh' := lt3.mp mh
            rcases List.mem_cons.mp hy with z | z
            · rw [z]
              exact lt3.mpr (by omega)
            · rcases List.mem_cons.mp z with z | z
              · rw [z]; exact mh
              · exact m2 y (List.mem_cons_of_mem _ z)
          | false =>
            rw [hb] at mh m2
            simp only [Bool.false_eq_true, ↓reduceIte] at mh m2 ⊢
            have hb' := lt3.mp hb
            have mh' := lt3.mp mh
            rcases List.mem_cons.mp hy with z | z
            · rw [z]; exact mh
            · rcases List.mem_cons.mp z with z | z
              · rw [z]
                exact lt3.mpr (by omega)
              · exact m2 y (List.mem_cons_of_mem _ z)
    obtain ⟨m1, m2⟩ := key r x
    obtain ⟨i, hi⟩ := List.mem_iff_getElem?.mp m1
    obtain ⟨t, z, et, hz, e⟩ := pr.get hi
    refine wp.of e1 ?_
    rw [et]
    rw [et] at m2
    have kt : kI ih (.ref t) = z := by
      unfold kI
      dsimp only
      rw [e]
    refine k t z (List.mem_of_getElem? hz) e fun y hy => ?_
    obtain ⟨j, hj⟩ := List.mem_iff_getElem?.mp hy
    have hjl : j < (x :: r).length := by
      rw [pr.len]
      exact (List.getElem?_eq_some_iff.mp hj).1
    obtain ⟨t2, z2, et2, hz2, e2⟩ := pr.get (List.getElem?_eq_getElem hjl)
    rw [hj] at hz2
    cases hz2
    have k2 : kI ih (.ref t2) = y := by
      unfold kI
      dsimp only
      rw [e2]
    have m3 := m2 (.ref t2) (by rw [← et2]; exact List.getElem_mem hjl)
    have := mt SrtO.lexB_iff.mpr (Bool.eq_false_iff.mp m3)
    rw [kt, k2] at this
    exact this
/-- new pairs, made of pairs -/
theorem lc_rowsG {vs : List Nat} {i j q : Nat} {mt : Env → IH → Res Bool} {me : Env → IH → Res IV} {xs : List IV} {rs : List (Int × Int)} (T : Int × Int → Bool) (G : Int × Int → Int × Int) (ho : ih[q]? = some (.lst xs)) (pr : PR ih xs rs) (hz : rs.length < 100000)
    (ht : ∀ r ∈ rs, ∀ ih', Fx ih ih' → wp (mt (((wipeI env vs).set i (some (.int r.1))).set j (some (.int r.2))) ih') (fun v ih'' => v = T r ∧ ih'' = ih') E0)
    (he : ∀ r ∈ rs, T r = true → ∀ ih', Fx ih ih' → wp (me (((wipeI env vs).set i (some (.int r.1))).set j (some (.int r.2))) ih') (fun v ih'' => (∃ t, v = .ref t ∧ ih''[t]? = some (.tup [.int (G r).1, .int (G r).2])) ∧ Fx ih' ih'' ∧ ih'.length ≤ ih''.length) E0)
    (k : ∀ ih' ys, Fx ih ih' → ih.length < ih'.length → ih'[ih.length]? = some (.lst ys) → PR ih' ys ((rs.filter T).map G) → Q (.ref ih.length) ih') : k_lc vs (g_tup 2 (g_cons (g_nm i) (g_cons (g_nm j) g_nil))) mt me env Q E (.lst q) ih := by
  have hs : (Src.lst q).size ih = xs.length := by
    unfold Src.size
    dsimp only
    rw [ho]
    rfl
  refine lc_gen xs.length (fun k acc ih' => PR ih' acc (((rs.take k).filter T).map G) ∧ Fx ih ih' ∧ ih.length < ih'.length) (by rw [hs]; exact Nat.le_refl _) ⟨by simp [PR], Fx.app, by simp⟩ (fun k acc ih' hk ⟨pa, fx, lx⟩ hd => ?_) (fun acc ih' ⟨_, fx, _⟩ _ => ?_) fun acc ih' ⟨pa, fx, lx⟩ hd => ?_
  · have hx : xs[k]? = some xs[k] := List.getElem?_eq_getElem hk
    obtain ⟨t, r, e1, e2, e3⟩ := pr.get hx
    have ho' : ih'[q]? = some (.lst xs) := by rw [fx q (lt_of_get ho)]; exact ho
    have e3' : ih'[t]? = some (.tup [.int r.1, .int r.2]) := by rw [fx t (lt_of_get e3)]; exact e3
    have hr : r ∈ rs := List.mem_of_getElem? e2
    have hkr : k < rs.length := (List.getElem?_eq_some_iff.mp e2).1
    have et : rs.take (k + 1) = rs.take k ++ [r] := by rw [List.take_add_one, e2]; rfl
    refine ⟨.ref t, _, _, by rw [turn_lst ho' rfl (show (MO.lst xs).xs[k]? = some xs[k] from hx), e1], g_pairR e3', wp.imp (ht r hr _ fx) (fun v ih2 hv => ?_) fun _ _ h => h⟩
    obtain ⟨hv, hi⟩ := hv
    subst hi
    refine ⟨fun hb => ⟨hd, ?_, fx, lx⟩, fun hb => wp.imp (he r hr (by rw [← hv]; exact hb) _ fx) (fun y ih3 hy => ?_) fun _ _ h => h⟩
    · rw [et, List.filter_append, List.filter_cons, ← hv, hb]
      simpa using pa
    · obtain ⟨⟨u, rfl, gu⟩, f3, l3⟩ := hy
      have hd3 : ih3[ih.length]? = some (.lst acc) := by rw [f3 _ lx]; exact hd
      have pl := pa.len
      refine ⟨hd3, ?_, ?_, (fx.trans f3 (by omega)).set (Nat.le_refl _), by rw [List.length_set]; omega⟩
      · rw [pl, List.length_map]
        exact Nat.lt_of_le_of_lt (List.length_filter_le _ _) (by rw [List.length_take]; omega)
      · have es : ((rs.take (k + 1)).filter T).map G = ((rs.take k).filter T).map G ++ [G r] := by
          rw [et, List.filter_append, List.filter_cons, ← hv, hb]
          simp
        rw [es]
        refine PR.app ?_ ((pa.fx f3).mono fun z a b e => ?_)
        · rw [g_sne (fun e => by rw [e] at hd3; rw [hd3] at gu; cases gu)]
          exact gu
        · rw [g_sne (fun e2 => by rw [e2] at hd3; rw [hd3] at e; cases e)]
          exact e
  · exact stop_lst (o := .lst xs) (by rw [fx q (lt_of_get ho)]; exact ho) rfl
  · rw [pr.len, List.take_length] at pa
    exact k ih' acc fx lx hd pa
end
end L3
/-! N32: the greedy looks are the fewest ones, and of these the latest. -/
namespace L3
open PySem PySem.Spec PyProof.Rows L2
/-- the ends of the windows that begin later and end ahead of e -/
def ends (W : List (Int × Int)) (x e : Int) : List Int := (W.filter fun r => decide (x < r.1) && decide (r.2 < e)).map (·.2)
theorem ends_mem {W : List (Int × Int)} {x e z : Int} : z ∈ ends W x e ↔ ∃ r ∈ W, x < r.1 ∧ r.2 < e ∧ r.2 = z := by
  unfold ends
  rw [List.mem_map]
  constructor
  · rintro ⟨r, h, rfl⟩
    obtain ⟨h1, h2⟩ := List.mem_filter.mp h
    rw [Bool.and_eq_true, decide_eq_true_eq, decide_eq_true_eq] at h2
    exact ⟨r, h1, h2.1, h2.2, rfl⟩
  · rintro ⟨r, h1, h2, h3, rfl⟩
    exact ⟨r, List.mem_filter.mpr ⟨h1, by rw [Bool.and_eq_true, decide_eq_true_eq, decide_eq_true_eq]; exact ⟨h2, h3⟩⟩, rfl⟩
def GapsOk (s : Int) : Int → List Int → Prop
  | _, [] => True
  | b, x :: r => x - b ≤ s ∧ GapsOk s x r
def Enough (s : Int) (W : List (Int × Int)) (b e : Int) (L : List Int) : Prop := GapsOk s b (L ++ [e]) ∧ ∀ r ∈ W, b ≤ r.2 → r.2 < e → ∃ x ∈ b :: L, r.1 ≤ x ∧ x ≤ r.2
/-- the greedy looks behind x -/
inductive Gr (s : Int) (W : List (Int × Int)) (e : Int) : Int → List Int → Prop
  | done {x : Int} : ends W x e = [] → e - x ≤ s → Gr s W e x []
  | step {x y : Int} {g : List Int} : ¬ (ends W x e = [] ∧ e - x ≤ s) → y ∈ ends W x e ++ [x + s] → (∀ z ∈ ends W x e ++ [x + s], y ≤ z) → Gr s W e y g → Gr s W e x (y :: g)
section
variable {s e : Int} {W : List (Int × Int)}
abbrev Win (W : List (Int × Int)) : Prop := ∀ r ∈ W, 0 ≤ r.1 ∧ r.1 ≤ r.2
theorem step_in {x y : Int} (s1 : 1 ≤ s) (hW : Win W) (h : ¬ (ends W x e = [] ∧ e - x ≤ s)) (hy : y ∈ ends W x e ++ [x + s]) (hm : ∀ z ∈ ends W x e ++ [x + s], y ≤ z) : x < y ∧ y < e := by
  constructor
  · rcases List.mem_append.mp hy with hy | hy
    · obtain ⟨r, h1, h2, h3, rfl⟩ := ends_mem.mp hy
      have := (hW r h1).2
      omega
    · rw [List.mem_singleton] at hy
      omega
  · by_cases he : ends W x e = []
    · have h2 : ¬ e - x ≤ s := fun h2 => h ⟨he, h2⟩
      have := hm (x + s) (List.mem_append_right _ (by simp))
      omega
    · obtain ⟨z, hz⟩ := List.exists_mem_of_ne_nil _ he
      have h1 := hm z (List.mem_append_left _ hz)
      obtain ⟨r, _, _, h3, rfl⟩ := ends_mem.mp hz
      omega
theorem Gr.inc (s1 : 1 ≤ s) (hW : Win W) {x : Int} {g : List Int} (h : Gr s W e x g) : (x :: g).Pairwise (· < ·) ∧ ∀ y ∈ g, x < y ∧ y < e := by
  induction h with
  | done _ _ => exact ⟨List.pairwise_singleton _ _, fun y hy => nomatch hy⟩
  | step h1 h2 h3 _ ih =>
    obtain ⟨k1, k2⟩ := step_in s1 hW h1 h2 h3
    have all : ∀ z ∈ (_ :: _ : List Int), _ < z ∧ z < e := fun z hz => by
      rcases List.mem_cons.mp hz with hz | hz
      · rw [hz]; exact ⟨k1, k2⟩
      · have := ih.2 z hz
        exact ⟨by omega, this.2⟩
    exact ⟨List.pairwise_cons.mpr ⟨fun z hz => (all z hz).1, ih.1⟩, all⟩
theorem Gr.served {x : Int} {g : List Int} (h : Gr s W e x g) : ∀ r ∈ W, x < r.1 → r.2 < e → ∃ y ∈ g, r.1 ≤ y ∧ y ≤ r.2 := by
  induction h with
  | done h1 _ =>
    intro r hr a1 a2
    have := ends_mem.mpr ⟨r, hr, a1, a2, rfl⟩
    rw [h1] at this
    cases this
  | @step x y g h1 h2 h3 _ ih =>
    intro r hr a1 a2
    have hy := h3 r.2 (List.mem_append_left _ (ends_mem.mpr ⟨r, hr, a1, a2, rfl⟩))
    by_cases hc : r.1 ≤ y
    · exact ⟨y, List.mem_cons_self, hc, hy⟩
    · obtain ⟨z, z1, z2⟩ := ih r hr (by omega) a2
      exact ⟨z, List.mem_cons_of_mem _ z1, z2⟩
theorem Gr.gaps {x : Int} {g : List Int} (h : Gr s W e x g) : GapsOk s x (g ++ [e]) := by
  induction h with
  | done _ h2 => exact ⟨h2, trivial⟩
  | step h1 h2 h3 _ ih =>
    have := h3 _ (List.mem_append_right _ (List.mem_singleton.mpr rfl))
    exact ⟨by omega, ih⟩
theorem Gr.enough {x : Int} {g : List Int} (h : Gr s W e x g) : Enough s W x e g := by
  refine ⟨h.gaps, fun r hr a1 a2 => ?_⟩
  by_cases hc : r.1 ≤ x
  · exact ⟨x, List.mem_cons_self, hc, a1⟩
  · obtain ⟨y, y1, y2⟩ := h.served r hr (by omega) a2
    exact ⟨y, List.mem_cons_of_mem _ y1, y2⟩
/-- any other looks that are enough are no fewer, and no later -/
def Ahead : List Int → List Int → Prop
  | [], _ => True
  | _ :: _, [] => False
  | y :: g, z :: L => z ≤ y ∧ Ahead g L
theorem Gr.best (hW : Win W) {x : Int} {g : List Int} (h : Gr s W e x g) : ∀ (b : Int) (L : List Int), b ≤ x → L.Pairwise (· < ·) → GapsOk s b (L ++ [e]) → (∀ r ∈ W, x < r.1 → r.2 < e → ∃ w ∈ L, r.1 ≤ w ∧ w ≤ r.2) → Ahead g L := by
  induction h with
  | done _ _ => intros; trivial
  | @step x y g h1 h2 h3 _ ih =>
    intro b L hb hp hg hs
    cases L with
    | nil =>
      exfalso
      have hg1 : e - b ≤ s := hg.1
      have he : ends W x e ≠ [] := fun he => h1 ⟨he, by omega⟩
      obtain ⟨z, hz⟩ := List.exists_mem_of_ne_nil _ he
      obtain ⟨r, r1, r2, r3, _⟩ := ends_mem.mp hz
      obtain ⟨w, hw, _⟩ := hs r r1 r2 r3
      cases hw
    | cons z L =>
      have hz : z - b ≤ s := hg.1
      have hzy : z ≤ y := by
        rcases List.mem_append.mp h2 with hy | hy
        · obtain ⟨r, r1, r2, r3, rfl⟩ := ends_mem.mp hy
          obtain ⟨w, hw, w1, w2⟩ := hs r r1 r2 r3
          rcases List.mem_cons.mp hw with hw | hw
          · omega
          · have := (List.pairwise_cons.mp hp).1 w hw
            omega
        · rw [List.mem_singleton] at hy
          omega
      refine ⟨hzy, ih z L hzy (List.pairwise_cons.mp hp).2 hg.2 fun r r1 r2 r3 => ?_⟩
      have hxy : x < y ∨ y ≤ x := by omega
      have r2' : x < r.1 := by
        rcases List.mem_append.mp h2 with hy | hy
        · obtain ⟨r', q1, q2, q3, q4⟩ := ends_mem.mp hy
          have := (hW r' q1).2
          omega
        · rw [List.mem_singleton] at hy
          have := h3 (x + s) (List.mem_append_right _ (by simp))
          by_cases hs0 : 0 ≤ s
          · omega
          · exfalso
            -- a span below 0 leaves no gap
            have k1 : ∀ (L : List Int) (z : Int), GapsOk s z (L ++ [e]) → e ≤ z := fun L => by
              induction L with
              | nil => intro z h; have := h.1; omega
              | cons a L ihL => intro z h; have := ihL a h.2; have := h.1; omega
            have := k1 L z hg.2
            have q := (hW r r1).2
            omega
      obtain ⟨w, hw, w1, w2⟩ := hs r r1 r2' r3
      rcases List.mem_cons.mp hw with hw | hw
      · omega
      · exact ⟨w, hw, w1, w2⟩
end
/-! ### lists in their order -/
def ilt : List Int → List Int → Bool
  | [], [] => false
  | [], _ :: _ => true
  | _ :: _, [] => false
  | x :: xs, y :: ys => if x = y then ilt xs ys else decide (x < y)
theorem ilt_trans : ∀ {a b c : List Int}, ilt a b = true → ilt b c = true → ilt a c = true
  | [], [], _, h, _ => nomatch h
  | [], _ :: _, [], _, h => nomatch h
  | [], _ :: _, _ :: _, _, _ => rfl
  | _ :: _, [], _, h, _ => nomatch h
  | _ :: _, _ :: _, [], _, h => nomatch h
  | x :: xs, y :: ys, z :: zs, h, k => by
    unfold ilt at h k ⊢
    by_cases e1 : x = y
    · subst e1
      rw [if_pos rfl] at h
      by_cases e2 : x = z
      · subst e2
        rw [if_pos rfl] at k ⊢
        exact ilt_trans h k
      · rw [if_neg e2] at k ⊢
        exact k
    · rw [if_neg e1] at h
      have h' := of_decide_eq_true h
      by_cases e2 : y = z
      · subst e2
        rw [if_neg e1]
        exact h
      · rw [if_neg e2] at k
        have k' := of_decide_eq_true k
        rw [if_neg (by omega)]
        exact decide_eq_true (by omega)
theorem ahead_len : ∀ {g L : List Int}, Ahead g L → g.length ≤ L.length
  | [], _, _ => Nat.zero_le _
  | _ :: _, [], h => h.elim
  | _ :: g, _ :: L, h => by
    have := ahead_len h.2
    simp only [List.length_cons]
    omega
theorem ahead_lt : ∀ {g L : List Int}, Ahead g L → g.length = L.length → g ≠ L → ilt L g = true
  | [], [], _, _, h => absurd rfl h
  | [], _ :: _, _, h, _ => nomatch h
  | _ :: _, [], h, _, _ => h.elim
  | y :: g, z :: L, h, hl, hne => by
    unfold ilt
    by_cases e : z = y
    · subst e
      rw [if_pos rfl]
      exact ahead_lt h.2 (by simpa using hl) fun hh => hne (by rw [hh])
    · rw [if_neg e]
      have := h.1
      exact decide_eq_true (by omega)
theorem dataLt_ints : ∀ (xs ys : List Int), PySem.W.dataLt (.list (xs.map .int)) (.list (ys.map .int)) = ilt xs ys := by
  intro xs ys
  rw [PySem.W.dataLt_list]
  induction xs generalizing ys with
  | nil =>
    cases ys with
    | nil => rfl
    | cons y ys => rfl
  | cons x xs ih =>
    cases ys with
    | nil => rfl
    | cons y ys =>
      simp only [List.map_cons]
      have al : PySem.W.alike (.int x) (.int y) = true := by simp [PySem.W.alike]
      unfold ilt
      by_cases e : x = y
      · subst e
        rw [if_pos rfl, PySem.W.dataLt_all_yes al (by simp [PyData.eqv]), ih]
      · rw [if_neg e, PySem.W.dataLt_all_no al (by simp [PyData.eqv, e]), PySem.W.dataLt_int]
theorem alike_ints : ∀ (xs ys : List Int), PySem.W.alike (.list (xs.map .int)) (.list (ys.map .int)) = true := by
  intro xs ys
  rw [PySem.W.alike]
  induction xs generalizing ys with
  | nil => cases ys <;> simp [PySem.W.alikeAll]
  | cons x xs ih =>
    cases ys with
    | nil => simp [PySem.W.alikeAll]
    | cons y ys =>
      simp only [List.map_cons, PySem.W.alikeAll, PySem.W.alike, ih, Bool.and_self]
/-! ### parts of a range, by the digits of a number -/
def bit (n i : Nat) : Bool := decide (n / 2 ^ i % 2 = 1)
/-- the looks that a number stands for -/
def cand (b : Int) (m n : Nat) : List Int := ((List.range m).filter (bit n)).map fun i : Nat => b + 1 + (i : Int)
theorem cand_inc (b : Int) (m n : Nat) : (cand b m n).Pairwise (· < ·) := by
  unfold cand
  refine List.pairwise_map.mpr ((List.Pairwise.filter _ List.pairwise_lt_range).imp fun h => ?_)
  omega
theorem cand_len (b : Int) (m n : Nat) : (cand b m n).length ≤ m := by
  unfold cand
  rw [List.length_map]
  exact Nat.le_trans (List.length_filter_le _ _) (by rw [List.length_range]; exact Nat.le_refl _)
theorem cand_mem {b : Int} {m n : Nat} {x : Int} (h : x ∈ cand b m n) : b < x ∧ x ≤ b + (m : Int) := by
  unfold cand at h
  obtain ⟨i, hi, rfl⟩ := List.mem_map.mp h
  have := List.mem_range.mp (List.mem_filter.mp hi).1
  omega
theorem bits_of (p : Nat → Bool) : ∀ m : Nat, ∃ n, n < 2 ^ m ∧ ∀ i, i < m → bit n i = p i
  | 0 => ⟨0, by decide, fun i h => by omega⟩
  | m + 1 => by
    obtain ⟨n, h1, h2⟩ := bits_of p m
    have e2 : 2 ^ (m + 1) = 2 * 2 ^ m := by rw [Nat.pow_succ, Nat.mul_comm]
    refine ⟨n + (if p m = true then 2 ^ m else 0), by split <;> omega, fun i hi => ?_⟩
    have pp : 0 < 2 ^ m := Nat.pow_pos (by decide)
    by_cases hm : i = m
    · subst hm
      unfold bit
      split
      · rename_i h
        rw [h, Nat.add_div_right _ pp, Nat.div_eq_of_lt h1]
        rfl
      · rename_i h
        rw [Nat.add_zero, Nat.div_eq_of_lt h1]
        simpa using h
    · rw [← h2 i (by omega)]
      unfold bit
      split
      · obtain ⟨d, hd⟩ : ∃ d, m = i + 1 + d := ⟨m - (i + 1), by omega⟩
        have e3 : 2 ^ m = 2 ^ i * (2 * 2 ^ d) := by
          rw [hd, Nat.pow_add, Nat.pow_succ, Nat.mul_assoc]
        rw [e3, Nat.add_mul_div_left _ _ (Nat.pow_pos (by decide)), Nat.add_mul_mod_self_left]
      · rfl
theorem inc_ext : ∀ {l m : List Int}, l.Pairwise (· < ·) → m.Pairwise (· < ·) → (∀ a, a ∈ l ↔ a ∈ m) → l = m
  | [], [], _, _, _ => rfl
  | [], y :: m, _, _, h => absurd ((h y).mpr List.mem_cons_self) (by simp)
  | x :: l, [], _, _, h => absurd ((h x).mp List.mem_cons_self) (by simp)
  | x :: l, y :: m, hl, hm, h => by
    obtain ⟨l1, l2⟩ := List.pairwise_cons.mp hl
    obtain ⟨m1, m2⟩ := List.pairwise_cons.mp hm
    have e : x = y := by
      rcases List.mem_cons.mp ((h x).mp List.mem_cons_self) with e | e
      · exact e
      · rcases List.mem_cons.mp ((h y).mpr List.mem_cons_self) with e2 | e2
        · exact e2.symm
        · have := l1 y e2
          have := m1 x e
          omega
    subst e
    rw [inc_ext l2 m2 fun a => ?_]
    constructor
    · intro ha
      rcases List.mem_cons.mp ((h a).mp (List.mem_cons_of_mem _ ha)) with e | e
      · have := l1 a ha
        omega
      · exact e
    · intro ha
      rcases List.mem_cons.mp ((h a).mpr (List.mem_cons_of_mem _ ha)) with e | e
      · have := m1 a ha
        omega
      · exact e
theorem cand_of {b : Int} {m : Nat} {g : List Int} (hg : g.Pairwise (· < ·)) (hr : ∀ y ∈ g, b < y ∧ y ≤ b + (m : Int)) : ∃ n, n < 2 ^ m ∧ cand b m n = g := by
  obtain ⟨n, h1, h2⟩ := bits_of (fun i => decide (b + 1 + (i : Int) ∈ g)) m
  refine ⟨n, h1, inc_ext (cand_inc _ _ _) hg fun a => ?_⟩
  unfold cand
  rw [List.mem_map]
  constructor
  · rintro ⟨i, hi, rfl⟩
    obtain ⟨h3, h4⟩ := List.mem_filter.mp hi
    rw [h2 i (List.mem_range.mp h3)] at h4
    exact of_decide_eq_true h4
  · intro ha
    obtain ⟨k1, k2⟩ := hr a ha
    obtain ⟨i, hi⟩ := Int.eq_ofNat_of_zero_le (show 0 ≤ a - b - 1 by omega)
    have e : b + 1 + (i : Int) = a := by omega
    refine ⟨i, List.mem_filter.mpr ⟨List.mem_range.mpr (by omega), ?_⟩, e⟩
    rw [h2 i (by omega)]
    exact decide_eq_true (by rw [e]; exact ha)
/-- what has been found among the numbers below n -/
def Bst (s : Int) (W : List (Int × Int)) (b e : Int) (m n : Nat) : Option (List Int) → Prop
  | none => ∀ i, i < n → ¬ Enough s W b e (cand b m i)
  | some B => (∃ i, i < n ∧ B = cand b m i) ∧ Enough s W b e B ∧ ∀ i, i < n → Enough s W b e (cand b m i) → B.length < (cand b m i).length ∨ (B.length = (cand b m i).length ∧ ilt B (cand b m i) = false)
theorem Bst.is {s e b : Int} {W : List (Int × Int)} {m : Nat} {o : Option (List Int)} {g : List Int} (s1 : 1 ≤ s) (hW : Win W) (h : Bst s W b e m (2 ^ m) o) (hg : Gr s W e b g) (hm : e ≤ b + 1 + (m : Int)) : o = some g := by
  obtain ⟨g1, g2⟩ := hg.inc s1 hW
  obtain ⟨n, n1, n2⟩ := cand_of (b := b) (m := m) (List.pairwise_cons.mp g1).2 fun y hy => ⟨(g2 y hy).1, by have := (g2 y hy).2; omega⟩
  have ge := hg.enough
  cases o with
  | none => exact absurd (by rw [n2]; exact ge) (h n n1)
  | some B =>
    obtain ⟨⟨i, i1, i2⟩, h2, h3⟩ := h
    have h4 := h3 n n1 (by rw [n2]; exact ge)
    rw [n2] at h4
    have ah := hg.best hW b B (Int.le_refl _) (by rw [i2]; exact cand_inc _ _ _) h2.1 fun r hr a1 a2 => by
      obtain ⟨w, w1, w2⟩ := h2.2 r hr (by have := (hW r hr).2; omega) a2
      rcases List.mem_cons.mp w1 with e | e
      · omega
      · exact ⟨w, e, w2⟩
    have hl := ahead_len ah
    rcases h4 with h4 | ⟨h4, h5⟩
    · omega
    · by_cases e : g = B
      · rw [e]
      · rw [ahead_lt ah h4.symm e] at h5
        cases h5
end L3
/-! PW: is_whole. -/
namespace L3
open PySem PySem.Spec PyProof.Rows L2
local macro_rules | `(tactic| walk_at "get") => `(tactic| simp (disch := first | assumption | omega | (simp only [List.length_append, List.length_set, List.length_cons, List.length_nil, List.length_map] <;> omega) | fail) only [g_new, g_nw, g_old, g_set, g_sne, List.length_append, List.length_set, List.length_cons, List.length_nil, List.length_map, List.map_map, Function.comp_def, xs_lst, xs_tup, isL_lst, isL_tup, ↓reduceIte, *])
local macro_rules | `(tactic| walk_at "fr") => `(tactic| first | (intro _ _ _; simp (disch := first | assumption | omega | (simp only [List.length_append, List.length_set, List.length_cons, List.length_nil, List.length_map] <;> omega) | fail) only [g_new, g_nw, g_old, g_set, g_sne, List.length_append, List.length_set, List.length_cons, List.length_nil, List.length_map, List.map_map, Function.comp_def, xs_lst, xs_tup, isL_lst, isL_tup, ↓reduceIte, *]) | (intro _ _; simp (disch := first | assumption | omega | (simp only [List.length_append, List.length_set, List.length_cons, List.length_nil, List.length_map] <;> omega) | fail) only [g_new, g_nw, g_old, g_set, g_sne, List.length_append, List.length_set, List.length_cons, List.length_nil, List.length_map, List.map_map, Function.comp_def, xs_lst, xs_tup, isL_lst, isL_tup, ↓reduceIte, *]))
local macro_rules | `(tactic| walk_at "run") => `(tactic| simp -implicitDefEqProofs (disch := first | assumption | omega | (simp only [List.length_append, List.length_set, List.length_cons, List.length_nil, List.length_map] <;> omega) | fail) only [wp_ok, wp_exc, wp_stuck, ws_ok, ws_exc, ws_stuck, wp_op, kk_op, kk_un, wp_un, wp_cons, kk_cons, kk_cons2, wp_nil, wp_c, wp_app, wp_if, kk_if1, kk_if0, wp_and, kk_and1, kk_and0, wp_or, kk_or1, kk_or0, wp_not, kk_not, wp_tb, kk_tb, wp_andV, kk_andV1, kk_andV0, wp_orV, kk_orV1, kk_orV0, wp_notV, kk_notV, wp_noneS, wp_some, kk_some, wp_sl, kk_sl, kk_sl2, kk_sl3, wp_mL, kk_mL, kk_mL2, wp_mL0, kk_mL0, wp_chain, kk_ch, kk_ch2, kk_ch31, kk_ch30, ws_set, kks_nm, kks_g, kks_tup, kks_lst, ws_expr, kks_expr, ws_ret, kks_ret, ws_retN, ws_pass, ws_brk, ws_cont, ws_raise, ws_if, kks_if1, kks_if0, ws_seq, kks_next, kks_retS, kks_brk, kks_cont, kk_augE, ws_aug, kks_aug, kks_aug2, ws_par, kks_par, ws_setL, kks_sl, kks_sl2, kks_sl3, wp_def, kkd_ret, kkd_next, kkdE, kkE, ws_for, wp_lc, wp_r1, kk_r1, wp_r2, kk_r2, wp_il, wp_it, wp_ie, wp_iz, kk_il, kk_il2, kk_it, kk_it2, kk_ie, kk_ie2, kk_iz, kk_iz2, lAt_k, k_lAtL, k_lAtO, k_lAtT, wp_int, wp_add, wp_addI, wp_sub, wp_neg, wp_lt, wp_le, wp_gt, wp_ge, wp_max2, wp_min2, wp_abs, wp_mulI, wp_mul, wp_fdiv, wp_mod, wp_shl, wp_shr, wp_pow, wp_isN, wp_notN, wp_eqI, wp_neI, wp_ix, kk_ix, kk_ix2, wp_len, kk_lenL, kk_lenT, kk_lenO, kk_lenP, wp_appd, kk_app1, isL_k, kk_isL, startI_cons, startI_nil, rep_succ, rep_zero, List.getElem?_cons_zero, List.getElem?_cons_succ, List.set_cons_zero, List.set_cons_succ, f_call, m_var, List.append_nil, List.nil_append, List.cons_append, List.length_cons, List.length_nil, if_true, if_false, g_tup, g_lst, g_cons, g_nil, g_nm, Option.bind_some, kks_g, atI_0, atI_1, atI_2, atI_3, atI_4, atI_5, atI_6, atI_7, atI_8, atI_9, atI_10, atI_11, atI_12, atI_last, cutI_1, ixN_30, ixN_31, ixN_32, Int.toNat_zero, Int.reduceToNat, Int.reduceNeg, xs_lst, xs_tup, xs_ro, xs_rot, isL_lst, isL_tup, isL_ro, isL_rot, isT_tup, isT_rot, Bool.false_eq_true, Bool.true_eq_false, Bool.not_true, Bool.not_false, decide_true, decide_false, Int.reduceLT, Int.reduceLE, Nat.reduceLT, Nat.reduceLeDiff, Nat.reduceAdd, Nat.reduceEqDiff, Bool.not_eq_true, true_and, and_true, and_self, eq_self, g_new, g_nw, g_old, g_set, g_sne, List.length_set, List.length_append, wp_r3, kk_r3, Int.cast_ofNat_Int, Int.reduceEq, Int.natCast_zero, Int.natCast_one, ws_whileA, wp_isiII, wp_isiIB, wp_isiR, tyO_l, tyO_t, kk_isi, kk_isi2, kit_ll, kit_tt, kit_lt, kit_tl, wp_isiN, wp_isiBl, wp_isiS, tyO_d, kit2_NoneType_int, kit2_NoneType_bool, kit2_NoneType_list, kit2_NoneType_tuple, kit2_NoneType_str, kit2_bool_int, kit2_bool_bool, kit2_bool_list, kit2_bool_tuple, kit2_bool_str, kit2_str_int, kit2_str_bool, kit2_str_list, kit2_str_tuple, kit2_str_str, kit2_dict_int, kit2_dict_bool, kit2_dict_list, kit2_dict_tuple, kit2_dict_str, kit2_list_int, kit2_list_bool, kit2_list_str, kit2_tuple_int, kit2_tuple_bool, kit2_tuple_str, kit2_int_list, kit2_int_tuple, kit2_int_str, kf_next, kf_cont, kf_brk, kf_ret, wipeI, ↓reduceIte, *])
theorem q_whole (c : Cs) (i l : Int) (ih : IH) (Q : PQ IV) (E : EQ) : wp (m_is_whole c [.int i, .int l] ih) Q E = Q (.bl (decide (l ≤ i))) ih := by
  have a3 : decide (IV.int l = IV.non) = false := rfl
  unfold m_is_whole b_is_whole
  walk_at "run"
theorem q_whole0 (c : Cs) (i : Int) (ih : IH) (Q : PQ IV) (E : EQ) : wp (m_is_whole c [.int i, .non] ih) Q E = Q (.bl true) ih := by
  have a3 : decide (IV.non = IV.non) = true := rfl
  unfold m_is_whole b_is_whole
  walk_at "run"
end L3
/-! K32: fewest looks: the parts. -/
namespace L3
open PySem PySem.Spec PyProof.Rows L2
local macro_rules | `(tactic| walk_at "get") => `(tactic| simp (disch := first | assumption | omega | (simp only [List.length_append, List.length_set, List.length_cons, List.length_nil, List.length_map] <;> omega) | fail) only [g_new, g_nw, g_old, g_set, g_sne, List.length_append, List.length_set, List.length_cons, List.length_nil, List.length_map, List.map_map, Function.comp_def, xs_lst, xs_tup, isL_lst, isL_tup, ↓reduceIte, *])
local macro_rules | `(tactic| walk_at "fr") => `(tactic| first | (intro _ _ _; simp (disch := first | assumption | omega | (simp only [List.length_append, List.length_set, List.length_cons, List.length_nil, List.length_map] <;> omega) | fail) only [g_new, g_nw, g_old, g_set, g_sne, List.length_append, List.length_set, List.length_cons, List.length_nil, List.length_map, List.map_map, Function.comp_def, xs_lst, xs_tup, isL_lst, isL_tup, ↓reduceIte, *]) | (intro _ _; simp (disch := first | assumption | omega | (simp only [List.length_append, List.length_set, List.length_cons, List.length_nil, List.length_map] <;> omega) | fail) only [g_new, g_nw, g_old, g_set, g_sne, List.length_append, List.length_set, List.length_cons, List.length_nil, List.length_map, List.map_map, Function.comp_def, xs_lst, xs_tup, isL_lst, isL_tup, ↓reduceIte, *]))
local macro_rules | `(tactic| walk_at "run") => `(tactic| simp -implicitDefEqProofs (disch := first | assumption | omega | (simp only [List.length_append, List.length_set, List.length_cons, List.length_nil, List.length_map] <;> omega) | fail) only [wp_ok, wp_exc, wp_stuck, ws_ok, ws_exc, ws_stuck, wp_op, kk_op, kk_un, wp_un, wp_cons, kk_cons, kk_cons2, wp_nil, wp_c, wp_app, wp_if, kk_if1, kk_if0, wp_and, kk_and1, kk_and0, wp_or, kk_or1, kk_or0, wp_not, kk_not, wp_tb, kk_tb, wp_andV, kk_andV1, kk_andV0, wp_orV, kk_orV1, kk_orV0, wp_notV, kk_notV, wp_noneS, wp_some, kk_some, wp_sl, kk_sl, kk_sl2, kk_sl3, wp_mL, kk_mL, kk_mL2, wp_mL0, kk_mL0, wp_chain, kk_ch, kk_ch2, kk_ch31, kk_ch30, ws_set, kks_nm, kks_g, kks_tup, kks_lst, ws_expr, kks_expr, ws_ret, kks_ret, ws_retN, ws_pass, ws_brk, ws_cont, ws_raise, ws_if, kks_if1, kks_if0, ws_seq, kks_next, kks_retS, kks_brk, kks_cont, kk_augE, ws_aug, kks_aug, kks_aug2, ws_par, kks_par, ws_setL, kks_sl, kks_sl2, kks_sl3, wp_def, kkd_ret, kkd_next, kkdE, kkE, ws_for, wp_lc, wp_r1, kk_r1, wp_r2, kk_r2, wp_il, wp_it, wp_ie, wp_iz, kk_il, kk_il2, kk_it, kk_it2, kk_ie, kk_ie2, kk_iz, kk_iz2, lAt_k, k_lAtL, k_lAtO, k_lAtT, wp_int, wp_add, wp_addI, wp_sub, wp_neg, wp_lt, wp_le, wp_gt, wp_ge, wp_max2, wp_min2, wp_abs, wp_mulI, wp_mul, wp_fdiv, wp_mod, wp_shl, wp_shr, wp_pow, wp_isN, wp_notN, wp_eqI, wp_neI, wp_ix, kk_ix, kk_ix2, wp_len, kk_lenL, kk_lenT, kk_lenO, kk_lenP, wp_appd, kk_app1, isL_k, kk_isL, startI_cons, startI_nil, rep_succ, rep_zero, List.getElem?_cons_zero, List.getElem?_cons_succ, List.set_cons_zero, List.set_cons_succ, f_call, m_var, List.append_nil, List.nil_append, List.cons_append, List.length_cons, List.length_nil, if_true, if_false, g_tup, g_lst, g_cons, g_nil, g_nm, Option.bind_some, kks_g, atI_0, atI_1, atI_2, atI_3, atI_4, atI_5, atI_6, atI_7, atI_8, atI_9, atI_10, atI_11, atI_12, atI_last, cutI_1, ixN_30, ixN_31, ixN_32, Int.toNat_zero, Int.reduceToNat, Int.reduceNeg, xs_lst, xs_tup, xs_ro, xs_rot, isL_lst, isL_tup, isL_ro, isL_rot, isT_tup, isT_rot, Bool.false_eq_true, Bool.true_eq_false, Bool.not_true, Bool.not_false, decide_true, decide_false, Int.reduceLT, Int.reduceLE, Nat.reduceLT, Nat.reduceLeDiff, Nat.reduceAdd, Nat.reduceEqDiff, Bool.not_eq_true, true_and, and_true, and_self, eq_self, g_new, g_nw, g_old, g_set, g_sne, List.length_set, List.length_append, wp_r3, kk_r3, Int.cast_ofNat_Int, Int.reduceEq, Int.natCast_zero, Int.natCast_one, ws_whileA, wp_isiII, wp_isiIB, wp_isiR, tyO_l, tyO_t, kk_isi, kk_isi2, kit_ll, kit_tt, kit_lt, kit_tl, wp_isiN, wp_isiBl, wp_isiS, tyO_d, kit2_NoneType_int, kit2_NoneType_bool, kit2_NoneType_list, kit2_NoneType_tuple, kit2_NoneType_str, kit2_bool_int, kit2_bool_bool, kit2_bool_list, kit2_bool_tuple, kit2_bool_str, kit2_str_int, kit2_str_bool, kit2_str_list, kit2_str_tuple, kit2_str_str, kit2_dict_int, kit2_dict_bool, kit2_dict_list, kit2_dict_tuple, kit2_dict_str, kit2_list_int, kit2_list_bool, kit2_list_str, kit2_tuple_int, kit2_tuple_bool, kit2_tuple_str, kit2_int_list, kit2_int_tuple, kit2_int_str, kf_next, kf_cont, kf_brk, kf_ret, wipeI, ↓reduceIte, *])
theorem k_andD {nb : Env → IH → Res Bool} {env : Env} {QB : PQ Bool} {E : EQ} {b v : Bool} {ih : IH} (h : wp (nb env ih) (fun x ih' => x = v ∧ ih' = ih) E0) (q : QB (b && v) ih) : k_and nb env QB E b ih := by
  cases b with
  | true => exact wp.of h.eq q
  | false => exact q
/-- [me for a, b in rows if test], nothing allocated -/
theorem lc_rowsT {Q : PQ IV} {E : EQ} {env : Env} {ih : IH} {vs : List Nat} {i j n : Nat} {mt : Env → IH → Res Bool} {me : Env → IH → Res IV} {xs : List IV} {rs : List (Int × Int)} (T : Int × Int → Bool) (F : Int × Int → IV) (ho : ih[n]? = some (.lst xs)) (pr : PR ih xs rs) (hz : rs.length < 100000)
    (ht : ∀ r ∈ rs, ∀ ih', Fx ih ih' → wp (mt (((wipeI env vs).set i (some (.int r.1))).set j (some (.int r.2))) ih') (fun v ih'' => v = T r ∧ ih'' = ih') E0)
    (he : ∀ r ∈ rs, T r = true → ∀ ih', Fx ih ih' → wp (me (((wipeI env vs).set i (some (.int r.1))).set j (some (.int r.2))) ih') (fun v ih'' => v = F r ∧ ih'' = ih') E0)
    (q : Q (.ref ih.length) (ih ++ [.lst ((rs.filter T).map F)])) : k_lc vs (g_tup 2 (g_cons (g_nm i) (g_cons (g_nm j) g_nil))) mt me env Q E (.lst n) ih := by
  have hs : (Src.lst n).size ih = xs.length := by
    unfold Src.size
    dsimp only
    rw [ho]
    rfl
  refine lc_gen xs.length (fun k acc ih' => acc = ((rs.take k).filter T).map F ∧ ih' = ih ++ [.lst acc]) (by rw [hs]; exact Nat.le_refl _) ⟨by simp, rfl⟩ (fun k acc ih' hk ⟨ha, ei⟩ hd => ?_) (fun acc ih' ⟨_, ei⟩ _ => ?_) fun acc ih' ⟨ha, ei⟩ hd => ?_
  · subst ei
    have hx : xs[k]? = some xs[k] := List.getElem?_eq_getElem hk
    obtain ⟨t, r, e1, e2, e3⟩ := pr.get hx
    have ho' : (ih ++ [MO.lst acc])[n]? = some (.lst xs) := by rw [g_old (lt_of_get ho)]; exact ho
    have e3' : (ih ++ [MO.lst acc])[t]? = some (.tup [.int r.1, .int r.2]) := by rw [g_old (lt_of_get e3)]; exact e3
    have hr : r ∈ rs := List.mem_of_getElem? e2
    have hkr : k < rs.length := (List.getElem?_eq_some_iff.mp e2).1
    refine ⟨.ref t, _, _, by rw [turn_lst ho' rfl (show (MO.lst xs).xs[k]? = some xs[k] from hx), e1], g_pairR e3', wp.imp (ht r hr _ Fx.app) (fun v ih2 hv => ?_) fun _ _ h => h⟩
    obtain ⟨hv, hi⟩ := hv
    subst hi
    have et : rs.take (k + 1) = rs.take k ++ [r] := by rw [List.take_add_one, e2]; rfl
    refine ⟨fun hb => ⟨hd, ?_, rfl⟩, fun hb => wp.imp (he r hr (by rw [← hv]; exact hb) _ Fx.app) (fun y ih3 hy => ?_) fun _ _ h => h⟩
    · rw [et, List.filter_append, ha, List.filter_cons, ← hv, hb]
      simp
    · obtain ⟨hy, hi3⟩ := hy
      subst hi3
      refine ⟨hd, ?_, ?_, ?_⟩
      · rw [ha, List.length_map]
        exact Nat.lt_of_le_of_lt (List.length_filter_le _ _) (by rw [List.length_take]; omega)
      · rw [et, List.filter_append, ha, List.filter_cons, ← hv, hb, hy]
        simp
      · rw [set_append_last]
  · subst ei
    exact stop_lst (o := .lst xs) (by rw [g_old (lt_of_get ho)]; exact ho) rfl
  · rw [pr.len, List.take_length] at ha
    rw [ei, ha]
    exact q
/-- [me for i, x in enumerate(xs) if test], nothing but the pairs allocated -/
theorem lc_enmT {Q : PQ IV} {E : EQ} {env : Env} {ih : IH} {vs : List Nat} {i j n : Nat} {mt : Env → IH → Res Bool} {me : Env → IH → Res IV} {xs : List IV} (T : Nat → Bool) (F : Nat → IV) (ho : ih[n]? = some (.lst xs)) (hz : xs.length < 100000)
    (ht : ∀ (k : Nat) x, xs[k]? = some x → ∀ ih', Fx ih ih' → wp (mt (((wipeI env vs).set i (some (.int (k : Int)))).set j (some x)) ih') (fun v ih'' => v = T k ∧ ih'' = ih') E0)
    (he : ∀ (k : Nat) x, xs[k]? = some x → T k = true → ∀ ih', Fx ih ih' → wp (me (((wipeI env vs).set i (some (.int (k : Int)))).set j (some x)) ih') (fun v ih'' => v = F k ∧ ih'' = ih') E0)
    (q : ∀ ih', Fx ih ih' → ih.length < ih'.length → ih'[ih.length]? = some (.lst (((List.range xs.length).filter T).map F)) → Q (.ref ih.length) ih') : k_lc vs (g_tup 2 (g_cons (g_nm i) (g_cons (g_nm j) g_nil))) mt me env Q E (.enm n) ih := by
  have hs : (Src.enm n).size ih = xs.length := by
    unfold Src.size
    dsimp only
    rw [ho]
    rfl
  refine lc_gen xs.length (fun k acc ih' => acc = ((List.range k).filter T).map F ∧ Fx ih ih' ∧ ih.length < ih'.length) (by rw [hs]; exact Nat.le_refl _) ⟨by simp, Fx.app, by simp⟩ (fun k acc ih' hk ⟨ha, fx, lx⟩ hd => ?_) (fun acc ih' ⟨_, fx, _⟩ _ => ?_) fun acc ih' ⟨ha, fx, lx⟩ hd => ?_
  · have hx : xs[k]? = some xs[k] := List.getElem?_eq_getElem hk
    have ho' : ih'[n]? = some (.lst xs) := by rw [fx n (lt_of_get ho)]; exact ho
    have f1 : Fx ih' (ih' ++ [.tup [.int (k : Int), xs[k]]]) := Fx.app
    refine ⟨.ref ih'.length, _, _, turn_enm ho' rfl (show (MO.lst xs).xs[k]? = some xs[k] from hx), g_pair, wp.imp (ht k _ hx _ (fx.trans f1 (by omega))) (fun v ih2 hv => ?_) fun _ _ h => h⟩
    obtain ⟨hv, hi⟩ := hv
    subst hi
    have hd2 : (ih' ++ [MO.tup [.int (k : Int), xs[k]]])[ih.length]? = some (.lst acc) := by rw [g_old lx]; exact hd
    refine ⟨fun hb => ⟨hd2, ?_, fx.trans f1 (by omega), by rw [List.length_append]; omega⟩, fun hb => wp.imp (he k _ hx (by rw [← hv]; exact hb) _ (fx.trans f1 (by omega))) (fun y ih3 hy => ?_) fun _ _ h => h⟩
    · rw [List.range_succ, List.filter_append, ha, List.filter_cons, ← hv, hb]
      simp
    · obtain ⟨hy, hi3⟩ := hy
      subst hi3
      refine ⟨hd2, ?_, ?_, (fx.trans f1 (by omega)).set (Nat.le_refl _), by rw [List.length_set, List.length_append]; omega⟩
      · rw [ha, List.length_map]
        exact Nat.lt_of_le_of_lt (List.length_filter_le _ _) (by rw [List.length_range]; omega)
      · rw [List.range_succ, List.filter_append, ha, List.filter_cons, ← hv, hb, hy]
        simp
  · exact stop_enm (o := .lst xs) (by rw [fx n (lt_of_get ho)]; exact ho) rfl
  · rw [ha] at hd
    exact q ih' fx lx hd
/-! ### the program -/
theorem q_stretch (c : Cs) {t : Nat} {a b : Int} {ih : IH} (g : ih[t]? = some (.tup [.int a, .int b])) (h : 0 ≤ a) (hab : a ≤ b) (Q : PQ IV) (E : EQ) : wp (m_is_stretch c [.ref t] ih) Q E = Q (.bl true) ih := by
  have a1 := q_whole c a 0
  have a2 := q_whole c b a
  have d1 : decide (a ≤ b) = true := decide_eq_true hab
  have e : decide (((0 : Nat) : Int) + 1 + 1 = 2) = true := rfl
  unfold m_is_stretch b_is_stretch
  walk_at "run"
theorem w_frame (c : Cs) {s b e : Int} {q : Nat} {xs : List IV} {W : List (Int × Int)} {ih : IH} {Q : PQ IV} {E : EQ} (s1 : 1 ≤ s) (b0 : 0 ≤ b) (be : b ≤ e) (gq : ih[q]? = some (.lst xs)) (pr : PR ih xs W) (hW : Win W) (hl : W.length ≤ 1000)
    (k : ∀ ih', Fx ih ih' → ih.length ≤ ih'.length → Q .non ih') : wp (m_check_frame c [.int s, .ref q, .int b, .int e] ih) Q E := by
  have a1 := q_whole c s 1
  have a2 := q_whole c b 0
  have a3 := q_whole c e b
  have d3 : decide (b ≤ e) = true := decide_eq_true be
  have ql := lt_of_get gq
  have cy1 : ∀ ih Q E, wp (m_check_cycle c [.int b, .int 0] ih) Q E = Q .non ih := fun ih Q E => by
    unfold m_check_cycle b_check_cycle
    clear k
    walk_at "run"
  have cy2 : ∀ ih Q E, wp (m_check_cycle c [.int e, .int b] ih) Q E = Q .non ih := fun ih Q E => by
    unfold m_check_cycle b_check_cycle
    clear k cy1
    walk_at "run"
  unfold m_check_frame b_check_frame
  walk_at "run"
  unfold lc_check_frame_1
  walk_at "run"
  refine lc_all (fun _ => .bl true) gq rfl (by rw [xs_lst, pr.len]; omega) (fun x hx ih2 f2 => ?_) (newN fun w ih2 w1 w2 l2 f2 n2 => ?_)
  · obtain ⟨j, hj⟩ := List.mem_iff_getElem?.mp hx
    obtain ⟨t, r, rfl, hr, gt⟩ := pr.get (show xs[j]? = some x from hj)
    obtain ⟨r0, r1⟩ := hW r (List.mem_of_getElem? hr)
    have q := fun Q E => q_stretch c (ih := ih2) (by rw [f2 t (lt_of_get gt)]; exact gt) r0 r1 Q E
    unfold le_check_frame_1
    clear k
    walk_at "run"
  have n2' : ih2[w]? = some (.lst ((xs.map fun _ => true).map IV.bl)) := by rw [n2, List.map_map]; rfl
  walk_at "run"
  refine wp_allL (xs.map fun _ => true) n2' ?_
  have al : (xs.map fun _ => true).all id = true := by simp
  rw [al]
  have kz := k ih2 f2 (by omega)
  clear k f2 n2 n2' gq
  walk_at "run"
  all_goals exact kz
theorem w_open (c : Cs) {x e : Int} {q : Nat} {xs : List IV} {W : List (Int × Int)} {ih : IH} {Q : PQ IV} {E : EQ} (gq : ih[q]? = some (.lst xs)) (pr : PR ih xs W) (hl : W.length ≤ 1000)
    (k : ∀ u ih', ih.length ≤ u → u < ih'.length → Fx ih ih' → ih.length ≤ ih'.length → ih'[u]? = some (.lst ((ends W x e).map IV.int)) → Q (.ref u) ih') : wp (m_open_ends c [.ref q, .int x, .int e] ih) Q E := by
  unfold m_open_ends b_open_ends
  walk_at "run"
  unfold lc_open_ends_1
  walk_at "run"
  refine lc_rowsT (fun r => decide (x < r.1) && decide (r.2 < e)) (fun r => .int r.2) gq pr (by omega) (fun r hr ih1 f1 => ?_) (fun r hr _ ih1 f1 => ?_) (newN fun u ih1 u1 u2 l1 f1 n1 => ?_)
  · unfold ln_open_ends_1
    clear k
    by_cases h : x < r.1
    · have d1 := decide_eq_true h
      clear h
      walk_at "run"
      simp
    · have d1 := decide_eq_false h
      clear h
      walk_at "run"
      simp
  · unfold le_open_ends_1
    clear k
    walk_at "run"
  have kz := k u ih1 u1 u2 f1 (by omega) (by rw [n1]; unfold ends; rw [List.map_map]; rfl)
  exact kz
end L3
/-! K32b: fewest, and what is enough. -/
namespace L3
open PySem PySem.Spec PyProof.Rows L2
local macro_rules | `(tactic| walk_at "get") => `(tactic| simp (disch := first | assumption | omega | (simp only [List.length_append, List.length_set, List.length_cons, List.length_nil, List.length_map] <;> omega) | fail) only [g_new, g_nw, g_old, g_set, g_sne, List.length_append, List.length_set, List.length_cons, List.length_nil, List.length_map, List.map_map, Function.comp_def, xs_lst, xs_tup, isL_lst, isL_tup, ↓reduceIte, *])
local macro_rules | `(tactic| walk_at "fr") => `(tactic| first | (intro _ _ _; simp (disch := first | assumption | omega | (simp only [List.length_append, List.length_set, List.length_cons, List.length_nil, List.length_map] <;> omega) | fail) only [g_new, g_nw, g_old, g_set, g_sne, List.length_append, List.length_set, List.length_cons, List.length_nil, List.length_map, List.map_map, Function.comp_def, xs_lst, xs_tup, isL_lst, isL_tup, ↓reduceIte, *]) | (intro _ _; simp (disch := first | assumption | omega | (simp only [List.length_append, List.length_set, List.length_cons, List.length_nil, List.length_map] <;> omega) | fail) only [g_new, g_nw, g_old, g_set, g_sne, List.length_append, List.length_set, List.length_cons, List.length_nil, List.length_map, List.map_map, Function.comp_def, xs_lst, xs_tup, isL_lst, isL_tup, ↓reduceIte, *]))
local macro_rules | `(tactic| walk_at "run") => `(tactic| simp -implicitDefEqProofs (disch := first | assumption | omega | (simp only [List.length_append, List.length_set, List.length_cons, List.length_nil, List.length_map] <;> omega) | fail) only [wp_ok, wp_exc, wp_stuck, ws_ok, ws_exc, ws_stuck, wp_op, kk_op, kk_un, wp_un, wp_cons, kk_cons, kk_cons2, wp_nil, wp_c, wp_app, wp_if, kk_if1, kk_if0, wp_and, kk_and1, kk_and0, wp_or, kk_or1, kk_or0, wp_not, kk_not, wp_tb, kk_tb, wp_andV, kk_andV1, kk_andV0, wp_orV, kk_orV1, kk_orV0, wp_notV, kk_notV, wp_noneS, wp_some, kk_some, wp_sl, kk_sl, kk_sl2, kk_sl3, wp_mL, kk_mL, kk_mL2, wp_mL0, kk_mL0, wp_chain, kk_ch, kk_ch2, kk_ch31, kk_ch30, ws_set, kks_nm, kks_g, kks_tup, kks_lst, ws_expr, kks_expr, ws_ret, kks_ret, ws_retN, ws_pass, ws_brk, ws_cont, ws_raise, ws_if, kks_if1, kks_if0, ws_seq, kks_next, kks_retS, kks_brk, kks_cont, kk_augE, ws_aug, kks_aug, kks_aug2, ws_par, kks_par, ws_setL, kks_sl, kks_sl2, kks_sl3, wp_def, kkd_ret, kkd_next, kkdE, kkE, ws_for, wp_lc, wp_r1, kk_r1, wp_r2, kk_r2, wp_il, wp_it, wp_ie, wp_iz, kk_il, kk_il2, kk_it, kk_it2, kk_ie, kk_ie2, kk_iz, kk_iz2, lAt_k, k_lAtL, k_lAtO, k_lAtT, wp_int, wp_add, wp_addI, wp_sub, wp_neg, wp_lt, wp_le, wp_gt, wp_ge, wp_max2, wp_min2, wp_abs, wp_mulI, wp_mul, wp_fdiv, wp_mod, wp_shl, wp_shr, wp_pow, wp_isN, wp_notN, wp_eqI, wp_neI, wp_ix, kk_ix, kk_ix2, wp_len, kk_lenL, kk_lenT, kk_lenO, kk_lenP, wp_appd, kk_app1, isL_k, kk_isL, startI_cons, startI_nil, rep_succ, rep_zero, List.getElem?_cons_zero, List.getElem?_cons_succ, List.set_cons_zero, List.set_cons_succ, f_call, m_var, List.append_nil, List.nil_append, List.cons_append, List.length_cons, List.length_nil, if_true, if_false, g_tup, g_lst, g_cons, g_nil, g_nm, Option.bind_some, kks_g, atI_0, atI_1, atI_2, atI_3, atI_4, atI_5, atI_6, atI_7, atI_8, atI_9, atI_10, atI_11, atI_12, atI_last, cutI_1, ixN_30, ixN_31, ixN_32, Int.toNat_zero, Int.reduceToNat, Int.reduceNeg, xs_lst, xs_tup, xs_ro, xs_rot, isL_lst, isL_tup, isL_ro, isL_rot, isT_tup, isT_rot, Bool.false_eq_true, Bool.true_eq_false, Bool.not_true, Bool.not_false, decide_true, decide_false, Int.reduceLT, Int.reduceLE, Nat.reduceLT, Nat.reduceLeDiff, Nat.reduceAdd, Nat.reduceEqDiff, Bool.not_eq_true, true_and, and_true, and_self, eq_self, g_new, g_nw, g_old, g_set, g_sne, List.length_set, List.length_append, wp_r3, kk_r3, Int.cast_ofNat_Int, Int.reduceEq, Int.natCast_zero, Int.natCast_one, ws_whileA, wp_isiII, wp_isiIB, wp_isiR, tyO_l, tyO_t, kk_isi, kk_isi2, kit_ll, kit_tt, kit_lt, kit_tl, wp_isiN, wp_isiBl, wp_isiS, tyO_d, kit2_NoneType_int, kit2_NoneType_bool, kit2_NoneType_list, kit2_NoneType_tuple, kit2_NoneType_str, kit2_bool_int, kit2_bool_bool, kit2_bool_list, kit2_bool_tuple, kit2_bool_str, kit2_str_int, kit2_str_bool, kit2_str_list, kit2_str_tuple, kit2_str_str, kit2_dict_int, kit2_dict_bool, kit2_dict_list, kit2_dict_tuple, kit2_dict_str, kit2_list_int, kit2_list_bool, kit2_list_str, kit2_tuple_int, kit2_tuple_bool, kit2_tuple_str, kit2_int_list, kit2_int_tuple, kit2_int_str, kf_next, kf_cont, kf_brk, kf_ret, wipeI, ↓reduceIte, *])
theorem w_few (c : Cs) {fu q f : Nat} {s b e : Int} {xs : List IV} {W : List (Int × Int)} {ih : IH} {a6 : Option IV} {S : SQ} {F : ES} (hf : 2000 < fu) (s1 : 1 ≤ s) (be : b ≤ e) (eb : e - b ≤ 1000) (gq : ih[q]? = some (.lst xs)) (pr : PR ih xs W) (hW : Win W) (hl : W.length ≤ 1000)
    (gf : ih[f]? = some (.lst [])) (fq : f ≠ q)
    (fin : ∀ g ih', Gr s W e b g → ih'[f]? = some (.lst (g.map IV.int)) → Fr f ih ih' → ih.length ≤ ih'.length → S (.ret (.ref f)) ih') :
    ws (whileGo (wt_fewest_1 c) (wb_fewest_1 c) fu [some (.int s), some (.ref q), some (.int b), some (.int e), some (.ref f), some (.int b), a6] ih) S F := by
  have fl := lt_of_get gf
  have ql := lt_of_get gq
  refine while_ind (fun _ _ => True) (fun env ih' k => ∃ F look a6, env = [some (.int s), some (.ref q), some (.int b), some (.int e), some (.ref f), some (.int look), a6] ∧ ih'[f]? = some (.lst (F.map IV.int)) ∧ (∀ g, Gr s W e look g → Gr s W e b (F ++ g)) ∧ b ≤ look ∧ look ≤ e ∧ (F.length : Int) ≤ look - b ∧ (e - look).toNat ≤ k ∧ Fr f ih ih' ∧ ih.length ≤ ih'.length) (fun k env ih' _ hP => ?_) fu 1000 _ ih trivial ⟨[], b, a6, rfl, gf, fun g h => h, Int.le_refl _, be, by simp, by omega, Fr.refl, Nat.le_refl _⟩ (by omega)
  obtain ⟨F, look, a6, ee, gf', hG, bl, le', hF, hk, fr, lx⟩ := hP
  subst ee
  have gq' : ih'[q]? = some (.lst xs) := by rw [fr q ql (Ne.symm fq)]; exact gq
  have pr' : PR ih' xs W := pr.fr fr gf
  have fl' := lt_of_get gf'
  have ql' := lt_of_get gq'
  unfold wt_fewest_1
  clear gq gf fl ql
  walk_at "run"
  unfold wb_fewest_1
  walk_at "run"
  refine w_open c gq' pr' hl fun u ih1 u1 u2 f1 l1 g1 => ?_
  have g1f : ih1[f]? = some (.lst (F.map IV.int)) := by rw [f1 f fl']; exact gf'
  have fr1 := fr.trans f1.fr lx
  have uf : u ≠ f := by omega
  clear gq' pr' pr gf' f1 fr
  walk_at "run"
  refine wp_lst (by simp) (newN fun v ih2 v1 v2 l2 f2 g2 => ?_)
  have g2u : ih2[u]? = some (.lst ((ends W look e).map IV.int)) := by rw [f2 u u2]; exact g1
  have g2f : ih2[f]? = some (.lst (F.map IV.int)) := by rw [f2 f (by omega)]; exact g1f
  have fr2 := fr1.trans f2.fr (by omega)
  clear f2 g1 g1f fr1
  walk_at "run"
  refine wp_eq (Is.ints g2u rfl rfl) (Is.ints (o := .lst []) (ns := []) g2 rfl rfl) (shaped_ints _) (shaped_ints _) ?_
  rw [eqv_list]
  walk_at "run"
  refine k_andD (v := decide (e - look ≤ s)) (by walk_at "run") ?_
  rw [← Bool.decide_and]
  by_cases hd : ends W look e = [] ∧ e - look ≤ s
  · have d1 := decide_eq_true hd
    have kz := fin F ih2 (by have := hG [] (.done hd.1 hd.2); rwa [List.append_nil] at this) g2f fr2 (by omega)
    clear fin hG hd g2u g2f fr2
    walk_at "run"
    all_goals exact kz
  · have d1 := decide_eq_false hd
    clear fin
    walk_at "run"
    refine wp_lst (by simp) (newN fun w ih3 w1 w2 l3 f3 g3 => ?_)
    have g3u : ih3[u]? = some (.lst ((ends W look e).map IV.int)) := by rw [f3 u (by omega)]; exact g2u
    have g3f : ih3[f]? = some (.lst (F.map IV.int)) := by rw [f3 f (by omega)]; exact g2f
    have fr3 := fr2.trans f3.fr (by omega)
    have le3 : (ends W look e).length ≤ 1000 := by
      unfold ends
      rw [List.length_map]
      exact Nat.le_trans (List.length_filter_le _ _) hl
    clear f3 g2u g2f fr2 g2
    walk_at "run"
    refine wp_cat g3u g3 (by rw [List.length_map]; simp; omega) (newN fun z ih4 z1 z2 l4 f4 g4 => ?_)
    have g4f : ih4[f]? = some (.lst (F.map IV.int)) := by rw [f4 f (by omega)]; exact g3f
    have fr4 := fr3.trans f4.fr (by omega)
    have g4' : ih4[z]? = some (.lst ((ends W look e ++ [look + s]).map IV.int)) := by rw [g4, List.map_append]; rfl
    clear f4 g3u g3f fr3 g3 g4
    walk_at "run"
    refine wp_min1 (ends W look e ++ [look + s]) g4' (by simp) fun y y1 y2 => ?_
    obtain ⟨k1, k2⟩ := step_in s1 hW hd y1 y2
    have hG' : ∀ g, Gr s W e y g → Gr s W e b (F ++ [y] ++ g) := fun g hg => by
      rw [List.append_assoc]
      exact hG _ (.step hd y1 y2 hg)
    have Fl : (F.map IV.int).length = F.length := List.length_map _
    have ap : F.map IV.int ++ [.int y] = (F ++ [y]).map IV.int := by rw [List.map_append]; rfl
    have d2 : decide ((2000 : Int) < ((F.length : Nat) : Int) + 1) = false := decide_eq_false (by omega)
    have d3 : decide ((2000 : Int) < ((F.length + 1 : Nat) : Int)) = false := decide_eq_false (by omega)
    have nx : ∃ j, j < k ∧ ∃ G look' a6', [some (IV.int s), some (.ref q), some (.int b), some (.int e), some (.ref f), some (.int y), some (.ref u)] = [some (.int s), some (.ref q), some (.int b), some (.int e), some (.ref f), some (.int look'), a6'] ∧ (ih4.set f (.lst (F.map IV.int ++ [.int y])))[f]? = some (.lst (G.map IV.int)) ∧ (∀ g, Gr s W e look' g → Gr s W e b (G ++ g)) ∧ b ≤ look' ∧ look' ≤ e ∧ (G.length : Int) ≤ look' - b ∧ (e - look').toNat ≤ j ∧ Fr f ih (ih4.set f (.lst (F.map IV.int ++ [.int y]))) ∧ ih.length ≤ (ih4.set f (.lst (F.map IV.int ++ [.int y]))).length :=
      ⟨k - 1, by omega, F ++ [y], y, _, rfl, by rw [g_set (by omega), ap], hG', by omega, by omega, by rw [List.length_append, List.length_singleton]; omega, by omega, fr4.setp, by rw [List.length_set]; omega⟩
    clear hG hG' y1 y2 hd fr4 g4' ap
    walk_at "run"
    first | exact Inv.mk nx | (refine ⟨by omega, ?_⟩; exact Inv.mk nx) | skip
theorem w_fewest (c : Cs) {q : Nat} {s b e : Int} {xs : List IV} {W : List (Int × Int)} {ih : IH} {Q : PQ IV} {E : EQ} (s1 : 1 ≤ s) (b0 : 0 ≤ b) (be : b ≤ e) (eb : e - b ≤ 1000) (gq : ih[q]? = some (.lst xs)) (pr : PR ih xs W) (hW : Win W) (hl : W.length ≤ 1000)
    (k : ∀ f g ih', Gr s W e b g → ih'[f]? = some (.lst (g.map IV.int)) → ih.length ≤ f → Fx ih ih' → ih.length ≤ ih'.length → Q (.ref f) ih') : wp (m_fewest c [.int s, .ref q, .int b, .int e] ih) Q E := by
  have ql := lt_of_get gq
  unfold m_fewest b_fewest
  walk_at "run"
  refine w_frame c s1 b0 be gq pr hW hl fun ih1 f1 l1 => ?_
  have gq1 : ih1[q]? = some (.lst xs) := by rw [f1 q ql]; exact gq
  have pr1 := pr.fx f1
  walk_at "run"
  refine wp_lst (by simp) (newN fun f ih2 f21 f22 l2 f2 g2 => ?_)
  have gq2 : ih2[q]? = some (.lst xs) := by rw [f2 q (by omega)]; exact gq1
  have pr2 := pr1.fx f2
  have fx2 := f1.trans f2 l1
  clear f1 f2 gq1 pr1 pr gq
  walk_at "run"
  intro fu hfu
  refine w_few c (by omega) s1 be eb gq2 pr2 hW hl g2 (by omega) fun g ih3 hg g3 fr3 l3 => ?_
  have fx3 : Fx ih ih3 := fun n hn => by rw [fr3 n (by omega) (by omega)]; exact fx2 n hn
  have kz := k f g ih3 hg g3 (by omega) fx3 (by omega)
  clear k
  walk_at "run"
  all_goals exact kz
end L3
/-! K32c: what is enough, as the law says. -/
namespace L3
open PySem PySem.Spec PyProof.Rows L2
local macro_rules | `(tactic| walk_at "get") => `(tactic| simp (disch := first | assumption | omega | (simp only [List.length_append, List.length_set, List.length_cons, List.length_nil, List.length_map] <;> omega) | fail) only [g_new, g_nw, g_old, g_set, g_sne, List.length_append, List.length_set, List.length_cons, List.length_nil, List.length_map, List.map_map, Function.comp_def, xs_lst, xs_tup, isL_lst, isL_tup, ↓reduceIte, *])
local macro_rules | `(tactic| walk_at "fr") => `(tactic| first | (intro _ _ _; simp (disch := first | assumption | omega | (simp only [List.length_append, List.length_set, List.length_cons, List.length_nil, List.length_map] <;> omega) | fail) only [g_new, g_nw, g_old, g_set, g_sne, List.length_append, List.length_set, List.length_cons, List.length_nil, List.length_map, List.map_map, Function.comp_def, xs_lst, xs_tup, isL_lst, isL_tup, ↓reduceIte, *]) | (intro _ _; simp (disch := first | assumption | omega | (simp only [List.length_append, List.length_set, List.length_cons, List.length_nil, List.length_map] <;> omega) | fail) only [g_new, g_nw, g_old, g_set, g_sne, List.length_append, List.length_set, List.length_cons, List.length_nil, List.length_map, List.map_map, Function.comp_def, xs_lst, xs_tup, isL_lst, isL_tup, ↓reduceIte, *]))
local macro_rules | `(tactic| walk_at "run") => `(tactic| simp -implicitDefEqProofs (disch := first | assumption | omega | (simp only [List.length_append, List.length_set, List.length_cons, List.length_nil, List.length_map] <;> omega) | fail) only [wp_ok, wp_exc, wp_stuck, ws_ok, ws_exc, ws_stuck, wp_op, kk_op, kk_un, wp_un, wp_cons, kk_cons, kk_cons2, wp_nil, wp_c, wp_app, wp_if, kk_if1, kk_if0, wp_and, kk_and1, kk_and0, wp_or, kk_or1, kk_or0, wp_not, kk_not, wp_tb, kk_tb, wp_andV, kk_andV1, kk_andV0, wp_orV, kk_orV1, kk_orV0, wp_notV, kk_notV, wp_noneS, wp_some, kk_some, wp_sl, kk_sl, kk_sl2, kk_sl3, wp_mL, kk_mL, kk_mL2, wp_mL0, kk_mL0, wp_chain, kk_ch, kk_ch2, kk_ch31, kk_ch30, ws_set, kks_nm, kks_g, kks_tup, kks_lst, ws_expr, kks_expr, ws_ret, kks_ret, ws_retN, ws_pass, ws_brk, ws_cont, ws_raise, ws_if, kks_if1, kks_if0, ws_seq, kks_next, kks_retS, kks_brk, kks_cont, kk_augE, ws_aug, kks_aug, kks_aug2, ws_par, kks_par, ws_setL, kks_sl, kks_sl2, kks_sl3, wp_def, kkd_ret, kkd_next, kkdE, kkE, ws_for, wp_lc, wp_r1, kk_r1, wp_r2, kk_r2, wp_il, wp_it, wp_ie, wp_iz, kk_il, kk_il2, kk_it, kk_it2, kk_ie, kk_ie2, kk_iz, kk_iz2, lAt_k, k_lAtL, k_lAtO, k_lAtT, wp_int, wp_add, wp_addI, wp_sub, wp_neg, wp_lt, wp_le, wp_gt, wp_ge, wp_max2, wp_min2, wp_abs, wp_mulI, wp_mul, wp_fdiv, wp_mod, wp_shl, wp_shr, wp_pow, wp_isN, wp_notN, wp_eqI, wp_neI, wp_ix, kk_ix, kk_ix2, wp_len, kk_lenL, kk_lenT, kk_lenO, kk_lenP, wp_appd, kk_app1, isL_k, kk_isL, startI_cons, startI_nil, rep_succ, rep_zero, List.getElem?_cons_zero, List.getElem?_cons_succ, List.set_cons_zero, List.set_cons_succ, f_call, m_var, List.append_nil, List.nil_append, List.cons_append, List.length_cons, List.length_nil, if_true, if_false, g_tup, g_lst, g_cons, g_nil, g_nm, Option.bind_some, kks_g, atI_0, atI_1, atI_2, atI_3, atI_4, atI_5, atI_6, atI_7, atI_8, atI_9, atI_10, atI_11, atI_12, atI_last, cutI_1, ixN_30, ixN_31, ixN_32, Int.toNat_zero, Int.reduceToNat, Int.reduceNeg, xs_lst, xs_tup, xs_ro, xs_rot, isL_lst, isL_tup, isL_ro, isL_rot, isT_tup, isT_rot, Bool.false_eq_true, Bool.true_eq_false, Bool.not_true, Bool.not_false, decide_true, decide_false, Int.reduceLT, Int.reduceLE, Nat.reduceLT, Nat.reduceLeDiff, Nat.reduceAdd, Nat.reduceEqDiff, Bool.not_eq_true, true_and, and_true, and_self, eq_self, g_new, g_nw, g_old, g_set, g_sne, List.length_set, List.length_append, wp_r3, kk_r3, Int.cast_ofNat_Int, Int.reduceEq, Int.natCast_zero, Int.natCast_one, ws_whileA, wp_isiII, wp_isiIB, wp_isiR, tyO_l, tyO_t, kk_isi, kk_isi2, kit_ll, kit_tt, kit_lt, kit_tl, wp_isiN, wp_isiBl, wp_isiS, tyO_d, kit2_NoneType_int, kit2_NoneType_bool, kit2_NoneType_list, kit2_NoneType_tuple, kit2_NoneType_str, kit2_bool_int, kit2_bool_bool, kit2_bool_list, kit2_bool_tuple, kit2_bool_str, kit2_str_int, kit2_str_bool, kit2_str_list, kit2_str_tuple, kit2_str_str, kit2_dict_int, kit2_dict_bool, kit2_dict_list, kit2_dict_tuple, kit2_dict_str, kit2_list_int, kit2_list_bool, kit2_list_str, kit2_tuple_int, kit2_tuple_bool, kit2_tuple_str, kit2_int_list, kit2_int_tuple, kit2_int_str, kf_next, kf_cont, kf_brk, kf_ret, wipeI, ↓reduceIte, *])
theorem w_gaps (c : Cs) {u l : Nat} {s b : Int} {v1 v2 v3 : IV} {M : List Int} {ih : IH} {a6 a7 a8 a9 : Option IV} {S : SQ} {F : ES} (g : ih[u]? = some (.lst (M.map IV.int)))
    (kn : ¬ GapsOk s b M → S (.ret (.bl false)) ih) (kr : ∀ a5 a6, GapsOk s b M → S (.next [some (.int s), some v1, some v2, some v3, some (.ref l), some a5, a6, a7, a8, a9]) ih) :
    ks_for (g_nm 6) (lb_law_enough_1 c) [some (.int s), some v1, some v2, some v3, some (.ref l), some (.int b), a6, a7, a8, a9] S F (.lst u) ih := by
  refine for_lst1 (fun (i : Nat) (env : Env) (ih' : IH) => (∃ z a6, env = [some (.int s), some v1, some v2, some v3, some (.ref l), some (.int z), a6, a7, a8, a9] ∧ (GapsOk s b M ↔ GapsOk s z (M.drop i))) ∧ ih' = ih) g rfl ⟨⟨b, _, rfl, by simp⟩, rfl⟩ (fun i env ih' hP => by rw [hP.2]; exact g) (fun i x env ih' hx hP => ?_) fun env ih' hP => ?_
  · obtain ⟨⟨z, a6, ee, hz⟩, ei⟩ := hP
    subst ee ei
    have hx' : (M.map IV.int)[i]? = some x := hx
    obtain ⟨n, hn, rfl⟩ : ∃ n, M[i]? = some n ∧ IV.int n = x := by
      rw [List.getElem?_map] at hx'
      cases ea : M[i]? with
      | none => rw [ea] at hx'; cases hx'
      | some n => rw [ea] at hx'; exact ⟨n, rfl, Option.some.inj hx'⟩
    have hd : M.drop i = n :: M.drop (i + 1) := by
      obtain ⟨h1, h2⟩ := List.getElem?_eq_some_iff.mp hn
      rw [List.drop_eq_getElem_cons h1, h2]
    rw [hd] at hz
    have hz' : GapsOk s b M ↔ n - z ≤ s ∧ GapsOk s n (M.drop (i + 1)) := hz
    by_cases h : s < n - z
    · have d1 := decide_eq_true h
      have kz := kn fun hg => by have := (hz'.mp hg).1; omega
      clear kn kr hz hz' h hd hx hx' hn
      unfold lb_law_enough_1
      walk_at "run"
      all_goals exact kz
    · have d1 := decide_eq_false h
      have nx : ∃ z' a6', [some (IV.int s), some v1, some v2, some v3, some (.ref l), some (.int n), some (.int n), a7, a8, a9] = [some (.int s), some v1, some v2, some v3, some (.ref l), some (.int z'), a6', a7, a8, a9] ∧ (GapsOk s b M ↔ GapsOk s z' (M.drop (i + 1))) := ⟨n, _, rfl, hz'.trans ⟨fun h => h.2, fun h => ⟨by omega, h⟩⟩⟩
      clear kn kr hz hz' h hd hx hx' hn
      unfold lb_law_enough_1
      walk_at "run"
      exact Inv.mk ⟨nx, rfl⟩
  · obtain ⟨⟨z, a6, ee, hz⟩, ei⟩ := hP
    subst ee ei
    have e1 : M.drop (MO.lst (M.map IV.int)).xs.length = [] := by rw [xs_lst, List.length_map, List.drop_length]
    rw [e1] at hz
    exact kr _ _ (hz.mpr trivial)
/-- a window served, or not asked for -/
def Srv (b e : Int) (L : List Int) (r : Int × Int) : Prop := b ≤ r.2 → r.2 < e → ∃ x ∈ b :: L, r.1 ≤ x ∧ x ≤ r.2
theorem w_serve (c : Cs) {q l : Nat} {s b e : Int} {L : List Int} {xs : List IV} {W : List (Int × Int)} {ih : IH} {a5 a6 a7 a8 a9 : Option IV} {S : SQ} {F : ES} (gq : ih[q]? = some (.lst xs)) (pr : PR ih xs W) (gl : ih[l]? = some (.lst (L.map IV.int))) (hL : L.length ≤ 1000)
    (kn : ∀ ih', (∃ r ∈ W, ¬ Srv b e L r) → Fx ih ih' → ih.length ≤ ih'.length → S (.ret (.bl false)) ih') (kr : ∀ a6 a7 a8 a9 ih', (∀ r ∈ W, Srv b e L r) → Fx ih ih' → ih.length ≤ ih'.length → S (.next [some (.int s), some (.ref q), some (.int b), some (.int e), some (.ref l), a5, a6, a7, a8, a9]) ih') :
    ks_for (g_tup 2 (g_cons (g_nm 7) (g_cons (g_nm 8) g_nil))) (lb_law_enough_2 c) [some (.int s), some (.ref q), some (.int b), some (.int e), some (.ref l), a5, a6, a7, a8, a9] S F (.lst q) ih := by
  have ql := lt_of_get gq
  have ll := lt_of_get gl
  refine for_lstG (o := .lst xs) (fun (i : Nat) (env : Env) (ih' : IH) => (∃ a6 a7 a8 a9, env = [some (.int s), some (.ref q), some (.int b), some (.int e), some (.ref l), a5, a6, a7, a8, a9]) ∧ (∀ r ∈ W.take i, Srv b e L r) ∧ Fx ih ih' ∧ ih.length ≤ ih'.length) gq rfl ⟨⟨_, _, _, _, rfl⟩, fun r hr => by simp at hr, Fx.refl, Nat.le_refl _⟩ (fun i env ih' hP => by rw [hP.2.2.1 q ql]; exact gq) (fun i x env ih1 hx hP => ?_) fun env ih' hP => ?_
  · obtain ⟨⟨b6, b7, b8, b9, ee⟩, hs, fx, lx⟩ := hP
    subst ee
    obtain ⟨t, r, rfl, hr, gt⟩ := pr.get (show xs[i]? = some x from hx)
    have gt1 : ih1[t]? = some (.tup [.int r.1, .int r.2]) := by rw [fx t (lt_of_get gt)]; exact gt
    have gl1 : ih1[l]? = some (.lst (L.map IV.int)) := by rw [fx l ll]; exact gl
    refine ⟨_, g_pairR gt1, ?_⟩
    have et : W.take (i + 1) = W.take i ++ [r] := by rw [List.take_add_one, hr]; rfl
    have rW := List.mem_of_getElem? hr
    have nx : ∀ ih2, Srv b e L r → Fx ih1 ih2 → ih1.length ≤ ih2.length → (∀ r ∈ W.take (i + 1), Srv b e L r) ∧ Fx ih ih2 ∧ ih.length ≤ ih2.length := fun ih2 h f2 l2 => ⟨fun z hz => by
      rw [et] at hz
      rcases List.mem_append.mp hz with hz | hz
      · exact hs z hz
      · rw [List.mem_singleton] at hz
        rw [hz]
        exact h, fx.trans f2 lx, by omega⟩
    have kn' := fun ih2 (h : ¬ Srv b e L r) (f2 : Fx ih1 ih2) (l2 : ih1.length ≤ ih2.length) => kn ih2 ⟨r, rW, h⟩ (fx.trans f2 lx) (by omega)
    clear kn kr hs et gt gq hx pr hr fx
    obtain ⟨r1, r2⟩ := r
    dsimp only at *
    unfold lb_law_enough_2
    walk_at "run"
    unfold lc_law_enough_1
    walk_at "run"
    refine wp_lst (by simp) (newN fun u ih2 u1 u2 l2 f2 g2 => ?_)
    have gl2 : ih2[l]? = some (.lst (L.map IV.int)) := by rw [f2 l (by omega)]; exact gl1
    have f12 := f2
    clear f2 gl1
    walk_at "run"
    refine wp_cat g2 gl2 (by rw [List.length_map]; simp; omega) (newN fun v ih3 v1 v2 l3 f3 g3 => ?_)
    have g3' : ih3[v]? = some (.lst ((b :: L).map IV.int)) := g3
    have f13 := f12.trans f3 (by omega)
    clear g3 f3 f12 g2 gl2
    walk_at "run"
    refine lc_intT (b :: L) (fun x => decide (r1 ≤ x ∧ x ≤ r2)) (fun x => .int x) g3' (by rw [List.length_cons]; omega) (fun x hx ih4 f4 => ?_) (fun x hx _ ih4 f4 => ?_) (newN fun w ih4 w1 w2 l4 f4 g4 => ?_)
    · unfold ln_law_enough_1
      clear nx kn' f4
      by_cases h1 : r1 ≤ x
      · have d1 := decide_eq_true h1
        have e2 : decide (r1 ≤ x ∧ x ≤ r2) = decide (x ≤ r2) := by simp [h1]
        clear h1
        walk_at "run"
      · have d1 := decide_eq_false h1
        have e2 : decide (r1 ≤ x ∧ x ≤ r2) = false := by simp [h1]
        clear h1
        walk_at "run"
    · unfold le_law_enough_1
      clear nx kn' f4
      walk_at "run"
    have f14 := f13.trans f4 (by omega)
    have l14 : ih1.length ≤ ih4.length := by omega
    obtain ⟨N, eN⟩ : ∃ N, (b :: L).filter (fun x => decide (r1 ≤ x ∧ x ≤ r2)) = N := ⟨_, rfl⟩
    rw [eN] at g4
    clear f4 f13 g3'
    walk_at "run"
    by_cases h1 : b ≤ r2
    · have d1 := decide_eq_true h1
      by_cases h2 : r2 < e
      · have d2 := decide_eq_true h2
        walk_at "run"
        refine wp_lst (by simp) (newN fun y ih5 y1 y2 l5 f5 g5 => ?_)
        have g4' : ih5[w]? = some (.lst (N.map IV.int)) := by rw [f5 w w2]; exact g4
        have f15 := f14.trans f5 (by omega)
        have l15 : ih1.length ≤ ih5.length := by omega
        clear f5 f14 g4
        walk_at "run"
        refine wp_eq (Is.ints g4' rfl rfl) (Is.ints (o := .lst []) (ns := []) g5 rfl rfl) (shaped_ints _) (shaped_ints _) ?_
        rw [eqv_list]
        by_cases h3 : N = []
        · have d3 := decide_eq_true h3
          have kz := kn' ih5 (fun hs => by
            obtain ⟨x, x1, x2⟩ := hs h1 h2
            have := (List.mem_filter (p := fun x => decide (r1 ≤ x ∧ x ≤ r2))).mpr ⟨x1, decide_eq_true x2⟩
            rw [eN, h3] at this
            cases this) f15 l15
          clear nx kn' h1 h2 h3 eN g4' f15
          walk_at "run"
          all_goals exact kz
        · have d3 := decide_eq_false h3
          have iv := nx ih5 (fun _ _ => by
            obtain ⟨x, hx⟩ := List.exists_mem_of_ne_nil _ h3
            rw [← eN] at hx
            obtain ⟨x1, x2⟩ := List.mem_filter.mp hx
            exact ⟨x, x1, of_decide_eq_true x2⟩) f15 l15
          clear nx kn' h1 h2 h3 eN g4' f15
          walk_at "run"
          exact Inv.mk ⟨⟨_, _, _, _, rfl⟩, iv⟩
      · have d2 := decide_eq_false h2
        have iv := nx ih4 (fun _ h => absurd h h2) f14 l14
        clear nx kn' h1 h2 eN g4 f14
        walk_at "run"
        exact Inv.mk ⟨⟨_, _, _, _, rfl⟩, iv⟩
    · have d1 := decide_eq_false h1
      have iv := nx ih4 (fun h _ => absurd h h1) f14 l14
      clear nx kn' h1 eN g4 f14
      walk_at "run"
      exact Inv.mk ⟨⟨_, _, _, _, rfl⟩, iv⟩
  · obtain ⟨⟨b6, b7, b8, b9, ee⟩, hs, fx, lx⟩ := hP
    subst ee
    have e1 : W.take (MO.lst xs).xs.length = W := by rw [xs_lst, pr.len, List.take_length]
    rw [e1] at hs
    exact kr _ _ _ _ ih' hs fx lx
theorem w_enough (c : Cs) {q l : Nat} {s b e : Int} {L : List Int} {xs : List IV} {W : List (Int × Int)} {ih : IH} {Q : PQ IV} {E : EQ} (gq : ih[q]? = some (.lst xs)) (pr : PR ih xs W) (gl : ih[l]? = some (.lst (L.map IV.int))) (hL : L.length ≤ 900)
    (k : ∀ v ih', (v = true ↔ Enough s W b e L) → Fx ih ih' → ih.length ≤ ih'.length → Q (.bl v) ih') : wp (m_law_enough c [.int s, .ref q, .int b, .int e, .ref l] ih) Q E := by
  have ql := lt_of_get gq
  have ll := lt_of_get gl
  unfold m_law_enough b_law_enough
  walk_at "run"
  refine wp_lst (by simp) (newN fun u ih1 u1 u2 l1 f1 g1 => ?_)
  have gl1 : ih1[l]? = some (.lst (L.map IV.int)) := by rw [f1 l ll]; exact gl
  have f01 := f1
  clear f1
  walk_at "run"
  refine wp_cat gl1 g1 (by rw [List.length_map]; simp; omega) (newN fun v ih2 v1 v2 l2 f2 g2 => ?_)
  have g2' : ih2[v]? = some (.lst ((L ++ [e]).map IV.int)) := by rw [g2, List.map_append]; rfl
  have f02 := f01.trans f2 (by omega)
  have gq2 : ih2[q]? = some (.lst xs) := by rw [f02 q ql]; exact gq
  have gl2 : ih2[l]? = some (.lst (L.map IV.int)) := by rw [f2 l (by omega)]; exact gl1
  have pr2 := pr.fx f02
  clear f2 f01 g2 gl1 g1 gq gl pr
  have kz := fun v ih' h (f : Fx ih2 ih') (l : ih2.length ≤ ih'.length) => k v ih' h (f02.trans f (by omega)) (by omega)
  clear k f02
  walk_at "run"
  refine w_gaps c g2' (fun hn => ?_) fun a5 a6 hg => ?_
  · have ky := kz false ih2 ⟨(fun h => nomatch h), fun h => absurd h.1 hn⟩ Fx.refl (Nat.le_refl _)
    clear kz g2' gq2 gl2
    walk_at "run"
    all_goals exact ky
  · walk_at "run"
    refine w_serve c gq2 pr2 gl2 (by omega) (fun ih3 hn f3 l3 => ?_) fun c6 c7 c8 c9 ih3 hs f3 l3 => ?_
    · have ky := kz false ih3 ⟨(fun h => nomatch h), fun h => by
        obtain ⟨r, hr, hn⟩ := hn
        exact absurd (fun a1 a2 => h.2 r hr a1 a2) hn⟩ f3 l3
      clear kz g2' gq2 gl2 f3
      walk_at "run"
      all_goals exact ky
    · have ky := kz true ih3 ⟨fun _ => ⟨hg, fun r hr a1 a2 => hs r hr a1 a2⟩, fun _ => rfl⟩ f3 l3
      clear kz g2' gq2 gl2 f3
      walk_at "run"
      all_goals exact ky
end L3
/-! N35: the looks that are needed: of the parts of a list that are enough, the fewest, and of these the latest. -/
namespace L3
open PySem PySem.Spec PyProof.Rows L2
/-- the greedy looks behind x, out of L -/
inductive GrL (s : Int) (W : List (Int × Int)) (e : Int) (L : List Int) : Int → List Int → Prop
  | done {x : Int} : ends W x e = [] → e - x ≤ s → GrL s W e L x []
  | step {x t y : Int} {g : List Int} : ¬ (ends W x e = [] ∧ e - x ≤ s) → t ∈ ends W x e ++ [x + s] → (∀ z ∈ ends W x e ++ [x + s], t ≤ z) → y ∈ L → x < y → y ≤ t → (∀ w ∈ L, w ≤ t → w ≤ y) → GrL s W e L y g → GrL s W e L x (y :: g)
section
variable {s e : Int} {W : List (Int × Int)} {L : List Int}
theorem GrL.inc {x : Int} {g : List Int} (h : GrL s W e L x g) : (x :: g).Pairwise (· < ·) ∧ ∀ y ∈ g, y ∈ L := by
  induction h with
  | done _ _ => exact ⟨List.pairwise_singleton _ _, fun y hy => nomatch hy⟩
  | @step x t y g h1 h2 h3 h4 h5 h6 h7 _ ih =>
    refine ⟨List.pairwise_cons.mpr ⟨fun z hz => ?_, ih.1⟩, fun z hz => ?_⟩
    · rcases List.mem_cons.mp hz with hz | hz
      · omega
      · have := (List.pairwise_cons.mp ih.1).1 z hz
        omega
    · rcases List.mem_cons.mp hz with hz | hz
      · rw [hz]; exact h4
      · exact ih.2 z hz
theorem GrL.served {x : Int} {g : List Int} (h : GrL s W e L x g) : ∀ r ∈ W, x < r.1 → r.2 < e → ∃ y ∈ g, r.1 ≤ y ∧ y ≤ r.2 := by
  induction h with
  | done h1 _ =>
    intro r hr a1 a2
    have := ends_mem.mpr ⟨r, hr, a1, a2, rfl⟩
    rw [h1] at this
    cases this
  | @step x t y g h1 h2 h3 h4 h5 h6 h7 _ ih =>
    intro r hr a1 a2
    have hy := h3 r.2 (List.mem_append_left _ (ends_mem.mpr ⟨r, hr, a1, a2, rfl⟩))
    by_cases hc : r.1 ≤ y
    · exact ⟨y, List.mem_cons_self, hc, by omega⟩
    · obtain ⟨z, z1, z2⟩ := ih r hr (by omega) a2
      exact ⟨z, List.mem_cons_of_mem _ z1, z2⟩
theorem GrL.gaps {x : Int} {g : List Int} (h : GrL s W e L x g) : GapsOk s x (g ++ [e]) := by
  induction h with
  | done _ h2 => exact ⟨h2, trivial⟩
  | step h1 h2 h3 h4 h5 h6 h7 _ ih =>
    have := h3 _ (List.mem_append_right _ (List.mem_singleton.mpr rfl))
    exact ⟨by omega, ih⟩
theorem GrL.enough {x : Int} {g : List Int} (h : GrL s W e L x g) : Enough s W x e g := by
  refine ⟨h.gaps, fun r hr a1 a2 => ?_⟩
  by_cases hc : r.1 ≤ x
  · exact ⟨x, List.mem_cons_self, hc, a1⟩
  · obtain ⟨y, y1, y2⟩ := h.served r hr (by omega) a2
    exact ⟨y, List.mem_cons_of_mem _ y1, y2⟩
theorem GrL.best {x : Int} {g : List Int} (h : GrL s W e L x g) : ∀ (b : Int) (M : List Int), b ≤ x → M.Pairwise (· < ·) → (∀ w ∈ M, w ∈ L) → GapsOk s b (M ++ [e]) → (∀ r ∈ W, x < r.1 → r.2 < e → ∃ w ∈ M, r.1 ≤ w ∧ w ≤ r.2) → Ahead g M := by
  induction h with
  | done _ _ => intros; trivial
  | @step x t y g h1 h2 h3 h4 h5 h6 h7 _ ih =>
    intro b M hb hp hm hg hs
    cases M with
    | nil =>
      exfalso
      have hg1 : e - b ≤ s := hg.1
      have he : ends W x e ≠ [] := fun he => h1 ⟨he, by omega⟩
      obtain ⟨z, hz⟩ := List.exists_mem_of_ne_nil _ he
      obtain ⟨r, r1, r2, r3, _⟩ := ends_mem.mp hz
      obtain ⟨w, hw, _⟩ := hs r r1 r2 r3
      cases hw
    | cons z M =>
      have hz : z - b ≤ s := hg.1
      have hzt : z ≤ t := by
        rcases List.mem_append.mp h2 with hy | hy
        · obtain ⟨r, r1, r2, r3, rfl⟩ := ends_mem.mp hy
          obtain ⟨w, hw, w1, w2⟩ := hs r r1 r2 r3
          rcases List.mem_cons.mp hw with hw | hw
          · omega
          · have := (List.pairwise_cons.mp hp).1 w hw
            omega
        · rw [List.mem_singleton] at hy
          omega
      have hzy := h7 z (hm z List.mem_cons_self) hzt
      refine ⟨hzy, ih z M hzy (List.pairwise_cons.mp hp).2 (fun w hw => hm w (List.mem_cons_of_mem _ hw)) hg.2 fun r r1 r2 r3 => ?_⟩
      obtain ⟨w, hw, w1, w2⟩ := hs r r1 (by omega) r3
      rcases List.mem_cons.mp hw with hw | hw
      · omega
      · exact ⟨w, hw, w1, w2⟩
/-- all cycles, or the greedy ones alone, are as good -/
theorem Gr.toL (s1 : 1 ≤ s) (hW : Win W) {x : Int} {g : List Int} (h : Gr s W e x g) (hL : ∀ y ∈ g, y ∈ L) : GrL s W e L x g := by
  induction h with
  | done h1 h2 => exact .done h1 h2
  | step h1 h2 h3 _ ih => exact .step h1 h2 h3 (hL _ List.mem_cons_self) (step_in s1 hW h1 h2 h3).1 (Int.le_refl _) (fun w _ h => h) (ih fun y hy => hL y (List.mem_cons_of_mem _ hy))
theorem gap_next : ∀ {L : List Int} {b x : Int}, GapsOk s b (L ++ [e]) → (b :: L).Pairwise (· < ·) → x ∈ b :: L → (∃ w ∈ L, x < w ∧ w ≤ x + s) ∨ ((∀ w ∈ L, w ≤ x) ∧ e ≤ x + s)
  | [], b, x, h, _, hx => by
    have h1 : e - b ≤ s := h.1
    rw [List.mem_singleton] at hx
    exact .inr ⟨(fun w hw => nomatch hw), by omega⟩
  | a :: L, b, x, h, hp, hx => by
    obtain ⟨p1, p2⟩ := List.pairwise_cons.mp hp
    have h1 : a - b ≤ s := h.1
    rcases List.mem_cons.mp hx with hx | hx
    · exact .inl ⟨a, List.mem_cons_self, by have := p1 a List.mem_cons_self; omega, by omega⟩
    · rcases gap_next h.2 p2 hx with ⟨w, w1, w2⟩ | ⟨k1, k2⟩
      · exact .inl ⟨w, List.mem_cons_of_mem _ w1, w2⟩
      · refine .inr ⟨fun w hw => ?_, k2⟩
        rcases List.mem_cons.mp hw with hw | hw
        · rcases List.mem_cons.mp hx with hx | hx
          · omega
          · have := (List.pairwise_cons.mp p2).1 x hx
            omega
        · exact k1 w hw
theorem next_in {b x t : Int} (hE : Enough s W b e L) (hp : (b :: L).Pairwise (· < ·)) (hW : Win W) (hx : x ∈ b :: L) (h1 : ¬ (ends W x e = [] ∧ e - x ≤ s)) (h2 : t ∈ ends W x e ++ [x + s]) (h3 : ∀ z ∈ ends W x e ++ [x + s], t ≤ z) : ∃ w ∈ L, x < w ∧ w ≤ t := by
  have bx : b ≤ x := by
    rcases List.mem_cons.mp hx with hx | hx
    · omega
    · have := (List.pairwise_cons.mp hp).1 x hx
      omega
  have sv : ∀ r ∈ W, x < r.1 → r.2 < e → ∃ w ∈ L, r.1 ≤ w ∧ w ≤ r.2 := fun r hr a1 a2 => by
    have := (hW r hr).2
    obtain ⟨w, hw, w1, w2⟩ := hE.2 r hr (by omega) a2
    rcases List.mem_cons.mp hw with hw | hw
    · omega
    · exact ⟨w, hw, w1, w2⟩
  rcases List.mem_append.mp h2 with ht | ht
  · obtain ⟨r, r1, r2, r3, rfl⟩ := ends_mem.mp ht
    obtain ⟨w, w1, w2, w3⟩ := sv r r1 r2 r3
    exact ⟨w, w1, by omega, w3⟩
  · rw [List.mem_singleton] at ht
    rcases gap_next hE.1 hp hx with ⟨w, w1, w2, w3⟩ | ⟨k1, k2⟩
    · exact ⟨w, w1, w2, by omega⟩
    · exfalso
      have he : ends W x e ≠ [] := fun he => h1 ⟨he, by omega⟩
      obtain ⟨z, hz⟩ := List.exists_mem_of_ne_nil _ he
      obtain ⟨r, r1, r2, r3, _⟩ := ends_mem.mp hz
      obtain ⟨w, w1, w2, w3⟩ := sv r r1 r2 r3
      have := k1 w w1
      omega
/-! ### more looks are no less enough -/
theorem gaps_sup {M L : List Int} (h : M.Sublist L) : ∀ {b : Int}, (b :: L).Pairwise (· < ·) → (∀ y ∈ L, y < e) → GapsOk s b (M ++ [e]) → GapsOk s b (L ++ [e]) := by
  induction h with
  | slnil => intro b _ _ h; exact h
  | @cons M L a hs ih =>
    intro b hp he hg
    obtain ⟨p1, p2⟩ := List.pairwise_cons.mp hp
    have ab := p1 a List.mem_cons_self
    have k : a - b ≤ s ∧ GapsOk s a (M ++ [e]) := by
      cases M with
      | nil =>
        have h1 : e - b ≤ s := hg.1
        have := he a List.mem_cons_self
        exact ⟨by omega, ⟨by omega, trivial⟩⟩
      | cons y M =>
        have h1 : y - b ≤ s := hg.1
        have := (List.pairwise_cons.mp p2).1 y (hs.subset List.mem_cons_self)
        exact ⟨by omega, ⟨by omega, hg.2⟩⟩
    exact ⟨k.1, ih p2 (fun y hy => he y (List.mem_cons_of_mem _ hy)) k.2⟩
  | @cons_cons M L a hs ih =>
    intro b hp he hg
    exact ⟨hg.1, ih (List.pairwise_cons.mp hp).2 (fun y hy => he y (List.mem_cons_of_mem _ hy)) hg.2⟩
theorem Enough.sup {M L : List Int} {b : Int} (hs : M.Sublist L) (hp : (b :: L).Pairwise (· < ·)) (he : ∀ y ∈ L, y < e) (h : Enough s W b e M) : Enough s W b e L :=
  ⟨gaps_sup hs hp he h.1, fun r hr a1 a2 => by
    obtain ⟨x, x1, x2⟩ := h.2 r hr a1 a2
    refine ⟨x, ?_, x2⟩
    rcases List.mem_cons.mp x1 with hx | hx
    · rw [hx]; exact List.mem_cons_self
    · exact List.mem_cons_of_mem _ (hs.subset hx)⟩
end
/-! ### parts of a list, by the digits of a number -/
def pick (L : List Int) (n : Nat) : List Int := ((List.range L.length).filter (bit n)).map fun i => L.getD i 0
theorem range_get (L : List Int) : (List.range L.length).map (fun i => L.getD i 0) = L := by
  apply List.ext_getElem
  · simp
  · intro i h1 h2
    simp [List.getD_eq_getElem?_getD, h2]
theorem pick_sub (L : List Int) (n : Nat) : (pick L n).Sublist L := by
  have h : (pick L n).Sublist ((List.range L.length).map fun i => L.getD i 0) := List.Sublist.map _ List.filter_sublist
  rw [range_get] at h
  exact h
theorem pick_of {L M : List Int} (hL : L.Pairwise (· < ·)) (hM : M.Pairwise (· < ·)) (hs : ∀ w ∈ M, w ∈ L) : ∃ n, n < 2 ^ L.length ∧ pick L n = M := by
  obtain ⟨n, h1, h2⟩ := bits_of (fun i => decide (L.getD i 0 ∈ M)) L.length
  refine ⟨n, h1, inc_ext (hL.sublist (pick_sub L n)) hM fun a => ?_⟩
  unfold pick
  rw [List.mem_map]
  constructor
  · rintro ⟨i, hi, rfl⟩
    obtain ⟨h3, h4⟩ := List.mem_filter.mp hi
    rw [h2 i (List.mem_range.mp h3)] at h4
    exact of_decide_eq_true h4
  · intro ha
    obtain ⟨i, hi, e⟩ := List.getElem_of_mem (hs a ha)
    have eg : L.getD i 0 = a := by rw [List.getD_eq_getElem?_getD, List.getElem?_eq_getElem hi, ← e]; rfl
    refine ⟨i, List.mem_filter.mpr ⟨List.mem_range.mpr hi, ?_⟩, eg⟩
    rw [h2 i hi]
    exact decide_eq_true (by rw [eg]; exact ha)
/-- what has been found among the numbers below n -/
def Bs (E : List Int → Prop) (c : Nat → List Int) (n : Nat) : Option (List Int) → Prop
  | none => ∀ i, i < n → ¬ E (c i)
  | some B => (∃ i, i < n ∧ B = c i) ∧ E B ∧ ∀ i, i < n → E (c i) → B.length < (c i).length ∨ (B.length = (c i).length ∧ ilt B (c i) = false)
section
variable {E : List Int → Prop} {c : Nat → List Int} {n : Nat} {o : Option (List Int)} {B : List Int}
theorem ilt_irr' : ∀ l : List Int, ilt l l = false
  | [] => rfl
  | x :: l => by
    unfold ilt
    rw [if_pos rfl]
    exact ilt_irr' l
theorem lt_succ' {i n : Nat} (h : i < n + 1) : i < n ∨ i = n := by omega
theorem Bs.skipN (h : Bs E c n o) (hn : ¬ E (c n)) : Bs E c (n + 1) o := by
  cases o with
  | none =>
    intro i hi
    rcases lt_succ' hi with hi | hi
    · exact h i hi
    · rw [hi]; exact hn
  | some B =>
    obtain ⟨⟨j, j1, j2⟩, h2, h3⟩ := h
    refine ⟨⟨j, by omega, j2⟩, h2, fun i hi he => ?_⟩
    rcases lt_succ' hi with hi | hi
    · exact h3 i hi he
    · rw [hi] at he; exact absurd he hn
theorem Bs.skip (h : Bs E c n (some B)) (hn : B.length < (c n).length ∨ (B.length = (c n).length ∧ ilt B (c n) = false)) : Bs E c (n + 1) (some B) := by
  obtain ⟨⟨j, j1, j2⟩, h2, h3⟩ := h
  refine ⟨⟨j, by omega, j2⟩, h2, fun i hi he => ?_⟩
  rcases lt_succ' hi with hi | hi
  · exact h3 i hi he
  · rw [hi]; exact hn
theorem Bs.take0 (h : Bs E c n none) (hn : E (c n)) : Bs E c (n + 1) (some (c n)) := by
  refine ⟨⟨n, by omega, rfl⟩, hn, fun i hi he => ?_⟩
  rcases lt_succ' hi with hi | hi
  · exact absurd he (h i hi)
  · rw [hi]; exact .inr ⟨rfl, ilt_irr' _⟩
theorem Bs.take (h : Bs E c n (some B)) (hn : E (c n)) (hl : (c n).length < B.length ∨ ((c n).length = B.length ∧ ilt B (c n) = true)) : Bs E c (n + 1) (some (c n)) := by
  obtain ⟨_, _, h3⟩ := h
  refine ⟨⟨n, by omega, rfl⟩, hn, fun i hi he => ?_⟩
  rcases lt_succ' hi with hi | hi
  · rcases h3 i hi he with q | ⟨q1, q2⟩
    · rcases hl with l | ⟨l1, l2⟩
      · exact .inl (by omega)
      · exact .inl (by omega)
    · rcases hl with l | ⟨l1, l2⟩
      · exact .inl (by omega)
      · refine .inr ⟨by omega, ?_⟩
        cases hc : ilt (c n) (c i) with
        | false => rfl
        | true => rw [ilt_trans l2 hc] at q2; cases q2
  · rw [hi]; exact .inr ⟨rfl, ilt_irr' _⟩
end
theorem Bs.is {s e b : Int} {W : List (Int × Int)} {L : List Int} {o : Option (List Int)} {g : List Int} (hL : L.Pairwise (· < ·)) (h : Bs (Enough s W b e) (pick L) (2 ^ L.length) o) (hW : Win W) (hg : GrL s W e L b g) : o = some g := by
  obtain ⟨g1, g2⟩ := hg.inc
  obtain ⟨n, n1, n2⟩ := pick_of hL (List.pairwise_cons.mp g1).2 g2
  have ge := hg.enough
  cases o with
  | none => exact absurd (by rw [n2]; exact ge) (h n n1)
  | some B =>
    obtain ⟨⟨i, i1, i2⟩, h2, h3⟩ := h
    have h4 := h3 n n1 (by rw [n2]; exact ge)
    rw [n2] at h4
    have ah := hg.best b B (Int.le_refl _) (by rw [i2]; exact hL.sublist (pick_sub L i)) (fun w hw => (pick_sub L i).subset (by rw [← i2]; exact hw)) h2.1 fun r hr a1 a2 => by
      obtain ⟨w, w1, w2⟩ := h2.2 r hr (by have := (hW r hr).2; omega) a2
      rcases List.mem_cons.mp w1 with e | e
      · omega
      · exact ⟨w, e, w2⟩
    have hl := ahead_len ah
    rcases h4 with h4 | ⟨h4, h5⟩
    · omega
    · by_cases e : g = B
      · rw [e]
      · rw [ahead_lt ah h4.symm e] at h5
        cases h5
theorem Bs.isN {s e b : Int} {W : List (Int × Int)} {L : List Int} {o : Option (List Int)} (hL : (b :: L).Pairwise (· < ·)) (he : ∀ y ∈ L, y < e) (h : Bs (Enough s W b e) (pick L) (2 ^ L.length) o) (hn : ¬ Enough s W b e L) : o = none := by
  cases o with
  | none => rfl
  | some B =>
    obtain ⟨⟨i, _, i2⟩, h2, _⟩ := h
    rw [i2] at h2
    exact absurd (h2.sup (pick_sub L i) hL he) hn
end L3
/-! N36: certificates: stretches in order, each of which asks for a look. -/
namespace L3
open PySem PySem.Spec PyProof.Rows L2
def Cert (s : Int) (W : List (Int × Int)) (e : Int) : Int → List (Int × Int) → Prop
  | _, [] => True
  | b, r :: l => (b < r.1 ∧ r.1 ≤ r.2 ∧ r.2 < e) ∧ (r ∈ W ∨ r.2 - r.1 + 1 = s) ∧ Cert s W e r.2 l
section
variable {s e b : Int} {W : List (Int × Int)} {g : List Int}
theorem gap_hit : ∀ {g : List Int} {b t : Int}, GapsOk s b (g ++ [e]) → b < t → t + s - 1 < e → ∃ y ∈ g, t ≤ y ∧ y ≤ t + s - 1
  | [], b, t, h, h1, h2 => by
    have h3 : e - b ≤ s := h.1
    omega
  | a :: g, b, t, h, h1, h2 => by
    have h3 : a - b ≤ s := h.1
    by_cases hc : t ≤ a
    · exact ⟨a, List.mem_cons_self, hc, by omega⟩
    · obtain ⟨y, y1, y2⟩ := gap_hit h.2 (show a < t by omega) h2
      exact ⟨y, List.mem_cons_of_mem _ y1, y2⟩
theorem Cert.hit (hE : Enough s W b e g) : ∀ {rows : List (Int × Int)} {x : Int}, Cert s W e x rows → b ≤ x → ∃ M : List Int, M.Pairwise (· < ·) ∧ (∀ y ∈ M, x < y ∧ y ∈ g) ∧ M.length = rows.length
  | [], x, _, _ => ⟨[], List.Pairwise.nil, (fun y hy => nomatch hy), rfl⟩
  | r :: rows, x, h, hb => by
    obtain ⟨⟨h1, h2, h3⟩, h4, h5⟩ := h
    have hy : ∃ y ∈ g, r.1 ≤ y ∧ y ≤ r.2 := by
      rcases h4 with h4 | h4
      · obtain ⟨y, y1, y2, y3⟩ := hE.2 r h4 (by omega) h3
        rcases List.mem_cons.mp y1 with y1 | y1
        · omega
        · exact ⟨y, y1, y2, y3⟩
      · obtain ⟨y, y1, y2, y3⟩ := gap_hit hE.1 (show b < r.1 by omega) (by omega)
        exact ⟨y, y1, y2, by omega⟩
    obtain ⟨y, y1, y2, y3⟩ := hy
    obtain ⟨M, m1, m2, m3⟩ := Cert.hit hE h5 (by omega)
    refine ⟨y :: M, List.pairwise_cons.mpr ⟨fun z hz => ?_, m1⟩, fun z hz => ?_, by rw [List.length_cons, List.length_cons, m3]⟩
    · have := (m2 z hz).1
      omega
    · rcases List.mem_cons.mp hz with hz | hz
      · rw [hz]; exact ⟨by omega, y1⟩
      · have := m2 z hz
        exact ⟨by omega, this.2⟩
theorem Cert.few (hE : Enough s W b e g) (hg : g.Pairwise (· < ·)) {rows : List (Int × Int)} (h : Cert s W e b rows) : rows.length ≤ g.length := by
  obtain ⟨M, m1, m2, m3⟩ := Cert.hit hE h (Int.le_refl _)
  obtain ⟨n, _, hn⟩ := pick_of hg m1 fun y hy => (m2 y hy).2
  have := (pick_sub g n).length_le
  rw [hn] at this
  omega
theorem Cert.stretch : ∀ {rows : List (Int × Int)} {b : Int}, 0 ≤ b → Cert s W e b rows → ∀ r ∈ rows, 0 ≤ r.1 ∧ r.1 ≤ r.2
  | [], _, _, _, r, hr => nomatch hr
  | q :: rows, b, hb, h, r, hr => by
    obtain ⟨⟨h1, h2, h3⟩, h4, h5⟩ := h
    rcases List.mem_cons.mp hr with hr | hr
    · rw [hr]; omega
    · exact Cert.stretch (by omega) h5 r hr
/-- the same, as the program asks it -/
def chainB : List (Int × Int) → Bool
  | [] => true
  | [_] => true
  | a :: b :: l => decide (a.2 < b.1) && chainB (b :: l)
theorem chainB_zip : ∀ l : List (Int × Int), (List.zipWith (fun a b : Int × Int => decide (a.2 < b.1)) l (l.drop 1)).all id = chainB l
  | [] => rfl
  | [_] => rfl
  | a :: b :: l => by
    show (decide (a.2 < b.1) && _) = (decide (a.2 < b.1) && chainB (b :: l))
    rw [← chainB_zip (b :: l)]
    rfl
theorem cert_iff : ∀ {l : List (Int × Int)} {r : Int × Int} {b : Int}, (∀ q ∈ r :: l, q.1 ≤ q.2) →
    (Cert s W e b (r :: l) ↔ b < r.1 ∧ ((r :: l).getLast (List.cons_ne_nil _ _)).2 < e ∧ chainB (r :: l) = true ∧ ∀ q ∈ r :: l, q ∈ W ∨ q.2 - q.1 + 1 = s)
  | [], r, b, hs => by
    have h0 := hs r List.mem_cons_self
    constructor
    · rintro ⟨⟨h1, h2, h3⟩, h4, _⟩
      exact ⟨h1, h3, rfl, fun q hq => by rw [List.mem_singleton] at hq; rw [hq]; exact h4⟩
    · rintro ⟨h1, h2, _, h4⟩
      exact ⟨⟨h1, h0, h2⟩, h4 r List.mem_cons_self, trivial⟩
  | q :: l, r, b, hs => by
    have h0 := hs r List.mem_cons_self
    have ih := cert_iff (l := l) (r := q) (b := r.2) fun z hz => hs z (List.mem_cons_of_mem _ hz)
    have hle : ∀ (l : List (Int × Int)) (q : Int × Int), (∀ z ∈ q :: l, z.1 ≤ z.2) → chainB (q :: l) = true → q.2 ≤ ((q :: l).getLast (List.cons_ne_nil _ _)).2 := by
      intro l
      induction l with
      | nil => intro q _ _; exact Int.le_refl _
      | cons z l ihl =>
        intro q hq hc
        have hc' : (decide (q.2 < z.1) && chainB (z :: l)) = true := hc
        rw [Bool.and_eq_true, decide_eq_true_iff] at hc'
        have := ihl z (fun w hw => hq w (List.mem_cons_of_mem _ hw)) hc'.2
        have := hq z (List.mem_cons_of_mem _ List.mem_cons_self)
        rw [List.getLast_cons (List.cons_ne_nil _ _)]
        omega
    constructor
    · rintro ⟨⟨h1, h2, h3⟩, h4, h5⟩
      obtain ⟨k1, k2, k3, k4⟩ := ih.mp h5
      refine ⟨h1, by rw [List.getLast_cons (List.cons_ne_nil _ _)]; exact k2, ?_, fun z hz => ?_⟩
      · show (decide (r.2 < q.1) && chainB (q :: l)) = true
        rw [decide_eq_true k1, k3]
        rfl
      · rcases List.mem_cons.mp hz with hz | hz
        · rw [hz]; exact h4
        · exact k4 z hz
    · rintro ⟨h1, h2, h3, h4⟩
      have hc : (decide (r.2 < q.1) && chainB (q :: l)) = true := h3
      rw [Bool.and_eq_true, decide_eq_true_iff] at hc
      rw [List.getLast_cons (List.cons_ne_nil _ _)] at h2
      have h5 := hle l q (fun z hz => hs z (List.mem_cons_of_mem _ hz)) hc.2
      have h6 := hs q (List.mem_cons_of_mem _ List.mem_cons_self)
      exact ⟨⟨h1, h0, by omega⟩, h4 r List.mem_cons_self, ih.mpr ⟨hc.1, h2, hc.2, fun z hz => h4 z (List.mem_cons_of_mem _ hz)⟩⟩
/-- why each look of the greedy ones is asked for -/
def cause (s : Int) (W : List (Int × Int)) (x y : Int) : Int × Int := match W.filter fun r => decide (x < r.1) && decide (r.2 = y) with
  | [] => (y - s + 1, y)
  | r :: _ => r
def causes (s : Int) (W : List (Int × Int)) : Int → List Int → List (Int × Int)
  | _, [] => []
  | x, y :: g => cause s W x y :: causes s W y g
theorem Gr.cert (s1 : 1 ≤ s) (hW : Win W) {x : Int} {g : List Int} (h : Gr s W e x g) : Cert s W e x (causes s W x g) := by
  induction h with
  | done _ _ => trivial
  | @step x y g h1 h2 h3 _ ih =>
    obtain ⟨k1, k2⟩ := step_in s1 hW h1 h2 h3
    have hc : (cause s W x y).2 = y ∧ x < (cause s W x y).1 ∧ (cause s W x y).1 ≤ y ∧ (cause s W x y ∈ W ∨ (cause s W x y).2 - (cause s W x y).1 + 1 = s) := by
      unfold cause
      cases hf : W.filter fun r => decide (x < r.1) && decide (r.2 = y) with
      | nil =>
        dsimp only
        have hy : y = x + s := by
          rcases List.mem_append.mp h2 with hy | hy
          · exfalso
            obtain ⟨r, r1, r2, r3, r4⟩ := ends_mem.mp hy
            have : r ∈ W.filter fun r => decide (x < r.1) && decide (r.2 = y) := List.mem_filter.mpr ⟨r1, by rw [decide_eq_true r2, decide_eq_true r4]; rfl⟩
            rw [hf] at this
            cases this
          · rw [List.mem_singleton] at hy
            exact hy
        exact ⟨rfl, by omega, by omega, .inr (by omega)⟩
      | cons r l =>
        dsimp only
        have hr := List.mem_filter.mp (show r ∈ W.filter fun r => decide (x < r.1) && decide (r.2 = y) by rw [hf]; exact List.mem_cons_self)
        rw [Bool.and_eq_true, decide_eq_true_iff, decide_eq_true_iff] at hr
        have := (hW r hr.1).2
        exact ⟨hr.2.2, hr.2.1, by omega, .inl hr.1⟩
    obtain ⟨c1, c2, c3, c4⟩ := hc
    refine ⟨⟨c2, by omega, by omega⟩, c4, ?_⟩
    rw [c1]
    exact ih
end
end L3
/-! L10: more comprehensions. -/
namespace L3
open PySem PySem.Spec PyProof.Rows L2
/-- [me for a, b in rows], the element allocates -/
theorem lc_rowsB {Q : PQ IV} {E : EQ} {env : Env} {ih : IH} {vs : List Nat} {i j n : Nat} {me : Env → IH → Res IV} {xs : List IV} {rs : List (Int × Int)} (F : Int × Int → IV) (ho : ih[n]? = some (.lst xs)) (pr : PR ih xs rs) (hz : rs.length < 100000)
    (he : ∀ r ∈ rs, ∀ ih', Fx ih ih' → ih.length ≤ ih'.length → wp (me (((wipeI env vs).set i (some (.int r.1))).set j (some (.int r.2))) ih') (fun v ih'' => v = F r ∧ Fx ih' ih'' ∧ ih'.length ≤ ih''.length) E0)
    (q : ∀ ih', Fx ih ih' → ih.length < ih'.length → ih'[ih.length]? = some (.lst (rs.map F)) → Q (.ref ih.length) ih') : k_lc vs (g_tup 2 (g_cons (g_nm i) (g_cons (g_nm j) g_nil))) n_yes me env Q E (.lst n) ih := by
  have hs : (Src.lst n).size ih = xs.length := by
    unfold Src.size
    dsimp only
    rw [ho]
    rfl
  refine lc_gen xs.length (fun k acc ih' => acc = (rs.take k).map F ∧ Fx ih ih' ∧ ih.length < ih'.length) (by rw [hs]; exact Nat.le_refl _) ⟨by simp, Fx.app, by simp⟩ (fun k acc ih' hk ⟨ha, fx, lx⟩ hd => ?_) (fun acc ih' ⟨_, fx, _⟩ _ => ?_) fun acc ih' ⟨ha, fx, lx⟩ hd => ?_
  · have hx : xs[k]? = some xs[k] := List.getElem?_eq_getElem hk
    obtain ⟨t, r, e1, e2, e3⟩ := pr.get hx
    have ho' : ih'[n]? = some (.lst xs) := by rw [fx n (lt_of_get ho)]; exact ho
    have e3' : ih'[t]? = some (.tup [.int r.1, .int r.2]) := by rw [fx t (lt_of_get e3)]; exact e3
    have hr : r ∈ rs := List.mem_of_getElem? e2
    have hkr : k < rs.length := (List.getElem?_eq_some_iff.mp e2).1
    refine ⟨.ref t, _, _, by rw [turn_lst ho' rfl (show (MO.lst xs).xs[k]? = some xs[k] from hx), e1], g_pairR e3', ⟨(fun h => nomatch h), fun _ => wp.imp (he r hr _ fx (by omega)) (fun v ih2 hvi => ?_) fun _ _ h => h⟩⟩
    obtain ⟨hv, f2, l2⟩ := hvi
    subst hv
    refine ⟨by rw [f2 _ lx]; exact hd, ?_, ?_, (fx.trans f2 (by omega)).set (Nat.le_refl _), by rw [List.length_set]; omega⟩
    · rw [ha, List.length_map, List.length_take]
      omega
    · rw [List.take_add_one, e2, ha, List.map_append]
      rfl
  · exact stop_lst (o := .lst xs) (by rw [fx n (lt_of_get ho)]; exact ho) rfl
  · rw [pr.len, List.take_length] at ha
    rw [ha] at hd
    exact q ih' fx lx hd
theorem PR.setA {a : IH} {q : Nat} {l : List IV} {o : MO} {xs : List IV} {rs : List (Int × Int)} (h : PR a xs rs) (g : a[q]? = some (.lst l)) : PR (a.set q o) xs rs := h.mono fun t i j e => by
  rw [g_sne (fun e2 => by rw [e2] at g; rw [g] at e; cases e)]
  exact e
/-- [(a, b) for a, b in rows if test], the test allocates nothing -/
theorem lc_rowsF {Q : PQ IV} {E : EQ} {env : Env} {ih : IH} {vs : List Nat} {i j n : Nat} {mt : Env → IH → Res Bool} {me : Env → IH → Res IV} {xs : List IV} {rs : List (Int × Int)} (T : Int × Int → Bool) (ho : ih[n]? = some (.lst xs)) (pr : PR ih xs rs) (hz : rs.length < 100000)
    (ht : ∀ r ∈ rs, ∀ ih', Fx ih ih' → wp (mt (((wipeI env vs).set i (some (.int r.1))).set j (some (.int r.2))) ih') (fun v ih'' => v = T r ∧ ih'' = ih') E0)
    (he : ∀ r ∈ rs, T r = true → ∀ ih', Fx ih ih' → wp (me (((wipeI env vs).set i (some (.int r.1))).set j (some (.int r.2))) ih') (fun v ih'' => (∃ t, v = .ref t ∧ ih''[t]? = some (.tup [.int r.1, .int r.2])) ∧ Fx ih' ih'' ∧ ih'.length ≤ ih''.length) E0)
    (q : ∀ ih' ys, Fx ih ih' → ih.length < ih'.length → ih'[ih.length]? = some (.lst ys) → PR ih' ys (rs.filter T) → Q (.ref ih.length) ih') : k_lc vs (g_tup 2 (g_cons (g_nm i) (g_cons (g_nm j) g_nil))) mt me env Q E (.lst n) ih := by
  have hs : (Src.lst n).size ih = xs.length := by
    unfold Src.size
    dsimp only
    rw [ho]
    rfl
  refine lc_gen xs.length (fun k acc ih' => PR ih' acc ((rs.take k).filter T) ∧ Fx ih ih' ∧ ih.length < ih'.length) (by rw [hs]; exact Nat.le_refl _) ⟨by simp [PR], Fx.app, by simp⟩ (fun k acc ih' hk ⟨pa, fx, lx⟩ hd => ?_) (fun acc ih' ⟨_, fx, _⟩ _ => ?_) fun acc ih' ⟨pa, fx, lx⟩ hd => ?_
  · have hx : xs[k]? = some xs[k] := List.getElem?_eq_getElem hk
    obtain ⟨t, r, e1, e2, e3⟩ := pr.get hx
    have ho' : ih'[n]? = some (.lst xs) := by rw [fx n (lt_of_get ho)]; exact ho
    have e3' : ih'[t]? = some (.tup [.int r.1, .int r.2]) := by rw [fx t (lt_of_get e3)]; exact e3
    have hr : r ∈ rs := List.mem_of_getElem? e2
    have hkr : k < rs.length := (List.getElem?_eq_some_iff.mp e2).1
    have et : rs.take (k + 1) = rs.take k ++ [r] := by rw [List.take_add_one, e2]; rfl
    refine ⟨.ref t, _, _, by rw [turn_lst ho' rfl (show (MO.lst xs).xs[k]? = some xs[k] from hx), e1], g_pairR e3', wp.imp (ht r hr _ fx) (fun v ih2 hv => ?_) fun _ _ h => h⟩
    obtain ⟨hv, hi⟩ := hv
    subst hi
    refine ⟨fun hb => ⟨hd, ?_, fx, lx⟩, fun hb => wp.imp (he r hr (by rw [← hv]; exact hb) _ fx) (fun y ih3 hy => ?_) fun _ _ h => h⟩
    · rw [et, List.filter_append, List.filter_cons, ← hv, hb]
      simpa using pa
    · obtain ⟨⟨u, rfl, gu⟩, f3, l3⟩ := hy
      have hd3 : ih3[ih.length]? = some (.lst acc) := by rw [f3 _ lx]; exact hd
      have pl := pa.len
      refine ⟨hd3, ?_, ?_, (fx.trans f3 (by omega)).set (Nat.le_refl _), by rw [List.length_set]; omega⟩
      · rw [pl]
        exact Nat.lt_of_le_of_lt (List.length_filter_le _ _) (by rw [List.length_take]; omega)
      · rw [et, List.filter_append, List.filter_cons, ← hv, hb]
        refine ((pa.fx f3).setA hd3).app ?_
        rw [g_sne (fun e => by rw [e] at hd3; rw [hd3] at gu; cases gu)]
        exact gu
  · exact stop_lst (o := .lst xs) (by rw [fx n (lt_of_get ho)]; exact ho) rfl
  · rw [pr.len, List.take_length] at pa
    exact q ih' acc fx lx hd pa
/-- [F x y for x, y in zip(xs, ys)], ints -/
theorem lc_zipB {Q : PQ IV} {E : EQ} {env : Env} {ih : IH} {vs : List Nat} {i j n m : Nat} {me : Env → IH → Res IV} (A B : List Int) (F : Int → Int → Bool) (ho : ih[n]? = some (.lst (A.map IV.int))) (hu : ih[m]? = some (.lst (B.map IV.int))) (hz : A.length < 100000)
    (he : ∀ (x y : Int) ih', Fx ih ih' → wp (me (((wipeI env vs).set i (some (.int x))).set j (some (.int y))) ih') (fun v ih'' => v = .bl (F x y) ∧ ih'' = ih') E0)
    (q : ∀ ih', Fx ih ih' → ih.length < ih'.length → ih'[ih.length]? = some (.lst ((List.zipWith F A B).map IV.bl)) → Q (.ref ih.length) ih') : k_lc vs (g_tup 2 (g_cons (g_nm i) (g_cons (g_nm j) g_nil))) n_yes me env Q E (.zip n m) ih := by
  refine lc_zipW (o := .lst (A.map IV.int)) (u := .lst (B.map IV.int)) (fun x y => match x, y with | .int a, .int b => .bl (F a b) | _, _ => .non) ho rfl hu rfl (by rw [xs_lst, List.length_map]; exact hz) (fun k x y hx hy ih' f => ?_) fun ih' f l g => q ih' f l ?_
  · rw [xs_lst, List.getElem?_map] at hx hy
    obtain ⟨a, _, ea⟩ := Option.map_eq_some_iff.mp hx
    obtain ⟨b, _, eb⟩ := Option.map_eq_some_iff.mp hy
    subst ea eb
    exact he a b ih' f
  · rw [g, xs_lst, xs_lst, List.zipWith_map, List.map_zipWith]
end L3
/-! L11: chains of three and `in`, backwards; rows. -/
namespace L3
open PySem PySem.Spec PyProof.Rows L2
section
variable {ma mb mc md : Env → IH → Res IV} {env : Env} {ih : IH} {Q : PQ IV} {E : EQ} {f g h : IV → IV → IH → Res IV} {x y : IV}
def k_d3 (g h : IV → IV → IH → Res IV) (y : IV) (mc md : Env → IH → Res IV) (env : Env) (Q : PQ IV) (E : EQ) : PQ Bool := fun k ih => if k = true then wp (mc env ih) (k_ch2 g h y md env Q E) E else Q (.bl false) ih
def k_d2 (f g h : IV → IV → IH → Res IV) (x : IV) (mc md : Env → IH → Res IV) (env : Env) (Q : PQ IV) (E : EQ) : PQ IV := fun y ih => wp (f x y ih) (k_tb (k_d3 g h y mc md env Q E)) E
def k_d1 (f g h : IV → IV → IH → Res IV) (mb mc md : Env → IH → Res IV) (env : Env) (Q : PQ IV) (E : EQ) : PQ IV := fun x ih => wp (mb env ih) (k_d2 f g h x mc md env Q E) E
theorem wp_chain3 : wp (m_chain3 f g h ma mb mc md env ih) Q E = wp (ma env ih) (k_d1 f g h mb mc md env Q E) E := by
  unfold m_chain3
  rw [wp_bind]
  congr 1
  funext x ih
  rw [wp_bind]
  unfold k_d1
  congr 1
  funext y ih
  rw [wp_bind]
  unfold k_d2
  congr 1
  funext z ih
  cases z with
  | bl k =>
    cases k with
    | true =>
      show wp (if true = true then (mc env ih).bind _ else _) Q E = _
      rw [if_pos rfl, wp_bind]
      show _ = wp (mc env ih) (k_ch2 g h y md env Q E) E
      congr 1
      funext u ih
      rw [wp_bind]
      unfold k_ch2
      congr 1
      funext z ih
      cases z with
      | bl k =>
        cases k with
        | true =>
          show wp (if true = true then (md env ih).bind _ else _) Q E = _
          rw [if_pos rfl, wp_bind]
          rfl
        | false => rfl
      | _ => rfl
    | false => rfl
  | _ => rfl
theorem kk_d1 : k_d1 f g h mb mc md env Q E x ih = wp (mb env ih) (k_d2 f g h x mc md env Q E) E := rfl
theorem kk_d2 : k_d2 f g h x mc md env Q E y ih = wp (f x y ih) (k_tb (k_d3 g h y mc md env Q E)) E := rfl
theorem kk_d31 : k_d3 g h y mc md env Q E true ih = wp (mc env ih) (k_ch2 g h y md env Q E) E := rfl
theorem kk_d30 : k_d3 g h y mc md env Q E false ih = Q (.bl false) ih := rfl
end
/-! ### rows -/
theorem eqv_prD (a b : Int × Int) : PyData.eqv (prD a) (prD b) = decide (a = b) := by
  unfold prD
  rw [Bool.eq_iff_iff, decide_eq_true_iff]
  simp [PyData.eqv, PyData.eqvAll, Prod.ext_iff]
theorem any_prD (W : List (Int × Int)) (r : Int × Int) : ((W.map prD).any fun z => PyData.eqv z (prD r)) = decide (r ∈ W) := by
  rw [Bool.eq_iff_iff, decide_eq_true_iff, List.any_eq_true]
  constructor
  · rintro ⟨z, hz, h⟩
    obtain ⟨q, hq, rfl⟩ := List.mem_map.mp hz
    rw [eqv_prD, decide_eq_true_iff] at h
    rw [← h]
    exact hq
  · intro h
    exact ⟨prD r, List.mem_map.mpr ⟨r, h, rfl⟩, by rw [eqv_prD, decide_eq_true_iff]⟩
theorem eqv_prs0 (W : List (Int × Int)) : PyData.eqv (.list (W.map prD)) (.list []) = decide (W = []) := by
  cases W with
  | nil => simp [PyData.eqv, PyData.eqvAll]
  | cons r W => simp [PyData.eqv, PyData.eqvAll]
theorem shaped_rows (rs : List (Int × Int)) : SeqAt.shaped (.list (rs.map prD)) = true := by
  have := depth_prs rs
  unfold SeqAt.shaped
  rw [Bool.and_eq_true]
  exact ⟨by simp [PyData.canLay0, canLay_prs], decide_eq_true (by simp only [PyData.depth]; omega)⟩
theorem shaped_row (r : Int × Int) : SeqAt.shaped (prD r) = true := by
  unfold SeqAt.shaped prD
  rw [Bool.and_eq_true]
  exact ⟨by simp [PyData.canLay0, PyData.canLayAll0], decide_eq_true (by simp [PyData.depth, PyData.depthAll])⟩
section
variable {Q : PQ IV} {E : EQ} {ih : IH} {t q : Nat} {i j : Int} {xs : List IV} {W : List (Int × Int)}
theorem Is.row (gt : ih[t]? = some (.tup [.int i, .int j])) : Is ih (.ref t) (prD (i, j)) := .tup gt rfl (.cons (.int i) (.cons (.int j) .nil))
theorem wp_inP (gt : ih[t]? = some (.tup [.int i, .int j])) (gq : ih[q]? = some (.lst xs)) (pr : PR ih xs W) (k : Q (.bl (decide ((i, j) ∈ W))) ih) : wp (f_in (.ref t) (.ref q) ih) Q E := by
  have e := f_inn_of (neg := false) (Is.row gt) (.lst gq rfl pr.is) (shaped_row _) (shaped_rows W)
  rw [any_prD] at e
  exact wp.of e k
theorem wp_ninP (gt : ih[t]? = some (.tup [.int i, .int j])) (gq : ih[q]? = some (.lst xs)) (pr : PR ih xs W) (k : Q (.bl (!decide ((i, j) ∈ W))) ih) : wp (f_nin (.ref t) (.ref q) ih) Q E := by
  have e := f_inn_of (neg := true) (Is.row gt) (.lst gq rfl pr.is) (shaped_row _) (shaped_rows W)
  rw [any_prD] at e
  exact wp.of e k
end
theorem PR.kI {ih : IH} : ∀ {xs : List IV} {rs : List (Int × Int)}, PR ih xs rs → xs.map (kI ih) = rs
  | [], [], _ => rfl
  | .ref t :: xs, r :: rs, h => by
    rw [List.map_cons, PR.kI h.2]
    congr 1
    unfold L3.kI
    dsimp only
    rw [h.1]
theorem kI_of {ih : IH} {t : Nat} {i j : Int} (h : ih[t]? = some (.tup [.int i, .int j])) : kI ih (.ref t) = (i, j) := by
  unfold kI
  dsimp only
  rw [h]
/-- [part for part in (x, y) if test], nothing allocated -/
theorem lc_tup2 {Q : PQ IV} {E : EQ} {env : Env} {ih : IH} {vs : List Nat} {i n : Nat} {mt : Env → IH → Res Bool} {me : Env → IH → Res IV} {x y : IV} (T : IV → Bool) (ho : ih[n]? = some (.tup [x, y]))
    (ht : ∀ z, z = x ∨ z = y → ∀ ih', Fx ih ih' → wp (mt ((wipeI env vs).set i (some z)) ih') (fun v ih'' => v = T z ∧ ih'' = ih') E0)
    (he : ∀ z ih', Fx ih ih' → wp (me ((wipeI env vs).set i (some z)) ih') (fun v ih'' => v = z ∧ ih'' = ih') E0)
    (q : Q (.ref ih.length) (ih ++ [.lst ([x, y].filter T)])) : k_lc vs (g_nm i) mt me env Q E (.tup n) ih := by
  have hs : (Src.tup n).size ih = 2 := by
    unfold Src.size
    dsimp only
    rw [ho]
    rfl
  refine lc_gen 2 (fun k acc ih' => acc = (([x, y].take k).filter T) ∧ ih' = ih ++ [.lst acc]) (by rw [hs]; exact Nat.le_refl _) ⟨rfl, rfl⟩ (fun k acc ih' hk ⟨ha, ei⟩ hd => ?_) (fun acc ih' ⟨_, ei⟩ _ => ?_) fun acc ih' ⟨ha, ei⟩ hd => ?_
  · subst ei
    have ho' : (ih ++ [MO.lst acc])[n]? = some (.tup [x, y]) := by rw [g_old (lt_of_get ho)]; exact ho
    have la : lAt (ih ++ [MO.lst acc]) n false = some [x, y] := by
      unfold lAt
      rw [ho']
      rfl
    have hx : [x, y][k]? = some ([x, y][k]) := List.getElem?_eq_getElem hk
    obtain ⟨z, ez⟩ : ∃ z, [x, y][k] = z := ⟨_, rfl⟩
    rw [ez] at hx
    have hz : z = x ∨ z = y := by
      have := List.mem_of_getElem? hx
      simpa using this
    have et : [x, y].take (k + 1) = [x, y].take k ++ [z] := by rw [List.take_add_one, hx]; rfl
    refine ⟨z, _, _, by unfold Src.turn; dsimp only; rw [la]; dsimp only; rw [hx], rfl, wp.imp (ht z hz _ Fx.app) (fun v ih2 hv => ?_) fun _ _ h => h⟩
    obtain ⟨hv, hi⟩ := hv
    subst hi
    refine ⟨fun hb => ⟨hd, ?_, rfl⟩, fun hb => wp.imp (he z _ Fx.app) (fun w ih3 hw => ?_) fun _ _ h => h⟩
    · rw [et, List.filter_append, ha, List.filter_cons, ← hv, hb]
      simp
    · obtain ⟨hw, hi3⟩ := hw
      subst hi3
      refine ⟨hd, ?_, ?_, ?_⟩
      · rw [ha]
        exact Nat.lt_of_le_of_lt (List.length_filter_le _ _) (Nat.lt_of_le_of_lt (List.length_take_le _ _) (by omega))
      · rw [et, List.filter_append, ha, List.filter_cons, ← hv, hb, hw]
        simp
      · rw [set_append_last]
  · subst ei
    have ho' : (ih ++ [MO.lst acc])[n]? = some (.tup [x, y]) := by rw [g_old (lt_of_get ho)]; exact ho
    have la : lAt (ih ++ [MO.lst acc]) n false = some [x, y] := by
      unfold lAt
      rw [ho']
      rfl
    unfold Src.turn
    dsimp only
    rw [la]
    rfl
  · rw [ei, ha]
    exact q
end L3
/-! K35: looks that are looks, looks that are enough. -/
namespace L3
open PySem PySem.Spec PyProof.Rows L2
local macro_rules | `(tactic| walk_at "get") => `(tactic| simp (disch := first | assumption | omega | (simp only [List.length_append, List.length_set, List.length_cons, List.length_nil, List.length_map] <;> omega) | fail) only [g_new, g_nw, g_old, g_set, g_sne, List.length_append, List.length_set, List.length_cons, List.length_nil, List.length_map, List.map_map, Function.comp_def, xs_lst, xs_tup, isL_lst, isL_tup, ↓reduceIte, *])
local macro_rules | `(tactic| walk_at "fr") => `(tactic| first | (intro _ _ _; simp (disch := first | assumption | omega | (simp only [List.length_append, List.length_set, List.length_cons, List.length_nil, List.length_map] <;> omega) | fail) only [g_new, g_nw, g_old, g_set, g_sne, List.length_append, List.length_set, List.length_cons, List.length_nil, List.length_map, List.map_map, Function.comp_def, xs_lst, xs_tup, isL_lst, isL_tup, ↓reduceIte, *]) | (intro _ _; simp (disch := first | assumption | omega | (simp only [List.length_append, List.length_set, List.length_cons, List.length_nil, List.length_map] <;> omega) | fail) only [g_new, g_nw, g_old, g_set, g_sne, List.length_append, List.length_set, List.length_cons, List.length_nil, List.length_map, List.map_map, Function.comp_def, xs_lst, xs_tup, isL_lst, isL_tup, ↓reduceIte, *]))
local macro_rules | `(tactic| walk_at "run") => `(tactic| simp -implicitDefEqProofs (disch := first | assumption | omega | (simp only [List.length_append, List.length_set, List.length_cons, List.length_nil, List.length_map] <;> omega) | fail) only [wp_ok, wp_exc, wp_stuck, ws_ok, ws_exc, ws_stuck, wp_op, kk_op, kk_un, wp_un, wp_cons, kk_cons, kk_cons2, wp_nil, wp_c, wp_app, wp_if, kk_if1, kk_if0, wp_and, kk_and1, kk_and0, wp_or, kk_or1, kk_or0, wp_not, kk_not, wp_tb, kk_tb, wp_andV, kk_andV1, kk_andV0, wp_orV, kk_orV1, kk_orV0, wp_notV, kk_notV, wp_noneS, wp_some, kk_some, wp_sl, kk_sl, kk_sl2, kk_sl3, wp_mL, kk_mL, kk_mL2, wp_mL0, kk_mL0, wp_chain, kk_ch, kk_ch2, kk_ch31, kk_ch30, ws_set, kks_nm, kks_g, kks_tup, kks_lst, ws_expr, kks_expr, ws_ret, kks_ret, ws_retN, ws_pass, ws_brk, ws_cont, ws_raise, ws_if, kks_if1, kks_if0, ws_seq, kks_next, kks_retS, kks_brk, kks_cont, kk_augE, ws_aug, kks_aug, kks_aug2, ws_par, kks_par, ws_setL, kks_sl, kks_sl2, kks_sl3, wp_def, kkd_ret, kkd_next, kkdE, kkE, ws_for, wp_lc, wp_r1, kk_r1, wp_r2, kk_r2, wp_il, wp_it, wp_ie, wp_iz, kk_il, kk_il2, kk_it, kk_it2, kk_ie, kk_ie2, kk_iz, kk_iz2, lAt_k, k_lAtL, k_lAtO, k_lAtT, wp_int, wp_add, wp_addI, wp_sub, wp_neg, wp_lt, wp_le, wp_gt, wp_ge, wp_max2, wp_min2, wp_abs, wp_mulI, wp_mul, wp_fdiv, wp_mod, wp_shl, wp_shr, wp_pow, wp_isN, wp_notN, wp_eqI, wp_neI, wp_ix, kk_ix, kk_ix2, wp_len, kk_lenL, kk_lenT, kk_lenO, kk_lenP, wp_appd, kk_app1, isL_k, kk_isL, startI_cons, startI_nil, rep_succ, rep_zero, List.getElem?_cons_zero, List.getElem?_cons_succ, List.set_cons_zero, List.set_cons_succ, f_call, m_var, List.append_nil, List.nil_append, List.cons_append, List.length_cons, List.length_nil, if_true, if_false, g_tup, g_lst, g_cons, g_nil, g_nm, Option.bind_some, kks_g, atI_0, atI_1, atI_2, atI_3, atI_4, atI_5, atI_6, atI_7, atI_8, atI_9, atI_10, atI_11, atI_12, atI_last, cutI_1, ixN_30, ixN_31, ixN_32, Int.toNat_zero, Int.reduceToNat, Int.reduceNeg, xs_lst, xs_tup, xs_ro, xs_rot, isL_lst, isL_tup, isL_ro, isL_rot, isT_tup, isT_rot, Bool.false_eq_true, Bool.true_eq_false, Bool.not_true, Bool.not_false, decide_true, decide_false, Int.reduceLT, Int.reduceLE, Nat.reduceLT, Nat.reduceLeDiff, Nat.reduceAdd, Nat.reduceEqDiff, Bool.not_eq_true, true_and, and_true, and_self, eq_self, g_new, g_nw, g_old, g_set, g_sne, List.length_set, List.length_append, wp_r3, kk_r3, Int.cast_ofNat_Int, Int.reduceEq, Int.natCast_zero, Int.natCast_one, ws_whileA, wp_isiII, wp_isiIB, wp_isiR, tyO_l, tyO_t, kk_isi, kk_isi2, kit_ll, kit_tt, kit_lt, kit_tl, wp_isiN, wp_isiBl, wp_isiS, tyO_d, kit2_NoneType_int, kit2_NoneType_bool, kit2_NoneType_list, kit2_NoneType_tuple, kit2_NoneType_str, kit2_bool_int, kit2_bool_bool, kit2_bool_list, kit2_bool_tuple, kit2_bool_str, kit2_str_int, kit2_str_bool, kit2_str_list, kit2_str_tuple, kit2_str_str, kit2_dict_int, kit2_dict_bool, kit2_dict_list, kit2_dict_tuple, kit2_dict_str, kit2_list_int, kit2_list_bool, kit2_list_str, kit2_tuple_int, kit2_tuple_bool, kit2_tuple_str, kit2_int_list, kit2_int_tuple, kit2_int_str, kf_next, kf_cont, kf_brk, kf_ret, wipeI, ↓reduceIte, *])
theorem zip_lt : ∀ {L : List Int}, L.Pairwise (· < ·) → (List.zipWith (fun a b => decide (a < b)) L (L.drop 1)).all id = true
  | [], _ => rfl
  | [_], _ => rfl
  | a :: b :: L, h => by
    have h1 := (List.pairwise_cons.mp h).1 b List.mem_cons_self
    have k := zip_lt (List.pairwise_cons.mp h).2
    show (decide (a < b) && _) = true
    rw [decide_eq_true h1, Bool.true_and]
    exact k
theorem zip_gaps {s : Int} : ∀ {M : List Int} {b : Int}, (List.zipWith (fun a b => decide (b - a ≤ s)) (b :: M) M).all id = true ↔ GapsOk s b M
  | [], b => ⟨fun _ => trivial, fun _ => rfl⟩
  | a :: M, b => by
    show (decide (a - b ≤ s) && _) = true ↔ a - b ≤ s ∧ GapsOk s a M
    rw [Bool.and_eq_true, decide_eq_true_iff]
    exact and_congr Iff.rfl zip_gaps
theorem w_islooks (c : Cs) {l : Nat} {b e : Int} {L : List Int} {ih : IH} {Q : PQ IV} {E : EQ} (gl : ih[l]? = some (.lst (L.map IV.int))) (hp : (b :: L).Pairwise (· < ·)) (he : ∀ y ∈ L, y < e) (hl : L.length ≤ 1000)
    (k : ∀ ih', Fx ih ih' → ih.length ≤ ih'.length → Q (.bl true) ih') : wp (m_is_looks c [.ref l, .int b, .int e] ih) Q E := by
  have ll := lt_of_get gl
  unfold m_is_looks b_is_looks
  walk_at "run"
  unfold lc_is_looks_1
  walk_at "run"
  refine lc_intL L (fun _ => .bl true) gl (by omega) (fun x hx ih1 f1 => ?_) (newN fun u ih1 u1 u2 l1 f1 g1 => ?_)
  · have a1 := q_whole c x (b + 1)
    have h1 := (List.pairwise_cons.mp hp).1 x hx
    have d1 : decide (b + 1 ≤ x) = true := decide_eq_true (by omega)
    have d2 : decide (x < e) = true := decide_eq_true (he x hx)
    unfold le_is_looks_1
    clear k
    walk_at "run"
  have g1' : ih1[u]? = some (.lst ((L.map fun _ => true).map IV.bl)) := by rw [g1, List.map_map]; rfl
  have gl1 : ih1[l]? = some (.lst (L.map IV.int)) := by rw [f1 l ll]; exact gl
  walk_at "run"
  refine wp_allL (L.map fun _ => true) g1' ?_
  have al : (L.map fun _ => true).all id = true := by simp
  rw [al]
  have kz := fun ih' (f : Fx ih1 ih') (l : ih1.length ≤ ih'.length) => k ih' (f1.trans f (by omega)) (by omega)
  clear k f1 g1 g1' gl al
  walk_at "run"
  unfold lc_is_looks_2
  walk_at "run"
  refine wp_slL gl1 (newN fun v ih2 v1 v2 l2 f2 g2 => ?_)
  have gl2 : ih2[l]? = some (.lst (L.map IV.int)) := by rw [f2 l (by omega)]; exact gl1
  have g2' : ih2[v]? = some (.lst ((L.drop 1).map IV.int)) := by rw [g2, cutI_1, List.map_drop]
  have ky := fun ih' (f : Fx ih2 ih') (l : ih2.length ≤ ih'.length) => kz ih' (f2.trans f (by omega)) (by omega)
  clear kz f2 g2 gl1
  walk_at "run"
  refine lc_zipB L (L.drop 1) (fun a b => decide (a < b)) gl2 g2' (by omega) (fun x y ih3 f3 => ?_) fun ih3 f3 l3 g3 => ?_
  · unfold le_is_looks_2
    clear ky
    walk_at "run"
  obtain ⟨w, ew⟩ : ∃ w, ih2.length = w := ⟨_, rfl⟩
  have kx := ky ih3 f3 (by omega)
  rw [ew] at g3 ⊢
  clear ky f3 gl2 g2'
  walk_at "run"
  refine wp_allL _ g3 ?_
  rw [zip_lt (List.pairwise_cons.mp hp).2]
  walk_at "run"
  all_goals exact kx
def srvB (b : Int) (L : List Int) (r : Int × Int) : Bool := ((b :: L).map fun x => decide (r.1 ≤ x) && decide (x ≤ r.2)).any id
theorem srvB_iff {b : Int} {L : List Int} {r : Int × Int} : srvB b L r = true ↔ ∃ x ∈ b :: L, r.1 ≤ x ∧ x ≤ r.2 := by
  unfold srvB
  rw [List.any_map, List.any_eq_true]
  constructor
  · rintro ⟨x, hx, h⟩
    rw [Function.comp_apply, id, Bool.and_eq_true, decide_eq_true_iff, decide_eq_true_iff] at h
    exact ⟨x, hx, h⟩
  · rintro ⟨x, hx, h⟩
    exact ⟨x, hx, by rw [Function.comp_apply, id, Bool.and_eq_true, decide_eq_true_iff, decide_eq_true_iff]; exact h⟩
theorem w_suffices (c : Cs) {q l : Nat} {s b e : Int} {L : List Int} {xs : List IV} {W : List (Int × Int)} {ih : IH} {Q : PQ IV} {E : EQ} (gq : ih[q]? = some (.lst xs)) (pr : PR ih xs W) (hl : W.length ≤ 1000) (gl : ih[l]? = some (.lst (L.map IV.int))) (hL : L.length ≤ 1000)
    (k : ∀ v ih', (v = true ↔ Enough s W b e L) → Fx ih ih' → ih.length ≤ ih'.length → Q (.bl v) ih') : wp (m_suffices c [.int s, .ref q, .int b, .int e, .ref l] ih) Q E := by
  have ql := lt_of_get gq
  have ll := lt_of_get gl
  unfold m_suffices b_suffices
  walk_at "run"
  refine wp_lst (by simp) (newN fun u ih1 u1 u2 l1 f1 g1 => ?_)
  have gl1 : ih1[l]? = some (.lst (L.map IV.int)) := by rw [f1 l ll]; exact gl
  have f01 := f1
  clear f1
  walk_at "run"
  refine wp_cat g1 gl1 (by rw [List.length_map]; simp; omega) (newN fun v ih2 v1 v2 l2 f2 g2 => ?_)
  have f02 := f01.trans f2 (by omega)
  clear f2 f01 g1 gl1
  walk_at "run"
  refine wp_lst (by simp) (newN fun u' ih3 u3 u4 l3 f3 g3 => ?_)
  have g2' : ih3[v]? = some (.lst ((b :: L).map IV.int)) := by rw [f3 v v2]; exact g2
  have f03 := f02.trans f3 (by omega)
  clear f3 f02 g2
  walk_at "run"
  refine wp_cat g2' g3 (by rw [List.length_map]; simp; omega) (newN fun w ih4 w1 w2 l4 f4 g4 => ?_)
  have g4' : ih4[w]? = some (.lst ((b :: (L ++ [e])).map IV.int)) := by rw [g4]; simp
  have f04 := f03.trans f4 (by omega)
  clear f4 f03 g2' g3 g4
  walk_at "run"
  unfold lc_suffices_1
  walk_at "run"
  refine wp_slL g4' (newN fun x ih5 x1 x2 l5 f5 g5 => ?_)
  have g5w : ih5[w]? = some (.lst ((b :: (L ++ [e])).map IV.int)) := by rw [f5 w w2]; exact g4'
  have g5' : ih5[x]? = some (.lst ((L ++ [e]).map IV.int)) := by rw [g5, cutI_1]; rfl
  have f05 := f04.trans f5 (by omega)
  clear f5 f04 g4' g5
  walk_at "run"
  refine lc_zipB (b :: (L ++ [e])) (L ++ [e]) (fun a b => decide (b - a ≤ s)) g5w g5' (by simp; omega) (fun x y ih6 f6 => ?_) fun ih6 f6 l6 g6 => ?_
  · unfold le_suffices_1
    clear k
    walk_at "run"
  obtain ⟨y, ey⟩ : ∃ y, ih5.length = y := ⟨_, rfl⟩
  rw [ey] at g6 ⊢
  have f06 := f05.trans f6 (by omega)
  clear f6 f05 g5w g5'
  walk_at "run"
  refine wp_allL _ g6 ?_
  obtain ⟨G, eG⟩ : ∃ G, (List.zipWith (fun a b => decide (b - a ≤ s)) (b :: (L ++ [e])) (L ++ [e])).all id = G := ⟨_, rfl⟩
  have hG : G = true ↔ GapsOk s b (L ++ [e]) := by rw [← eG]; exact zip_gaps
  rw [eG]
  clear eG g6
  cases G with
  | false =>
    have kz := k false ih6 ⟨(fun h => nomatch h), fun h => hG.mpr h.1⟩ f06 (by omega)
    clear k f06 gq gl pr
    walk_at "run"
    all_goals exact kz
  | true =>
    have gaps := hG.mp rfl
    have gq6 : ih6[q]? = some (.lst xs) := by rw [f06 q ql]; exact gq
    have gl6 : ih6[l]? = some (.lst (L.map IV.int)) := by rw [f06 l ll]; exact gl
    have pr6 := pr.fx f06
    have kz := fun v ih' h (f : Fx ih6 ih') (l : ih6.length ≤ ih'.length) => k v ih' h (f06.trans f (by omega)) (by omega)
    clear k f06 gq gl pr hG
    walk_at "run"
    refine wp_lst (by simp) (newN fun u ih7 u5 u6 l7 f7 g7 => ?_)
    have gl7 : ih7[l]? = some (.lst (L.map IV.int)) := by rw [f7 l (by omega)]; exact gl6
    have f67 := f7
    clear f7
    walk_at "run"
    refine wp_cat g7 gl7 (by rw [List.length_map]; simp; omega) (newN fun sv ih8 v5 v6 l8 f8 g8 => ?_)
    have g8' : ih8[sv]? = some (.lst ((b :: L).map IV.int)) := g8
    have f68 := f67.trans f8 (by omega)
    have gq8 : ih8[q]? = some (.lst xs) := by rw [f68 q (by omega)]; exact gq6
    have pr8 := pr6.fx f68
    clear f67 f8 g7 gl7 g8 pr6
    walk_at "run"
    unfold lc_suffices_2
    walk_at "run"
    refine lc_rowsF (fun r => decide (b ≤ r.2) && decide (r.2 < e)) gq8 pr8 (by omega) (fun r hr ih9 f9 => ?_) (fun r hr _ ih9 f9 => ?_) fun ih9 ys f9 l9 g9 pr9 => ?_
    · unfold ln_suffices_1
      clear kz
      by_cases h1 : b ≤ r.2
      · have d1 := decide_eq_true h1
        clear h1
        walk_at "run"
        simp
      · have d1 := decide_eq_false h1
        clear h1
        walk_at "run"
        simp
    · unfold le_suffices_2
      clear kz
      walk_at "run"
      exact wp_tup (by simp) ⟨⟨_, rfl, g_new⟩, Fx.app, by simp⟩
    obtain ⟨d, ed⟩ : ∃ d, ih8.length = d := ⟨_, rfl⟩
    rw [ed] at g9 ⊢
    have g9s : ih9[sv]? = some (.lst ((b :: L).map IV.int)) := by rw [f9 sv v6]; exact g8'
    have f69 := f68.trans f9 (by omega)
    have fl : (W.filter fun r => decide (b ≤ r.2) && decide (r.2 < e)).length ≤ W.length := List.length_filter_le _ _
    clear f9 f68 g8' gq8 pr8
    walk_at "run"
    unfold lc_suffices_4
    walk_at "run"
    refine lc_rowsB (fun r => .bl (srvB b L r)) g9 pr9 (by omega) (fun r hr iha fa la => ?_) fun iha fa la ga => ?_
    · have gas : iha[sv]? = some (.lst ((b :: L).map IV.int)) := by rw [fa sv (by omega)]; exact g9s
      have sl := lt_of_get gas
      unfold le_suffices_4
      clear kz fa g9s
      walk_at "run"
      unfold lc_suffices_3
      walk_at "run"
      refine lc_intL (b :: L) (fun x => .bl (decide (r.1 ≤ x) && decide (x ≤ r.2))) gas (by simp; omega) (fun x hx ihb fb => ?_) (newN fun z ihb z1 z2 lb fb gb => ?_)
      · unfold le_suffices_3
        by_cases h1 : r.1 ≤ x
        · have d1 := decide_eq_true h1
          clear h1
          walk_at "run"
          try simp
        · have d1 := decide_eq_false h1
          clear h1
          walk_at "run"
          try simp
      have gb' : ihb[z]? = some (.lst (((b :: L).map fun x => decide (r.1 ≤ x) && decide (x ≤ r.2)).map IV.bl)) := by rw [gb, List.map_map]; rfl
      clear gas
      walk_at "run"
      refine wp_anyL _ gb' ?_
      exact ⟨rfl, fb, by omega⟩
    obtain ⟨z, ez⟩ : ∃ z, ih9.length = z := ⟨_, rfl⟩
    have hv : (((W.filter fun r => decide (b ≤ r.2) && decide (r.2 < e)).map (srvB b L)).all id = true) ↔ Enough s W b e L := by
      rw [List.all_map, List.all_eq_true]
      constructor
      · intro h
        refine ⟨gaps, fun r hr a1 a2 => srvB_iff.mp (h r (List.mem_filter.mpr ⟨hr, ?_⟩))⟩
        rw [decide_eq_true a1, decide_eq_true a2]
        rfl
      · intro h r hr
        obtain ⟨h1, h2⟩ := List.mem_filter.mp hr
        rw [Bool.and_eq_true, decide_eq_true_iff, decide_eq_true_iff] at h2
        exact srvB_iff.mpr (h.2 r h1 h2.1 h2.2)
    have kx := kz _ iha hv (f69.trans fa (by omega)) (by omega)
    have ga' : iha[z]? = some (.lst (((W.filter fun r => decide (b ≤ r.2) && decide (r.2 < e)).map (srvB b L)).map IV.bl)) := by rw [← ez, ga, List.map_map]; rfl
    rw [ez]
    obtain ⟨V, eV⟩ : ∃ V, (W.filter fun r => decide (b ≤ r.2) && decide (r.2 < e)).map (srvB b L) = V := ⟨_, rfl⟩
    rw [eV] at ga' kx
    clear kz hv fa ga f69 g9s pr9 g9 fl
    walk_at "run"
    refine wp_allL _ ga' ?_
    walk_at "run"
    all_goals exact kx
end L3
/-! K36: is_certificate. -/
namespace L3
open PySem PySem.Spec PyProof.Rows L2
local macro_rules | `(tactic| walk_at "get") => `(tactic| simp (disch := first | assumption | omega | (simp only [List.length_append, List.length_set, List.length_cons, List.length_nil, List.length_map] <;> omega) | fail) only [g_new, g_nw, g_old, g_set, g_sne, List.length_append, List.length_set, List.length_cons, List.length_nil, List.length_map, List.map_map, Function.comp_def, xs_lst, xs_tup, isL_lst, isL_tup, ↓reduceIte, *])
local macro_rules | `(tactic| walk_at "fr") => `(tactic| first | (intro _ _ _; simp (disch := first | assumption | omega | (simp only [List.length_append, List.length_set, List.length_cons, List.length_nil, List.length_map] <;> omega) | fail) only [g_new, g_nw, g_old, g_set, g_sne, List.length_append, List.length_set, List.length_cons, List.length_nil, List.length_map, List.map_map, Function.comp_def, xs_lst, xs_tup, isL_lst, isL_tup, ↓reduceIte, *]) | (intro _ _; simp (disch := first | assumption | omega | (simp only [List.length_append, List.length_set, List.length_cons, List.length_nil, List.length_map] <;> omega) | fail) only [g_new, g_nw, g_old, g_set, g_sne, List.length_append, List.length_set, List.length_cons, List.length_nil, List.length_map, List.map_map, Function.comp_def, xs_lst, xs_tup, isL_lst, isL_tup, ↓reduceIte, *]))
local macro_rules | `(tactic| walk_at "run") => `(tactic| simp -implicitDefEqProofs (disch := first | assumption | omega | (simp only [List.length_append, List.length_set, List.length_cons, List.length_nil, List.length_map] <;> omega) | fail) only [wp_ok, wp_exc, wp_stuck, ws_ok, ws_exc, ws_stuck, wp_op, kk_op, kk_un, wp_un, wp_cons, kk_cons, kk_cons2, wp_nil, wp_c, wp_app, wp_if, kk_if1, kk_if0, wp_and, kk_and1, kk_and0, wp_or, kk_or1, kk_or0, wp_not, kk_not, wp_tb, kk_tb, wp_andV, kk_andV1, kk_andV0, wp_orV, kk_orV1, kk_orV0, wp_notV, kk_notV, wp_noneS, wp_some, kk_some, wp_sl, kk_sl, kk_sl2, kk_sl3, wp_mL, kk_mL, kk_mL2, wp_mL0, kk_mL0, wp_chain, kk_ch, kk_ch2, kk_ch31, kk_ch30, ws_set, kks_nm, kks_g, kks_tup, kks_lst, ws_expr, kks_expr, ws_ret, kks_ret, ws_retN, ws_pass, ws_brk, ws_cont, ws_raise, ws_if, kks_if1, kks_if0, ws_seq, kks_next, kks_retS, kks_brk, kks_cont, kk_augE, ws_aug, kks_aug, kks_aug2, ws_par, kks_par, ws_setL, kks_sl, kks_sl2, kks_sl3, wp_def, kkd_ret, kkd_next, kkdE, kkE, ws_for, wp_lc, wp_r1, kk_r1, wp_r2, kk_r2, wp_il, wp_it, wp_ie, wp_iz, kk_il, kk_il2, kk_it, kk_it2, kk_ie, kk_ie2, kk_iz, kk_iz2, lAt_k, k_lAtL, k_lAtO, k_lAtT, wp_int, wp_add, wp_addI, wp_sub, wp_neg, wp_lt, wp_le, wp_gt, wp_ge, wp_max2, wp_min2, wp_abs, wp_mulI, wp_mul, wp_fdiv, wp_mod, wp_shl, wp_shr, wp_pow, wp_isN, wp_notN, wp_eqI, wp_neI, wp_ix, kk_ix, kk_ix2, wp_len, kk_lenL, kk_lenT, kk_lenO, kk_lenP, wp_appd, kk_app1, isL_k, kk_isL, startI_cons, startI_nil, rep_succ, rep_zero, List.getElem?_cons_zero, List.getElem?_cons_succ, List.set_cons_zero, List.set_cons_succ, f_call, m_var, List.append_nil, List.nil_append, List.cons_append, List.length_cons, List.length_nil, if_true, if_false, g_tup, g_lst, g_cons, g_nil, g_nm, Option.bind_some, kks_g, atI_0, atI_1, atI_2, atI_3, atI_4, atI_5, atI_6, atI_7, atI_8, atI_9, atI_10, atI_11, atI_12, atI_last, cutI_1, ixN_30, ixN_31, ixN_32, Int.toNat_zero, Int.reduceToNat, Int.reduceNeg, xs_lst, xs_tup, xs_ro, xs_rot, isL_lst, isL_tup, isL_ro, isL_rot, isT_tup, isT_rot, Bool.false_eq_true, Bool.true_eq_false, Bool.not_true, Bool.not_false, decide_true, decide_false, Int.reduceLT, Int.reduceLE, Nat.reduceLT, Nat.reduceLeDiff, Nat.reduceAdd, Nat.reduceEqDiff, Bool.not_eq_true, true_and, and_true, and_self, eq_self, g_new, g_nw, g_old, g_set, g_sne, List.length_set, List.length_append, wp_r3, kk_r3, Int.cast_ofNat_Int, Int.reduceEq, Int.natCast_zero, Int.natCast_one, ws_whileA, wp_isiII, wp_isiIB, wp_isiR, tyO_l, tyO_t, kk_isi, kk_isi2, kit_ll, kit_tt, kit_lt, kit_tl, wp_isiN, wp_isiBl, wp_isiS, tyO_d, kit2_NoneType_int, kit2_NoneType_bool, kit2_NoneType_list, kit2_NoneType_tuple, kit2_NoneType_str, kit2_bool_int, kit2_bool_bool, kit2_bool_list, kit2_bool_tuple, kit2_bool_str, kit2_str_int, kit2_str_bool, kit2_str_list, kit2_str_tuple, kit2_str_str, kit2_dict_int, kit2_dict_bool, kit2_dict_list, kit2_dict_tuple, kit2_dict_str, kit2_list_int, kit2_list_bool, kit2_list_str, kit2_tuple_int, kit2_tuple_bool, kit2_tuple_str, kit2_int_list, kit2_int_tuple, kit2_int_str, kf_next, kf_cont, kf_brk, kf_ret, wipeI, wp_chain3, kk_d1, kk_d2, kk_d31, kk_d30, ↓reduceIte, *])
def Row (ih : IH) (x : IV) : Prop := ∃ t i j, x = .ref t ∧ ih[t]? = some (.tup [.int i, .int j])
def Bad (ih : IH) (x : IV) : Prop := x = .non ∨ (∃ t ys, x = .ref t ∧ ih[t]? = some (.lst ys)) ∨ ∃ t, x = .ref t ∧ ih[t]? = some (.tup [.bl true, .int 2])
def stB (ih : IH) : IV → Bool
  | .ref t => match ih[t]? with
    | some (.tup [.int i, .int j]) => decide (0 ≤ i) && decide (i ≤ j)
    | _ => false
  | _ => false
theorem Row.fx {a b : IH} {x : IV} (f : Fx a b) : Row a x → Row b x := fun ⟨t, i, j, h1, h2⟩ => ⟨t, i, j, h1, by rw [f t (lt_of_get h2)]; exact h2⟩
theorem Bad.fx {a b : IH} {x : IV} (f : Fx a b) : Bad a x → Bad b x := fun h => h.elim .inl fun h => h.elim (fun ⟨t, ys, h1, h2⟩ => .inr (.inl ⟨t, ys, h1, by rw [f t (lt_of_get h2)]; exact h2⟩)) fun ⟨t, h1, h2⟩ => .inr (.inr ⟨t, h1, by rw [f t (lt_of_get h2)]; exact h2⟩)
theorem stB_fx {a b : IH} {x : IV} (f : Fx a b) (h : Row a x ∨ Bad a x) : stB b x = stB a x := by
  rcases h with ⟨t, i, j, rfl, h2⟩ | rfl | ⟨t, ys, rfl, h2⟩ | ⟨t, rfl, h2⟩
  · unfold stB
    dsimp only
    rw [f t (lt_of_get h2)]
  · rfl
  · unfold stB
    dsimp only
    rw [f t (lt_of_get h2)]
  · unfold stB
    dsimp only
    rw [f t (lt_of_get h2)]
theorem stB_row {ih : IH} {t : Nat} {i j : Int} (h : ih[t]? = some (.tup [.int i, .int j])) : stB ih (.ref t) = (decide (0 ≤ i) && decide (i ≤ j)) := by
  unfold stB
  dsimp only
  rw [h]
theorem stB_bad {ih : IH} {x : IV} (h : Bad ih x) : stB ih x = false := by
  rcases h with rfl | ⟨t, ys, rfl, h2⟩ | ⟨t, rfl, h2⟩
  · rfl
  · unfold stB
    dsimp only
    rw [h2]
  · unfold stB
    dsimp only
    rw [h2]
theorem q_wholeB (c : Cs) (b : Bool) (l : Int) (ih : IH) (Q : PQ IV) (E : EQ) : wp (m_is_whole c [.bl b, .int l] ih) Q E = Q (.bl false) ih := by
  unfold m_is_whole b_is_whole
  walk_at "run"
theorem w_st (c : Cs) {x : IV} {ih : IH} (h : Row ih x ∨ Bad ih x) (Q : PQ IV) (E : EQ) : wp (m_is_stretch c [x] ih) Q E = Q (.bl (stB ih x)) ih := by
  have e2 : decide (((0 : Nat) : Int) + 1 + 1 = 2) = true := rfl
  rcases h with ⟨t, i, j, rfl, h2⟩ | hb
  · rw [stB_row h2]
    have a1 := q_whole c i 0
    have a2 := q_whole c j i
    unfold m_is_stretch b_is_stretch
    by_cases h0 : 0 ≤ i
    · have d0 := decide_eq_true h0
      clear h0
      walk_at "run"
      rfl
    · have d0 := decide_eq_false h0
      clear h0
      walk_at "run"
      rfl
  · rw [stB_bad hb]
    rcases hb with rfl | ⟨t, ys, rfl, h2⟩ | ⟨t, rfl, h2⟩
    · unfold m_is_stretch b_is_stretch
      walk_at "run"
    · unfold m_is_stretch b_is_stretch
      walk_at "run"
    · have a1 := q_wholeB c true 0
      unfold m_is_stretch b_is_stretch
      walk_at "run"
theorem rows_of {ih : IH} : ∀ {xs : List IV}, (∀ x ∈ xs, Row ih x ∨ Bad ih x) → (∀ x ∈ xs, stB ih x = true) → ∃ ss, PR ih xs ss ∧ ∀ r ∈ ss, 0 ≤ r.1 ∧ r.1 ≤ r.2
  | [], _, _ => ⟨[], trivial, fun r hr => nomatch hr⟩
  | x :: xs, h1, h2 => by
    obtain ⟨ss, p, q⟩ := rows_of (fun z hz => h1 z (List.mem_cons_of_mem _ hz)) fun z hz => h2 z (List.mem_cons_of_mem _ hz)
    have hx := h2 x List.mem_cons_self
    rcases h1 x List.mem_cons_self with ⟨t, i, j, rfl, ht⟩ | hb
    · rw [stB_row ht, Bool.and_eq_true, decide_eq_true_iff, decide_eq_true_iff] at hx
      refine ⟨(i, j) :: ss, ⟨ht, p⟩, fun r hr => ?_⟩
      rcases List.mem_cons.mp hr with hr | hr
      · rw [hr]; exact hx
      · exact q r hr
    · rw [stB_bad hb] at hx
      cases hx
noncomputable def chk36 (c : Cs) : Env → IH → RS := ms_seq (ms_if (m_not (m_tb (m_app f_all (m_cons (lc_is_certificate_2 c) m_nil))))
 (ms_ret (m_c (.bl false)))
 ms_pass)
 (ms_ret (m_app f_all (m_cons (lc_is_certificate_3 c) m_nil)))
theorem w_chk (c : Cs) {q l : Nat} {s b e : Int} {xs ys : List IV} {W ss : List (Int × Int)} {ih : IH} {a5 a6 : Option IV} {S : SQ} {F : ES} (gq : ih[q]? = some (.lst xs)) (pr : PR ih xs W) (gl : ih[l]? = some (.lst ys)) (hL : ys.length ≤ 1000) (ps : PR ih ys ss)
    (k : ∀ v ih', (v = true ↔ chainB ss = true ∧ ∀ r ∈ ss, r ∈ W ∨ r.2 - r.1 + 1 = s) → Fx ih ih' → ih.length ≤ ih'.length → S (.ret (.bl v)) ih') : ws (chk36 c [some (.int s), some (.ref q), some (.int b), some (.int e), some (.ref l), a5, a6] ih) S F := by
  have ql := lt_of_get gq
  have ll := lt_of_get gl
  have ek := ps.kI
  unfold chk36
  walk_at "run"
  unfold lc_is_certificate_2
  walk_at "run"
  refine wp_slL gl (newN fun u ih1 u1 u2 l1 f1 n1 => ?_)
  rw [cutI_1] at n1
  have gl1 : ih1[l]? = some (.lst ys) := by rw [f1 l ll]; exact gl
  have f01 := f1
  clear f1
  walk_at "run"
  refine lc_zipW (o := .lst ys) (u := .lst (ys.drop 1)) (fun x y => .bl (decide ((kI ih x).2 < (kI ih y).1))) gl1 rfl n1 rfl (by rw [xs_lst]; omega) (fun j x y hx hy ih2 f2 => ?_) fun ih2 f2 l2 n2 => ?_
  · obtain ⟨t, r, rfl, _, gt⟩ := ps.get (show ys[j]? = some x from hx)
    have hy' : ys[1 + j]? = some y := by rw [← List.getElem?_drop]; exact hy
    obtain ⟨t', r', rfl, _, gt'⟩ := ps.get hy'
    have f := f01.trans f2 (by omega)
    have g2 : ih2[t]? = some (.tup [.int r.1, .int r.2]) := by rw [f t (lt_of_get gt)]; exact gt
    have g2' : ih2[t']? = some (.tup [.int r'.1, .int r'.2]) := by rw [f t' (lt_of_get gt')]; exact gt'
    rw [kI_of gt, kI_of gt']
    unfold le_is_certificate_2
    clear k f f2 f01
    walk_at "run"
  obtain ⟨w, ew⟩ : ∃ w, ih1.length = w := ⟨_, rfl⟩
  have n2' : ih2[w]? = some (.lst ((List.zipWith (fun a b : Int × Int => decide (a.2 < b.1)) ss (ss.drop 1)).map IV.bl)) := by
    rw [← ew, n2, xs_lst, xs_lst, ← ek, ← List.map_drop, List.zipWith_map, List.map_zipWith]
  rw [ew]
  have gl2 : ih2[l]? = some (.lst ys) := by rw [f2 l (by omega)]; exact gl1
  have f02 := f01.trans f2 (by omega)
  have gq2 : ih2[q]? = some (.lst xs) := by rw [f02 q ql]; exact gq
  have pr2 := pr.fx f02
  have kz := fun v ih' h (f : Fx ih2 ih') (l : ih2.length ≤ ih'.length) => k v ih' h (f02.trans f (by omega)) (by omega)
  clear k f2 f01 n2 n1 gl1
  walk_at "run"
  refine wp_allL _ n2' ?_
  rw [chainB_zip]
  cases hC : chainB ss with
  | false =>
    have ky := kz false ih2 (by rw [hC]; exact ⟨(fun h => nomatch h), fun h => nomatch h.1⟩) Fx.refl (Nat.le_refl _)
    clear kz f02 n2' gl2 gq2 pr2
    walk_at "run"
    all_goals exact ky
  | true =>
    clear n2'
    have gqb : ih2[q]? = some (.lst xs) := gq2
    have pl := ps.len
    clear gq pr gl
    have f02' := f02
    clear f02
    walk_at "run"
    unfold lc_is_certificate_3
    walk_at "run"
    refine lc_all (fun x => .bl (decide (kI ih x ∈ W) || decide ((kI ih x).2 - (kI ih x).1 + 1 = s))) gl2 rfl (by rw [xs_lst]; omega) (fun x hxm ih3 f3 => ?_) (newN fun z ih3 z1 z2 l3 f3 n3 => ?_)
    · obtain ⟨j, hj⟩ := List.mem_iff_getElem?.mp hxm
      obtain ⟨t, r, rfl, _, gt⟩ := ps.get (show ys[j]? = some x from hj)
      have f := f02'.trans f3 (by omega)
      have g3 : ih3[t]? = some (.tup [.int r.1, .int r.2]) := by rw [f t (lt_of_get gt)]; exact gt
      have gq3 : ih3[q]? = some (.lst xs) := by rw [f3 q (by omega)]; exact gq2
      have pr3 := pr2.fx f3
      have ein := fun Q E k => wp_inP (Q := Q) (E := E) g3 gq3 pr3 k
      rw [kI_of gt]
      unfold le_is_certificate_3
      clear kz f f3 f02'
      walk_at "run"
      refine ein _ _ ?_
      clear ein
      by_cases hm : (r.1, r.2) ∈ W
      · have d1 := decide_eq_true hm
        clear hm
        walk_at "run"
        first | done | simp
      · have d1 := decide_eq_false hm
        clear hm
        walk_at "run"
        first | done | simp
    have n3' : ih3[z]? = some (.lst ((ss.map fun r => decide (r ∈ W) || decide (r.2 - r.1 + 1 = s)).map IV.bl)) := by
      rw [n3, xs_lst, ← ek, List.map_map, List.map_map]
      rfl
    have ky := kz _ ih3 (show (ss.map fun r => decide (r ∈ W) || decide (r.2 - r.1 + 1 = s)).all id = true ↔ _ by
      rw [hC, List.all_map, List.all_eq_true]
      constructor
      · intro h
        refine ⟨rfl, fun r hr => ?_⟩
        have := h r hr
        rw [Function.comp_apply, id, Bool.or_eq_true, decide_eq_true_iff, decide_eq_true_iff] at this
        exact this
      · intro h r hr
        rw [Function.comp_apply, id, Bool.or_eq_true, decide_eq_true_iff, decide_eq_true_iff]
        exact h.2 r hr) f3 (by omega)
    obtain ⟨V, eV⟩ : ∃ V, (ss.map fun r => decide (r ∈ W) || decide (r.2 - r.1 + 1 = s)) = V := ⟨_, rfl⟩
    rw [eV] at n3' ky
    clear kz f3 n3 gl2 gq2 pr2 f02' gqb
    walk_at "run"
    refine wp_allL _ n3' ?_
    walk_at "run"
    all_goals exact ky
theorem b_cert_eq (c : Cs) : b_is_certificate c = (ms_seq (ms_expr (m_app (f_call 4 [] (m_check_frame c)) (m_cons (m_var 0) (m_cons (m_var 1) (m_cons (m_var 2) (m_cons (m_var 3) m_nil))))))
 (ms_seq (ms_if (m_or (m_not (m_tb (m_app f_isi (m_cons (m_var 4) (m_cons (m_c (.ty "list")) m_nil))))) (m_not (m_tb (m_app f_all (m_cons (lc_is_certificate_1 c) m_nil)))))
 (ms_ret (m_c (.bl false)))
 ms_pass)
 (ms_seq (ms_if (m_and (m_tb (m_op f_ne (m_var 4) (m_app f_lst m_nil))) (m_or (m_tb (m_op f_le (m_op f_ix (m_op f_ix (m_var 4) (m_c (.int 0))) (m_c (.int 0))) (m_var 2))) (m_tb (m_op f_ge (m_op f_ix (m_op f_ix (m_var 4) (m_un f_neg (m_c (.int 1)))) (m_c (.int 1))) (m_var 3)))))
 (ms_ret (m_c (.bl false)))
 ms_pass)
 (chk36 c)))) := rfl
theorem w_certN (c : Cs) {q : Nat} {s b e : Int} {v : IV} {xs : List IV} {W : List (Int × Int)} {ih : IH} {Q : PQ IV} {E : EQ} (s1 : 1 ≤ s) (b0 : 0 ≤ b) (be : b ≤ e) (gq : ih[q]? = some (.lst xs)) (pr : PR ih xs W) (hW : Win W) (hl : W.length ≤ 1000)
    (hv : v = .non ∨ (∃ t ys, v = .ref t ∧ ih[t]? = some (.tup ys)) ∨ ∃ t, v = .ref t ∧ ih[t]? = some .dct)
    (k : ∀ ih', Fx ih ih' → ih.length ≤ ih'.length → Q (.bl false) ih') : wp (m_is_certificate c [.int s, .ref q, .int b, .int e, v] ih) Q E := by
  unfold m_is_certificate b_is_certificate
  walk_at "run"
  refine w_frame c s1 b0 be gq pr hW hl fun ih1 f1 l1 => ?_
  have kz := k ih1 f1 l1
  clear k
  rcases hv with rfl | ⟨t, ys, rfl, ht⟩ | ⟨t, rfl, ht⟩
  · walk_at "run"
    all_goals exact kz
  · have ht1 : ih1[t]? = some (.tup ys) := by rw [f1 t (lt_of_get ht)]; exact ht
    clear f1
    walk_at "run"
    all_goals exact kz
  · have ht1 : ih1[t]? = some .dct := by rw [f1 t (lt_of_get ht)]; exact ht
    clear f1
    walk_at "run"
    all_goals exact kz
theorem w_certL (c : Cs) {q l : Nat} {s b e : Int} {xs ys : List IV} {W : List (Int × Int)} {ih : IH} {Q : PQ IV} {E : EQ} (s1 : 1 ≤ s) (b0 : 0 ≤ b) (be : b ≤ e) (gq : ih[q]? = some (.lst xs)) (pr : PR ih xs W) (hW : Win W) (hl : W.length ≤ 1000)
    (gl : ih[l]? = some (.lst ys)) (hL : ys.length ≤ 1000) (hx : ∀ x ∈ ys, Row ih x ∨ Bad ih x)
    (kB : ∀ ih' x, x ∈ ys → stB ih x = false → Fx ih ih' → ih.length ≤ ih'.length → Q (.bl false) ih')
    (kL : ∀ v ss ih', PR ih ys ss → (v = true ↔ Cert s W e b ss) → Fx ih ih' → ih.length ≤ ih'.length → Q (.bl v) ih') : wp (m_is_certificate c [.int s, .ref q, .int b, .int e, .ref l] ih) Q E := by
  have ql := lt_of_get gq
  have ll := lt_of_get gl
  unfold m_is_certificate
  rw [b_cert_eq]
  obtain ⟨R, eR⟩ : ∃ R, chk36 c = R := ⟨_, rfl⟩
  rw [eR]
  walk_at "run"
  refine w_frame c s1 b0 be gq pr hW hl fun ih1 f1 l1 => ?_
  have gl1 : ih1[l]? = some (.lst ys) := by rw [f1 l ll]; exact gl
  have gq1 : ih1[q]? = some (.lst xs) := by rw [f1 q ql]; exact gq
  have pr1 := pr.fx f1
  have f01 := f1
  clear f1
  walk_at "run"
  unfold lc_is_certificate_1
  walk_at "run"
  refine lc_all (fun x => .bl (stB ih x)) gl1 rfl (by rw [xs_lst]; omega) (fun x hxm ih2 f2 => ?_) (newN fun w ih2 w1 w2 l2 f2 n2 => ?_)
  · have h := hx x hxm
    have f := f01.trans f2 l1
    have e := w_st c (x := x) (ih := ih2) (h.elim (fun h => .inl (h.fx f)) fun h => .inr (h.fx f))
    rw [stB_fx f h] at e
    unfold le_is_certificate_1
    clear kB kL f2 f01 f
    walk_at "run"
  have n2' : ih2[w]? = some (.lst ((ys.map (stB ih)).map IV.bl)) := by rw [n2, List.map_map]; rfl
  have gl2 : ih2[l]? = some (.lst ys) := by rw [f2 l (by omega)]; exact gl1
  have gq2 : ih2[q]? = some (.lst xs) := by rw [f2 q (by omega)]; exact gq1
  have pr2 := pr1.fx f2
  have f02 := f01.trans f2 l1
  clear f2 f01 n2 gl1 gq1 pr1
  walk_at "run"
  refine wp_allL (ys.map (stB ih)) n2' ?_
  cases hA : (ys.map (stB ih)).all id with
  | false =>
    have hz : ∃ x ∈ ys, stB ih x = false := by
      rw [List.all_map, List.all_eq_false] at hA
      obtain ⟨x, h1, h2⟩ := hA
      exact ⟨x, h1, by simpa using h2⟩
    obtain ⟨x, h1, h2⟩ := hz
    have kz := kB ih2 x h1 h2 f02 (by omega)
    clear kB kL f02 n2' gl2 gq2 pr2
    walk_at "run"
    all_goals exact kz
  | true =>
    have hz : ∀ x ∈ ys, stB ih x = true := fun x h => by
      rw [List.all_map, List.all_eq_true] at hA
      exact hA x h
    obtain ⟨ss, ps, hs⟩ := rows_of hx hz
    have ps2 := ps.fx f02
    have pl := ps.len
    have kz := fun v ih' h (f : Fx ih2 ih') (l : ih2.length ≤ ih'.length) => kL v ss ih' ps h (f02.trans f (by omega)) (by omega)
    clear kB kL f02 n2' hA hz hx
    walk_at "run"
    refine wp_lst (by simp) (newN fun z ih3 z1 z2 l3 f3 n3 => ?_)
    have gl3 : ih3[l]? = some (.lst ys) := by rw [f3 l (by omega)]; exact gl2
    have gq3 : ih3[q]? = some (.lst xs) := by rw [f3 q (by omega)]; exact gq2
    have pr3 := pr2.fx f3
    have ps3 := ps2.fx f3
    have ky := fun v ih' h (f : Fx ih3 ih') (l : ih3.length ≤ ih'.length) => kz v ih' h (f3.trans f (by omega)) (by omega)
    clear kz f3 gl2 gq2 pr2 ps2
    refine wp_ne (.lst gl3 rfl ps3.is) (Is.ints (o := .lst []) (ns := []) n3 rfl rfl) (shaped_rows ss) (shaped_ints _) ?_
    have eN : PyData.eqv (.list (ss.map prD)) (.list (([] : List Int).map .int)) = decide (ss = []) := eqv_prs0 ss
    rw [eN]
    have fin : ∀ (h1 : ∀ r ∈ ss.head?, b < r.1) (h2 : ∀ r ∈ ss.getLast?, r.2 < e), ws (R [some (.int s), some (.ref q), some (.int b), some (.int e), some (.ref l), none, none] ih3) (kd Q) (kdE E) := fun h1 h2 => by
      rw [← eR]
      refine w_chk c gq3 pr3 gl3 hL ps3 fun v ih4 hv f4 l4 => ?_
      have kx := ky v ih4 (hv.trans (by
        cases hss : ss with
        | nil => exact ⟨fun _ => trivial, fun _ => ⟨rfl, fun r hr => nomatch hr⟩⟩
        | cons r l =>
          rw [hss] at h1 h2 hs
          rw [cert_iff fun q hq => (hs q hq).2]
          exact ⟨fun h => ⟨h1 r rfl, h2 _ (List.getLast?_eq_some_getLast (List.cons_ne_nil _ _)), h⟩, fun h => h.2.2⟩)) f4 l4
      clear ky
      walk_at "run"
      all_goals exact kx
    have dec : ∀ (h : ¬ ((∀ r ∈ ss.head?, b < r.1) ∧ ∀ r ∈ ss.getLast?, r.2 < e)), Q (.bl false) ih3 := fun h => ky false ih3 ⟨(fun h => nomatch h), fun hc => absurd (by
        cases hss : ss with
        | nil => exact ⟨(fun r hr => nomatch hr), fun r hr => nomatch hr⟩
        | cons r l =>
          rw [hss] at hc hs
          rw [cert_iff fun q hq => (hs q hq).2] at hc
          refine ⟨fun z hz => ?_, fun z hz => ?_⟩
          · obtain rfl := Option.some.inj hz
            exact hc.1
          · rw [List.getLast?_eq_some_getLast (List.cons_ne_nil _ _)] at hz
            obtain rfl := Option.some.inj hz
            exact hc.2.1) h⟩ Fx.refl (Nat.le_refl _)
    clear ky eR n3 eN
    cases hss : ss with
    | nil =>
      have kx := fin (by rw [hss]; exact fun r hr => nomatch hr) (by rw [hss]; exact fun r hr => nomatch hr)
      have d1 : decide (([] : List (Int × Int)) = []) = true := rfl
      clear fin dec gq3 pr3 ps3 gl3
      walk_at "run"
      all_goals exact kx
    | cons r rs =>
      have d1 : decide (r :: rs = []) = false := rfl
      rw [hss] at fin dec ps3
      obtain ⟨t, xs', rfl⟩ : ∃ t xs', ys = .ref t :: xs' := by
        rw [hss] at pl
        cases ys with
        | nil => cases pl
        | cons y ys =>
          cases y with
          | ref t => exact ⟨t, ys, rfl⟩
          | _ => exact (ps3 : False).elim
      have gt := ps3.1
      obtain ⟨init, x, ei⟩ : ∃ init x, (IV.ref t :: xs') = init ++ [x] := ⟨_, _, (List.dropLast_concat_getLast (List.cons_ne_nil _ _)).symm⟩
      have ax : (IV.ref t :: xs')[init.length]? = some x := by rw [ei]; simp
      obtain ⟨u, z, rfl, hz, gu⟩ := ps3.get ax
      have hat : atI (IV.ref t :: xs') (-1) = some (.ref u) := by rw [ei, atI_last]
      have ln : (IV.ref t :: xs').length = init.length + 1 := by rw [ei, List.length_append, List.length_singleton]
      have ln2 : (r :: rs).length = init.length + 1 := by rw [← ps3.len]; exact ln
      have gl : (r :: rs).getLast? = some z := by rw [List.getLast?_eq_getElem?, ln2, Nat.add_sub_cancel]; exact hz
      have eh : (r :: rs).head? = some r := rfl
      rw [gl, eh] at fin dec
      clear ei ax hz ln gl eh
      by_cases h1 : r.1 ≤ b
      · have d2 := decide_eq_true h1
        have kx := dec fun h => by have := h.1 r rfl; omega
        clear fin dec gq3 pr3 ps3 gu h1
        walk_at "run"
        all_goals exact kx
      · have d2 := decide_eq_false h1
        by_cases h2 : e ≤ z.2
        · have d3 := decide_eq_true h2
          have kx := dec fun h => by have := h.2 z rfl; omega
          clear fin dec gq3 pr3 ps3 h1 h2
          walk_at "run"
          all_goals exact kx
        · have d3 := decide_eq_false h2
          have kx := fin (fun q hq => by obtain rfl := Option.some.inj hq; omega) (fun q hq => by obtain rfl := Option.some.inj hq; omega)
          clear fin dec gq3 pr3 ps3 h1 h2
          walk_at "run"
          all_goals exact kx
end L3
/-! K33: fewest looks far away: the program's side. (L14) -/
namespace L3
open PySem PySem.Spec PyProof.Rows L2
local macro_rules | `(tactic| walk_at "get") => `(tactic| simp (disch := first | assumption | omega | (simp only [List.length_append, List.length_set, List.length_cons, List.length_nil, List.length_map] <;> omega) | fail) only [g_new, g_nw, g_old, g_set, g_sne, List.length_append, List.length_set, List.length_cons, List.length_nil, List.length_map, List.map_map, Function.comp_def, xs_lst, xs_tup, isL_lst, isL_tup, ↓reduceIte, *])
local macro_rules | `(tactic| walk_at "fr") => `(tactic| first | (intro _ _ _; simp (disch := first | assumption | omega | (simp only [List.length_append, List.length_set, List.length_cons, List.length_nil, List.length_map] <;> omega) | fail) only [g_new, g_nw, g_old, g_set, g_sne, List.length_append, List.length_set, List.length_cons, List.length_nil, List.length_map, List.map_map, Function.comp_def, xs_lst, xs_tup, isL_lst, isL_tup, ↓reduceIte, *]) | (intro _ _; simp (disch := first | assumption | omega | (simp only [List.length_append, List.length_set, List.length_cons, List.length_nil, List.length_map] <;> omega) | fail) only [g_new, g_nw, g_old, g_set, g_sne, List.length_append, List.length_set, List.length_cons, List.length_nil, List.length_map, List.map_map, Function.comp_def, xs_lst, xs_tup, isL_lst, isL_tup, ↓reduceIte, *]))
local macro_rules | `(tactic| walk_at "run") => `(tactic| simp -implicitDefEqProofs (disch := first | assumption | omega | (simp only [List.length_append, List.length_set, List.length_cons, List.length_nil, List.length_map] <;> omega) | fail) only [wp_ok, wp_exc, wp_stuck, ws_ok, ws_exc, ws_stuck, wp_op, kk_op, kk_un, wp_un, wp_cons, kk_cons, kk_cons2, wp_nil, wp_c, wp_app, wp_if, kk_if1, kk_if0, wp_and, kk_and1, kk_and0, wp_or, kk_or1, kk_or0, wp_not, kk_not, wp_tb, kk_tb, wp_andV, kk_andV1, kk_andV0, wp_orV, kk_orV1, kk_orV0, wp_notV, kk_notV, wp_noneS, wp_some, kk_some, wp_sl, kk_sl, kk_sl2, kk_sl3, wp_mL, kk_mL, kk_mL2, wp_mL0, kk_mL0, wp_chain, kk_ch, kk_ch2, kk_ch31, kk_ch30, ws_set, kks_nm, kks_g, kks_tup, kks_lst, ws_expr, kks_expr, ws_ret, kks_ret, ws_retN, ws_pass, ws_brk, ws_cont, ws_raise, ws_if, kks_if1, kks_if0, ws_seq, kks_next, kks_retS, kks_brk, kks_cont, kk_augE, ws_aug, kks_aug, kks_aug2, ws_par, kks_par, ws_setL, kks_sl, kks_sl2, kks_sl3, wp_def, kkd_ret, kkd_next, kkdE, kkE, ws_for, wp_lc, wp_r1, kk_r1, wp_r2, kk_r2, wp_il, wp_it, wp_ie, wp_iz, kk_il, kk_il2, kk_it, kk_it2, kk_ie, kk_ie2, kk_iz, kk_iz2, lAt_k, k_lAtL, k_lAtO, k_lAtT, wp_int, wp_add, wp_addI, wp_sub, wp_neg, wp_lt, wp_le, wp_gt, wp_ge, wp_max2, wp_min2, wp_abs, wp_mulI, wp_mul, wp_fdiv, wp_mod, wp_shl, wp_shr, wp_pow, wp_isN, wp_notN, wp_eqI, wp_neI, wp_ix, kk_ix, kk_ix2, wp_len, kk_lenL, kk_lenT, kk_lenO, kk_lenP, wp_appd, kk_app1, isL_k, kk_isL, startI_cons, startI_nil, rep_succ, rep_zero, List.getElem?_cons_zero, List.getElem?_cons_succ, List.set_cons_zero, List.set_cons_succ, f_call, m_var, List.append_nil, List.nil_append, List.cons_append, List.length_cons, List.length_nil, if_true, if_false, g_tup, g_lst, g_cons, g_nil, g_nm, Option.bind_some, kks_g, atI_0, atI_1, atI_2, atI_3, atI_4, atI_5, atI_6, atI_7, atI_8, atI_9, atI_10, atI_11, atI_12, atI_last, cutI_1, ixN_30, ixN_31, ixN_32, Int.toNat_zero, Int.reduceToNat, Int.reduceNeg, xs_lst, xs_tup, xs_ro, xs_rot, isL_lst, isL_tup, isL_ro, isL_rot, isT_tup, isT_rot, Bool.false_eq_true, Bool.true_eq_false, Bool.not_true, Bool.not_false, decide_true, decide_false, Int.reduceLT, Int.reduceLE, Nat.reduceLT, Nat.reduceLeDiff, Nat.reduceAdd, Nat.reduceEqDiff, Bool.not_eq_true, true_and, and_true, and_self, eq_self, g_new, g_nw, g_old, g_set, g_sne, List.length_set, List.length_append, wp_r3, kk_r3, Int.cast_ofNat_Int, Int.reduceEq, Int.natCast_zero, Int.natCast_one, ws_whileA, wp_isiII, wp_isiIB, wp_isiR, tyO_l, tyO_t, kk_isi, kk_isi2, kit_ll, kit_tt, kit_lt, kit_tl, wp_isiN, wp_isiBl, wp_isiS, tyO_d, kit2_NoneType_int, kit2_NoneType_bool, kit2_NoneType_list, kit2_NoneType_tuple, kit2_NoneType_str, kit2_bool_int, kit2_bool_bool, kit2_bool_list, kit2_bool_tuple, kit2_bool_str, kit2_str_int, kit2_str_bool, kit2_str_list, kit2_str_tuple, kit2_str_str, kit2_dict_int, kit2_dict_bool, kit2_dict_list, kit2_dict_tuple, kit2_dict_str, kit2_list_int, kit2_list_bool, kit2_list_str, kit2_tuple_int, kit2_tuple_bool, kit2_tuple_str, kit2_int_list, kit2_int_tuple, kit2_int_str, kf_next, kf_cont, kf_brk, kf_ret, wipeI, wp_chain3, kk_d1, kk_d2, kk_d31, kk_d30, ws_tries, kk_tries0, kk_tries, kk_goHt, kk_goHf, ws_par3, kks_par3, wp_isB, wp_intBl, ↓reduceIte, *])
/-! ### greedy looks so far -/
inductive GrP (s : Int) (W : List (Int × Int)) (e b : Int) : List Int → Int → Prop
  | nil : GrP s W e b [] b
  | snoc {G : List Int} {x y : Int} : GrP s W e b G x → ¬ (ends W x e = [] ∧ e - x ≤ s) → y ∈ ends W x e ++ [x + s] → (∀ z ∈ ends W x e ++ [x + s], y ≤ z) → GrP s W e b (G ++ [y]) y
section
variable {s e b : Int} {W : List (Int × Int)}
theorem GrP.rest {G : List Int} {x : Int} (h : GrP s W e b G x) : ∀ g, Gr s W e x g → Gr s W e b (G ++ g) := by
  induction h with
  | nil => exact fun g h => h
  | @snoc G x y h1 h2 h3 h4 ih =>
    intro g hg
    rw [List.append_assoc]
    exact ih _ (.step h2 h3 h4 hg)
theorem GrP.done {G : List Int} {x : Int} (h : GrP s W e b G x) (h1 : ends W x e = []) (h2 : e - x ≤ s) : Gr s W e b G := by
  have := h.rest [] (.done h1 h2)
  rwa [List.append_nil] at this
/-- how many windows begin behind a look -/
def cntW (W : List (Int × Int)) (x : Int) : Nat := (W.filter fun r => decide (x < r.1)).length
theorem cntW_le (W : List (Int × Int)) (x : Int) : cntW W x ≤ W.length := List.length_filter_le _ _
theorem cntW_mono : ∀ {W : List (Int × Int)} {x y : Int}, x ≤ y → cntW W y ≤ cntW W x
  | [], _, _, _ => Nat.le_refl _
  | r :: W, x, y, h => by
    have ih := cntW_mono (W := W) h
    unfold cntW at *
    rw [List.filter_cons, List.filter_cons]
    by_cases h1 : y < r.1
    · rw [decide_eq_true h1, decide_eq_true (show x < r.1 by omega), if_pos rfl, if_pos rfl]
      simp only [List.length_cons]
      omega
    · rw [decide_eq_false h1, if_neg Bool.false_ne_true]
      split
      · simp only [List.length_cons]
        omega
      · exact ih
theorem cntW_lt : ∀ {W : List (Int × Int)} {x y : Int}, x ≤ y → (∃ r ∈ W, x < r.1 ∧ r.1 ≤ y) → cntW W y + 1 ≤ cntW W x
  | [], _, _, _, ⟨_, hr, _⟩ => nomatch hr
  | r :: W, x, y, h, ⟨r', hr, h1, h2⟩ => by
    rcases List.mem_cons.mp hr with e | e
    · subst e
      have ih := cntW_mono (W := W) h
      unfold cntW at *
      rw [List.filter_cons, List.filter_cons, decide_eq_false (show ¬ y < r'.1 by omega), decide_eq_true h1, if_neg Bool.false_ne_true, if_pos rfl]
      simp only [List.length_cons]
      omega
    · have ih := cntW_lt (W := W) h ⟨r', e, h1, h2⟩
      unfold cntW at *
      rw [List.filter_cons, List.filter_cons]
      by_cases h3 : y < r.1
      · rw [decide_eq_true h3, decide_eq_true (show x < r.1 by omega), if_pos rfl, if_pos rfl]
        simp only [List.length_cons]
        omega
      · rw [decide_eq_false h3, if_neg Bool.false_ne_true]
        split
        · simp only [List.length_cons]
          omega
        · exact ih
theorem GrP.le (s1 : 1 ≤ s) (hW : Win W) {G : List Int} {x : Int} (h : GrP s W e b G x) (be : b ≤ e) : b ≤ x ∧ x ≤ e := by
  induction h with
  | nil => omega
  | @snoc G x y h1 h2 h3 h4 ih =>
    have := step_in s1 hW h2 h3 h4
    omega
/-- few looks: a window each, or a span -/
theorem GrP.few (s1 : 1 ≤ s) (hW : Win W) {G : List Int} {x : Int} (h : GrP s W e b G x) : ∃ m : Nat, G.length + cntW W x ≤ m + cntW W b ∧ (m : Int) * s ≤ x - b := by
  induction h with
  | nil => exact ⟨0, by simp, by simp⟩
  | @snoc G x y h1 h2 h3 h4 ih =>
    obtain ⟨m, m1, m2⟩ := ih
    obtain ⟨k1, k2⟩ := step_in s1 hW h2 h3 h4
    rw [List.length_append, List.length_singleton]
    rcases List.mem_append.mp h3 with z | z
    · obtain ⟨r, r1, r2, r3, r4⟩ := ends_mem.mp z
      have hr := hW r r1
      have := cntW_lt (W := W) (x := x) (y := y) (by omega) ⟨r, r1, r2, by omega⟩
      exact ⟨m, by omega, by omega⟩
    · rw [List.mem_singleton] at z
      have := cntW_mono (W := W) (x := x) (y := y) (by omega)
      refine ⟨m + 1, by omega, ?_⟩
      have e1 : ((m + 1 : Nat) : Int) * s = (m : Int) * s + s := by rw [show ((m + 1 : Nat) : Int) = (m : Int) + 1 by omega, Int.add_mul, Int.one_mul]
      rw [e1]
      omega
/-- a bound of the looks -/
theorem GrP.bound (s1 : 1 ≤ s) (hW : Win W) {G : List Int} {x : Int} (h : GrP s W e b G x) (be : b ≤ e) {m : Nat} (hm : e - b < ((m : Int) + 1) * s) : G.length ≤ m + W.length := by
  obtain ⟨k, k1, k2⟩ := h.few s1 hW
  have hx := h.le s1 hW be
  have kb := cntW_le W b
  have : k ≤ m := by
    rcases Nat.lt_or_ge m k with z | z
    · have : ((m : Int) + 1) * s ≤ (k : Int) * s := Int.mul_le_mul_of_nonneg_right (by omega) (by omega)
      omega
    · exact z
  omega
theorem Gr.path {x : Int} {g : List Int} (h : Gr s W e x g) : ∃ y, GrP s W e x g y := by
  have key : ∀ {x : Int} {g : List Int}, Gr s W e x g → ∀ {b : Int} {G : List Int}, GrP s W e b G x → ∃ y, GrP s W e b (G ++ g) y := by
    intro x g h
    induction h with
    | @done x h1 h2 => exact fun {b G} hG => ⟨x, by rw [List.append_nil]; exact hG⟩
    | @step x y g h1 h2 h3 _ ih =>
      intro b G hG
      have := ih (hG.snoc h1 h2 h3)
      rw [List.append_assoc] at this
      exact this
  exact key h .nil
/-- what is needed is one alone -/
theorem ends_min {W V : List (Int × Int)} (hm : ∀ r, r ∈ W ↔ r ∈ V) {x t u : Int} (h1 : t ∈ ends W x e ++ [x + s]) (h2 : ∀ z ∈ ends W x e ++ [x + s], t ≤ z) (h3 : u ∈ ends V x e ++ [x + s]) (h4 : ∀ z ∈ ends V x e ++ [x + s], u ≤ z) : t = u := by
  have mem : ∀ z, z ∈ ends W x e ↔ z ∈ ends V x e := fun z => by
    rw [ends_mem, ends_mem]
    exact ⟨fun ⟨r, a, k⟩ => ⟨r, (hm r).mp a, k⟩, fun ⟨r, a, k⟩ => ⟨r, (hm r).mpr a, k⟩⟩
  have a := h2 u (by
    rcases List.mem_append.mp h3 with z | z
    · exact List.mem_append_left _ ((mem u).mpr z)
    · exact List.mem_append_right _ z)
  have b := h4 t (by
    rcases List.mem_append.mp h1 with z | z
    · exact List.mem_append_left _ ((mem t).mp z)
    · exact List.mem_append_right _ z)
  omega
theorem ends_nil {W V : List (Int × Int)} (hm : ∀ r, r ∈ W ↔ r ∈ V) {x : Int} (h : ends W x e = []) : ends V x e = [] := by
  refine List.eq_nil_iff_forall_not_mem.mpr fun z hz => ?_
  obtain ⟨r, a, k⟩ := ends_mem.mp hz
  have : z ∈ ends W x e := ends_mem.mpr ⟨r, (hm r).mpr a, k⟩
  rw [h] at this
  cases this
theorem GrL.uniq {W V : List (Int × Int)} (hm : ∀ r, r ∈ W ↔ r ∈ V) {L : List Int} {x : Int} {g : List Int} (h : GrL s W e L x g) : ∀ {g' : List Int}, GrL s V e L x g' → g = g' := by
  induction h with
  | @done x h1 h2 =>
    intro g' k
    cases k with
    | done _ _ => rfl
    | step k1 _ _ _ _ _ _ _ => exact absurd ⟨ends_nil hm h1, h2⟩ k1
  | @step x t y g h1 h2 h3 h4 h5 h6 h7 _ ih =>
    intro g' k
    cases k with
    | done k1 k2 => exact absurd ⟨ends_nil (fun r => (hm r).symm) k1, k2⟩ h1
    | @step _ t' y' g2 k1 k2 k3 k4 k5 k6 k7 k8 =>
      have et := ends_min hm h2 h3 k2 k3
      subst et
      have ey : y = y' := by
        have a := h7 y' k4 k6
        have b := k7 y h4 h6
        omega
      subst ey
      rw [ih k8]
theorem Enough.mem {W V : List (Int × Int)} (hm : ∀ r, r ∈ W ↔ r ∈ V) {L : List Int} : Enough s W b e L ↔ Enough s V b e L :=
  ⟨fun h => ⟨h.1, fun r hr => h.2 r ((hm r).mpr hr)⟩, fun h => ⟨h.1, fun r hr => h.2 r ((hm r).mp hr)⟩⟩
end
/-! ### the mirrors -/
theorem w_few2 (c : Cs) {fu q f : Nat} {s b e : Int} {xs : List IV} {W : List (Int × Int)} {ih : IH} {a6 : Option IV} {S : SQ} {F : ES} (hf : 2000 < fu) (s1 : 1 ≤ s) (be : b ≤ e) (gq : ih[q]? = some (.lst xs)) (pr : PR ih xs W) (hW : Win W) (hl : W.length ≤ 1000)
    (gf : ih[f]? = some (.lst [])) (fq : f ≠ q)
    (fin : ∀ g ih', Gr s W e b g → g.length ≤ 2000 → ih'[f]? = some (.lst (g.map IV.int)) → Fr f ih ih' → ih.length ≤ ih'.length → S (.ret (.ref f)) ih')
    (exc : ∀ G look ih', GrP s W e b G look → G.length = 2001 → Fr f ih ih' → ih.length ≤ ih'.length → ∀ env, F c.TooMany env ih') :
    ws (whileGo (wt_fewest_1 c) (wb_fewest_1 c) fu [some (.int s), some (.ref q), some (.int b), some (.int e), some (.ref f), some (.int b), a6] ih) S F := by
  have fl := lt_of_get gf
  have ql := lt_of_get gq
  refine while_ind (fun _ _ => True) (fun env ih' k => ∃ G look a6, env = [some (.int s), some (.ref q), some (.int b), some (.int e), some (.ref f), some (.int look), a6] ∧ ih'[f]? = some (.lst (G.map IV.int)) ∧ GrP s W e b G look ∧ look ≤ e ∧ G.length ≤ 2000 ∧ k + G.length = 2000 ∧ Fr f ih ih' ∧ ih.length ≤ ih'.length) (fun k env ih' _ hP => ?_) fu 2000 _ ih trivial ⟨[], b, a6, rfl, gf, .nil, be, by simp, by simp, Fr.refl, Nat.le_refl _⟩ (by omega)
  obtain ⟨G, look, a6, ee, gf', hG, le', hF, hk, fr, lx⟩ := hP
  subst ee
  have gq' : ih'[q]? = some (.lst xs) := by rw [fr q ql (Ne.symm fq)]; exact gq
  have pr' : PR ih' xs W := pr.fr fr gf
  have fl' := lt_of_get gf'
  have ql' := lt_of_get gq'
  unfold wt_fewest_1
  clear gq gf fl ql
  walk_at "run"
  unfold wb_fewest_1
  walk_at "run"
  refine w_open c gq' pr' hl fun u ih1 u1 u2 f1 l1 g1 => ?_
  have g1f : ih1[f]? = some (.lst (G.map IV.int)) := by rw [f1 f fl']; exact gf'
  have fr1 := fr.trans f1.fr lx
  have uf : u ≠ f := by omega
  clear gq' pr' pr gf' f1 fr
  walk_at "run"
  refine wp_lst (by simp) (newN fun v ih2 v1 v2 l2 f2 g2 => ?_)
  have g2u : ih2[u]? = some (.lst ((ends W look e).map IV.int)) := by rw [f2 u u2]; exact g1
  have g2f : ih2[f]? = some (.lst (G.map IV.int)) := by rw [f2 f (by omega)]; exact g1f
  have fr2 := fr1.trans f2.fr (by omega)
  clear f2 g1 g1f fr1
  walk_at "run"
  refine wp_eq (Is.ints g2u rfl rfl) (Is.ints (o := .lst []) (ns := []) g2 rfl rfl) (shaped_ints _) (shaped_ints _) ?_
  rw [eqv_list]
  walk_at "run"
  refine k_andD (v := decide (e - look ≤ s)) (by walk_at "run") ?_
  rw [← Bool.decide_and]
  by_cases hd : ends W look e = [] ∧ e - look ≤ s
  · have d1 := decide_eq_true hd
    have kz := fin G ih2 (hG.done hd.1 hd.2) hF g2f fr2 (by omega)
    clear fin exc hG hd g2u g2f fr2
    walk_at "run"
    all_goals exact kz
  · have d1 := decide_eq_false hd
    clear fin
    walk_at "run"
    refine wp_lst (by simp) (newN fun w ih3 w1 w2 l3 f3 g3 => ?_)
    have g3u : ih3[u]? = some (.lst ((ends W look e).map IV.int)) := by rw [f3 u (by omega)]; exact g2u
    have g3f : ih3[f]? = some (.lst (G.map IV.int)) := by rw [f3 f (by omega)]; exact g2f
    have fr3 := fr2.trans f3.fr (by omega)
    have le3 : (ends W look e).length ≤ 1000 := by
      unfold ends
      rw [List.length_map]
      exact Nat.le_trans (List.length_filter_le _ _) hl
    clear f3 g2u g2f fr2 g2
    walk_at "run"
    refine wp_cat g3u g3 (by rw [List.length_map]; simp; omega) (newN fun z ih4 z1 z2 l4 f4 g4 => ?_)
    have g4f : ih4[f]? = some (.lst (G.map IV.int)) := by rw [f4 f (by omega)]; exact g3f
    have fr4 := fr3.trans f4.fr (by omega)
    have g4' : ih4[z]? = some (.lst ((ends W look e ++ [look + s]).map IV.int)) := by rw [g4, List.map_append]; rfl
    clear f4 g3u g3f fr3 g3 g4
    walk_at "run"
    refine wp_min1 (ends W look e ++ [look + s]) g4' (by simp) fun y y1 y2 => ?_
    obtain ⟨k1, k2⟩ := step_in s1 hW hd y1 y2
    have hG' := hG.snoc hd y1 y2
    have Fl : (G.map IV.int).length = G.length := List.length_map _
    have ap : G.map IV.int ++ [.int y] = (G ++ [y]).map IV.int := by rw [List.map_append]; rfl
    have el : ((G.length : Nat) : Int) + 1 = ((G.length + 1 : Nat) : Int) := by omega
    by_cases hx : G.length = 2000
    · have d2 : decide ((2000 : Int) < ((G.length : Nat) : Int) + 1) = true := decide_eq_true (by omega)
      have d3 : decide ((2000 : Int) < ((G.length + 1 : Nat) : Int)) = true := decide_eq_true (by omega)
      have kz := exc (G ++ [y]) y (ih4.set f (.lst (G.map IV.int ++ [.int y]))) hG' (by rw [List.length_append, hx]; rfl) fr4.setp (by rw [List.length_set]; omega)
      clear hG hG' y1 y2 hd fr4 g4' ap exc hx
      walk_at "run"
      first | exact kz _ | (refine ⟨by omega, ?_⟩; exact kz _) | omega
    · have d2 : decide ((2000 : Int) < ((G.length : Nat) : Int) + 1) = false := decide_eq_false (by omega)
      have d3 : decide ((2000 : Int) < ((G.length + 1 : Nat) : Int)) = false := decide_eq_false (by omega)
      have nx : ∃ j, j < k ∧ ∃ G2 look' a6', [some (IV.int s), some (.ref q), some (.int b), some (.int e), some (.ref f), some (.int y), some (.ref u)] = [some (.int s), some (.ref q), some (.int b), some (.int e), some (.ref f), some (.int look'), a6'] ∧ (ih4.set f (.lst (G.map IV.int ++ [.int y])))[f]? = some (.lst (G2.map IV.int)) ∧ GrP s W e b G2 look' ∧ look' ≤ e ∧ G2.length ≤ 2000 ∧ j + G2.length = 2000 ∧ Fr f ih (ih4.set f (.lst (G.map IV.int ++ [.int y]))) ∧ ih.length ≤ (ih4.set f (.lst (G.map IV.int ++ [.int y]))).length :=
        ⟨k - 1, by omega, G ++ [y], y, _, rfl, by rw [g_set (by omega), ap], hG', by omega, by rw [List.length_append, List.length_singleton]; omega, by rw [List.length_append, List.length_singleton]; omega, fr4.setp, by rw [List.length_set]; omega⟩
      clear hG hG' y1 y2 hd fr4 g4' ap exc hx
      walk_at "run"
      first | exact Inv.mk nx | (refine ⟨by omega, ?_⟩; exact Inv.mk nx) | skip

theorem w_fewest2 (c : Cs) {q : Nat} {s b e : Int} {xs : List IV} {W : List (Int × Int)} {ih : IH} {Q : PQ IV} {E : EQ} (s1 : 1 ≤ s) (b0 : 0 ≤ b) (be : b ≤ e) (gq : ih[q]? = some (.lst xs)) (pr : PR ih xs W) (hW : Win W) (hl : W.length ≤ 1000)
    (ke : ∀ G look ih', GrP s W e b G look → G.length = 2001 → Fx ih ih' → ih.length ≤ ih'.length → E c.TooMany ih')
    (k : ∀ f g ih', Gr s W e b g → g.length ≤ 2000 → ih'[f]? = some (.lst (g.map IV.int)) → ih.length ≤ f → Fx ih ih' → ih.length ≤ ih'.length → Q (.ref f) ih') : wp (m_fewest c [.int s, .ref q, .int b, .int e] ih) Q E := by
  have ql := lt_of_get gq
  unfold m_fewest b_fewest
  walk_at "run"
  refine w_frame c s1 b0 be gq pr hW hl fun ih1 f1 l1 => ?_
  have gq1 : ih1[q]? = some (.lst xs) := by rw [f1 q ql]; exact gq
  have pr1 := pr.fx f1
  walk_at "run"
  refine wp_lst (by simp) (newN fun f ih2 f21 f22 l2 f2 g2 => ?_)
  have gq2 : ih2[q]? = some (.lst xs) := by rw [f2 q (by omega)]; exact gq1
  have pr2 := pr1.fx f2
  have fx2 := f1.trans f2 l1
  clear f1 f2 gq1 pr1 pr gq
  walk_at "run"
  intro fu hfu
  refine w_few2 c (by omega) s1 be gq2 pr2 hW hl g2 (by omega) (fun g ih3 hg gl g3 fr3 l3 => ?_) fun G look ih3 hg gl fr3 l3 env => ?_
  · have fx3 : Fx ih ih3 := fun n hn => by rw [fr3 n (by omega) (by omega)]; exact fx2 n hn
    have kz := k f g ih3 hg gl g3 (by omega) fx3 (by omega)
    clear k ke
    walk_at "run"
    all_goals exact kz
  · have fx3 : Fx ih ih3 := fun n hn => by rw [fr3 n (by omega) (by omega)]; exact fx2 n hn
    have kz := ke G look ih3 hg gl fx3 (by omega)
    clear k ke
    walk_at "run"
    all_goals exact kz

theorem last_max {L : List Int} (hp : L.Pairwise (· < ·)) {t w : Int} (hw : w ∈ L) (ht : w ≤ t) : ∃ M y, L.filter (fun x => decide (x ≤ t)) = M ++ [y] ∧ y ∈ L ∧ y ≤ t ∧ w ≤ y ∧ ∀ z ∈ L, z ≤ t → z ≤ y := by
  have ne : L.filter (fun x => decide (x ≤ t)) ≠ [] := List.ne_nil_of_mem (List.mem_filter.mpr ⟨hw, decide_eq_true ht⟩)
  obtain ⟨M, y, e⟩ : ∃ M y, L.filter (fun x => decide (x ≤ t)) = M ++ [y] := ⟨_, _, (List.dropLast_concat_getLast ne).symm⟩
  have pf : (M ++ [y]).Pairwise (· < ·) := by rw [← e]; exact hp.filter _
  have my := List.mem_filter.mp (show y ∈ L.filter (fun x => decide (x ≤ t)) by rw [e]; simp)
  have mx : ∀ z ∈ L, z ≤ t → z ≤ y := fun z hz h => by
    have hm : z ∈ M ++ [y] := by rw [← e]; exact List.mem_filter.mpr ⟨hz, decide_eq_true h⟩
    rcases List.mem_append.mp hm with hm | hm
    · have := (List.pairwise_append.mp pf).2.2 z hm y (by simp)
      omega
    · rw [List.mem_singleton] at hm
      omega
  exact ⟨M, y, e, my.1, of_decide_eq_true my.2, mx w hw ht, mx⟩

theorem w_need2 (c : Cs) {fu q f l : Nat} {s b e : Int} {L : List Int} {xs : List IV} {W : List (Int × Int)} {ih : IH} {a7 a8 a9 : Option IV} {S : SQ} {F : ES} (hf : 2000 < fu) (be : b ≤ e) (gq : ih[q]? = some (.lst xs)) (pr : PR ih xs W) (hW : Win W) (hl : W.length ≤ 1000)
    (gl : ih[l]? = some (.lst (L.map IV.int))) (hL : L.length ≤ 1000) (hp : (b :: L).Pairwise (· < ·)) (he : ∀ y ∈ L, y < e) (hE : Enough s W b e L) (gf : ih[f]? = some (.lst [])) (fq : f ≠ q) (fl : f ≠ l)
    (fin : ∀ g ih', GrL s W e L b g → ih'[f]? = some (.lst (g.map IV.int)) → Fr f ih ih' → ih.length ≤ ih'.length → S (.ret (.ref f)) ih') :
    ws (whileGo (wt_needed_1 c) (wb_needed_1 c) fu [some (.int s), some (.ref q), some (.int b), some (.int e), some (.ref l), some (.ref f), some (.int b), a7, a8, a9] ih) S F := by
  have fll := lt_of_get gf
  have ql := lt_of_get gq
  have lll := lt_of_get gl
  refine while_ind (fun _ _ => True) (fun env ih' k => ∃ F look a7 a8 a9, env = [some (.int s), some (.ref q), some (.int b), some (.int e), some (.ref l), some (.ref f), some (.int look), a7, a8, a9] ∧ ih'[f]? = some (.lst (F.map IV.int)) ∧ (∀ g, GrL s W e L look g → GrL s W e L b (F ++ g)) ∧ look ∈ b :: L ∧ (∀ y ∈ F, y ∈ L ∧ y ≤ look) ∧ F.Pairwise (· < ·) ∧ F.length ≤ L.length ∧ k + F.length = L.length ∧ Fr f ih ih' ∧ ih.length ≤ ih'.length) (fun k env ih' _ hP => ?_) fu L.length _ ih trivial ⟨[], b, a7, a8, a9, rfl, gf, fun g h => h, List.mem_cons_self, (fun y hy => nomatch hy), List.Pairwise.nil, by simp, by simp, Fr.refl, Nat.le_refl _⟩ (by omega)
  obtain ⟨F, look, a7, a8, a9, ee, gf', hG, lm, hF, hFp, hFl, hk, fr, lx⟩ := hP
  subst ee
  have gq' : ih'[q]? = some (.lst xs) := by rw [fr q ql (Ne.symm fq)]; exact gq
  have gl' : ih'[l]? = some (.lst (L.map IV.int)) := by rw [fr l lll (Ne.symm fl)]; exact gl
  have pr' : PR ih' xs W := pr.fr fr gf
  have fl' := lt_of_get gf'
  have ql' := lt_of_get gq'
  have ll' := lt_of_get gl'
  have lle : look ≤ e := by
    rcases List.mem_cons.mp lm with h | h
    · omega
    · have := he look h
      omega
  unfold wt_needed_1
  clear gq gf gl fll ql lll
  walk_at "run"
  unfold wb_needed_1
  walk_at "run"
  refine w_open c gq' pr' hl fun u ih1 u1 u2 f1 l1 g1 => ?_
  have g1f : ih1[f]? = some (.lst (F.map IV.int)) := by rw [f1 f fl']; exact gf'
  have g1l : ih1[l]? = some (.lst (L.map IV.int)) := by rw [f1 l ll']; exact gl'
  have fr1 := fr.trans f1.fr lx
  have uf : u ≠ f := by omega
  clear gq' pr' pr gf' gl' f1 fr
  walk_at "run"
  refine wp_lst (by simp) (newN fun v ih2 v1 v2 l2 f2 g2 => ?_)
  have g2u : ih2[u]? = some (.lst ((ends W look e).map IV.int)) := by rw [f2 u u2]; exact g1
  have g2f : ih2[f]? = some (.lst (F.map IV.int)) := by rw [f2 f (by omega)]; exact g1f
  have g2l : ih2[l]? = some (.lst (L.map IV.int)) := by rw [f2 l (by omega)]; exact g1l
  have fr2 := fr1.trans f2.fr (by omega)
  clear f2 g1 g1f g1l fr1
  walk_at "run"
  refine wp_eq (Is.ints g2u rfl rfl) (Is.ints (o := .lst []) (ns := []) g2 rfl rfl) (shaped_ints _) (shaped_ints _) ?_
  rw [eqv_list]
  walk_at "run"
  refine k_andD (v := decide (e - look ≤ s)) (by walk_at "run") ?_
  rw [← Bool.decide_and]
  by_cases hd : ends W look e = [] ∧ e - look ≤ s
  · have d1 := decide_eq_true hd
    have kz := fin F ih2 (by have := hG [] (.done hd.1 hd.2); rwa [List.append_nil] at this) g2f fr2 (by omega)
    clear fin hG hd g2u g2f g2l fr2 hF hFp
    walk_at "run"
    all_goals exact kz
  · have d1 := decide_eq_false hd
    clear fin
    walk_at "run"
    refine wp_lst (by simp) (newN fun w ih3 w1 w2 l3 f3 g3 => ?_)
    have g3u : ih3[u]? = some (.lst ((ends W look e).map IV.int)) := by rw [f3 u (by omega)]; exact g2u
    have g3f : ih3[f]? = some (.lst (F.map IV.int)) := by rw [f3 f (by omega)]; exact g2f
    have g3l : ih3[l]? = some (.lst (L.map IV.int)) := by rw [f3 l (by omega)]; exact g2l
    have fr3 := fr2.trans f3.fr (by omega)
    have le3 : (ends W look e).length ≤ 1000 := by
      unfold ends
      rw [List.length_map]
      exact Nat.le_trans (List.length_filter_le _ _) hl
    clear f3 g2u g2f g2l fr2 g2
    walk_at "run"
    refine wp_cat g3u g3 (by rw [List.length_map]; simp; omega) (newN fun z ih4 z1 z2 l4 f4 g4 => ?_)
    have g4f : ih4[f]? = some (.lst (F.map IV.int)) := by rw [f4 f (by omega)]; exact g3f
    have g4l : ih4[l]? = some (.lst (L.map IV.int)) := by rw [f4 l (by omega)]; exact g3l
    have fr4 := fr3.trans f4.fr (by omega)
    have g4' : ih4[z]? = some (.lst ((ends W look e ++ [look + s]).map IV.int)) := by rw [g4, List.map_append]; rfl
    clear f4 g3u g3f g3l fr3 g3 g4
    walk_at "run"
    refine wp_min1 (ends W look e ++ [look + s]) g4' (by simp) fun t t1 t2 => ?_
    obtain ⟨w, hw, w3, w4⟩ := next_in hE hp hW lm hd t1 t2
    obtain ⟨M, y, eM, yL, yt, wy, ym⟩ := last_max (List.pairwise_cons.mp hp).2 hw w4
    have xy : look < y := by omega
    have hye := he y yL
    have hG' : ∀ g, GrL s W e L y g → GrL s W e L b (F ++ [y] ++ g) := fun g hg => by
      rw [List.append_assoc]
      exact hG _ (.step hd t1 t2 yL xy yt ym hg)
    have Fm : ∀ z ∈ F ++ [y], z ∈ L ∧ z ≤ y := fun z hz => by
      rcases List.mem_append.mp hz with h | h
      · have := hF z h
        exact ⟨this.1, by omega⟩
      · rw [List.mem_singleton.mp h]
        exact ⟨yL, Int.le_refl _⟩
    have Fp : (F ++ [y]).Pairwise (· < ·) := List.pairwise_append.mpr ⟨hFp, List.pairwise_singleton _ _, fun a ha x hx => by
      have := (hF a ha).2
      rw [List.mem_singleton.mp hx]
      omega⟩
    have Fle : (F ++ [y]).length ≤ L.length := by
      obtain ⟨n, _, e⟩ := pick_of (List.pairwise_cons.mp hp).2 Fp fun z hz => (Fm z hz).1
      have := (pick_sub L n).length_le
      rwa [e] at this
    rw [List.length_append, List.length_singleton] at Fle
    clear hF hFp
    walk_at "run"
    unfold lc_needed_1
    walk_at "run"
    refine lc_intT L (fun x => decide (x ≤ t)) (fun x => .int x) g4l (by omega) (fun x hx ih5 f5 => ?_) (fun x hx _ ih5 f5 => ?_) (newN fun p ih5 p1 p2 l5 f5 g5 => ?_)
    · unfold ln_needed_1
      clear hG hG' t1 t2 hd fr4 g4' ym eM g4f Fm Fp
      walk_at "run"
    · unfold le_needed_1
      clear hG hG' t1 t2 hd fr4 g4' ym eM g4f Fm Fp
      walk_at "run"
    have g5f : ih5[f]? = some (.lst (F.map IV.int)) := by rw [f5 f (by omega)]; exact g4f
    have g5' : ih5[p]? = some (.lst (M.map IV.int ++ [.int y])) := by rw [g5, eM, List.map_append]; rfl
    have fr5 := fr4.trans f5.fr (by omega)
    have Fl : (F.map IV.int).length = F.length := List.length_map _
    have ap : F.map IV.int ++ [.int y] = (F ++ [y]).map IV.int := by rw [List.map_append]; rfl
    have nx : ∃ j, j < k ∧ ∃ G look' a7' a8' a9', [some (IV.int s), some (.ref q), some (.int b), some (.int e), some (.ref l), some (.ref f), some (.int y), some (.ref u), some (.int t), a9] = [some (.int s), some (.ref q), some (.int b), some (.int e), some (.ref l), some (.ref f), some (.int look'), a7', a8', a9'] ∧ (ih5.set f (.lst (F.map IV.int ++ [.int y])))[f]? = some (.lst (G.map IV.int)) ∧ (∀ g, GrL s W e L look' g → GrL s W e L b (G ++ g)) ∧ look' ∈ b :: L ∧ (∀ y ∈ G, y ∈ L ∧ y ≤ look') ∧ G.Pairwise (· < ·) ∧ G.length ≤ L.length ∧ j + G.length = L.length ∧ Fr f ih (ih5.set f (.lst (F.map IV.int ++ [.int y]))) ∧ ih.length ≤ (ih5.set f (.lst (F.map IV.int ++ [.int y]))).length :=
      ⟨k - 1, by omega, F ++ [y], y, _, _, _, rfl, by rw [g_set (by omega), ap], hG', List.mem_cons_of_mem _ yL, Fm, Fp, by rw [List.length_append, List.length_singleton]; omega, by rw [List.length_append, List.length_singleton]; omega, fr5.setp, by rw [List.length_set]; omega⟩
    have al : atI (M.map IV.int ++ [IV.int y]) (-1) = some (.int y) := by rw [atI_last]
    clear hG hG' t1 t2 hd fr4 fr5 g4' ap ym eM g4f g4l f5 g5 hE hp Fm Fp
    walk_at "run"
    first | exact Inv.mk nx | (refine ⟨by omega, ?_⟩; exact Inv.mk nx) | skip

theorem w_needed2 (c : Cs) {q l : Nat} {s b e : Int} {L : List Int} {xs : List IV} {W : List (Int × Int)} {ih : IH} {Q : PQ IV} {E : EQ} (s1 : 1 ≤ s) (b0 : 0 ≤ b) (be : b ≤ e) (gq : ih[q]? = some (.lst xs)) (pr : PR ih xs W) (hW : Win W) (hl : W.length ≤ 1000)
    (gl : ih[l]? = some (.lst (L.map IV.int))) (hL : L.length ≤ 1000) (hp : (b :: L).Pairwise (· < ·)) (he : ∀ y ∈ L, y < e)
    (kn : ∀ ih', ¬ Enough s W b e L → Fx ih ih' → ih.length ≤ ih'.length → Q .non ih')
    (k : ∀ f g ih', GrL s W e L b g → ih'[f]? = some (.lst (g.map IV.int)) → ih.length ≤ f → Fx ih ih' → ih.length ≤ ih'.length → Q (.ref f) ih') : wp (m_needed c [.int s, .ref q, .int b, .int e, .ref l] ih) Q E := by
  have ql := lt_of_get gq
  have ll := lt_of_get gl
  unfold m_needed b_needed
  walk_at "run"
  refine w_frame c s1 b0 be gq pr hW hl fun ih1 f1 l1 => ?_
  have gq1 : ih1[q]? = some (.lst xs) := by rw [f1 q ql]; exact gq
  have gl1 : ih1[l]? = some (.lst (L.map IV.int)) := by rw [f1 l ll]; exact gl
  have pr1 := pr.fx f1
  have f01 := f1
  clear f1 gq gl pr
  walk_at "run"
  refine w_islooks c gl1 hp he hL fun ih2 f2 l2 => ?_
  have gq2 : ih2[q]? = some (.lst xs) := by rw [f2 q (by omega)]; exact gq1
  have gl2 : ih2[l]? = some (.lst (L.map IV.int)) := by rw [f2 l (by omega)]; exact gl1
  have pr2 := pr1.fx f2
  have f02 := f01.trans f2 (by omega)
  clear f2 f01 gq1 gl1 pr1
  walk_at "run"
  refine w_suffices c gq2 pr2 hl gl2 hL fun v ih3 hv f3 l3 => ?_
  have gq3 : ih3[q]? = some (.lst xs) := by rw [f3 q (by omega)]; exact gq2
  have gl3 : ih3[l]? = some (.lst (L.map IV.int)) := by rw [f3 l (by omega)]; exact gl2
  have pr3 := pr2.fx f3
  have f03 := f02.trans f3 (by omega)
  clear f3 f02 gq2 gl2 pr2
  cases v with
  | false =>
    have kz := kn ih3 (fun h => nomatch hv.mpr h) f03 (by omega)
    clear kn k
    walk_at "run"
    all_goals exact kz
  | true =>
    have hE := hv.mp rfl
    clear kn hv
    walk_at "run"
    refine wp_lst (by simp) (newN fun f ih4 f41 f42 l4 f4 g4 => ?_)
    have gq4 : ih4[q]? = some (.lst xs) := by rw [f4 q (by omega)]; exact gq3
    have gl4 : ih4[l]? = some (.lst (L.map IV.int)) := by rw [f4 l (by omega)]; exact gl3
    have pr4 := pr3.fx f4
    have f04 := f03.trans f4 (by omega)
    clear f4 f03 gq3 gl3 pr3
    walk_at "run"
    intro fu hfu
    refine w_need2 c (by omega) be gq4 pr4 hW hl gl4 hL hp he hE g4 (by omega) (by omega) fun g ih5 hg g5 fr5 l5 => ?_
    have f05 : Fx ih ih5 := fun n hn => by rw [fr5 n (by omega) (by omega)]; exact f04 n hn
    have kz := k f g ih5 hg g5 (by omega) f05 (by omega)
    clear k
    walk_at "run"
    all_goals exact kz

end L3
/-! K33b: looks at the last moment, each with its reason. (L14) -/
namespace L3
open PySem PySem.Spec PyProof.Rows L2
local macro_rules | `(tactic| walk_at "get") => `(tactic| simp (disch := first | assumption | omega | (simp only [List.length_append, List.length_set, List.length_cons, List.length_nil, List.length_map] <;> omega) | fail) only [g_new, g_nw, g_old, g_set, g_sne, List.length_append, List.length_set, List.length_cons, List.length_nil, List.length_map, List.map_map, Function.comp_def, xs_lst, xs_tup, isL_lst, isL_tup, ↓reduceIte, *])
local macro_rules | `(tactic| walk_at "fr") => `(tactic| first | (intro _ _ _; simp (disch := first | assumption | omega | (simp only [List.length_append, List.length_set, List.length_cons, List.length_nil, List.length_map] <;> omega) | fail) only [g_new, g_nw, g_old, g_set, g_sne, List.length_append, List.length_set, List.length_cons, List.length_nil, List.length_map, List.map_map, Function.comp_def, xs_lst, xs_tup, isL_lst, isL_tup, ↓reduceIte, *]) | (intro _ _; simp (disch := first | assumption | omega | (simp only [List.length_append, List.length_set, List.length_cons, List.length_nil, List.length_map] <;> omega) | fail) only [g_new, g_nw, g_old, g_set, g_sne, List.length_append, List.length_set, List.length_cons, List.length_nil, List.length_map, List.map_map, Function.comp_def, xs_lst, xs_tup, isL_lst, isL_tup, ↓reduceIte, *]))
local macro_rules | `(tactic| walk_at "run") => `(tactic| simp -implicitDefEqProofs (disch := first | assumption | omega | (simp only [List.length_append, List.length_set, List.length_cons, List.length_nil, List.length_map] <;> omega) | fail) only [wp_ok, wp_exc, wp_stuck, ws_ok, ws_exc, ws_stuck, wp_op, kk_op, kk_un, wp_un, wp_cons, kk_cons, kk_cons2, wp_nil, wp_c, wp_app, wp_if, kk_if1, kk_if0, wp_and, kk_and1, kk_and0, wp_or, kk_or1, kk_or0, wp_not, kk_not, wp_tb, kk_tb, wp_andV, kk_andV1, kk_andV0, wp_orV, kk_orV1, kk_orV0, wp_notV, kk_notV, wp_noneS, wp_some, kk_some, wp_sl, kk_sl, kk_sl2, kk_sl3, wp_mL, kk_mL, kk_mL2, wp_mL0, kk_mL0, wp_chain, kk_ch, kk_ch2, kk_ch31, kk_ch30, ws_set, kks_nm, kks_g, kks_tup, kks_lst, ws_expr, kks_expr, ws_ret, kks_ret, ws_retN, ws_pass, ws_brk, ws_cont, ws_raise, ws_if, kks_if1, kks_if0, ws_seq, kks_next, kks_retS, kks_brk, kks_cont, kk_augE, ws_aug, kks_aug, kks_aug2, ws_par, kks_par, ws_setL, kks_sl, kks_sl2, kks_sl3, wp_def, kkd_ret, kkd_next, kkdE, kkE, ws_for, wp_lc, wp_r1, kk_r1, wp_r2, kk_r2, wp_il, wp_it, wp_ie, wp_iz, kk_il, kk_il2, kk_it, kk_it2, kk_ie, kk_ie2, kk_iz, kk_iz2, lAt_k, k_lAtL, k_lAtO, k_lAtT, wp_int, wp_add, wp_addI, wp_sub, wp_neg, wp_lt, wp_le, wp_gt, wp_ge, wp_max2, wp_min2, wp_abs, wp_mulI, wp_mul, wp_fdiv, wp_mod, wp_shl, wp_shr, wp_pow, wp_isN, wp_notN, wp_eqI, wp_neI, wp_ix, kk_ix, kk_ix2, wp_len, kk_lenL, kk_lenT, kk_lenO, kk_lenP, wp_appd, kk_app1, isL_k, kk_isL, startI_cons, startI_nil, rep_succ, rep_zero, List.getElem?_cons_zero, List.getElem?_cons_succ, List.set_cons_zero, List.set_cons_succ, f_call, m_var, List.append_nil, List.nil_append, List.cons_append, List.length_cons, List.length_nil, if_true, if_false, g_tup, g_lst, g_cons, g_nil, g_nm, Option.bind_some, kks_g, atI_0, atI_1, atI_2, atI_3, atI_4, atI_5, atI_6, atI_7, atI_8, atI_9, atI_10, atI_11, atI_12, atI_last, cutI_1, ixN_30, ixN_31, ixN_32, Int.toNat_zero, Int.reduceToNat, Int.reduceNeg, xs_lst, xs_tup, xs_ro, xs_rot, isL_lst, isL_tup, isL_ro, isL_rot, isT_tup, isT_rot, Bool.false_eq_true, Bool.true_eq_false, Bool.not_true, Bool.not_false, decide_true, decide_false, Int.reduceLT, Int.reduceLE, Nat.reduceLT, Nat.reduceLeDiff, Nat.reduceAdd, Nat.reduceEqDiff, Bool.not_eq_true, true_and, and_true, and_self, eq_self, g_new, g_nw, g_old, g_set, g_sne, List.length_set, List.length_append, wp_r3, kk_r3, Int.cast_ofNat_Int, Int.reduceEq, Int.natCast_zero, Int.natCast_one, ws_whileA, wp_isiII, wp_isiIB, wp_isiR, tyO_l, tyO_t, kk_isi, kk_isi2, kit_ll, kit_tt, kit_lt, kit_tl, wp_isiN, wp_isiBl, wp_isiS, tyO_d, kit2_NoneType_int, kit2_NoneType_bool, kit2_NoneType_list, kit2_NoneType_tuple, kit2_NoneType_str, kit2_bool_int, kit2_bool_bool, kit2_bool_list, kit2_bool_tuple, kit2_bool_str, kit2_str_int, kit2_str_bool, kit2_str_list, kit2_str_tuple, kit2_str_str, kit2_dict_int, kit2_dict_bool, kit2_dict_list, kit2_dict_tuple, kit2_dict_str, kit2_list_int, kit2_list_bool, kit2_list_str, kit2_tuple_int, kit2_tuple_bool, kit2_tuple_str, kit2_int_list, kit2_int_tuple, kit2_int_str, kf_next, kf_cont, kf_brk, kf_ret, wipeI, wp_chain3, kk_d1, kk_d2, kk_d31, kk_d30, ws_tries, kk_tries0, kk_tries, kk_goHt, kk_goHf, ws_par3, kks_par3, wp_isB, wp_intBl, ↓reduceIte, *])
section
variable {q l : Nat} {s b e : Int} {L : List Int} {xs : List IV} {W : List (Int × Int)} {ih : IH} {Q : PQ IV} {E : EQ}
theorem w_isenough (c : Cs) (s1 : 1 ≤ s) (b0 : 0 ≤ b) (be : b ≤ e) (gq : ih[q]? = some (.lst xs)) (pr : PR ih xs W) (hW : Win W) (hl : W.length ≤ 1000)
    (gl : ih[l]? = some (.lst (L.map IV.int))) (hL : L.length ≤ 1000) (hp : (b :: L).Pairwise (· < ·)) (he : ∀ y ∈ L, y < e)
    (k : ∀ v ih', (v = true ↔ Enough s W b e L) → Fx ih ih' → ih.length ≤ ih'.length → Q (.bl v) ih') : wp (m_is_enough c [.int s, .ref q, .int b, .int e, .ref l] ih) Q E := by
  have ql := lt_of_get gq
  have ll := lt_of_get gl
  unfold m_is_enough b_is_enough
  walk_at "run"
  refine w_frame c s1 b0 be gq pr hW hl fun ih1 f1 l1 => ?_
  have gq1 : ih1[q]? = some (.lst xs) := (f1 q ql).trans gq
  have gl1 : ih1[l]? = some (.lst (L.map IV.int)) := (f1 l ll).trans gl
  have pr1 := pr.fx f1
  have f01 := f1
  clear f1 gq gl pr
  walk_at "run"
  refine w_islooks c gl1 hp he hL fun ih2 f2 l2 => ?_
  have gq2 : ih2[q]? = some (.lst xs) := (f2 q (by omega)).trans gq1
  have gl2 : ih2[l]? = some (.lst (L.map IV.int)) := (f2 l (by omega)).trans gl1
  have pr2 := pr1.fx f2
  have f02 := f01.trans f2 l1
  clear f2 f01 gq1 gl1 pr1
  walk_at "run"
  refine w_suffices c gq2 pr2 hl gl2 hL fun v ih3 hv f3 l3 => ?_
  have kz := k v ih3 hv (f02.trans f3 (by omega)) (by omega)
  clear k f3 f02 hv hp he
  walk_at "run"
  all_goals exact kz
theorem w_reasons (c : Cs) {g : List Int} (s1 : 1 ≤ s) (gq : ih[q]? = some (.lst xs)) (pr : PR ih xs W) (hW : Win W) (hl : W.length ≤ 1000)
    (gl : ih[l]? = some (.lst (g.map IV.int))) (hL : g.length ≤ 1000) (hg : Gr s W e b g)
    (k : ∀ f ys ss ih', ih'[f]? = some (.lst ys) → PR ih' ys ss → Cert s W e b ss → ss.length = g.length → Fx ih ih' → ih.length ≤ ih'.length → Q (.ref f) ih') : wp (m_law_reasons c [.int s, .ref q, .int b, .int e, .ref l] ih) Q E := by
  have ql := lt_of_get gq
  have ll := lt_of_get gl
  unfold m_law_reasons b_law_reasons
  walk_at "run"
  rw [a_lst (by simp), wp_ok]
  generalize hP : k_cons _ _ _ _ = P
  refine newN fun f ih1 f11 f12 l1 f1 g1 => ?_
  subst hP
  have gq1 := (f1 q ql).trans gq
  have gl1 := (f1 l ll).trans gl
  have pr1 := pr.fx f1
  have F1 := f1
  clear f1 gq gl pr
  walk_at "run"
  refine wp_tup (by simp) ?_
  generalize hP : ks_set _ _ _ = P
  refine newN fun t ih2 t1 t2 l2 f2 g2 => ?_
  subst hP
  have gq2 := (f2 q (by omega)).trans gq1
  have gl2 := (f2 l (by omega)).trans gl1
  have g12 := (f2 f f12).trans g1
  have pr2 := pr1.fx f2
  have F2 := Hide.mk (F1.trans f2 (by omega))
  clear f2 gq1 gl1 pr1 g1 F1
  walk_at "run"
  refine for_lst1 (fun i env ih' => (∃ ys ss look a7 a8 a9, env = [some (.int s), some (.ref q), some (.int b), some (.int e), some (.ref l), some (.ref f), some (.int look), a7, a8, a9, none, none] ∧ ih'[f]? = some (.lst ys) ∧ PR ih' ys ss ∧ ss.length = i ∧ (∀ rest, Cert s W e look rest → Cert s W e b (ss ++ rest)) ∧ Gr s W e look (g.drop i)) ∧ Fr f ih2 ih' ∧ ih2.length ≤ ih'.length) gl2 rfl
    ⟨⟨[], [], b, _, _, _, rfl, g12, trivial, rfl, fun rest h => h, by rw [List.drop_zero]; exact hg⟩, Fr.refl, Nat.le_refl _⟩ (fun i env ih' h => (h.2.1 l (by omega) (by omega)).trans gl2) (fun i v env ih3 hi h => ?_) fun env ih3 h => ?_
  · obtain ⟨⟨ys, ss, look, a7, a8, a9, ee, g3, ps, ls, hC, hG⟩, fr, lx⟩ := h
    subst ee
    rw [xs_lst, List.getElem?_map] at hi
    obtain ⟨y, hy, rfl⟩ : ∃ y, g[i]? = some y ∧ v = .int y := by
      cases h : g[i]? with
      | none => rw [h] at hi; cases hi
      | some y => rw [h] at hi; exact ⟨y, rfl, (Option.some.inj hi).symm⟩
    have ed : g.drop i = y :: g.drop (i + 1) := List.drop_eq_getElem?_toList_append.trans (by rw [hy]; rfl)
    rw [ed] at hG
    have il : i < g.length := (List.getElem?_eq_some_iff.mp hy).1
    cases hG with
    | step h1 h2 h3 h4 =>
    have gq3 := (fr q (by omega) (by omega)).trans gq2
    have pr3 : PR ih3 xs W := pr2.fr fr g12
    have fl3 := lt_of_get g3
    have ql3 := lt_of_get gq3
    obtain ⟨k1, k2⟩ := step_in s1 hW h1 h2 h3
    have frh := Hide.mk fr
    clear k gl2 gq2 pr2 g12 g2 hi ed hy hg fr
    unfold lb_law_reasons_1 lc_law_reasons_1
    walk_at "run"
    refine lc_rowsG (fun r => decide (look < r.1) && decide (r.2 < e)) (fun r => (r.2, r.1)) gq3 pr3 (by omega) (fun r hr ih' fx => ?_) (fun r hr _ ih' fx => ?_) fun ih4 zs f4 l4 g4 p4 => ?_
    · unfold ln_law_reasons_1
      clear fx hC g3 gq3
      walk_at "run"
      refine k_andD (v := decide (r.2 < e)) (by walk_at "run") ⟨rfl, rfl⟩
    · unfold le_law_reasons_1
      clear fx hC g3 gq3
      walk_at "run"
      exact wp_tup (by simp) ⟨⟨ih'.length, rfl, g_new⟩, Fx.app, by simp⟩
    have fr4 := Hide.mk (frh.get.trans f4.fr lx)
    have g3' := (f4 f fl3).trans g3
    have ps4 := ps.fx f4
    obtain ⟨d, ed⟩ : ∃ d, ih3.length = d := ⟨_, rfl⟩
    rw [ed] at g4 l4 ⊢
    clear f4 frh g3 ps gq3
    walk_at "run"
    refine wp_tup (by simp) ?_
    generalize hP : k_cons _ _ _ _ = P
    refine newN fun u ih5 u1 u2 l5 f5 g5 => ?_
    subst hP
    have g35 := (f5 f (by omega)).trans g3'
    have g45 := (f5 d l4).trans g4
    have ps5 := ps4.fx f5
    have p5 := p4.fx f5
    have fr5 := Hide.mk (fr4.get.trans f5.fr (by omega))
    clear f5 g3' g4 ps4 p4 fr4
    walk_at "run"
    rw [a_lst (by simp), wp_ok]
    generalize hP : k_op _ _ _ _ _ = P
    refine newN fun w ih6 w1 w2 l6 f6 g6 => ?_
    subst hP
    have g36 := (f6 f (by omega)).trans g35
    have g46 := (f6 d (by omega)).trans g45
    have g56 := (f6 u u2).trans g5
    have ps6 := ps5.fx f6
    have p6 := p5.fx f6
    have fr6 := Hide.mk (fr5.get.trans f6.fr (by omega))
    clear f6 g35 g45 g5 ps5 p5 fr5
    have zl := p6.len
    have fle := List.length_filter_le (fun r : Int × Int => decide (look < r.1) && decide (r.2 < e)) W
    rw [List.length_map] at zl
    walk_at "run"
    refine wp_cat g6 g46 (by simp only [List.length_cons, List.length_nil]; omega) ?_
    generalize hP : k_cons _ _ _ _ = P
    refine newN fun x ih7 x1 x2 l7 f7 g7 => ?_
    subst hP
    have g37 := (f7 f (by omega)).trans g36
    have g57 := (f7 u (by omega)).trans g56
    have ps7 := ps6.fx f7
    have p7 : PR ih7 ([.ref u] ++ zs) ((look + s, look + 1) :: (W.filter fun r => decide (look < r.1) && decide (r.2 < e)).map fun r => (r.2, r.1)) := ⟨g57, p6.fx f7⟩
    have fr7 := Hide.mk (fr6.get.trans f7.fr (by omega))
    clear f7 g36 g46 g56 ps6 p6 fr6 g6
    rw [kk_cons, wp_nil, kk_cons2, kk_un]
    refine wp_minP g7 p7 (by simp) fun n r hr gn hmin => ?_
    have hry : r.1 = y ∧ (look < r.2 ∧ r.2 ≤ y ∧ ((r.2, y) ∈ W ∨ y - r.2 + 1 = s)) := by
      have lo : r.1 ≤ y := by
        rcases List.mem_append.mp h2 with z | z
        · obtain ⟨w, w1, w2, w3, w4⟩ := ends_mem.mp z
          have := hmin (w.2, w.1) (List.mem_cons_of_mem _ (List.mem_map.mpr ⟨w, List.mem_filter.mpr ⟨w1, by rw [decide_eq_true w2, decide_eq_true w3]; rfl⟩, rfl⟩))
          dsimp only at this
          omega
        · rw [List.mem_singleton] at z
          have := hmin (look + s, look + 1) List.mem_cons_self
          dsimp only at this
          omega
      rcases List.mem_cons.mp hr with z | z
      · subst z
        have := h3 (look + s) (List.mem_append_right _ (List.mem_singleton_self _))
        dsimp only at lo ⊢
        omega
      · obtain ⟨w, w1, w2⟩ := List.mem_map.mp z
        obtain ⟨w3, w4⟩ := List.mem_filter.mp w1
        rw [Bool.and_eq_true] at w4
        have w5 := of_decide_eq_true w4.1
        have w6 := of_decide_eq_true w4.2
        have wW := hW w w3
        have := h3 w.2 (List.mem_append_left _ (ends_mem.mpr ⟨w, w3, w5, w6, rfl⟩))
        subst w2
        dsimp only at lo ⊢
        have ew : w.2 = y := by omega
        refine ⟨ew, w5, by omega, .inl ?_⟩
        rw [← ew]
        exact w3
    obtain ⟨e1, e2, e3, e4⟩ := hry
    obtain ⟨r1, r2⟩ := r
    dsimp only at e1 e2 e3 e4 gn
    subst e1
    have yl := ps7.len
    have dd : decide (r1 = r1) = true := decide_eq_true rfl
    clear hmin hr p7 g7 g57 h2 h3 h1
    walk_at "run"
    refine wp_tup (by simp) ?_
    generalize hP : k_cons _ _ _ _ = P
    refine newN fun z ih8 z1 z2 l8 f8 g8 => ?_
    subst hP
    have g38 := (f8 f (by omega)).trans g37
    have ps8 := ps7.fx f8
    have fr8 := Hide.mk (fr7.get.trans f8.fr (by omega))
    have zf : z ≠ f := by omega
    clear f8 g37 ps7 fr7 gn
    have nx := Hide.mk (show Fr f ih2 (ih8.set f (.lst (ys ++ [.ref z]))) ∧ ih2.length ≤ (ih8.set f (.lst (ys ++ [.ref z]))).length from ⟨fr8.get.setp, by rw [List.length_set]; omega⟩)
    have ny : (ih8.set f (.lst (ys ++ [.ref z])))[f]? = some (.lst (ys ++ [.ref z])) := g_set (by omega)
    have nz : PR (ih8.set f (.lst (ys ++ [.ref z]))) (ys ++ [.ref z]) (ss ++ [(r2, r1)]) := (ps8.setA g38).app (by rw [g_sne (Ne.symm zf)]; exact g8)
    have nc : ∀ rest, Cert s W e r1 rest → Cert s W e b (ss ++ [(r2, r1)] ++ rest) := fun rest h => by
      rw [List.append_assoc]
      exact hC _ ⟨⟨e2, e3, k2⟩, e4, h⟩
    clear ps8 g8 hC fr8
    walk_at "run"
    refine ⟨by omega, ?_⟩
    exact Inv.mk ⟨⟨_, _, r1, _, _, _, rfl, ny, nz, by rw [List.length_append, ls]; rfl, nc, h4⟩, nx.get⟩
  · obtain ⟨⟨ys, ss, look, a7, a8, a9, ee, g3, ps, ls, hC, hG⟩, fr, lx⟩ := h
    subst ee
    rw [xs_lst, List.length_map] at ls
    have fx3 : Fx ih ih3 := fun n hn => by rw [fr n (by omega) (by omega)]; exact F2.get n hn
    have kz := k f ys ss ih3 g3 ps (by have := hC [] trivial; rwa [List.append_nil] at this) ls fx3 (by omega)
    clear k g3 ps fr hC fx3 gq2 gl2 F2 g12 g2
    walk_at "run"
    all_goals exact kz
end
end L3
/-! K33c: fewest looks far away: the law's parts. (L14) -/
namespace L3
open PySem PySem.Spec PyProof.Rows L2
local macro_rules | `(tactic| walk_at "get") => `(tactic| simp (disch := first | assumption | omega | (simp only [List.length_append, List.length_set, List.length_cons, List.length_nil, List.length_map] <;> omega) | fail) only [g_new, g_nw, g_old, g_set, g_sne, List.length_append, List.length_set, List.length_cons, List.length_nil, List.length_map, List.map_map, Function.comp_def, xs_lst, xs_tup, isL_lst, isL_tup, ↓reduceIte, *])
local macro_rules | `(tactic| walk_at "fr") => `(tactic| first | (intro _ _ _; simp (disch := first | assumption | omega | (simp only [List.length_append, List.length_set, List.length_cons, List.length_nil, List.length_map] <;> omega) | fail) only [g_new, g_nw, g_old, g_set, g_sne, List.length_append, List.length_set, List.length_cons, List.length_nil, List.length_map, List.map_map, Function.comp_def, xs_lst, xs_tup, isL_lst, isL_tup, ↓reduceIte, *]) | (intro _ _; simp (disch := first | assumption | omega | (simp only [List.length_append, List.length_set, List.length_cons, List.length_nil, List.length_map] <;> omega) | fail) only [g_new, g_nw, g_old, g_set, g_sne, List.length_append, List.length_set, List.length_cons, List.length_nil, List.length_map, List.map_map, Function.comp_def, xs_lst, xs_tup, isL_lst, isL_tup, ↓reduceIte, *]))
local macro_rules | `(tactic| walk_at "run") => `(tactic| simp -implicitDefEqProofs (disch := first | assumption | omega | (simp only [List.length_append, List.length_set, List.length_cons, List.length_nil, List.length_map] <;> omega) | fail) only [wp_ok, wp_exc, wp_stuck, ws_ok, ws_exc, ws_stuck, wp_op, kk_op, kk_un, wp_un, wp_cons, kk_cons, kk_cons2, wp_nil, wp_c, wp_app, wp_if, kk_if1, kk_if0, wp_and, kk_and1, kk_and0, wp_or, kk_or1, kk_or0, wp_not, kk_not, wp_tb, kk_tb, wp_andV, kk_andV1, kk_andV0, wp_orV, kk_orV1, kk_orV0, wp_notV, kk_notV, wp_noneS, wp_some, kk_some, wp_sl, kk_sl, kk_sl2, kk_sl3, wp_mL, kk_mL, kk_mL2, wp_mL0, kk_mL0, wp_chain, kk_ch, kk_ch2, kk_ch31, kk_ch30, ws_set, kks_nm, kks_g, kks_tup, kks_lst, ws_expr, kks_expr, ws_ret, kks_ret, ws_retN, ws_pass, ws_brk, ws_cont, ws_raise, ws_if, kks_if1, kks_if0, ws_seq, kks_next, kks_retS, kks_brk, kks_cont, kk_augE, ws_aug, kks_aug, kks_aug2, ws_par, kks_par, ws_setL, kks_sl, kks_sl2, kks_sl3, wp_def, kkd_ret, kkd_next, kkdE, kkE, ws_for, wp_lc, wp_r1, kk_r1, wp_r2, kk_r2, wp_il, wp_it, wp_ie, wp_iz, kk_il, kk_il2, kk_it, kk_it2, kk_ie, kk_ie2, kk_iz, kk_iz2, lAt_k, k_lAtL, k_lAtO, k_lAtT, wp_int, wp_add, wp_addI, wp_sub, wp_neg, wp_lt, wp_le, wp_gt, wp_ge, wp_max2, wp_min2, wp_abs, wp_mulI, wp_mul, wp_fdiv, wp_mod, wp_shl, wp_shr, wp_pow, wp_isN, wp_notN, wp_eqI, wp_neI, wp_ix, kk_ix, kk_ix2, wp_len, kk_lenL, kk_lenT, kk_lenO, kk_lenP, wp_appd, kk_app1, isL_k, kk_isL, startI_cons, startI_nil, rep_succ, rep_zero, List.getElem?_cons_zero, List.getElem?_cons_succ, List.set_cons_zero, List.set_cons_succ, f_call, m_var, List.append_nil, List.nil_append, List.cons_append, List.length_cons, List.length_nil, if_true, if_false, g_tup, g_lst, g_cons, g_nil, g_nm, Option.bind_some, kks_g, atI_0, atI_1, atI_2, atI_3, atI_4, atI_5, atI_6, atI_7, atI_8, atI_9, atI_10, atI_11, atI_12, atI_last, cutI_1, ixN_30, ixN_31, ixN_32, Int.toNat_zero, Int.reduceToNat, Int.reduceNeg, xs_lst, xs_tup, xs_ro, xs_rot, isL_lst, isL_tup, isL_ro, isL_rot, isT_tup, isT_rot, Bool.false_eq_true, Bool.true_eq_false, Bool.not_true, Bool.not_false, decide_true, decide_false, Int.reduceLT, Int.reduceLE, Nat.reduceLT, Nat.reduceLeDiff, Nat.reduceAdd, Nat.reduceEqDiff, Bool.not_eq_true, true_and, and_true, and_self, eq_self, g_new, g_nw, g_old, g_set, g_sne, List.length_set, List.length_append, wp_r3, kk_r3, Int.cast_ofNat_Int, Int.reduceEq, Int.natCast_zero, Int.natCast_one, ws_whileA, wp_isiII, wp_isiIB, wp_isiR, tyO_l, tyO_t, kk_isi, kk_isi2, kit_ll, kit_tt, kit_lt, kit_tl, wp_isiN, wp_isiBl, wp_isiS, tyO_d, kit2_NoneType_int, kit2_NoneType_bool, kit2_NoneType_list, kit2_NoneType_tuple, kit2_NoneType_str, kit2_bool_int, kit2_bool_bool, kit2_bool_list, kit2_bool_tuple, kit2_bool_str, kit2_str_int, kit2_str_bool, kit2_str_list, kit2_str_tuple, kit2_str_str, kit2_dict_int, kit2_dict_bool, kit2_dict_list, kit2_dict_tuple, kit2_dict_str, kit2_list_int, kit2_list_bool, kit2_list_str, kit2_tuple_int, kit2_tuple_bool, kit2_tuple_str, kit2_int_list, kit2_int_tuple, kit2_int_str, kf_next, kf_cont, kf_brk, kf_ret, wipeI, wp_chain3, kk_d1, kk_d2, kk_d31, kk_d30, ws_tries, kk_tries0, kk_tries, kk_goHt, kk_goHf, ws_par3, kks_par3, wp_isB, wp_intBl, ↓reduceIte, *])
theorem Gr.bound {s b e : Int} {W : List (Int × Int)} {g : List Int} (s1 : 1 ≤ s) (hW : Win W) (be : b ≤ e) (h : Gr s W e b g) {m : Nat} (hm : e - b < ((m : Int) + 1) * s) : g.length ≤ m + W.length := by
  obtain ⟨y, hy⟩ := h.path
  exact hy.bound s1 hW be hm
section
variable {q : Nat} {s b e : Int} {xs : List IV} {W : List (Int × Int)} {ih : IH} {Q : PQ IV} {E : EQ}
/-- fewest, where few looks do -/
theorem w_fewest3 (c : Cs) (s1 : 1 ≤ s) (b0 : 0 ≤ b) (be : b ≤ e) (gq : ih[q]? = some (.lst xs)) (pr : PR ih xs W) (hW : Win W) (hl : W.length ≤ 300) {m : Nat} (hm : e - b < ((m : Int) + 1) * s) (m1 : m ≤ 500)
    (k : ∀ f g ih', Gr s W e b g → g.length ≤ 800 → ih'[f]? = some (.lst (g.map IV.int)) → ih.length ≤ f → Fx ih ih' → ih.length ≤ ih'.length → Q (.ref f) ih') : wp (m_fewest c [.int s, .ref q, .int b, .int e] ih) Q E :=
  w_fewest2 c s1 b0 be gq pr hW (by omega) (fun G look ih' hG hl' _ _ => by
    have := hG.bound s1 hW be hm
    omega) fun f g ih' hg hgl gf lf fx lx => k f g ih' hg (by have := hg.bound s1 hW be hm; omega) gf lf fx lx
theorem w_right (c : Cs) (s1 : 1 ≤ s) (b0 : 0 ≤ b) (be : b ≤ e) (gq : ih[q]? = some (.lst xs)) (pr : PR ih xs W) (hW : Win W) (hl : W.length ≤ 300) {m : Nat} (hm : e - b < ((m : Int) + 1) * s) (m1 : m ≤ 500)
    (k : ∀ ih', Fx ih ih' → ih.length ≤ ih'.length → Q (.bl true) ih') : wp (m_law_right c [.int s, .ref q, .int b, .int e] ih) Q E := by
  have ql := lt_of_get gq
  unfold m_law_right b_law_right
  walk_at "run"
  refine w_fewest3 c s1 b0 be gq pr hW hl hm m1 fun f g ih1 hg gl8 g1 lf f1 l1 => ?_
  have inc := hg.inc s1 hW
  have hE := hg.enough
  have gq1 := (f1 q ql).trans gq
  have pr1 := pr.fx f1
  have F1 := Hide.mk f1
  clear f1 gq pr hm
  have hin := Hide.mk inc
  have he' := inc.2
  clear inc
  walk_at "run"
  refine w_enough c gq1 pr1 g1 (by omega) fun v ih2 hv f2 l2 => ?_
  obtain rfl : v = true := hv.mpr hE
  have gq2 := (f2 q (lt_of_get gq1)).trans gq1
  have g2 := (f2 f (lt_of_get g1)).trans g1
  have pr2 := pr1.fx f2
  have F2 := Hide.mk (F1.get.trans f2 l1)
  clear f2 gq1 g1 pr1 F1 hv
  walk_at "run"
  refine w_isenough c s1 b0 be gq2 pr2 hW (by omega) g2 (by omega) hin.get.1 (fun y hy => (hin.get.2 y hy).2) fun v ih3 hv f3 l3 => ?_
  obtain rfl : v = true := hv.mpr hE
  have gq3 := (f3 q (lt_of_get gq2)).trans gq2
  have g3 := (f3 f (lt_of_get g2)).trans g2
  have pr3 := pr2.fx f3
  have F3 := Hide.mk (F2.get.trans f3 (by omega))
  clear f3 gq2 g2 pr2 F2 hv
  walk_at "run"
  refine w_reasons c s1 gq3 pr3 hW (by omega) g3 (by omega) hg fun r ys ss ih4 gr ps hC ls f4 l4 => ?_
  have gq4 := (f4 q (lt_of_get gq3)).trans gq3
  have g4 := (f4 f (lt_of_get g3)).trans g3
  have pr4 := pr3.fx f4
  have F4 := Hide.mk (F3.get.trans f4 (by omega))
  have dn : decide (IV.ref r = IV.non) = false := rfl
  have yl := ps.len
  clear f4 gq3 g3 pr3 F3 hE
  walk_at "run"
  refine w_certL c s1 b0 be gq4 pr4 hW (by omega) gr (by omega) (fun x hx => .inl (by
    obtain ⟨i, hi⟩ := List.mem_iff_getElem?.mp hx
    obtain ⟨t, z, rfl, _, e⟩ := ps.get hi
    exact ⟨t, z.1, z.2, rfl, e⟩)) (fun ih5 x hx hb f5 l5 => ?_) fun v zs ih5 p5 hv f5 l5 => ?_
  · exfalso
    obtain ⟨i, hi⟩ := List.mem_iff_getElem?.mp hx
    obtain ⟨t, z, rfl, hz, e⟩ := ps.get hi
    have := hC.stretch b0 z (List.mem_of_getElem? hz)
    unfold stB at hb
    dsimp only at hb
    rw [e] at hb
    dsimp only at hb
    rw [decide_eq_true this.1, decide_eq_true this.2] at hb
    cases hb
  · have ez : zs = ss := by
      have h1 := p5.kI
      have h2 := ps.kI
      rw [← h1, ← h2]
    subst ez
    obtain rfl : v = true := hv.mpr hC
    have g5 := (f5 f (lt_of_get g4)).trans g4
    have F5 := Hide.mk (F4.get.trans f5 (by omega))
    clear f5 gq4 g4 pr4 F4 hv hC p5 ps gr
    walk_at "run"
    unfold lc_law_right_1
    walk_at "run"
    refine lc_intT g (fun _ => false) (fun x => .int x) g5 (by omega) (fun x hx ih' fx => ?_) (fun x hx t ih' fx => nomatch t) ?_
    · have k1 := decide_eq_true (he' x hx).1
      have k2 := decide_eq_true (he' x hx).2
      unfold ln_law_right_1
      clear fx g5 he'
      walk_at "run"
    · rw [List.filter_eq_nil_iff.mpr fun _ _ => Bool.false_ne_true]
      generalize hP : k_op _ _ _ _ _ = P
      refine newN fun u ih6 u1 u2 l6 f6 g6 => ?_
      subst hP
      have F6 := Hide.mk (F5.get.trans f6 (by omega))
      clear f6 F5 g5 he'
      walk_at "run"
      refine wp_lst (by simp) (newN fun w ih7 w1 w2 l7 f7 g7 => ?_)
      have g67 := (f7 u u2).trans g6
      have kz := k ih7 (F6.get.trans f7 (by omega)) (by omega)
      clear f7 F6 g6 k
      refine wp_eq (.lst g67 rfl .nil) (.lst g7 rfl .nil) (shaped_ints []) (shaped_ints []) ?_
      have ev : PyData.eqv (.list []) (.list []) = true := eqv_same (shaped_ints [])
      rw [ev]
      walk_at "run"
      all_goals exact kz
/-- no windows: a look each span -/
theorem GrP.plain (s1 : 1 ≤ s) {G : List Int} {x : Int} (h : GrP s [] e b G x) : x = b + (G.length : Int) * s ∧ G = (List.range G.length).map fun i : Nat => b + s * ((i : Int) + 1) := by
  induction h with
  | nil => simp
  | @snoc G x y h1 h2 h3 h4 ih =>
    obtain ⟨i1, i2⟩ := ih
    have ey : y = x + s := by
      have : y ∈ [x + s] := h3
      exact List.mem_singleton.mp this
    have e1 : (((G ++ [y]).length : Nat) : Int) * s = (G.length : Int) * s + s := by
      rw [List.length_append, List.length_singleton, show ((G.length + 1 : Nat) : Int) = (G.length : Int) + 1 by omega, Int.add_mul, Int.one_mul]
    refine ⟨by rw [e1]; omega, ?_⟩
    rw [List.length_append, List.length_singleton, List.range_succ, List.map_append, ← i2]
    congr 1
    rw [ey, i1]
    simp only [List.map_cons, List.map_nil]
    rw [Int.mul_add, Int.mul_comm s]
    congr 1
    omega
theorem plain_eq (s1 : 1 ≤ s) {g : List Int} (h : Gr s [] e b g) : g = (List.range g.length).map fun i : Nat => b + s * ((i : Int) + 1) := by
  obtain ⟨y, hy⟩ := h.path
  exact (hy.plain s1).2
theorem plain_len (s1 : 1 ≤ s) {n : Nat} {g : List Int} (h : Gr s [] (b + (n : Int) * s + 1) b g) : g.length = n := by
  obtain ⟨y, hy⟩ := h.path
  obtain ⟨h1, h2⟩ := hy.plain s1
  have key : ∀ {x : Int} {g : List Int}, Gr s [] (b + (n : Int) * s + 1) x g → ∀ k : Nat, x = b + (k : Int) * s → k ≤ n → k + g.length = n := by
    intro x g h
    induction h with
    | @done x h1 h2 =>
      intro k hx hk
      rw [List.length_nil]
      rcases Nat.lt_or_ge (k + 1) n with z | z
      · have : ((k : Int) + 2) * s ≤ (n : Int) * s := Int.mul_le_mul_of_nonneg_right (by omega) (by omega)
        rw [Int.add_mul] at this
        omega
      · by_cases hk' : k = n
        · omega
        · have e : n = k + 1 := by omega
          rw [e] at h2
          have e2 : ((k + 1 : Nat) : Int) * s = (k : Int) * s + s := by rw [show ((k + 1 : Nat) : Int) = (k : Int) + 1 by omega, Int.add_mul, Int.one_mul]
          rw [e2] at h2
          omega
    | @step x y g h1 h2 h3 _ ih =>
      intro k hx hk
      have ey : y = x + s := List.mem_singleton.mp (show y ∈ [x + s] from h2)
      have kn : k < n := by
        rcases Nat.lt_or_ge k n with z | z
        · exact z
        · have : k = n := by omega
          subst this
          exact absurd ⟨rfl, by omega⟩ h1
      have := ih (k + 1) (by rw [ey, hx, show ((k + 1 : Nat) : Int) = (k : Int) + 1 by omega, Int.add_mul, Int.one_mul]; omega) kn
      rw [List.length_cons]
      omega
  have := key h 0 (by simp) (by omega)
  omega
theorem plain_path (s1 : 1 ≤ s) {n : Nat} {G : List Int} {x : Int} (h : GrP s [] (b + (n : Int) * s + 1) b G x) : G.length ≤ n := by
  have be : b ≤ b + (n : Int) * s + 1 := by
    have := Int.mul_nonneg (show (0 : Int) ≤ (n : Int) by omega) (show 0 ≤ s by omega)
    omega
  have w0 : Win [] := by
    intro r hr
    cases hr
  have hx := (h.le s1 w0 be).2
  obtain ⟨h1, _⟩ := h.plain s1
  rcases Nat.lt_or_ge n G.length with z | z
  · exfalso
    -- the last look would not have been put
    cases h with
    | nil => simp at z
    | @snoc G' x' y' k1 k2 k3 k4 =>
      obtain ⟨j1, _⟩ := k1.plain s1
      refine k2 ⟨rfl, ?_⟩
      have : (n : Int) * s ≤ (G'.length : Int) * s := by
        rw [List.length_append, List.length_singleton] at z
        exact Int.mul_le_mul_of_nonneg_right (by omega) (by omega)
      omega
  · exact z
end
end L3
/-! K33d: fewest looks far away: the bound, long lists. (L14) -/
namespace L3
open PySem PySem.Spec PyProof.Rows L2
local macro_rules | `(tactic| walk_at "get") => `(tactic| simp (disch := first | assumption | omega | (simp only [List.length_append, List.length_set, List.length_cons, List.length_nil, List.length_map] <;> omega) | fail) only [g_new, g_nw, g_old, g_set, g_sne, List.length_append, List.length_set, List.length_cons, List.length_nil, List.length_map, List.map_map, Function.comp_def, xs_lst, xs_tup, isL_lst, isL_tup, ↓reduceIte, *])
local macro_rules | `(tactic| walk_at "fr") => `(tactic| first | (intro _ _ _; simp (disch := first | assumption | omega | (simp only [List.length_append, List.length_set, List.length_cons, List.length_nil, List.length_map] <;> omega) | fail) only [g_new, g_nw, g_old, g_set, g_sne, List.length_append, List.length_set, List.length_cons, List.length_nil, List.length_map, List.map_map, Function.comp_def, xs_lst, xs_tup, isL_lst, isL_tup, ↓reduceIte, *]) | (intro _ _; simp (disch := first | assumption | omega | (simp only [List.length_append, List.length_set, List.length_cons, List.length_nil, List.length_map] <;> omega) | fail) only [g_new, g_nw, g_old, g_set, g_sne, List.length_append, List.length_set, List.length_cons, List.length_nil, List.length_map, List.map_map, Function.comp_def, xs_lst, xs_tup, isL_lst, isL_tup, ↓reduceIte, *]))
local macro_rules | `(tactic| walk_at "run") => `(tactic| simp -implicitDefEqProofs (disch := first | assumption | omega | (simp only [List.length_append, List.length_set, List.length_cons, List.length_nil, List.length_map] <;> omega) | fail) only [wp_ok, wp_exc, wp_stuck, ws_ok, ws_exc, ws_stuck, wp_op, kk_op, kk_un, wp_un, wp_cons, kk_cons, kk_cons2, wp_nil, wp_c, wp_app, wp_if, kk_if1, kk_if0, wp_and, kk_and1, kk_and0, wp_or, kk_or1, kk_or0, wp_not, kk_not, wp_tb, kk_tb, wp_andV, kk_andV1, kk_andV0, wp_orV, kk_orV1, kk_orV0, wp_notV, kk_notV, wp_noneS, wp_some, kk_some, wp_sl, kk_sl, kk_sl2, kk_sl3, wp_mL, kk_mL, kk_mL2, wp_mL0, kk_mL0, wp_chain, kk_ch, kk_ch2, kk_ch31, kk_ch30, ws_set, kks_nm, kks_g, kks_tup, kks_lst, ws_expr, kks_expr, ws_ret, kks_ret, ws_retN, ws_pass, ws_brk, ws_cont, ws_raise, ws_if, kks_if1, kks_if0, ws_seq, kks_next, kks_retS, kks_brk, kks_cont, kk_augE, ws_aug, kks_aug, kks_aug2, ws_par, kks_par, ws_setL, kks_sl, kks_sl2, kks_sl3, wp_def, kkd_ret, kkd_next, kkdE, kkE, ws_for, wp_lc, wp_r1, kk_r1, wp_r2, kk_r2, wp_il, wp_it, wp_ie, wp_iz, kk_il, kk_il2, kk_it, kk_it2, kk_ie, kk_ie2, kk_iz, kk_iz2, lAt_k, k_lAtL, k_lAtO, k_lAtT, wp_int, wp_add, wp_addI, wp_sub, wp_neg, wp_lt, wp_le, wp_gt, wp_ge, wp_max2, wp_min2, wp_abs, wp_mulI, wp_mul, wp_fdiv, wp_mod, wp_shl, wp_shr, wp_pow, wp_isN, wp_notN, wp_eqI, wp_neI, wp_ix, kk_ix, kk_ix2, wp_len, kk_lenL, kk_lenT, kk_lenO, kk_lenP, wp_appd, kk_app1, isL_k, kk_isL, startI_cons, startI_nil, rep_succ, rep_zero, List.getElem?_cons_zero, List.getElem?_cons_succ, List.set_cons_zero, List.set_cons_succ, f_call, m_var, List.append_nil, List.nil_append, List.cons_append, List.length_cons, List.length_nil, if_true, if_false, g_tup, g_lst, g_cons, g_nil, g_nm, Option.bind_some, kks_g, atI_0, atI_1, atI_2, atI_3, atI_4, atI_5, atI_6, atI_7, atI_8, atI_9, atI_10, atI_11, atI_12, atI_last, cutI_1, ixN_30, ixN_31, ixN_32, Int.toNat_zero, Int.reduceToNat, Int.reduceNeg, xs_lst, xs_tup, xs_ro, xs_rot, isL_lst, isL_tup, isL_ro, isL_rot, isT_tup, isT_rot, Bool.false_eq_true, Bool.true_eq_false, Bool.not_true, Bool.not_false, decide_true, decide_false, Int.reduceLT, Int.reduceLE, Nat.reduceLT, Nat.reduceLeDiff, Nat.reduceAdd, Nat.reduceEqDiff, Bool.not_eq_true, true_and, and_true, and_self, eq_self, g_new, g_nw, g_old, g_set, g_sne, List.length_set, List.length_append, wp_r3, kk_r3, Int.cast_ofNat_Int, Int.reduceEq, Int.natCast_zero, Int.natCast_one, ws_whileA, wp_isiII, wp_isiIB, wp_isiR, tyO_l, tyO_t, kk_isi, kk_isi2, kit_ll, kit_tt, kit_lt, kit_tl, wp_isiN, wp_isiBl, wp_isiS, tyO_d, kit2_NoneType_int, kit2_NoneType_bool, kit2_NoneType_list, kit2_NoneType_tuple, kit2_NoneType_str, kit2_bool_int, kit2_bool_bool, kit2_bool_list, kit2_bool_tuple, kit2_bool_str, kit2_str_int, kit2_str_bool, kit2_str_list, kit2_str_tuple, kit2_str_str, kit2_dict_int, kit2_dict_bool, kit2_dict_list, kit2_dict_tuple, kit2_dict_str, kit2_list_int, kit2_list_bool, kit2_list_str, kit2_tuple_int, kit2_tuple_bool, kit2_tuple_str, kit2_int_list, kit2_int_tuple, kit2_int_str, kf_next, kf_cont, kf_brk, kf_ret, wipeI, wp_chain3, kk_d1, kk_d2, kk_d31, kk_d30, ws_tries, kk_tries0, kk_tries, kk_goHt, kk_goHf, ws_par3, kks_par3, wp_isB, wp_intBl, ↓reduceIte, *])
theorem Fr.src {p : Nat} {a b c : IH} (h : Fr p a b) (k : Fx b c) (l : a.length ≤ b.length) : Fr p a c := h.trans k.fr l
theorem shaped_str (x : Str) (hx : PyData.strOk x = true) : SeqAt.shaped (.str x) = true := by
  simp [hx, SeqAt.shaped, PyData.canLay0, PyData.canLayAll0, PyData.depth, PyData.depthAll]
theorem ok_told : PyData.strOk "told" = true := by decide +kernel
theorem ok_many : PyData.strOk "many" = true := by decide +kernel
theorem bd_map {b s : Int} (j : Nat) : (List.range j).map (fun i : Nat => IV.int (b + s * (1 + (i : Int)))) = ((List.range j).map fun i : Nat => b + s * ((i : Int) + 1)).map IV.int := by
  rw [List.map_map]
  refine List.map_congr_left fun i _ => ?_
  show IV.int _ = IV.int _
  rw [Int.add_comm 1]
section
variable {p m : Nat} {ih : IH} {Q : PQ IV} {E : EQ}
theorem w_bturn (c : Cs) (ok : CsOk c) {s b : Int} {a0 a4 a5 a6 : Option IV} {n : Nat} {S : SQ} {F : ES} (s1 : 1 ≤ s) (sB : B 100 s) (b0 : 0 ≤ b) (hn : n = 2000 ∨ n = 2001) (P : Env → IH → Prop)
    (k : ∀ a4 a5 ih', Fx ih ih' → ih.length ≤ ih'.length → P [a0, some (.int s), some (.int b), some (.int (n : Int)), a4, a5, a6] ih') : ws (lb_law_bound_right_1 c [a0, some (.int s), some (.int b), some (.int (n : Int)), a4, a5, a6] ih) (kf P S) F := by
  have x1 := ok.xm_TooMany_TooMany
  have cm : cMul (n : Int) s = true := B.cmul (B.lt (n := 20) (i := (n : Int)) (by omega) (by omega)) sB (by decide)
  have ns0 := Int.mul_nonneg (show (0 : Int) ≤ (n : Int) by omega) (show 0 ≤ s by omega)
  -- behind the try
  have fin : ∀ a5 ih', Fx ih ih' → ih.length ≤ ih'.length → ws (ms_if (m_tb (m_op f_ne (m_var 4) (m_op f_ix (m_app f_lst (m_cons (m_c (.str "told")) (m_cons (m_c (.str "many")) m_nil))) (m_app f_int (m_cons (m_op f_gt (m_var 3) (m_c (.int 2000))) m_nil)))))
      (ms_ret (m_c (.bl false)))
      ms_pass [a0, some (.int s), some (.int b), some (.int (n : Int)), some (.str (if n = 2000 then "told" else "many")), a5, a6] ih') (kf P S) F := by
    intro a5 ih' fx lx
    have kz := fun ih'' (f : Fx ih' ih'') l => k (some (.str (if n = 2000 then "told" else "many"))) a5 ih'' (fx.trans f lx) l
    clear k fx x1
    walk_at "run"
    rw [a_lst (by simp), wp_ok]
    generalize hP : k_op _ _ _ _ _ = P'
    refine newN fun u ih2 u1 u2 l2 f2 g2 => ?_
    subst hP
    have ky := kz ih2 f2 (by omega)
    clear kz f2
    rcases hn with e | e
    · have d1 : decide ((2000 : Int) < (n : Int)) = false := decide_eq_false (by omega)
      rw [if_pos e] at ky ⊢
      clear e
      walk_at "run"
      refine wp_ne (.str _) (.str _) (shaped_str _ ok_told) (shaped_str _ ok_told) ?_
      rw [eqv_same (shaped_str _ ok_told)]
      walk_at "run"
      exact Inv.mk ky
    · have d1 : decide ((2000 : Int) < (n : Int)) = true := decide_eq_true (by omega)
      rw [if_neg (by omega)] at ky ⊢
      clear e
      walk_at "run"
      refine wp_ne (.str _) (.str _) (shaped_str _ ok_many) (shaped_str _ ok_many) ?_
      rw [eqv_same (shaped_str _ ok_many)]
      walk_at "run"
      exact Inv.mk ky
  clear k
  unfold lb_law_bound_right_1
  rw [ws_seq, ws_set, wp_c, kks_nm, kks_next, ws_seq]
  generalize hK : ks_seq _ (kf P S) F = K
  have finK : ∀ a5 ih', Fx ih ih' → ih.length ≤ ih'.length → K (.next [a0, some (.int s), some (.int b), some (.int (n : Int)), some (.str (if n = 2000 then "told" else "many")), a5, a6]) ih' := fun a5 ih' fx lx => by
    rw [← hK, kks_next]
    exact fin a5 ih' fx lx
  clear fin hK
  walk_at "run"
  unfold tb_law_bound_right_1
  walk_at "run"
  refine wp_lst (by simp) ?_
  generalize hP : k_cons _ _ _ _ = P'
  refine newN fun q ih1 q1 q2 l1 f1 g1 => ?_
  subst hP
  have F1 := Hide.mk f1
  clear f1
  walk_at "run"
  have be : b ≤ b + (n : Int) * s + 1 := by omega
  have w0 : Win [] := by
    intro r hr
    cases hr
  refine w_fewest2 c (xs := []) (W := []) s1 b0 be g1 trivial w0 (by simp) (fun G look ih2 hG hl f2 l2 => ?_) fun f g ih2 hg hgl gf lf f2 l2 => ?_
  · skip
    have := plain_path s1 hG
    have n1 : n = 2001 := by omega
    have kz := finK a5 ih2 (F1.get.trans f2 (by omega)) (by omega)
    rw [if_neg (by omega)] at kz
    clear finK f2 F1 hG g1 ns0 n1 this
    walk_at "run"
    unfold ts_law_bound_right_2
    walk_at "run"
    all_goals exact kz
  · skip
    have gl := plain_len s1 hg
    have n1 := Hide.mk (show n = 2000 by omega)
    have eg := plain_eq s1 hg
    rw [gl] at eg
    have F2 := Hide.mk (F1.get.trans f2 (by omega))
    clear f2 F1 hg x1 g1 gl
    have sm1 : smallI 1 = true := by decide
    have sm2 : smallI ((n : Int) + 1) = true := smallI_mk (by omega) (by omega)
    walk_at "run"
    unfold lc_law_bound_right_1
    walk_at "run"
    obtain ⟨j, ej⟩ : ∃ j, ((n : Int) + 1 - 1).toNat = j := ⟨_, rfl⟩
    rw [ej]
    have ejn : j = n := by omega
    subst ejn
    refine lc_rngT (fun _ => true) (fun i => .int (b + s * (1 + (i : Int)))) (by omega) (fun i hi ih' fx => ⟨rfl, rfl⟩) (fun i hi _ ih' fx => ?_) ?_
    · have cm2 : cMul s (1 + (i : Int)) = true := B.cmul sB (B.lt (n := 20) (i := 1 + (i : Int)) (by omega) (by omega)) (by decide)
      unfold le_law_bound_right_1
      clear fx gf
      walk_at "run"
    · rw [show (List.range j).filter (fun _ => true) = List.range j from List.filter_eq_self.mpr fun _ _ => rfl]
      generalize hP : k_un _ _ _ = P'
      refine newN fun u ih3 u1 u2 l3 f3 g3 => ?_
      subst hP
      have gf3 := (f3 f (lt_of_get gf)).trans gf
      have F3 := Hide.mk (F2.get.trans f3 (by omega))
      have g3' : ih3[u]? = some (.lst (g.map IV.int)) := by
        rw [g3, eg]
        exact congrArg (fun l => some (MO.lst l)) (bd_map j)
      clear f3 F2 gf g3 eg
      rw [kk_un]
      refine wp_ne (Is.ints gf3 rfl rfl) (Is.ints g3' rfl rfl) (shaped_ints _) (shaped_ints _) ?_
      rw [eqv_same (shaped_ints _)]
      have kz := finK (some (.ref f)) ih3 F3.get (by omega)
      rw [if_pos n1.get] at kz
      clear finK F3 gf3 g3'
      walk_at "run"
      all_goals exact kz
end
end L3
/-! K33e: fewest looks far away: long lists, the law. (L14) -/
namespace L3
open PySem PySem.Spec PyProof.Rows L2
local macro_rules | `(tactic| walk_at "get") => `(tactic| simp (disch := first | assumption | omega | (simp only [List.length_append, List.length_set, List.length_cons, List.length_nil, List.length_map] <;> omega) | fail) only [g_new, g_nw, g_old, g_set, g_sne, List.length_append, List.length_set, List.length_cons, List.length_nil, List.length_map, List.map_map, Function.comp_def, xs_lst, xs_tup, isL_lst, isL_tup, ↓reduceIte, *])
local macro_rules | `(tactic| walk_at "fr") => `(tactic| first | (intro _ _ _; simp (disch := first | assumption | omega | (simp only [List.length_append, List.length_set, List.length_cons, List.length_nil, List.length_map] <;> omega) | fail) only [g_new, g_nw, g_old, g_set, g_sne, List.length_append, List.length_set, List.length_cons, List.length_nil, List.length_map, List.map_map, Function.comp_def, xs_lst, xs_tup, isL_lst, isL_tup, ↓reduceIte, *]) | (intro _ _; simp (disch := first | assumption | omega | (simp only [List.length_append, List.length_set, List.length_cons, List.length_nil, List.length_map] <;> omega) | fail) only [g_new, g_nw, g_old, g_set, g_sne, List.length_append, List.length_set, List.length_cons, List.length_nil, List.length_map, List.map_map, Function.comp_def, xs_lst, xs_tup, isL_lst, isL_tup, ↓reduceIte, *]))
local macro_rules | `(tactic| walk_at "run") => `(tactic| simp -implicitDefEqProofs (disch := first | assumption | omega | (simp only [List.length_append, List.length_set, List.length_cons, List.length_nil, List.length_map] <;> omega) | fail) only [wp_ok, wp_exc, wp_stuck, ws_ok, ws_exc, ws_stuck, wp_op, kk_op, kk_un, wp_un, wp_cons, kk_cons, kk_cons2, wp_nil, wp_c, wp_app, wp_if, kk_if1, kk_if0, wp_and, kk_and1, kk_and0, wp_or, kk_or1, kk_or0, wp_not, kk_not, wp_tb, kk_tb, wp_andV, kk_andV1, kk_andV0, wp_orV, kk_orV1, kk_orV0, wp_notV, kk_notV, wp_noneS, wp_some, kk_some, wp_sl, kk_sl, kk_sl2, kk_sl3, wp_mL, kk_mL, kk_mL2, wp_mL0, kk_mL0, wp_chain, kk_ch, kk_ch2, kk_ch31, kk_ch30, ws_set, kks_nm, kks_g, kks_tup, kks_lst, ws_expr, kks_expr, ws_ret, kks_ret, ws_retN, ws_pass, ws_brk, ws_cont, ws_raise, ws_if, kks_if1, kks_if0, ws_seq, kks_next, kks_retS, kks_brk, kks_cont, kk_augE, ws_aug, kks_aug, kks_aug2, ws_par, kks_par, ws_setL, kks_sl, kks_sl2, kks_sl3, wp_def, kkd_ret, kkd_next, kkdE, kkE, ws_for, wp_lc, wp_r1, kk_r1, wp_r2, kk_r2, wp_il, wp_it, wp_ie, wp_iz, kk_il, kk_il2, kk_it, kk_it2, kk_ie, kk_ie2, kk_iz, kk_iz2, lAt_k, k_lAtL, k_lAtO, k_lAtT, wp_int, wp_add, wp_addI, wp_sub, wp_neg, wp_lt, wp_le, wp_gt, wp_ge, wp_max2, wp_min2, wp_abs, wp_mulI, wp_mul, wp_fdiv, wp_mod, wp_shl, wp_shr, wp_pow, wp_isN, wp_notN, wp_eqI, wp_neI, wp_ix, kk_ix, kk_ix2, wp_len, kk_lenL, kk_lenT, kk_lenO, kk_lenP, wp_appd, kk_app1, isL_k, kk_isL, startI_cons, startI_nil, rep_succ, rep_zero, List.getElem?_cons_zero, List.getElem?_cons_succ, List.set_cons_zero, List.set_cons_succ, f_call, m_var, List.append_nil, List.nil_append, List.cons_append, List.length_cons, List.length_nil, if_true, if_false, g_tup, g_lst, g_cons, g_nil, g_nm, Option.bind_some, kks_g, atI_0, atI_1, atI_2, atI_3, atI_4, atI_5, atI_6, atI_7, atI_8, atI_9, atI_10, atI_11, atI_12, atI_last, cutI_1, ixN_30, ixN_31, ixN_32, Int.toNat_zero, Int.reduceToNat, Int.reduceNeg, xs_lst, xs_tup, xs_ro, xs_rot, isL_lst, isL_tup, isL_ro, isL_rot, isT_tup, isT_rot, Bool.false_eq_true, Bool.true_eq_false, Bool.not_true, Bool.not_false, decide_true, decide_false, Int.reduceLT, Int.reduceLE, Nat.reduceLT, Nat.reduceLeDiff, Nat.reduceAdd, Nat.reduceEqDiff, Bool.not_eq_true, true_and, and_true, and_self, eq_self, g_new, g_nw, g_old, g_set, g_sne, List.length_set, List.length_append, wp_r3, kk_r3, Int.cast_ofNat_Int, Int.reduceEq, Int.natCast_zero, Int.natCast_one, ws_whileA, wp_isiII, wp_isiIB, wp_isiR, tyO_l, tyO_t, kk_isi, kk_isi2, kit_ll, kit_tt, kit_lt, kit_tl, wp_isiN, wp_isiBl, wp_isiS, tyO_d, kit2_NoneType_int, kit2_NoneType_bool, kit2_NoneType_list, kit2_NoneType_tuple, kit2_NoneType_str, kit2_bool_int, kit2_bool_bool, kit2_bool_list, kit2_bool_tuple, kit2_bool_str, kit2_str_int, kit2_str_bool, kit2_str_list, kit2_str_tuple, kit2_str_str, kit2_dict_int, kit2_dict_bool, kit2_dict_list, kit2_dict_tuple, kit2_dict_str, kit2_list_int, kit2_list_bool, kit2_list_str, kit2_tuple_int, kit2_tuple_bool, kit2_tuple_str, kit2_int_list, kit2_int_tuple, kit2_int_str, kf_next, kf_cont, kf_brk, kf_ret, wipeI, wp_chain3, kk_d1, kk_d2, kk_d31, kk_d30, ws_tries, kk_tries0, kk_tries, kk_goHt, kk_goHf, ws_par3, kks_par3, wp_isB, wp_intBl, ↓reduceIte, *])
theorem wp_rev {Q : PQ IV} {E : EQ} {ih : IH} {n : Nat} {xs : List IV} (h : ih[n]? = some (.lst xs)) (q : Q (.ref ih.length) (ih ++ [.lst xs.reverse])) : wp (f_rev (.ref n) ih) Q E := by
  have e : f_rev (.ref n) ih = .ok (.ref ih.length) (ih ++ [.lst xs.reverse]) := by
    unfold f_rev
    dsimp only
    rw [h]
    rfl
  exact wp.of e q
theorem PR.rev {ih : IH} : ∀ {xs : List IV} {rs : List (Int × Int)}, PR ih xs rs → PR ih xs.reverse rs.reverse
  | [], [], _ => trivial
  | .ref t :: xs, r :: rs, h => by
    rw [List.reverse_cons, List.reverse_cons]
    exact PR.app h.1 (PR.rev h.2)
theorem PR.srcD {a b : IH} {p m : Nat} {xs : List IV} {rs : List (Int × Int)} (h : PR a xs rs) (s : Src0 p m a) (f : Fr p a b) : PR b xs rs := by
  obtain ⟨_, _, _, g, _⟩ := s
  exact h.fr f g
section
variable {s b e : Int} {W : List (Int × Int)} {g : List Int}
/-- one look less is not enough -/
theorem less_not (s1 : 1 ≤ s) (hW : Win W) (hg : Gr s W e b g) {n : Nat} (hn : n < g.length) : ¬ Enough s W b e (g.take n ++ g.drop (n + 1)) := by
  intro hE
  have inc := (List.pairwise_cons.mp (hg.inc s1 hW).1).2
  have sub : (g.take n ++ g.drop (n + 1)).Sublist g := by
    have h1 : (g.take n ++ g.drop (n + 1)).Sublist (g.take n ++ g.drop n) := List.Sublist.append (List.Sublist.refl _) (by
      have : g.drop (n + 1) = (g.drop n).drop 1 := by rw [List.drop_drop]
      rw [this]
      exact List.drop_sublist 1 _)
    rwa [List.take_append_drop] at h1
  have ah := hg.best hW b (g.take n ++ g.drop (n + 1)) (Int.le_refl b) (inc.sublist sub) hE.1 (fun r hr h1 h2 => by
    have hw := hW r hr
    obtain ⟨x, hx, x1, x2⟩ := hE.2 r hr (by omega) h2
    rcases List.mem_cons.mp hx with z | z
    · omega
    · exact ⟨x, z, x1, x2⟩)
  have := ahead_len ah
  rw [List.length_append, List.length_take, List.length_drop] at this
  omega
theorem less_inc (s1 : 1 ≤ s) (hW : Win W) (hg : Gr s W e b g) (n : Nat) : (b :: (g.take n ++ g.drop (n + 1))).Pairwise (· < ·) ∧ ∀ y ∈ g.take n ++ g.drop (n + 1), y < e := by
  have inc := hg.inc s1 hW
  have sub : (g.take n ++ g.drop (n + 1)).Sublist g := by
    have h1 : (g.take n ++ g.drop (n + 1)).Sublist (g.take n ++ g.drop n) := List.Sublist.append (List.Sublist.refl _) (by
      have : g.drop (n + 1) = (g.drop n).drop 1 := by rw [List.drop_drop]
      rw [this]
      exact List.drop_sublist 1 _)
    rwa [List.take_append_drop] at h1
  exact ⟨inc.1.sublist (List.Sublist.cons₂ b sub), fun y hy => (inc.2 y (sub.subset hy)).2⟩
theorem less_map (n : Nat) : cutI (g.map IV.int) none (some (n : Int)) = (g.take n).map IV.int ∨ g.length < n := by
  rcases Nat.lt_or_ge g.length n with z | z
  · exact .inr z
  · left
    rw [cutI_take (by rw [List.length_map]; exact z), List.map_take]
end
theorem cutI_drop {xs : List IV} {k : Nat} (h : k ≤ xs.length) : cutI xs (some (k : Int)) none = xs.drop k := by
  unfold cutI
  rw [HT.sIx_none]
  have e : HT.sIx xs.length 0 (some (k : Int)) = k := by
    have h2 := HT.clip_eq (k : Int) xs.length 0
    rw [if_neg (by omega)] at h2
    omega
  rw [e, List.take_of_length_le (by rw [List.length_drop]; exact Nat.le_refl _)]
section
variable {p m q : Nat} {s b e : Int} {xs : List IV} {W : List (Int × Int)} {ih : IH} {Q : PQ IV} {E : EQ} {S : SQ} {F : ES}
noncomputable abbrev tlLong (c : Cs) : Env → IH → RS := (ms_seq (ms_if (m_not (m_tb (m_app (f_call 4 [] (m_law_right c)) (m_cons (m_var 3) (m_cons (m_var 4) (m_cons (m_var 1) (m_cons (m_var 5) m_nil))))))) (ms_ret (m_c (.bl false))) ms_pass) (ms_seq (ms_set (g_nm 7) (m_app (f_call 4 [] (m_fewest c)) (m_cons (m_var 3) (m_cons (m_var 4) (m_cons (m_var 1) (m_cons (m_var 5) m_nil)))))) (ms_seq (ms_if (m_tb (m_op f_ne (m_app (f_call 5 [] (m_needed c)) (m_cons (m_var 3) (m_cons (m_un f_rev (m_var 4)) (m_cons (m_var 1) (m_cons (m_var 5) (m_cons (m_var 7) m_nil)))))) (m_var 7))) (ms_ret (m_c (.bl false))) ms_pass) (ms_seq (ms_set (g_nm 8) (m_app (f_call 2 [] (m_law_next c)) (m_cons (m_var 0) (m_cons (m_app f_len (m_cons (m_var 7) m_nil)) m_nil)))) (ms_seq (ms_set (g_nm 9) (m_op f_add (m_sl (m_var 7) m_none (m_some (m_var 8))) (m_sl (m_var 7) (m_some (m_op f_add (m_var 8) (m_c (.int 1)))) m_none))) (ms_seq (ms_set (g_nm 10) (m_app (f_call 5 [] (m_is_enough c)) (m_cons (m_var 3) (m_cons (m_var 4) (m_cons (m_var 1) (m_cons (m_var 5) (m_cons (m_var 9) m_nil))))))) (ms_ret (m_andV (m_op f_isB (m_var 10) (m_c (.bl false))) (m_op f_isN (m_app (f_call 5 [] (m_needed c)) (m_cons (m_var 3) (m_cons (m_var 4) (m_cons (m_var 1) (m_cons (m_var 5) (m_cons (m_var 9) m_nil)))))) (m_c .non))))))))))
theorem w_long_tail (c : Cs) {a2 a6 a7 a8 a9 a10 : Option IV} (h : Src0 p m ih) (hm : m + 20 ≤ 1000000) (qp : q ≠ p) (s1 : 1 ≤ s) (b0 : 0 ≤ b) (be : b ≤ e) (gq : ih[q]? = some (.lst xs)) (pr : PR ih xs W) (hW : Win W) (hl : W.length ≤ 300) {mb : Nat} (hmb : e - b < ((mb : Int) + 1) * s) (m1 : mb ≤ 500)
    (ne : ¬ (ends W b e = [] ∧ e - b ≤ s)) (k : ∀ ih', Src0 p (m + 20) ih' → Fr p ih ih' → ih.length ≤ ih'.length → Q (.bl true) ih') :
    ws (tlLong c [some (.ref p), some (.int b), a2, some (.int s), some (.ref q), some (.int e), a6, a7, a8, a9, a10] ih) (kd Q) (kdE E) := by
  have ql := lt_of_get gq
  unfold tlLong
  walk_at "run"
  refine w_right c s1 b0 be gq pr hW hl hmb m1 fun ih1 f1 l1 => ?_
  have gq1 := (f1 q ql).trans gq
  have pr1 := pr.fx f1
  have s1' := h.fx f1
  have F1 := Hide.mk (show Fr p ih ih1 from f1.fr)
  clear f1 gq pr h
  walk_at "run"
  refine w_fewest3 c s1 b0 be gq1 pr1 hW hl hmb m1 fun f g ih2 hg gl8 gf lf f2 l2 => ?_
  have inc := Hide.mk (hg.inc s1 hW)
  have hE := hg.enough
  have gp : 0 < g.length := by
    cases hg with
    | done h1 h2 => exact absurd ⟨h1, h2⟩ ne
    | step _ _ _ _ => simp
  have gq2 := (f2 q (lt_of_get gq1)).trans gq1
  have pr2 := pr1.fx f2
  have s2 := s1'.fx f2
  have F2 := Hide.mk (F1.get.src f2 l1)
  have fp : f ≠ p := by
    have := s1'.lt
    omega
  clear f2 gq1 pr1 s1' F1 ne
  walk_at "run"
  refine wp_rev gq2 ?_
  generalize hP : k_cons _ _ _ _ = P
  refine newN fun v ih3 v1 v2 l3 f3 gv => ?_
  subst hP
  have gq3 := (f3 q (lt_of_get gq2)).trans gq2
  have gf3 := (f3 f (lt_of_get gf)).trans gf
  have pr3 := pr2.fx f3
  have s3 := s2.fx f3
  have F3 := Hide.mk (F2.get.src f3 (by omega))
  clear f3 gq2 gf pr2 s2 F2
  walk_at "run"
  have mem : ∀ r, r ∈ W ↔ r ∈ W.reverse := fun r => by simp
  refine w_needed2 c s1 b0 be gv pr3.rev (fun r hr => hW r ((mem r).mpr hr)) (by rw [List.length_reverse]; omega) gf3 (by omega) inc.get.1 (fun y hy => (inc.get.2 y hy).2) (fun ih4 hn f4 l4 => ?_) fun f' g' ih4 hg' gf' lf' f4 l4 => ?_
  · exact absurd ((Enough.mem mem).mp hE) hn
  have eg : g = g' := (hg.toL s1 hW fun y hy => hy).uniq mem hg'
  subst eg
  have gq4 := (f4 q (lt_of_get gq3)).trans gq3
  have gf4 := (f4 f (lt_of_get gf3)).trans gf3
  have pr4 := pr3.fx f4
  have s4 := s3.fx f4
  have F4 := Hide.mk (F3.get.src f4 (by omega))
  clear f4 gq3 gf3 pr3 s3 F3 gv hg'
  refine wp_ne (Is.ints gf' rfl rfl) (Is.ints gf4 rfl rfl) (shaped_ints _) (shaped_ints _) ?_
  rw [eqv_same (shaped_ints _)]
  have gB : B 8000 (g.length : Int) := (B.lt (n := 10) (i := (g.length : Int)) (by omega) (by omega)).mono (by decide)
  clear gf'
  walk_at "run"
  rw [List.length_map]
  refine w_next c s4 (by omega) gB (by omega) fun z ih5 z0 z1 s5 f5 l5 => ?_
  obtain ⟨n, rfl⟩ : ∃ n : Nat, z = (n : Int) := ⟨z.toNat, by omega⟩
  have hn : n < g.length := by omega
  have gq5 := (f5 q (lt_of_get gq4) qp).trans gq4
  have gf5 := (f5 f (lt_of_get gf4) fp).trans gf4
  have pr5 := pr4.srcD s4 f5
  have F5 := Hide.mk (F4.get.trans f5 (by omega))
  clear f5 gq4 gf4 pr4 s4 F4 gB
  walk_at "run"
  refine wp_slL gf5 ?_
  rw [cutI_take (by rw [List.length_map]; omega)]
  generalize hP : k_op _ _ _ _ _ = P
  refine newN fun u ih6 u1 u2 l6 f6 g6 => ?_
  subst hP
  have gq6 := (f6 q (lt_of_get gq5)).trans gq5
  have gf6 := (f6 f (lt_of_get gf5)).trans gf5
  have pr6 := pr5.fx f6
  have s6 := s5.fx f6
  have F6 := Hide.mk (F5.get.src f6 (by omega))
  clear f6 gq5 gf5 pr5 s5 F5
  have e1 : (n : Int) + 1 = ((n + 1 : Nat) : Int) := by omega
  walk_at "run"
  refine wp_slL gf6 ?_
  rw [cutI_drop (by rw [List.length_map]; omega)]
  generalize hP : k_un _ _ _ = P
  refine newN fun w ih7 w1 w2 l7 f7 g7 => ?_
  subst hP
  have gq7 := (f7 q (lt_of_get gq6)).trans gq6
  have g67 := (f7 u u2).trans g6
  have pr7 := pr6.fx f7
  have s7 := s6.fx f7
  have F7 := Hide.mk (F6.get.src f7 (by omega))
  clear f7 gq6 g6 gf6 pr6 s6 F6
  rw [kk_un]
  refine wp_cat g67 g7 (by simp only [List.length_take, List.length_drop, List.length_map]; omega) ?_
  generalize hP : ks_set _ _ _ = P
  refine newN fun x ih8 x1 x2 l8 f8 g8 => ?_
  subst hP
  have gq8 := (f8 q (lt_of_get gq7)).trans gq7
  have pr8 := pr7.fx f8
  have s8 := s7.fx f8
  have F8 := Hide.mk (F7.get.src f8 (by omega))
  have g8' : ih8[x]? = some (.lst ((g.take n ++ g.drop (n + 1)).map IV.int)) := by
    rw [g8, List.map_append, List.map_take, List.map_drop]
  have lle : (g.take n ++ g.drop (n + 1)).length ≤ 1000 := by
    rw [List.length_append, List.length_take, List.length_drop]
    omega
  have nE := less_not s1 hW hg hn
  have inc2 := less_inc s1 hW hg n
  clear f8 gq7 g67 pr7 s7 F7 g8 g7 e1
  obtain ⟨L, eL⟩ : ∃ L, g.take n ++ g.drop (n + 1) = L := ⟨_, rfl⟩
  rw [eL] at g8' lle nE inc2
  walk_at "run"
  refine w_isenough c s1 b0 be gq8 pr8 hW (by omega) g8' lle inc2.1 inc2.2 fun v ih9 hv f9 l9 => ?_
  have ev : v = false := by
    cases v with
    | false => rfl
    | true => exact absurd (hv.mp rfl) nE
  subst ev
  have gq9 := (f9 q (lt_of_get gq8)).trans gq8
  have g9 := (f9 x (lt_of_get g8')).trans g8'
  have pr9 := pr8.fx f9
  have s9 := s8.fx f9
  have F9 := Hide.mk (F8.get.src f9 (by omega))
  clear f9 gq8 g8' pr8 s8 F8 hv
  have dF : decide (false = false) = true := rfl
  have dN : decide (IV.non = IV.non) = true := rfl
  walk_at "run"
  refine w_needed2 c s1 b0 be gq9 pr9 hW (by omega) g9 lle inc2.1 inc2.2 (fun ih10 hn f10 l10 => ?_) fun f' g' ih10 hg' gf' lf' f10 l10 => ?_
  · have kz := k ih10 ((s9.fx f10).mono (by omega)) (F9.get.src f10 (by omega)) (by omega)
    clear k f10 F9 s9 pr9 g9 gq9 hE inc2
    walk_at "run"
    all_goals exact kz
  · exfalso
    have hs := hg'.inc
    have := nE (hg'.enough.sup (by
      obtain ⟨n, _, e⟩ := pick_of (List.pairwise_cons.mp inc2.1).2 (List.pairwise_cons.mp hs.1).2 hs.2
      rw [← e]
      exact pick_sub L n) inc2.1 inc2.2)
    exact this
end
end L3
/-! K33f: fewest looks far away: the law. (L14) -/
namespace L3
open PySem PySem.Spec PyProof.Rows L2
local macro_rules | `(tactic| walk_at "get") => `(tactic| simp (disch := first | assumption | omega | (simp only [List.length_append, List.length_set, List.length_cons, List.length_nil, List.length_map] <;> omega) | fail) only [g_new, g_nw, g_old, g_set, g_sne, List.length_append, List.length_set, List.length_cons, List.length_nil, List.length_map, List.map_map, Function.comp_def, xs_lst, xs_tup, isL_lst, isL_tup, ↓reduceIte, *])
local macro_rules | `(tactic| walk_at "fr") => `(tactic| first | (intro _ _ _; simp (disch := first | assumption | omega | (simp only [List.length_append, List.length_set, List.length_cons, List.length_nil, List.length_map] <;> omega) | fail) only [g_new, g_nw, g_old, g_set, g_sne, List.length_append, List.length_set, List.length_cons, List.length_nil, List.length_map, List.map_map, Function.comp_def, xs_lst, xs_tup, isL_lst, isL_tup, ↓reduceIte, *]) | (intro _ _; simp (disch := first | assumption | omega | (simp only [List.length_append, List.length_set, List.length_cons, List.length_nil, List.length_map] <;> omega) | fail) only [g_new, g_nw, g_old, g_set, g_sne, List.length_append, List.length_set, List.length_cons, List.length_nil, List.length_map, List.map_map, Function.comp_def, xs_lst, xs_tup, isL_lst, isL_tup, ↓reduceIte, *]))
local macro_rules | `(tactic| walk_at "run") => `(tactic| simp -implicitDefEqProofs (disch := first | assumption | omega | (simp only [List.length_append, List.length_set, List.length_cons, List.length_nil, List.length_map] <;> omega) | fail) only [wp_ok, wp_exc, wp_stuck, ws_ok, ws_exc, ws_stuck, wp_op, kk_op, kk_un, wp_un, wp_cons, kk_cons, kk_cons2, wp_nil, wp_c, wp_app, wp_if, kk_if1, kk_if0, wp_and, kk_and1, kk_and0, wp_or, kk_or1, kk_or0, wp_not, kk_not, wp_tb, kk_tb, wp_andV, kk_andV1, kk_andV0, wp_orV, kk_orV1, kk_orV0, wp_notV, kk_notV, wp_noneS, wp_some, kk_some, wp_sl, kk_sl, kk_sl2, kk_sl3, wp_mL, kk_mL, kk_mL2, wp_mL0, kk_mL0, wp_chain, kk_ch, kk_ch2, kk_ch31, kk_ch30, ws_set, kks_nm, kks_g, kks_tup, kks_lst, ws_expr, kks_expr, ws_ret, kks_ret, ws_retN, ws_pass, ws_brk, ws_cont, ws_raise, ws_if, kks_if1, kks_if0, ws_seq, kks_next, kks_retS, kks_brk, kks_cont, kk_augE, ws_aug, kks_aug, kks_aug2, ws_par, kks_par, ws_setL, kks_sl, kks_sl2, kks_sl3, wp_def, kkd_ret, kkd_next, kkdE, kkE, ws_for, wp_lc, wp_r1, kk_r1, wp_r2, kk_r2, wp_il, wp_it, wp_ie, wp_iz, kk_il, kk_il2, kk_it, kk_it2, kk_ie, kk_ie2, kk_iz, kk_iz2, lAt_k, k_lAtL, k_lAtO, k_lAtT, wp_int, wp_add, wp_addI, wp_sub, wp_neg, wp_lt, wp_le, wp_gt, wp_ge, wp_max2, wp_min2, wp_abs, wp_mulI, wp_mul, wp_fdiv, wp_mod, wp_shl, wp_shr, wp_pow, wp_isN, wp_notN, wp_eqI, wp_neI, wp_ix, kk_ix, kk_ix2, wp_len, kk_lenL, kk_lenT, kk_lenO, kk_lenP, wp_appd, kk_app1, isL_k, kk_isL, startI_cons, startI_nil, rep_succ, rep_zero, List.getElem?_cons_zero, List.getElem?_cons_succ, List.set_cons_zero, List.set_cons_succ, f_call, m_var, List.append_nil, List.nil_append, List.cons_append, List.length_cons, List.length_nil, if_true, if_false, g_tup, g_lst, g_cons, g_nil, g_nm, Option.bind_some, kks_g, atI_0, atI_1, atI_2, atI_3, atI_4, atI_5, atI_6, atI_7, atI_8, atI_9, atI_10, atI_11, atI_12, atI_last, cutI_1, ixN_30, ixN_31, ixN_32, Int.toNat_zero, Int.reduceToNat, Int.reduceNeg, xs_lst, xs_tup, xs_ro, xs_rot, isL_lst, isL_tup, isL_ro, isL_rot, isT_tup, isT_rot, Bool.false_eq_true, Bool.true_eq_false, Bool.not_true, Bool.not_false, decide_true, decide_false, Int.reduceLT, Int.reduceLE, Nat.reduceLT, Nat.reduceLeDiff, Nat.reduceAdd, Nat.reduceEqDiff, Bool.not_eq_true, true_and, and_true, and_self, eq_self, g_new, g_nw, g_old, g_set, g_sne, List.length_set, List.length_append, wp_r3, kk_r3, Int.cast_ofNat_Int, Int.reduceEq, Int.natCast_zero, Int.natCast_one, ws_whileA, wp_isiII, wp_isiIB, wp_isiR, tyO_l, tyO_t, kk_isi, kk_isi2, kit_ll, kit_tt, kit_lt, kit_tl, wp_isiN, wp_isiBl, wp_isiS, tyO_d, kit2_NoneType_int, kit2_NoneType_bool, kit2_NoneType_list, kit2_NoneType_tuple, kit2_NoneType_str, kit2_bool_int, kit2_bool_bool, kit2_bool_list, kit2_bool_tuple, kit2_bool_str, kit2_str_int, kit2_str_bool, kit2_str_list, kit2_str_tuple, kit2_str_str, kit2_dict_int, kit2_dict_bool, kit2_dict_list, kit2_dict_tuple, kit2_dict_str, kit2_list_int, kit2_list_bool, kit2_list_str, kit2_tuple_int, kit2_tuple_bool, kit2_tuple_str, kit2_int_list, kit2_int_tuple, kit2_int_str, kf_next, kf_cont, kf_brk, kf_ret, wipeI, wp_chain3, kk_d1, kk_d2, kk_d31, kk_d30, ws_tries, kk_tries0, kk_tries, kk_goHt, kk_goHf, ws_par3, kks_par3, wp_isB, wp_intBl, ↓reduceIte, *])
theorem Win.app {W : List (Int × Int)} (h : Win W) {r : Int × Int} (h0 : 0 ≤ r.1) (h1 : r.1 ≤ r.2) : Win (W ++ [r]) := fun x hx => by
  rcases List.mem_append.mp hx with z | z
  · exact h x z
  · rw [List.mem_singleton.mp z]
    exact ⟨h0, h1⟩
section
variable {p m : Nat} {ih : IH} {Q : PQ IV} {E : EQ} {S : SQ} {F : ES}
theorem w_long (c : Cs) (h : Src0 p m ih) (hm : m + 1000 ≤ 1000000)
    (k : ∀ ih', Src0 p (m + 1000) ih' → Fr p ih ih' → ih.length ≤ ih'.length → Q (.bl true) ih') : wp (m_law_long_right c [.ref p] ih) Q E := by
  have lp := h.lt
  have c50 : cPow 10 50 = true := by decide
  have c9 : cPow 10 9 = true := by decide
  unfold m_law_long_right b_law_long_right
  walk_at "run"
  refine w_next c h (by decide) ((lit 10 : B 10 1000).mono (by decide)) (by omega) fun b ih1 b0 b1 s1 F1 l1 => ?_
  have G1 := Hide.mk F1
  clear h F1
  walk_at "run"
  refine w_next c s1 (by decide) ((lit 10 : B 10 51).mono (by decide)) (by omega) fun y ih2 y0 y1 s2 f2 l2 => ?_
  have G2 := Hide.mk (G1.get.trans f2 (by omega))
  clear s1 G1 f2
  obtain ⟨n, en⟩ : ∃ n : Nat, 150 + y = (n : Int) := ⟨(150 + y).toNat, by omega⟩
  have n1 : n ≤ 200 := by omega
  have n0 : 150 ≤ n := by omega
  clear y0 y1
  walk_at "run"
  rw [a_lst (by simp), wp_ok]
  generalize hP : k_cons _ _ _ _ = P
  refine newN fun q ih3 q1 q2 l3 f3 g3 => ?_
  subst hP
  have G3 := Hide.mk (G2.get.src f3 (by omega))
  have s3 := s2.fx f3
  have qp : q ≠ p := by omega
  have lq : ih.length ≤ q := by omega
  clear s2 G2 f3
  walk_at "run"
  refine ⟨smallI_mk (by omega) (by omega), ?_⟩
  rw [Int.toNat_natCast]
  obtain ⟨M, eM⟩ : ∃ M : Int, (10 : Int) ^ 50 = M := ⟨_, rfl⟩
  have M0 : (10000 : Int) < M := by rw [← eM]; decide
  rw [eM]
  refine for_rng0 (fun i env ih' => (∃ e a6 xs W, env = [some (.ref p), some (.int b), some (.int (n : Int)), some (.int M), some (.ref q), some (.int e), a6, none, none, none, none] ∧ ih'[q]? = some (.lst xs) ∧ PR ih' xs W ∧ Win W ∧ W.length = i ∧ b + 1 ≤ e ∧ e ≤ b + 1 + 9 * i ∧ (∀ r ∈ W, b < r.1 ∧ r.2 ≤ e + 12)) ∧ Src0 p (m + 2 + 2 * i) ih' ∧ Fr p ih ih' ∧ ih.length ≤ ih'.length)
    ⟨⟨b + 1, _, [], [], rfl, g3, trivial, (fun r hr => by cases hr), rfl, by omega, by omega, (fun r hr => by cases hr)⟩, s3, G3.get, by omega⟩ (fun i env ih4 hi hP => ?_) fun env ih4 hP => ?_
  · obtain ⟨⟨e, a6, xs, W, ee, g4, pr, hW, lW, e0, e1, hr⟩, s4, F4, l4⟩ := hP
    subst ee
    have G4 := Hide.mk F4
    have ql4 := lt_of_get g4
    have pl4 := s4.lt
    clear k g3 s3 G3 F4
    unfold lb_law_long_right_1
    walk_at "run"
    refine w_next c s4 (by decide) ((lit 10 : B 10 9).mono (by decide)) (by omega) fun x ih5 x0 x1 s5 f5 l5 => ?_
    have g5 := (f5 q ql4 qp).trans g4
    have pr5 := pr.srcD s4 f5
    have G5 := Hide.mk (G4.get.trans f5 l4)
    clear f5 g4 pr s4 G4
    walk_at "run"
    refine w_next c s5 (by decide) ((lit 10 : B 10 12).mono (by decide)) (by omega) fun z ih6 z0 z1 s6 f6 l6 => ?_
    have g6 := (f6 q (by omega) qp).trans g5
    have pr6 := pr5.srcD s5 f6
    have G6 := Hide.mk (G5.get.trans f6 (by omega))
    clear f6 g5 pr5 s5 G5
    have xl := pr6.len
    walk_at "run"
    refine wp_tup (by simp) ?_
    generalize hP : k_cons _ _ _ _ = P
    refine newN fun t ih7 t1 t2 l7 f7 g7 => ?_
    subst hP
    have g67 := (f7 q (by omega)).trans g6
    have pr7 := pr6.fx f7
    have s7 := s6.fx f7
    have G7 := Hide.mk (G6.get.src f7 (by omega))
    have tq : t ≠ q := by omega
    clear f7 g6 pr6 s6 G6
    have nx := Hide.mk (show Src0 p (m + 2 + 2 * (i + 1)) (ih7.set q (.lst (xs ++ [.ref t]))) ∧ Fr p ih (ih7.set q (.lst (xs ++ [.ref t]))) ∧ ih.length ≤ (ih7.set q (.lst (xs ++ [.ref t]))).length from ⟨(s7.set qp).mono (by omega), G7.get.set lq, by rw [List.length_set]; omega⟩)
    have ny : (ih7.set q (.lst (xs ++ [.ref t])))[q]? = some (.lst (xs ++ [.ref t])) := g_set (by omega)
    have nz : PR (ih7.set q (.lst (xs ++ [.ref t]))) (xs ++ [.ref t]) (W ++ [(e + 1 + x, e + 1 + x + z)]) := (pr7.setA g67).app (by rw [g_sne (Ne.symm tq)]; exact g7)
    have nw : Win (W ++ [(e + 1 + x, e + 1 + x + z)]) := hW.app (by dsimp only; omega) (by dsimp only; omega)
    have nr : ∀ r ∈ W ++ [(e + 1 + x, e + 1 + x + z)], b < r.1 ∧ r.2 ≤ e + 1 + x + 12 := fun r h => by
      rcases List.mem_append.mp h with z | z
      · have := hr r z
        omega
      · rw [List.mem_singleton.mp z]
        dsimp only
        omega
    clear pr7 s7 G7 g7 hr hW
    walk_at "run"
    refine ⟨by omega, ?_⟩
    exact Inv.mk ⟨⟨_, _, _, _, rfl, ny, nz, nw, by rw [List.length_append, lW]; rfl, by omega, by omega, nr⟩, nx.get⟩
  · obtain ⟨⟨e, a6, xs, W, ee, g4, pr, hW, lW, e0, e1, hr⟩, s4, F4, l4⟩ := hP
    subst ee
    have G4 := Hide.mk F4
    have ql4 := lt_of_get g4
    clear g3 s3 G3 F4 en
    rw [kks_next, ws_seq]
    generalize hA : ks_seq _ (kd Q) (kdE E) = KA
    walk_at "run"
    rw [← hA, kks_next, ws_seq]
    clear hA
    generalize hB : ks_seq _ (kd Q) (kdE E) = KB
    have fin : ∀ (ih1 : IH) (q1 : Nat) (s1 e1 : Int) (xs1 : List IV) (W1 : List (Int × Int)) (mb : Nat), Src0 p (m + 900) ih1 → q1 ≠ p → 1 ≤ s1 → b ≤ e1 → ih1[q1]? = some (.lst xs1) → PR ih1 xs1 W1 → Win W1 → W1.length ≤ 300 → e1 - b < ((mb : Int) + 1) * s1 → mb ≤ 500 → ¬ (ends W1 b e1 = [] ∧ e1 - b ≤ s1) → Fr p ih ih1 → ih.length ≤ ih1.length →
        KB (.next [some (.ref p), some (.int b), some (.int (n : Int)), some (.int s1), some (.ref q1), some (.int e1), a6, none, none, none, none]) ih1 := by
      intro ih1 q1 s1 e1 xs1 W1 mb a1 a2 a3 a4 a5 a6' a7 a8 a9 a10 a11 a12 a13
      rw [← hB, kks_next]
      exact w_long_tail c a1 (by omega) a2 a3 b0 a4 a5 a6' a7 a8 a9 a10 a11 fun ih' s' f' l' => k ih' (s'.mono (by omega)) (a12.trans f' a13) (by omega)
    clear hB k
    walk_at "run"
    refine w_next c s4 (by decide) ((lit 10 : B 10 2).mono (by decide)) (by omega) fun y ih5 y0 y1 s5 f5 l5 => ?_
    have g5 := (f5 q ql4 qp).trans g4
    have pr5 := pr.srcD s4 f5
    have G5 := Hide.mk (G4.get.trans f5 l4)
    clear f5 g4 pr s4 G4
    by_cases hy : y = 0
    · have d1 := decide_eq_true hy
      clear hy
      walk_at "run"
      refine w_next c s5 (by decide) ((lit 31 : B 31 (10 ^ 9)).mono (by decide)) (by omega) fun z ih6 z0 z1 s6 f6 l6 => ?_
      have G6 := Hide.mk (G5.get.trans f6 (by omega))
      clear f6 g5 pr5 s5 G5
      have cm : cMul (n : Int) (1 + z) = true := B.cmul (B.lt (n := 20) (i := (n : Int)) (by omega) (by omega)) (B.lt (n := 40) (i := 1 + z) (by omega) (by omega)) (by decide)
      walk_at "run"
      rw [a_lst (by simp), wp_ok]
      generalize hP : k_cons _ _ _ _ = P
      refine newN fun q1 ih7 q11 q12 l7 f7 g7 => ?_
      subst hP
      have sz : (1 : Int) ≤ 1 + z := by omega
      have m1 := Int.mul_le_mul_of_nonneg_left sz (show (0 : Int) ≤ (n : Int) by omega)
      have m2 : (150 : Int) * (1 + z) ≤ (n : Int) * (1 + z) := Int.mul_le_mul_of_nonneg_right (by omega) (by omega)
      have m3 : ((n + 1 : Nat) : Int) * (1 + z) = (n : Int) * (1 + z) + (1 + z) := by rw [show ((n + 1 : Nat) : Int) = (n : Int) + 1 by omega, Int.add_mul, Int.one_mul]
      have m4 : (((n + 1 : Nat) : Int) + 1) * (1 + z) = (n : Int) * (1 + z) + (1 + z) + (1 + z) := by rw [Int.add_mul, m3, Int.one_mul]
      have kz := fin ih7 q1 (1 + z) (b + (n : Int) * (1 + z) + 1) [] [] (n + 1) ((s6.fx f7).mono (by omega)) (by have := s6.lt; omega) sz (by omega) g7 trivial (fun r hr => by cases hr) (by simp) (by rw [m4]; omega) (by omega) (fun h => by omega) (G6.get.src f7 (by omega)) (by omega)
      clear fin f7 s6 G6 g7 m1 m2 m3 m4
      walk_at "run"
      all_goals exact kz
    · have d1 := decide_eq_false hy
      obtain ⟨r, hr1⟩ : ∃ r, r ∈ W := by
        cases W with
        | nil => simp at lW; omega
        | cons r _ => exact ⟨r, List.mem_cons_self⟩
      have ne : ends W b (e + 20) ≠ [] := fun h => by
        have h1 := hr r hr1
        have : r.2 ∈ ends W b (e + 20) := ends_mem.mpr ⟨r, hr1, h1.1, by omega, rfl⟩
        rw [h] at this
        cases this
      have kz := fin ih5 q M (e + 20) xs W 0 (s5.mono (by omega)) qp (by omega) (by omega) g5 pr5 hW (by omega) (by simp; omega) (by omega) (fun h => ne h.1) G5.get (by omega)
      clear fin s5 pr5 G5 hW hr ne hr1 hy
      walk_at "run"
      all_goals exact kz
theorem w_bound (c : Cs) (ok : CsOk c) {s : Int} (h : Src0 p m ih) (hm : m + 10 ≤ 1000000) (s1 : 1 ≤ s) (sB : B 100 s)
    (k : ∀ ih', Q (.bl true) ih') : wp (m_law_bound_right c [.ref p, .int s] ih) Q E := by
  unfold m_law_bound_right b_law_bound_right
  walk_at "run"
  refine w_next c h (by decide) ((lit 10 : B 10 1000).mono (by decide)) (by omega) fun b ih1 b0 b1 s1' F1 l1 => ?_
  clear h F1 s1'
  walk_at "run"
  rw [a_lst (by simp), wp_ok]
  generalize hP : k_il _ = P
  refine newN fun q ih2 q1 q2 l2 f2 g2 => ?_
  subst hP
  clear f2
  walk_at "run"
  refine for_lst1 (fun i env ih' => (∃ a3 a4 a5, env = [some (.ref p), some (.int s), some (.int b), a3, a4, a5, none]) ∧ Fx ih2 ih' ∧ ih2.length ≤ ih'.length) g2 rfl ⟨⟨_, _, _, rfl⟩, Fx.refl, Nat.le_refl _⟩ (fun i env ih' h => (h.2.1 q q2).trans g2) (fun i v env ih3 hi h => ?_) fun env ih3 h => ?_
  · obtain ⟨⟨a3, a4, a5, ee⟩, f3, l3⟩ := h
    subst ee
    obtain ⟨n, hn, rfl⟩ : ∃ n : Nat, (n = 2000 ∨ n = 2001) ∧ v = .int (n : Int) := by
      have := List.mem_of_getElem? hi
      simp only [xs_lst, List.mem_cons, List.not_mem_nil, or_false] at this
      rcases this with e | e
      · exact ⟨2000, .inl rfl, e⟩
      · exact ⟨2001, .inr rfl, e⟩
    exact w_bturn c ok s1 sB b0 hn _ fun a4 a5 ih4 f4 l4 => ⟨⟨_, _, _, rfl⟩, f3.trans f4 l3, by omega⟩
  · obtain ⟨⟨a3, a4, a5, ee⟩, f3, l3⟩ := h
    subst ee
    clear f3
    walk_at "run"
    all_goals exact k _
theorem w_body (c : Cs) {ns : List Int} {i : Nat} {a2 a3 a4 a5 a6 a7 a8 a9 a10 : Option IV} (h : Scr ns ih) (hb : ∀ z ∈ ns, ibits z ≤ 1048576) (hk : i ≤ 1000) (P : Env → IH → Prop)
    (kk : ∀ b2 b3 b4 b5 b6 b7 b8 b9 b10 ih', Scr ns ih' → P [some (.ref 0), some (.int (i : Int)), b2, b3, b4, b5, b6, b7, b8, b9, b10] ih') : ws (lb_law_2 c [some (.ref 0), some (.int (i : Int)), a2, a3, a4, a5, a6, a7, a8, a9, a10] ih) (kf P S) F := by
  have hl : 0 < ih.length := lt_of_get h
  unfold lb_law_2
  walk_at "run"
  refine w_source c h hb (by omega) fun ih1 s1 f1 l1 => ?_
  obtain ⟨p, ep⟩ : ∃ p, ih.length = p := ⟨_, rfl⟩
  rw [ep] at s1 l1 hl ⊢
  have h1 : Scr ns ih1 := by
    unfold Scr
    rw [f1 0 (by omega)]
    exact h
  have hS : ∀ ih', Fr p ih1 ih' → Scr ns ih' := fun ih' f => by
    unfold Scr
    rw [f 0 (by omega) (by omega)]
    exact h1
  clear f1 h
  have c12 : cPow 10 12 = true := by decide
  have c45 : cPow 10 45 = true := by decide
  have c50 : cPow 10 50 = true := by decide
  walk_at "run"
  unfold m_law_far b_law_far
  walk_at "run"
  rw [a_lst (by simp), wp_ok]
  generalize hP : k_op _ _ _ _ _ = P'
  refine newN fun u ih2 u1 u2 l2 f2 g2 => ?_
  subst hP
  have G2 := Hide.mk (show Fr p ih1 ih2 from f2.fr)
  have s2 := s1.fx f2
  clear s1 f2 h1
  walk_at "run"
  refine w_next c s2 (by decide) ((lit 10 : B 10 4).mono (by decide)) (by omega) fun y ih3 y0 y1 s3 f3 l3 => ?_
  have g3 := (f3 u u2 (by omega)).trans g2
  have G3 := Hide.mk (G2.get.trans f3 (by omega))
  clear s2 G2 f3 g2
  walk_at "run"
  refine k_pickI (fun z => 10 ≤ z ∧ z ≤ 10 ^ 45) y0 (by simpa using y1) (by simp only [allI, and_true]; omega) fun sz hsz => ?_
  obtain ⟨z10, z45⟩ := hsz
  obtain ⟨N, eN⟩ : ∃ N : Int, (10 : Int) ^ 45 = N := ⟨_, rfl⟩
  have szB : B 160 sz := B.lt (by omega) (Int.lt_of_le_of_lt z45 (by decide))
  have B1 : B 8000 sz := szB.mono (by decide)
  have B2 : B 8000 (30 * sz) := (B.mul (lit 10 : B 10 30) szB).mono (by decide)
  have B3 : B 8000 (5 * sz) := (B.mul (lit 10 : B 10 5) szB).mono (by decide)
  have cm1 : cMul 30 sz = true := B.cmul (lit 10 : B 10 30) szB (by decide)
  have cm2 : cMul 5 sz = true := B.cmul (lit 10 : B 10 5) szB (by decide)
  have cd : cDiv sz 2 = true := cDiv_of (n := 2) (by decide) (by unfold B; decide) (by decide) (by decide)
  clear g3 y0 y1 eN
  walk_at "run"
  refine w_next c s3 (by omega) B1 (by omega) fun b ih4 b0 b1 s4 f4 l4 => ?_
  have G4 := Hide.mk (G3.get.trans f4 (by omega))
  clear s3 G3 f4
  walk_at "run"
  refine w_next c s4 (by omega) B2 (by omega) fun y ih5 y0 y1 s5 f5 l5 => ?_
  have G5 := Hide.mk (G4.get.trans f5 (by omega))
  clear s4 G4 f5
  obtain ⟨e, ee⟩ : ∃ e, b + y = e := ⟨_, rfl⟩
  walk_at "run"
  refine w_next c s5 (by omega) B1 (by omega) fun x ih6 x0 x1 s6 f6 l6 => ?_
  have G6 := Hide.mk (G5.get.trans f6 (by omega))
  clear s5 G5 f6
  walk_at "run"
  rw [a_lst (by simp), wp_ok]
  generalize hP : k_op _ _ _ _ _ = P'
  refine newN fun u ih7 u1 u2 l7 f7 g7 => ?_
  subst hP
  have G7 := Hide.mk (G6.get.src f7 (by omega))
  have s7 := s6.fx f7
  clear s6 G6 f7
  walk_at "run"
  refine w_next c s7 (by decide) ((lit 10 : B 10 3).mono (by decide)) (by omega) fun w ih8 w0 w1 s8 f8 l8 => ?_
  have g8 := (f8 u u2 (by omega)).trans g7
  have G8 := Hide.mk (G7.get.trans f8 (by omega))
  clear s7 G7 f8 g7
  walk_at "run"
  refine k_pickI (fun z => sz + 1 ≤ 2 * z) w0 (by simpa using w1) (by
    simp only [allI, and_true]
    have : (10 : Int) ^ 45 ≤ 10 ^ 50 := by decide
    omega) fun s hs => ?_
  have eB : B 8000 (e + sz) := by
    have : B 200 (e + sz) := B.lt (by omega) (by
      have : (10 : Int) ^ 45 * 40 < 2 ^ 200 := by decide
      omega)
    exact this.mono (by decide)
  clear g8 w0 w1 x0 x1 B1 B2 c12 c45 c50 cd cm1
  walk_at "run"
  rw [a_lst (by simp), wp_ok]
  generalize hP : ks_set _ _ _ = P'
  refine newN fun q ih9 q1 q2 l9 f9 g9 => ?_
  subst hP
  have G9 := Hide.mk (G8.get.src f9 (by omega))
  have s9 := s8.fx f9
  have qp : q ≠ p := by omega
  have lq : ih1.length ≤ q := by omega
  clear s8 G8 f9
  walk_at "run"
  refine w_next c s9 (by decide) ((lit 10 : B 10 31).mono (by decide)) (by omega) fun n' ih10 n0 n1 s10 f10 l10 => ?_
  have g10 := (f10 q q2 qp).trans g9
  have G10 := Hide.mk (G9.get.trans f10 (by omega))
  clear s9 G9 f10 g9
  obtain ⟨n, rfl⟩ : ∃ n : Nat, n' = (n : Int) := ⟨n'.toNat, by omega⟩
  walk_at "run"
  refine ⟨smallI_mk (by omega) (by omega), ?_⟩
  rw [Int.toNat_natCast]
  refine for_rng0 (fun j env ih' => (∃ a8 a9 a10 xs W, env = [some (.ref 0), some (.int (i : Int)), some (.ref p), some (.int sz), some (.int b), some (.int e), some (.int s), some (.ref q), a8, a9, a10] ∧ ih'[q]? = some (.lst xs) ∧ PR ih' xs W ∧ Win W ∧ W.length = j) ∧ Src0 p (10 + 10 * j) ih' ∧ Fr p ih1 ih' ∧ ih1.length ≤ ih'.length)
    ⟨⟨_, _, _, [], [], rfl, g10, trivial, (fun r hr => by cases hr), rfl⟩, s10.mono (by omega), G10.get, by omega⟩ (fun j env ih11 hj hP => ?_) fun env ih11 hP => ?_
  · obtain ⟨⟨a8, a9, a10, xs, W, ee', g11, pr, hW, lW⟩, s11, F11, l11⟩ := hP
    subst ee'
    have G11 := Hide.mk F11
    have ql := lt_of_get g11
    clear kk g10 s10 G10 F11 hS
    unfold lb_law_1
    walk_at "run"
    refine w_next c s11 (by omega) eB (by omega) fun x ih12 x0 x1 s12 f12 l12 => ?_
    have g12 := (f12 q ql qp).trans g11
    have pr12 := pr.srcD s11 f12
    have G12 := Hide.mk (G11.get.trans f12 l11)
    clear f12 g11 pr s11 G11
    walk_at "run"
    refine w_next c s12 (by decide) ((lit 10 : B 10 10).mono (by decide)) (by omega) fun y2 ih13 y20 y21 s13 f13 l13 => ?_
    have g13 := (f13 q (lt_of_get g12) qp).trans g12
    have pr13 := pr12.srcD s12 f13
    have G13 := Hide.mk (G12.get.trans f13 (by omega))
    clear f13 g12 pr12 s12 G12
    walk_at "run"
    refine w_next c s13 (by omega) B3 (by omega) fun y3 ih14 y30 y31 s14 f14 l14 => ?_
    have g14 := (f14 q (lt_of_get g13) qp).trans g13
    have pr14 := pr13.srcD s13 f14
    have G14 := Hide.mk (G13.get.trans f14 (by omega))
    clear f14 g13 pr13 s13 G13
    walk_at "run"
    rw [a_lst (by simp), wp_ok]
    generalize hP : k_op _ _ _ _ _ = P'
    refine newN fun u ih15 u1 u2 l15 f15 g15 => ?_
    subst hP
    have gq15 := (f15 q (lt_of_get g14)).trans g14
    have pr15 := pr14.fx f15
    have G15 := Hide.mk (G14.get.src f15 (by omega))
    have s15 := s14.fx f15
    clear f15 g14 pr14 s14 G14
    walk_at "run"
    refine w_next c s15 (by decide) ((lit 10 : B 10 3).mono (by decide)) (by omega) fun w ih16 w0 w1 s16 f16 l16 => ?_
    have g16 := (f16 q (lt_of_get gq15) qp).trans gq15
    have gu16 := (f16 u u2 (by omega)).trans g15
    have pr16 := pr15.srcD s15 f16
    have G16 := Hide.mk (G15.get.trans f16 (by omega))
    clear f16 gq15 pr15 s15 G15 g15
    walk_at "run"
    refine k_pickI (fun z => 0 ≤ z) w0 (by simpa using w1) (by simp only [allI, and_true]; omega) fun mo hmo => ?_
    have xl := pr16.len
    clear gu16 w0 w1
    walk_at "run"
    refine wp_tup (by simp) ?_
    generalize hP : k_cons _ _ _ _ = P'
    refine newN fun t ih17 t1 t2 l17 f17 g17 => ?_
    subst hP
    have gq17 := (f17 q (lt_of_get g16)).trans g16
    have pr17 := pr16.fx f17
    have s17 := s16.fx f17
    have G17 := Hide.mk (G16.get.src f17 (by omega))
    have tq : t ≠ q := by have := lt_of_get g16; omega
    clear f17 g16 pr16 s16 G16
    have nx := Hide.mk (show Src0 p (10 + 10 * (j + 1)) (ih17.set q (.lst (xs ++ [.ref t]))) ∧ Fr p ih1 (ih17.set q (.lst (xs ++ [.ref t]))) ∧ ih1.length ≤ (ih17.set q (.lst (xs ++ [.ref t]))).length from ⟨(s17.set qp).mono (by omega), G17.get.set lq, by rw [List.length_set]; omega⟩)
    have ny : (ih17.set q (.lst (xs ++ [.ref t])))[q]? = some (.lst (xs ++ [.ref t])) := g_set (lt_of_get gq17)
    have nz : PR (ih17.set q (.lst (xs ++ [.ref t]))) (xs ++ [.ref t]) (W ++ [(x, x + mo)]) := (pr17.setA gq17).app (by rw [g_sne (Ne.symm tq)]; exact g17)
    have nw : Win (W ++ [(x, x + mo)]) := hW.app x0 (by dsimp only; omega)
    clear pr17 s17 G17 g17 hW
    walk_at "run"
    refine ⟨by omega, ?_⟩
    exact Inv.mk ⟨⟨_, _, _, _, _, rfl, ny, nz, nw, by rw [List.length_append, lW]; rfl⟩, ⟨nx.get.1, nx.get.2.1, by have := nx.get.2.2; omega⟩⟩
  · obtain ⟨⟨a8, a9, a10, xs, W, ee', g11, pr, hW, lW⟩, s11, F11, l11⟩ := hP
    subst ee'
    have h11 := hS ih11 F11
    have hl11 : 0 < ih11.length := by omega
    clear g10 s10 G10 F11 hS
    walk_at "run"
    refine w_right c (m := 60) (by omega) b0 (by omega) g11 pr hW (by omega) (by simp; omega) (by omega) fun ih12 f12 l12 => ?_
    have kz := fun b2 b3 b4 b5 b6 b7 b8 b9 b10 => kk b2 b3 b4 b5 b6 b7 b8 b9 b10 ih12 (by
      unfold Scr
      rw [f12 0 hl11]
      exact h11)
    clear kk f12 g11 pr h11 s11
    walk_at "run"
    exact Inv.mk (kz _ _ _ _ _ _ _ _ _)
end
theorem w_law (c : Cs) (ok : CsOk c) {ns : List Int} {ih : IH} {Q : PQ IV} {E : EQ} (h : Scr ns ih) (hb : ∀ z ∈ ns, ibits z ≤ 1048576) (hl : ns.length ≤ 63) (q : ∀ ih', Q (.bl true) ih') : wp (m_law c [.ref 0] ih) Q E := by
  have h' : ih[0]? = some (.ro (ns.map IV.int)) := h
  have c20 : cPow 10 20 = true := by decide
  unfold m_law b_law
  walk_at "run"
  rw [List.length_map]
  obtain ⟨j, ej⟩ : ∃ j : Int, (if (if (ns.length : Int) < 6 then (ns.length : Int) else 6) > 1 then (if (ns.length : Int) < 6 then (ns.length : Int) else 6) else 1) = j := ⟨_, rfl⟩
  have hj : 1 ≤ j ∧ j ≤ 6 := by rw [← ej]; split <;> split <;> omega
  rw [ej]
  refine ⟨smallI_mk (by omega) (by omega), ?_⟩
  refine for_rng0 (fun i env ih' => (∃ a1 a2 a3 a4 a5 a6 a7 a8 a9 a10, env = [some (.ref 0), a1, a2, a3, a4, a5, a6, a7, a8, a9, a10]) ∧ Scr ns ih') ⟨⟨_, _, _, _, _, _, _, _, _, _, rfl⟩, h⟩ (fun i env ih' hi hP => ?_) fun env ih' hP => ?_
  · obtain ⟨⟨a1, a2, a3, a4, a5, a6, a7, a8, a9, a10, ee⟩, h2⟩ := hP
    subst ee
    exact w_body c h2 hb (by omega) _ fun b2 b3 b4 b5 b6 b7 b8 b9 b10 ih3 h3 => ⟨⟨_, _, _, _, _, _, _, _, _, _, rfl⟩, h3⟩
  · obtain ⟨⟨a1, a2, a3, a4, a5, a6, a7, a8, a9, a10, ee⟩, h2⟩ := hP
    subst ee
    have hl2 : 0 < ih'.length := lt_of_get h2
    clear h h' ej
    walk_at "run"
    refine w_source (k := 0) c h2 hb (by omega) fun ih1 s1 f1 l1 => ?_
    clear h2 f1
    obtain ⟨p, ep⟩ : ∃ p, ih'.length = p := ⟨_, rfl⟩
    rw [ep] at s1 ⊢
    walk_at "run"
    refine w_long c s1 (by omega) fun ih2 s2 f2 l2 => ?_
    clear s1 f2
    walk_at "run"
    refine w_next c s2 (by decide) ((lit 80 : B 80 (10 ^ 20)).mono (by decide)) (by omega) fun z ih3 z0 z1 s3 f3 l3 => ?_
    clear s2 f3
    walk_at "run"
    refine w_bound c ok s3 (by omega) (by omega) ((B.lt (n := 80) (i := 1 + z) (by omega) (by omega)).mono (by decide)) fun ih4 => ?_
    walk_at "run"
    all_goals exact q _
theorem run_law (c : Cs) (ok : CsOk c) (ns : List Int) (h : ns.length ≤ 63) (hb : ∀ z ∈ ns, ibits z ≤ 1048576) : ∃ ih, m_law c [.ref 0] [.ro (ns.map IV.int)] = .ok (.bl true) ih := by
  obtain ⟨v, ih, e, rfl⟩ := (w_law c ok (ns := ns) (ih := [.ro (ns.map IV.int)]) (Q := fun v _ => v = .bl true) (E := E0) rfl hb h fun _ => rfl).out
  exact ⟨ih, e⟩
end L3
namespace L3
open PySem PySem.Spec PyProof.Rows L2

abbrev topS (i : Nat) : Stmt := PySem.Challenge.pw_timekernel_k33_fewest_looks_far_away.main.body.getD i (.Pass ⟨0, 0, 0, 0⟩)
structure Txt (K : PySem.W.Frag) (mg : Str → Option Value) (c : Cs) : Prop where
  kk : c.K = K
  b_all : mg "all" = none
  b_any : mg "any" = none
  b_bool : mg "bool" = none
  b_int : mg "int" = none
  b_isinstance : mg "isinstance" = none
  b_len : mg "len" = none
  b_list : mg "list" = none
  b_max : mg "max" = none
  b_min : mg "min" = none
  b_range : mg "range" = none
  b_tuple : mg "tuple" = none
  b_zip : mg "zip" = none
  g_MOST_LOOKS : ∃ u, mg "MOST_LOOKS" = some u ∧ RelV ((.int 2000) : V) u
  x_KernelError : ExcX K mg "KernelError" c.KernelError
  x_NoCycle : ExcX K mg "NoCycle" c.NoCycle
  x_NoLooks : ExcX K mg "NoLooks" c.NoLooks
  x_NoSpan : ExcX K mg "NoSpan" c.NoSpan
  x_NoWindow : ExcX K mg "NoWindow" c.NoWindow
  x_TooMany : ExcX K mg "TooMany" c.TooMany
section
variable [TabT] {P : Program} {w : World} {K : PySem.W.Frag} {mg : Str → Option Value} {base : Heap} {c : Cs} {f : Addr} {fd : FuncData}
abbrev s__law_mixed : Stmt := topS 24
abbrev N__law_mixed : List Str := ["cell", "k", "low"]
theorem S__law_mixed : FnScope N__law_mixed ["cell", "k"] (defScope s__law_mixed) := ⟨rfl, rfl, rfl, by decide +kernel, rfl, by decide +kernel, by decide +kernel⟩
theorem ok__law_mixed (T : Txt K mg c) (F : FunD K "_law_mixed" "_law_mixed" (defArgs s__law_mixed) (defBody s__law_mixed) (defScope s__law_mixed) [] [] f fd) (hm : mg "_law_mixed" = some (.ref f))  : ∀ [LamT], Df P w K mg base 1 "_law_mixed" 2 [] (m_law_mixed c) := by
 intro I
 obtain rfl := T.kk
 exact df0 (N := N__law_mixed) (mb := b_law_mixed c) F S__law_mixed hm (fun _ _ _ _ _ _ us hl => match us, hl with | [_, _], _ => rfl) fun cdv A outer s H E hr tk hp hu =>
 (lss_cons (ls_set (i := 2) S__law_mixed.nd rfl (Or.inl rfl) (lm_op op_addA s_add (lm_op op_mod s_mod (lm_callTy call_int1 s_int rfl T.b_int (by decide +kernel) (la_cons (lm_var 0) la_nil)) (lm_c (.int 2147483629) pe_int)) (lm_op op_mulA s_mulA (lm_op op_fdivW s_fdiv (lm_var 0) (lm_c (.int 2147483629) pe_int)) (lm_c (.int 30011) pe_int))))
 (lss_cons (ls_set (i := 2) S__law_mixed.nd rfl (Or.inl rfl) (lm_op op_mod s_mod (lm_callTy call_int1 s_int rfl T.b_int (by decide +kernel) (la_cons (lm_op op_mulA s_mulA (lm_op op_addA s_add (lm_op op_addA s_add (lm_var 2) (lm_op op_mulA s_mulA (lm_c (.int 69621) pe_int) (lm_var 1))) (lm_c (.int 1) pe_int)) (lm_c (.int 48271) pe_int)) la_nil)) (lm_c (.int 2147483629) pe_int)))
 (lss_cons (ls_set (i := 2) S__law_mixed.nd rfl (Or.inl rfl) (lm_op op_mod s_mod (lm_callTy call_int1 s_int rfl T.b_int (by decide +kernel) (la_cons (lm_op op_mulA s_mulA (lm_var 2) (lm_op op_addA s_add (lm_op op_addA s_add (lm_op op_fdivW s_fdiv (lm_var 2) (lm_c (.int 907) pe_int)) (lm_c (.int 16831) pe_int)) (lm_var 1))) la_nil)) (lm_c (.int 2147483587) pe_int)))
 (lss_one (ls_ret (lm_op op_mod s_mod (lm_callTy call_int1 s_int rfl T.b_int (by decide +kernel) (la_cons (lm_op op_mulA s_mulA (lm_var 2) (lm_op op_addA s_add (lm_op op_fdivW s_fdiv (lm_var 2) (lm_c (.int 1201) pe_int)) (lm_c (.int 30011) pe_int))) la_nil)) (lm_c (.int 2147483563) pe_int)))))))
abbrev s__law_next : Stmt := topS 26
abbrev N__law_next : List Str := ["source", "many", "found"]
theorem S__law_next : FnScope N__law_next ["source", "many"] (defScope s__law_next) := ⟨rfl, rfl, rfl, by decide +kernel, rfl, by decide +kernel, by decide +kernel⟩
theorem ok__law_next (T : Txt K mg c) (F : FunD K "_law_next" "_law_next" (defArgs s__law_next) (defBody s__law_next) (defScope s__law_next) [] [] f fd) (hm : mg "_law_next" = some (.ref f)) (D__law_mixed : ∀ [LamT], Df P w K mg base 1 "_law_mixed" 2 [] (m_law_mixed c)) : ∀ [LamT], Df P w K mg base 2 "_law_next" 2 [] (m_law_next c) := by
 intro I
 obtain rfl := T.kk
 exact df0 (N := N__law_next) (mb := b_law_next c) F S__law_next hm (fun _ _ _ _ _ _ us hl => match us, hl with | [_, _], _ => rfl) fun cdv A outer s H E hr tk hp hu =>
 (lss_cons (ls_if (lt_cmp op_ge s_ge (lm_ix ix_seq s_ix (lm_var 0) (lm_c (.int 0) pe_int)) (lm_op op_pow s_pow (lm_c (.int 10) pe_int) (lm_c (.int 18) pe_int)))
 (lss_cons (ls_set (i := 2) S__law_next.nd rfl (Or.inl rfl) (lm_op op_mod s_mod (lm_callTy call_int1 s_int rfl T.b_int (by decide +kernel) (la_cons (lm_ix ix_seq s_ix (lm_var 0) (lm_c (.int 0) pe_int)) la_nil)) (lm_var 1)))
 (lss_cons (ls_setL (lm_op op_fdivW s_fdiv (lm_ix ix_seq s_ix (lm_var 0) (lm_c (.int 0) pe_int)) (lm_var 1)) (fun h1 h2 => pg_sub h1 h2 set_list) (lm_var 0) (lm_c (.int 0) pe_int))
 (lss_one (ls_ret (lm_var 2)))))
 lss_nil)
 (lss_cons (ls_setL (lm_op op_addA s_add (lm_ix ix_seq s_ix (lm_var 0) (lm_c (.int 2) pe_int)) (lm_c (.int 1) pe_int)) (fun h1 h2 => pg_sub h1 h2 set_list) (lm_var 0) (lm_c (.int 2) pe_int))
 (lss_one (ls_ret (lm_op op_mod s_mod (lm_callTy call_int1 s_int rfl T.b_int (by decide +kernel) (la_cons (lm_call (x := "_law_mixed") (dvs := []) D__law_mixed 0 (by decide) (hr.mono (by decide)) rfl tk (la_cons (lm_ix ix_seq s_ix (lm_var 0) (lm_c (.int 1) pe_int)) (la_cons (lm_ix ix_seq s_ix (lm_var 0) (lm_c (.int 2) pe_int)) la_nil))) la_nil)) (lm_var 1))))))
abbrev s_is_whole : Stmt := topS 8
abbrev N_is_whole : List Str := ["thing", "least"]
theorem S_is_whole : FnScope N_is_whole ["thing", "least"] (defScope s_is_whole) := ⟨rfl, rfl, rfl, by decide +kernel, rfl, by decide +kernel, by decide +kernel⟩
theorem ok_is_whole (T : Txt K mg c) (F : FunD K "is_whole" "is_whole" (defArgs s_is_whole) (defBody s_is_whole) (defScope s_is_whole) [V.non] [] f fd) (hm : mg "is_whole" = some (.ref f))  : ∀ [LamT], Df P w K mg base 1 "is_whole" 2 [.non] (m_is_whole c) := by
 intro I
 obtain rfl := T.kk
 exact dfD (N := N_is_whole) (mb := b_is_whole c) F S_is_whole hm rfl rfl rfl (fun j hj => match j, hj with | 0, _ => F.binds1 1 0 (by decide) rfl (fun _ _ _ _ _ _ _ us its h1 h2 => match us, its, h1, h2 with | [_], [_], _, _ => ⟨_, rfl, rfl⟩) | 1, _ => F.binds1 2 1 (by decide) rfl (fun _ _ _ _ _ _ _ us its h1 h2 => match us, its, h1, h2 with | [_, _], [_], _, _ => ⟨_, rfl, rfl⟩)) fun cdv A outer s H E hr tk hp hu =>
 (lss_one (ls_ret (lm_and (lm_callB call_isi s_isi rfl T.b_isinstance (by decide +kernel) (la_cons (lm_var 0) (la_cons (lm_c (.ty "int") (pe_bltn (v := .ty "int") rfl T.b_int (by decide +kernel) rfl)) la_nil))) (lm_and (lm_not (lm_callB call_isi s_isi rfl T.b_isinstance (by decide +kernel) (la_cons (lm_var 0) (la_cons (lm_c (.ty "bool") (pe_bltn (v := .ty "bool") rfl T.b_bool (by decide +kernel) rfl)) la_nil)))) (lm_one (lm_or (lm_cmp op_isN s_isN (lm_var 1) (lm_c .non pe_non)) (lm_one (lm_cmp op_ge s_ge (lm_var 0) (lm_var 1)))))))))
abbrev s_check_cycle : Stmt := topS 10
abbrev N_check_cycle : List Str := ["cycle", "least"]
theorem S_check_cycle : FnScope N_check_cycle ["cycle", "least"] (defScope s_check_cycle) := ⟨rfl, rfl, rfl, by decide +kernel, rfl, by decide +kernel, by decide +kernel⟩
theorem ok_check_cycle (T : Txt K mg c) (F : FunD K "check_cycle" "check_cycle" (defArgs s_check_cycle) (defBody s_check_cycle) (defScope s_check_cycle) [(V.int 0)] [] f fd) (hm : mg "check_cycle" = some (.ref f)) (D_is_whole : ∀ [LamT], Df P w K mg base 1 "is_whole" 2 [.non] (m_is_whole c)) : ∀ [LamT], Df P w K mg base 2 "check_cycle" 2 [(.int 0)] (m_check_cycle c) := by
 intro I
 obtain rfl := T.kk
 exact dfD (N := N_check_cycle) (mb := b_check_cycle c) F S_check_cycle hm rfl rfl rfl (fun j hj => match j, hj with | 0, _ => F.binds1 1 0 (by decide) rfl (fun _ _ _ _ _ _ _ us its h1 h2 => match us, its, h1, h2 with | [_], [_], _, _ => ⟨_, rfl, rfl⟩) | 1, _ => F.binds1 2 1 (by decide) rfl (fun _ _ _ _ _ _ _ us its h1 h2 => match us, its, h1, h2 with | [_, _], [_], _, _ => ⟨_, rfl, rfl⟩)) fun cdv A outer s H E hr tk hp hu =>
 (lss_one (ls_if (lt_not (lt_val (lm_call (x := "is_whole") (dvs := [.non]) D_is_whole 1 (by decide) (hr.mono (by decide)) rfl tk (la_cons (lm_var 0) (la_cons (lm_var 1) la_nil)))))
 (lss_one (ls_raise rfl tk PySem.F.excBase_ValueError T.x_NoCycle.q T.x_NoCycle.g T.x_NoCycle.k (raises_own T.x_NoCycle.b T.x_NoCycle.t) rfl))
 lss_nil))
abbrev s_is_stretch : Stmt := topS 13
abbrev N_is_stretch : List Str := ["thing"]
theorem S_is_stretch : FnScope N_is_stretch ["thing"] (defScope s_is_stretch) := ⟨rfl, rfl, rfl, by decide +kernel, rfl, by decide +kernel, by decide +kernel⟩
theorem ok_is_stretch (T : Txt K mg c) (F : FunD K "is_stretch" "is_stretch" (defArgs s_is_stretch) (defBody s_is_stretch) (defScope s_is_stretch) [] [] f fd) (hm : mg "is_stretch" = some (.ref f)) (D_is_whole : ∀ [LamT], Df P w K mg base 1 "is_whole" 2 [.non] (m_is_whole c)) : ∀ [LamT], Df P w K mg base 2 "is_stretch" 1 [] (m_is_stretch c) := by
 intro I
 obtain rfl := T.kk
 exact df0 (N := N_is_stretch) (mb := b_is_stretch c) F S_is_stretch hm (fun _ _ _ _ _ _ us hl => match us, hl with | [_], _ => rfl) fun cdv A outer s H E hr tk hp hu =>
 (lss_one (ls_ret (lm_and (lm_callB call_isi s_isi rfl T.b_isinstance (by decide +kernel) (la_cons (lm_var 0) (la_cons (lm_c (.ty "tuple") (pe_bltn (v := .ty "tuple") rfl T.b_tuple (by decide +kernel) rfl)) la_nil))) (lm_and (lm_cmp (op_eqD hu) s_eq (lm_callB call_lenA s_len rfl T.b_len (by decide +kernel) (la_cons (lm_var 0) la_nil)) (lm_c (.int 2) pe_int)) (lm_and (lm_call (x := "is_whole") (dvs := [.non]) D_is_whole 1 (by decide) (hr.mono (by decide)) rfl tk (la_cons (lm_ix ix_seq s_ix (lm_var 0) (lm_c (.int 0) pe_int)) (la_cons (lm_c (.int 0) pe_int) la_nil))) (lm_one (lm_call (x := "is_whole") (dvs := [.non]) D_is_whole 1 (by decide) (hr.mono (by decide)) rfl tk (la_cons (lm_ix ix_seq s_ix (lm_var 0) (lm_c (.int 1) pe_int)) (la_cons (lm_ix ix_seq s_ix (lm_var 0) (lm_c (.int 0) pe_int)) la_nil)))))))))
abbrev s_check_frame : Stmt := topS 14
abbrev N_check_frame : List Str := ["span", "windows", "begin", "until", "one"]
theorem S_check_frame : FnScope N_check_frame ["span", "windows", "begin", "until"] (defScope s_check_frame) := ⟨rfl, rfl, rfl, by decide +kernel, rfl, by decide +kernel, by decide +kernel⟩
theorem ok_check_frame (T : Txt K mg c) (F : FunD K "check_frame" "check_frame" (defArgs s_check_frame) (defBody s_check_frame) (defScope s_check_frame) [] [] f fd) (hm : mg "check_frame" = some (.ref f)) (D_check_cycle : ∀ [LamT], Df P w K mg base 2 "check_cycle" 2 [(.int 0)] (m_check_cycle c)) (D_is_stretch : ∀ [LamT], Df P w K mg base 2 "is_stretch" 1 [] (m_is_stretch c)) (D_is_whole : ∀ [LamT], Df P w K mg base 1 "is_whole" 2 [.non] (m_is_whole c)) : ∀ [LamT], Df P w K mg base 3 "check_frame" 4 [] (m_check_frame c) := by
 intro I
 obtain rfl := T.kk
 exact df0 (N := N_check_frame) (mb := b_check_frame c) F S_check_frame hm (fun _ _ _ _ _ _ us hl => match us, hl with | [_, _, _, _], _ => rfl) fun cdv A outer s H E hr tk hp hu =>
 (lss_cons (ls_if (lt_not (lt_val (lm_call (x := "is_whole") (dvs := [.non]) D_is_whole 1 (by decide) (hr.mono (by decide)) rfl tk (la_cons (lm_var 0) (la_cons (lm_c (.int 1) pe_int) la_nil)))))
 (lss_one (ls_raise rfl tk PySem.F.excBase_ValueError T.x_NoSpan.q T.x_NoSpan.g T.x_NoSpan.k (raises_own T.x_NoSpan.b T.x_NoSpan.t) rfl))
 lss_nil)
 (lss_cons (ls_if (PW.pt (lw_or (lt_not (lt_val (lm_callB call_isi s_isi rfl T.b_isinstance (by decide +kernel) (la_cons (lm_var 1) (la_cons (lm_c (.ty "list") (pe_bltn (v := .ty "list") rfl T.b_list (by decide +kernel) rfl)) la_nil))))) (lw_or1 (lt_not (lt_val (lm_callB (cr_all rfl) s_all rfl T.b_all (by decide +kernel) (la_cons (lm_lc (own := [("one", 4)]) rfl S_check_frame.nd (li_lst (lm_var 1)) (blkOk_by (own := [("one", 4)]) (N := N_check_frame) (sc := defScope s_check_frame) (by decide +kernel)) (sg_nm 4) (by decide) (fun _ _ _ _ _ => (pg_name (i := 4) S_check_frame.nd rfl (Or.inl rfl))) (fun _ _ _ _ _ => lts_nil) (fun _ _ _ _ _ => (lm_call (x := "is_stretch") (dvs := []) D_is_stretch 0 (by decide) (hr.mono (by decide)) rfl takes0 (la_cons (lm_var 4) la_nil)))) la_nil)))))))
 (lss_one (ls_raise rfl tk PySem.F.excBase_ValueError T.x_NoWindow.q T.x_NoWindow.g T.x_NoWindow.k (raises_own T.x_NoWindow.b T.x_NoWindow.t) rfl))
 lss_nil)
 (lss_cons (ls_expr (lm_call (x := "check_cycle") (dvs := [(.int 0)]) D_check_cycle 0 (by decide) (hr.mono (by decide)) rfl tk (la_cons (lm_var 2) la_nil)))
 (lss_one (ls_expr (lm_call (x := "check_cycle") (dvs := [(.int 0)]) D_check_cycle 1 (by decide) (hr.mono (by decide)) rfl tk (la_cons (lm_var 3) (la_cons (lm_var 2) la_nil))))))))
abbrev s_open_ends : Stmt := topS 16
abbrev N_open_ends : List Str := ["windows", "look", "until", "first", "last"]
theorem S_open_ends : FnScope N_open_ends ["windows", "look", "until"] (defScope s_open_ends) := ⟨rfl, rfl, rfl, by decide +kernel, rfl, by decide +kernel, by decide +kernel⟩
theorem ok_open_ends (T : Txt K mg c) (F : FunD K "open_ends" "open_ends" (defArgs s_open_ends) (defBody s_open_ends) (defScope s_open_ends) [] [] f fd) (hm : mg "open_ends" = some (.ref f))  : ∀ [LamT], Df P w K mg base 1 "open_ends" 3 [] (m_open_ends c) := by
 intro I
 obtain rfl := T.kk
 exact df0 (N := N_open_ends) (mb := b_open_ends c) F S_open_ends hm (fun _ _ _ _ _ _ us hl => match us, hl with | [_, _, _], _ => rfl) fun cdv A outer s H E hr tk hp hu =>
 (lss_one (ls_ret (lm_lc (own := [("first", 3), ("last", 4)]) rfl S_open_ends.nd (li_lst (lm_var 0)) (blkOk_by (own := [("first", 3), ("last", 4)]) (N := N_open_ends) (sc := defScope s_open_ends) (by decide +kernel)) (sg_tup (sg_cons (sg_nm 3) (sg_cons (sg_nm 4) sg_nil))) (by decide) (fun _ _ _ _ _ => (pg_tup rfl (pgs_cons (pg_name (i := 3) S_open_ends.nd rfl (Or.inl rfl)) (pgs_cons (pg_name (i := 4) S_open_ends.nd rfl (Or.inl rfl)) pgs_nil)))) (fun _ _ _ _ _ => lts_one (PW.pt (lw_and (lt_cmp op_gt s_gt (lm_var 3) (lm_var 1)) (lw_and1 (lt_cmp op_lt s_lt (lm_var 4) (lm_var 2)))))) (fun _ _ _ _ _ => (lm_var 4)))))
abbrev s_fewest : Stmt := topS 17
abbrev N_fewest : List Str := ["span", "windows", "begin", "until", "found", "look", "ends"]
theorem S_fewest : FnScope N_fewest ["span", "windows", "begin", "until"] (defScope s_fewest) := ⟨rfl, rfl, rfl, by decide +kernel, rfl, by decide +kernel, by decide +kernel⟩
theorem ok_fewest (T : Txt K mg c) (F : FunD K "fewest" "fewest" (defArgs s_fewest) (defBody s_fewest) (defScope s_fewest) [] [] f fd) (hm : mg "fewest" = some (.ref f)) (D_check_frame : ∀ [LamT], Df P w K mg base 3 "check_frame" 4 [] (m_check_frame c)) (D_open_ends : ∀ [LamT], Df P w K mg base 1 "open_ends" 3 [] (m_open_ends c)) : ∀ [LamT], Df P w K mg base 4 "fewest" 4 [] (m_fewest c) := by
 intro I
 obtain rfl := T.kk
 exact df0 (N := N_fewest) (mb := b_fewest c) F S_fewest hm (fun _ _ _ _ _ _ us hl => match us, hl with | [_, _, _, _], _ => rfl) fun cdv A outer s H E hr tk hp hu =>
 (lss_cons (ls_expr (lm_call (x := "check_frame") (dvs := []) D_check_frame 0 (by decide) (hr.mono (by decide)) rfl tk (la_cons (lm_var 0) (la_cons (lm_var 1) (la_cons (lm_var 2) (la_cons (lm_var 3) la_nil))))))
 (lss_cons (ls_set (i := 4) S_fewest.nd rfl (Or.inl rfl) (lm_lst la_nil))
 (lss_cons (ls_set (i := 5) S_fewest.nd rfl (Or.inl rfl) (lm_var 2))
 (lss_one (ls_while 1000000 hp (lt_val (lm_c (.bl true) pe_bl))
 (lss_cons (ls_set (i := 6) S_fewest.nd rfl (Or.inl rfl) (lm_call (x := "open_ends") (dvs := []) D_open_ends 0 (by decide) (hr.mono (by decide)) rfl tk (la_cons (lm_var 1) (la_cons (lm_var 5) (la_cons (lm_var 3) la_nil)))))
 (lss_cons (ls_if (PW.pt (lw_and (lt_cmp (op_eqD hu) s_eq (lm_var 6) (lm_lst la_nil)) (lw_and1 (lt_cmp op_le s_le (lm_op op_sub s_sub (lm_var 3) (lm_var 5)) (lm_var 0)))))
 (lss_one (ls_ret (lm_var 4)))
 lss_nil)
 (lss_cons (ls_set (i := 5) S_fewest.nd rfl (Or.inl rfl) (lm_callB (cr_min rfl) s_min1 rfl T.b_min (by decide +kernel) (la_cons (lm_op op_addA s_add (lm_var 6) (lm_lst (la_cons (lm_op op_addA s_add (lm_var 5) (lm_var 0)) la_nil))) la_nil)))
 (lss_cons (ls_expr (lm_mL PySem.F.slot_list_append PySem.F.type_list_append mt_append s_append (lm_var 4) (la_cons (lm_var 5) la_nil)))
 (lss_one (ls_if (lt_cmp op_gt s_gt (lm_callB call_lenA s_len rfl T.b_len (by decide +kernel) (la_cons (lm_var 4) la_nil)) (lm_c (.int 2000) (lg_glob T.g_MOST_LOOKS rfl)))
 (lss_one (ls_raise rfl tk PySem.F.excBase_ValueError T.x_TooMany.q T.x_TooMany.g T.x_TooMany.k (raises_own T.x_TooMany.b T.x_TooMany.t) rfl))
 lss_nil)))))))))))
abbrev s__law_bound_right : Stmt := topS 32
abbrev N__law_bound_right : List Str := ["source", "span", "begin_at", "many", "told", "looks", "turn"]
theorem S__law_bound_right : FnScope N__law_bound_right ["source", "span"] (defScope s__law_bound_right) := ⟨rfl, rfl, rfl, by decide +kernel, rfl, by decide +kernel, by decide +kernel⟩
theorem ok__law_bound_right (T : Txt K mg c) (F : FunD K "_law_bound_right" "_law_bound_right" (defArgs s__law_bound_right) (defBody s__law_bound_right) (defScope s__law_bound_right) [] [] f fd) (hm : mg "_law_bound_right" = some (.ref f)) (D__law_next : ∀ [LamT], Df P w K mg base 2 "_law_next" 2 [] (m_law_next c)) (D_fewest : ∀ [LamT], Df P w K mg base 4 "fewest" 4 [] (m_fewest c)) : ∀ [LamT], Df P w K mg base 5 "_law_bound_right" 2 [] (m_law_bound_right c) := by
 intro I
 obtain rfl := T.kk
 exact df0 (N := N__law_bound_right) (mb := b_law_bound_right c) F S__law_bound_right hm (fun _ _ _ _ _ _ us hl => match us, hl with | [_, _], _ => rfl) fun cdv A outer s H E hr tk hp hu =>
 (lss_cons (ls_set (i := 2) S__law_bound_right.nd rfl (Or.inr rfl) (lm_call (x := "_law_next") (dvs := []) D__law_next 0 (by decide) (hr.mono (by decide)) rfl tk (la_cons (lm_var 0) (la_cons (lm_c (.int 1000) pe_int) la_nil))))
 (lss_cons (ls_for hp rfl (li_lst (lm_lst (la_cons (lm_c (.int 2000) pe_int) (la_cons (lm_c (.int 2001) pe_int) la_nil)))) (pg_name (i := 3) S__law_bound_right.nd rfl (Or.inl rfl)) (sg_nm 3)
 (lss_cons (ls_set (i := 4) S__law_bound_right.nd rfl (Or.inl rfl) (lm_c (.str "told") pe_str))
 (lss_cons (ls_tries rfl rfl tk (fun W pn xe tk' hp' => (lss_cons (ls_set (i := 5) S__law_bound_right.nd rfl (Or.inl rfl) (lm_call (x := "fewest") (dvs := []) D_fewest 0 (by decide) (hr.mono (by decide)) rfl tk' (la_cons (lm_var 1) (la_cons (lm_lst la_nil) (la_cons (lm_var 2) (la_cons (lm_op op_addA s_add (lm_op op_addA s_add (lm_var 2) (lm_op op_mulA s_mulA (lm_var 3) (lm_var 1))) (lm_c (.int 1) pe_int)) la_nil))))))
 (lss_one (ls_if (lt_cmp (op_neD hu) s_ne (lm_var 5) (lm_lc (own := [("turn", 6)]) rfl S__law_bound_right.nd (li_rng2 rfl T.b_range (la_cons (lm_c (.int 1) pe_int) (la_cons (lm_op op_addA s_add (lm_var 3) (lm_c (.int 1) pe_int)) la_nil))) (blkOk_by (own := [("turn", 6)]) (N := N__law_bound_right) (sc := defScope s__law_bound_right) (by decide +kernel)) (sg_nm 6) (by decide) (fun _ _ _ _ _ => (pg_name (i := 6) S__law_bound_right.nd rfl (Or.inl rfl))) (fun _ _ _ _ _ => lts_nil) (fun _ _ _ _ _ => (lm_op op_addA s_add (lm_var 2) (lm_op op_mulA s_mulA (lm_var 1) (lm_var 6))))))
 (lss_one (ls_ret (lm_c (.bl false) pe_bl)))
 lss_nil)))) (LHs.cons (by exact ⟨rfl, by decide, .inl T.x_TooMany.g⟩) (fun _ _ => (lss_one (ls_set (i := 4) S__law_bound_right.nd rfl (Or.inl rfl) (lm_c (.str "many") pe_str)))) (LHs.cons (by exact ⟨rfl, by decide, .inl T.x_KernelError.g⟩) (fun _ _ => (lss_one (ls_ret (lm_c (.bl false) pe_bl)))) LHs.nil)))
 (lss_one (ls_if (lt_cmp (op_neD hu) s_ne (lm_var 4) (lm_ix ix_seq s_ix (lm_lst (la_cons (lm_c (.str "told") pe_str) (la_cons (lm_c (.str "many") pe_str) la_nil))) (lm_callTy call_int1 s_int rfl T.b_int (by decide +kernel) (la_cons (lm_cmp op_gt s_gt (lm_var 3) (lm_c (.int 2000) pe_int)) la_nil))))
 (lss_one (ls_ret (lm_c (.bl false) pe_bl)))
 lss_nil)))))
 (lss_one (ls_ret (lm_c (.bl true) pe_bl)))))
abbrev s__law_far : Stmt := topS 29
abbrev N__law_far : List Str := ["source"]
theorem S__law_far : FnScope N__law_far ["source"] (defScope s__law_far) := ⟨rfl, rfl, rfl, by decide +kernel, rfl, by decide +kernel, by decide +kernel⟩
theorem ok__law_far (T : Txt K mg c) (F : FunD K "_law_far" "_law_far" (defArgs s__law_far) (defBody s__law_far) (defScope s__law_far) [] [] f fd) (hm : mg "_law_far" = some (.ref f)) (D__law_next : ∀ [LamT], Df P w K mg base 2 "_law_next" 2 [] (m_law_next c)) : ∀ [LamT], Df P w K mg base 3 "_law_far" 1 [] (m_law_far c) := by
 intro I
 obtain rfl := T.kk
 exact df0 (N := N__law_far) (mb := b_law_far c) F S__law_far hm (fun _ _ _ _ _ _ us hl => match us, hl with | [_], _ => rfl) fun cdv A outer s H E hr tk hp hu =>
 (lss_one (ls_ret (lm_ix ix_seq s_ix (lm_lst (la_cons (lm_c (.int 10) pe_int) (la_cons (lm_c (.int 1000) pe_int) (la_cons (lm_op op_pow s_pow (lm_c (.int 10) pe_int) (lm_c (.int 12) pe_int)) (la_cons (lm_op op_pow s_pow (lm_c (.int 10) pe_int) (lm_c (.int 45) pe_int)) la_nil))))) (lm_call (x := "_law_next") (dvs := []) D__law_next 0 (by decide) (hr.mono (by decide)) rfl tk (la_cons (lm_var 0) (la_cons (lm_c (.int 4) pe_int) la_nil))))))
abbrev s__law_enough : Stmt := topS 28
abbrev N__law_enough : List Str := ["span", "windows_in", "begin_at", "end_at", "looks", "before", "look", "first", "last", "served"]
theorem S__law_enough : FnScope N__law_enough ["span", "windows_in", "begin_at", "end_at", "looks"] (defScope s__law_enough) := ⟨rfl, rfl, rfl, by decide +kernel, rfl, by decide +kernel, by decide +kernel⟩
theorem ok__law_enough (T : Txt K mg c) (F : FunD K "_law_enough" "_law_enough" (defArgs s__law_enough) (defBody s__law_enough) (defScope s__law_enough) [] [] f fd) (hm : mg "_law_enough" = some (.ref f))  : ∀ [LamT], Df P w K mg base 1 "_law_enough" 5 [] (m_law_enough c) := by
 intro I
 obtain rfl := T.kk
 exact df0 (N := N__law_enough) (mb := b_law_enough c) F S__law_enough hm (fun _ _ _ _ _ _ us hl => match us, hl with | [_, _, _, _, _], _ => rfl) fun cdv A outer s H E hr tk hp hu =>
 (lss_cons (ls_set (i := 5) S__law_enough.nd rfl (Or.inl rfl) (lm_var 2))
 (lss_cons (ls_for hp rfl (li_lst (lm_op op_addA s_add (lm_var 4) (lm_lst (la_cons (lm_var 3) la_nil)))) (pg_name (i := 6) S__law_enough.nd rfl (Or.inl rfl)) (sg_nm 6)
 (lss_cons (ls_if (lt_cmp op_gt s_gt (lm_op op_sub s_sub (lm_var 6) (lm_var 5)) (lm_var 0))
 (lss_one (ls_ret (lm_c (.bl false) pe_bl)))
 lss_nil)
 (lss_one (ls_set (i := 5) S__law_enough.nd rfl (Or.inl rfl) (lm_var 6)))))
 (lss_cons (ls_for hp rfl (li_lst (lm_var 1)) (pg_tup rfl (pgs_cons (pg_name (i := 7) S__law_enough.nd rfl (Or.inr rfl)) (pgs_cons (pg_name (i := 8) S__law_enough.nd rfl (Or.inr rfl)) pgs_nil))) (sg_tup (sg_cons (sg_nm 7) (sg_cons (sg_nm 8) sg_nil)))
 (lss_cons (ls_lc (own := [("look", 6)]) (i := 9) rfl S__law_enough.nd rfl rfl (sw_true rfl rfl rfl (by decide +kernel)) (li_lst (lm_op op_addA s_add (lm_lst (la_cons (lm_var 2) la_nil)) (lm_var 4))) (blkOk_by (own := [("look", 6)]) (N := N__law_enough) (sc := defScope s__law_enough) (by decide +kernel)) (sg_nm 6) (by decide) (fun _ _ _ _ _ => (pg_name (i := 6) S__law_enough.nd rfl (Or.inl rfl))) (fun _ _ _ _ _ => lts_one (lt_chain op_le s_le op_le s_le (lm_var 7) (lm_var 6) (lm_var 8))) (fun _ _ _ _ _ => (lm_var 6)))
 (lss_one (ls_if (PW.pt (lw_and (lt_chain op_le s_le op_lt s_lt (lm_var 2) (lm_var 8) (lm_var 3)) (lw_and1 (lt_cmp (op_eqD hu) s_eq (lm_var 9) (lm_lst la_nil)))))
 (lss_one (ls_ret (lm_c (.bl false) pe_bl)))
 lss_nil))))
 (lss_one (ls_ret (lm_c (.bl true) pe_bl))))))
abbrev s__law_reasons : Stmt := topS 30
abbrev N__law_reasons : List Str := ["span", "windows_in", "begin_at", "end_at", "looks", "found", "before", "look", "some", "latest", "first", "last"]
theorem S__law_reasons : FnScope N__law_reasons ["span", "windows_in", "begin_at", "end_at", "looks"] (defScope s__law_reasons) := ⟨rfl, rfl, rfl, by decide +kernel, rfl, by decide +kernel, by decide +kernel⟩
theorem ok__law_reasons (T : Txt K mg c) (F : FunD K "_law_reasons" "_law_reasons" (defArgs s__law_reasons) (defBody s__law_reasons) (defScope s__law_reasons) [] [] f fd) (hm : mg "_law_reasons" = some (.ref f))  : ∀ [LamT], Df P w K mg base 1 "_law_reasons" 5 [] (m_law_reasons c) := by
 intro I
 obtain rfl := T.kk
 exact df0 (N := N__law_reasons) (mb := b_law_reasons c) F S__law_reasons hm (fun _ _ _ _ _ _ us hl => match us, hl with | [_, _, _, _, _], _ => rfl) fun cdv A outer s H E hr tk hp hu =>
 (lss_cons (ls_asg (lm_tup (la_cons (lm_lst la_nil) (la_cons (lm_var 2) la_nil))) (pg_tup rfl (pgs_cons (pg_name (i := 5) S__law_reasons.nd rfl (Or.inl rfl)) (pgs_cons (pg_name (i := 6) S__law_reasons.nd rfl (Or.inr rfl)) pgs_nil))) (sg_tup (sg_cons (sg_nm 5) (sg_cons (sg_nm 6) sg_nil))))
 (lss_cons (ls_for hp rfl (li_lst (lm_var 4)) (pg_name (i := 7) S__law_reasons.nd rfl (Or.inl rfl)) (sg_nm 7)
 (lss_cons (ls_lc (own := [("first", 10), ("last", 11)]) (i := 8) rfl S__law_reasons.nd rfl rfl (sw_true rfl rfl rfl (by decide +kernel)) (li_lst (lm_var 1)) (blkOk_by (own := [("first", 10), ("last", 11)]) (N := N__law_reasons) (sc := defScope s__law_reasons) (by decide +kernel)) (sg_tup (sg_cons (sg_nm 10) (sg_cons (sg_nm 11) sg_nil))) (by decide) (fun _ _ _ _ _ => (pg_tup rfl (pgs_cons (pg_name (i := 10) S__law_reasons.nd rfl (Or.inl rfl)) (pgs_cons (pg_name (i := 11) S__law_reasons.nd rfl (Or.inl rfl)) pgs_nil)))) (fun _ _ _ _ _ => lts_one (PW.pt (lw_and (lt_cmp op_gt s_gt (lm_var 10) (lm_var 6)) (lw_and1 (lt_cmp op_lt s_lt (lm_var 11) (lm_var 3)))))) (fun _ _ _ _ _ => (lm_tup (la_cons (lm_var 11) (la_cons (lm_var 10) la_nil)))))
 (lss_cons (ls_set (i := 9) S__law_reasons.nd rfl (Or.inl rfl) (lm_callB (cr_minP rfl hu) s_minP rfl T.b_min (by decide +kernel) (la_cons (lm_op op_addA s_add (lm_lst (la_cons (lm_tup (la_cons (lm_op op_addA s_add (lm_var 6) (lm_var 0)) (la_cons (lm_op op_addA s_add (lm_var 6) (lm_c (.int 1) pe_int)) la_nil))) la_nil)) (lm_var 8)) la_nil)))
 (lss_cons (ls_if (lt_cmp (op_neD hu) s_ne (lm_var 7) (lm_ix ix_seq s_ix (lm_var 9) (lm_c (.int 0) pe_int)))
 (lss_one (ls_ret (lm_c .non pe_non)))
 lss_nil)
 (lss_cons (ls_expr (lm_mL PySem.F.slot_list_append PySem.F.type_list_append mt_append s_append (lm_var 5) (la_cons (lm_tup (la_cons (lm_ix ix_seq s_ix (lm_var 9) (lm_c (.int 1) pe_int)) (la_cons (lm_var 7) la_nil))) la_nil)))
 (lss_one (ls_set (i := 6) S__law_reasons.nd rfl (Or.inr rfl) (lm_var 7))))))))
 (lss_one (ls_ret (lm_var 5)))))
abbrev s_is_certificate : Stmt := topS 21
abbrev N_is_certificate : List Str := ["span", "windows", "begin", "until", "stretches", "one", "other"]
theorem S_is_certificate : FnScope N_is_certificate ["span", "windows", "begin", "until", "stretches"] (defScope s_is_certificate) := ⟨rfl, rfl, rfl, by decide +kernel, rfl, by decide +kernel, by decide +kernel⟩
theorem ok_is_certificate (T : Txt K mg c) (F : FunD K "is_certificate" "is_certificate" (defArgs s_is_certificate) (defBody s_is_certificate) (defScope s_is_certificate) [] [] f fd) (hm : mg "is_certificate" = some (.ref f)) (D_check_frame : ∀ [LamT], Df P w K mg base 3 "check_frame" 4 [] (m_check_frame c)) (D_is_stretch : ∀ [LamT], Df P w K mg base 2 "is_stretch" 1 [] (m_is_stretch c)) : ∀ [LamT], Df P w K mg base 4 "is_certificate" 5 [] (m_is_certificate c) := by
 intro I
 obtain rfl := T.kk
 exact df0 (N := N_is_certificate) (mb := b_is_certificate c) F S_is_certificate hm (fun _ _ _ _ _ _ us hl => match us, hl with | [_, _, _, _, _], _ => rfl) fun cdv A outer s H E hr tk hp hu =>
 (lss_cons (ls_expr (lm_call (x := "check_frame") (dvs := []) D_check_frame 0 (by decide) (hr.mono (by decide)) rfl tk (la_cons (lm_var 0) (la_cons (lm_var 1) (la_cons (lm_var 2) (la_cons (lm_var 3) la_nil))))))
 (lss_cons (ls_if (PW.pt (lw_or (lt_not (lt_val (lm_callB call_isi s_isi rfl T.b_isinstance (by decide +kernel) (la_cons (lm_var 4) (la_cons (lm_c (.ty "list") (pe_bltn (v := .ty "list") rfl T.b_list (by decide +kernel) rfl)) la_nil))))) (lw_or1 (lt_not (lt_val (lm_callB (cr_all rfl) s_all rfl T.b_all (by decide +kernel) (la_cons (lm_lc (own := [("one", 5)]) rfl S_is_certificate.nd (li_lst (lm_var 4)) (blkOk_by (own := [("one", 5)]) (N := N_is_certificate) (sc := defScope s_is_certificate) (by decide +kernel)) (sg_nm 5) (by decide) (fun _ _ _ _ _ => (pg_name (i := 5) S_is_certificate.nd rfl (Or.inl rfl))) (fun _ _ _ _ _ => lts_nil) (fun _ _ _ _ _ => (lm_call (x := "is_stretch") (dvs := []) D_is_stretch 0 (by decide) (hr.mono (by decide)) rfl takes0 (la_cons (lm_var 5) la_nil)))) la_nil)))))))
 (lss_one (ls_ret (lm_c (.bl false) pe_bl)))
 lss_nil)
 (lss_cons (ls_if (PW.pt (lw_and (lt_cmp (op_neD hu) s_ne (lm_var 4) (lm_lst la_nil)) (lw_and1 (PW.pt (lw_or (lt_cmp op_le s_le (lm_ix ix_seq s_ix (lm_ix ix_seq s_ix (lm_var 4) (lm_c (.int 0) pe_int)) (lm_c (.int 0) pe_int)) (lm_var 2)) (lw_or1 (lt_cmp op_ge s_ge (lm_ix ix_seq s_ix (lm_ix ix_seq s_ix (lm_var 4) (lm_un un_neg s_neg (lm_c (.int 1) pe_int))) (lm_c (.int 1) pe_int)) (lm_var 3))))))))
 (lss_one (ls_ret (lm_c (.bl false) pe_bl)))
 lss_nil)
 (lss_cons (ls_if (lt_not (lt_val (lm_callB (cr_all rfl) s_all rfl T.b_all (by decide +kernel) (la_cons (lm_lc (own := [("one", 5), ("other", 6)]) rfl S_is_certificate.nd (li_zip rfl T.b_zip (la_cons (lm_var 4) (la_cons (lm_sl (lm_var 4) (lo_some (lm_c (.int 1) pe_int)) lo_none) la_nil))) (blkOk_by (own := [("one", 5), ("other", 6)]) (N := N_is_certificate) (sc := defScope s_is_certificate) (by decide +kernel)) (sg_tup (sg_cons (sg_nm 5) (sg_cons (sg_nm 6) sg_nil))) (by decide) (fun _ _ _ _ _ => (pg_tup rfl (pgs_cons (pg_name (i := 5) S_is_certificate.nd rfl (Or.inl rfl)) (pgs_cons (pg_name (i := 6) S_is_certificate.nd rfl (Or.inl rfl)) pgs_nil)))) (fun _ _ _ _ _ => lts_nil) (fun _ _ _ _ _ => (lm_cmp op_lt s_lt (lm_ix ix_seq s_ix (lm_var 5) (lm_c (.int 1) pe_int)) (lm_ix ix_seq s_ix (lm_var 6) (lm_c (.int 0) pe_int))))) la_nil))))
 (lss_one (ls_ret (lm_c (.bl false) pe_bl)))
 lss_nil)
 (lss_one (ls_ret (lm_callB (cr_all rfl) s_all rfl T.b_all (by decide +kernel) (la_cons (lm_lc (own := [("one", 5)]) rfl S_is_certificate.nd (li_lst (lm_var 4)) (blkOk_by (own := [("one", 5)]) (N := N_is_certificate) (sc := defScope s_is_certificate) (by decide +kernel)) (sg_nm 5) (by decide) (fun _ _ _ _ _ => (pg_name (i := 5) S_is_certificate.nd rfl (Or.inl rfl))) (fun _ _ _ _ _ => lts_nil) (fun _ _ _ _ _ => (lm_or (lm_cmp (op_inD (room65 hr)) s_in (lm_var 5) (lm_var 1)) (lm_one (lm_cmp (op_eqD hu) s_eq (lm_op op_addA s_add (lm_op op_sub s_sub (lm_ix ix_seq s_ix (lm_var 5) (lm_c (.int 1) pe_int)) (lm_ix ix_seq s_ix (lm_var 5) (lm_c (.int 0) pe_int))) (lm_c (.int 1) pe_int)) (lm_var 0)))))) la_nil))))))))
abbrev s_is_looks : Stmt := topS 15
abbrev N_is_looks : List Str := ["thing", "begin", "until", "one", "other"]
theorem S_is_looks : FnScope N_is_looks ["thing", "begin", "until"] (defScope s_is_looks) := ⟨rfl, rfl, rfl, by decide +kernel, rfl, by decide +kernel, by decide +kernel⟩
theorem ok_is_looks (T : Txt K mg c) (F : FunD K "is_looks" "is_looks" (defArgs s_is_looks) (defBody s_is_looks) (defScope s_is_looks) [] [] f fd) (hm : mg "is_looks" = some (.ref f)) (D_is_whole : ∀ [LamT], Df P w K mg base 1 "is_whole" 2 [.non] (m_is_whole c)) : ∀ [LamT], Df P w K mg base 2 "is_looks" 3 [] (m_is_looks c) := by
 intro I
 obtain rfl := T.kk
 exact df0 (N := N_is_looks) (mb := b_is_looks c) F S_is_looks hm (fun _ _ _ _ _ _ us hl => match us, hl with | [_, _, _], _ => rfl) fun cdv A outer s H E hr tk hp hu =>
 (lss_cons (ls_if (PW.pt (lw_or (lt_not (lt_val (lm_callB call_isi s_isi rfl T.b_isinstance (by decide +kernel) (la_cons (lm_var 0) (la_cons (lm_c (.ty "list") (pe_bltn (v := .ty "list") rfl T.b_list (by decide +kernel) rfl)) la_nil))))) (lw_or1 (lt_not (lt_val (lm_callB (cr_all rfl) s_all rfl T.b_all (by decide +kernel) (la_cons (lm_lc (own := [("one", 3)]) rfl S_is_looks.nd (li_lst (lm_var 0)) (blkOk_by (own := [("one", 3)]) (N := N_is_looks) (sc := defScope s_is_looks) (by decide +kernel)) (sg_nm 3) (by decide) (fun _ _ _ _ _ => (pg_name (i := 3) S_is_looks.nd rfl (Or.inl rfl))) (fun _ _ _ _ _ => lts_nil) (fun _ _ _ _ _ => (lm_and (lm_call (x := "is_whole") (dvs := [.non]) D_is_whole 1 (by decide) (hr.mono (by decide)) rfl takes0 (la_cons (lm_var 3) (la_cons (lm_op op_addA s_add (lm_var 1) (lm_c (.int 1) pe_int)) la_nil))) (lm_one (lm_cmp op_lt s_lt (lm_var 3) (lm_var 2)))))) la_nil)))))))
 (lss_one (ls_ret (lm_c (.bl false) pe_bl)))
 lss_nil)
 (lss_one (ls_ret (lm_callB (cr_all rfl) s_all rfl T.b_all (by decide +kernel) (la_cons (lm_lc (own := [("one", 3), ("other", 4)]) rfl S_is_looks.nd (li_zip rfl T.b_zip (la_cons (lm_var 0) (la_cons (lm_sl (lm_var 0) (lo_some (lm_c (.int 1) pe_int)) lo_none) la_nil))) (blkOk_by (own := [("one", 3), ("other", 4)]) (N := N_is_looks) (sc := defScope s_is_looks) (by decide +kernel)) (sg_tup (sg_cons (sg_nm 3) (sg_cons (sg_nm 4) sg_nil))) (by decide) (fun _ _ _ _ _ => (pg_tup rfl (pgs_cons (pg_name (i := 3) S_is_looks.nd rfl (Or.inl rfl)) (pgs_cons (pg_name (i := 4) S_is_looks.nd rfl (Or.inl rfl)) pgs_nil)))) (fun _ _ _ _ _ => lts_nil) (fun _ _ _ _ _ => (lm_cmp op_lt s_lt (lm_var 3) (lm_var 4)))) la_nil)))))
abbrev s_suffices : Stmt := topS 18
abbrev N_suffices : List Str := ["span", "windows", "begin", "until", "looks", "whole", "served", "due", "one", "other", "first", "last", "look"]
theorem S_suffices : FnScope N_suffices ["span", "windows", "begin", "until", "looks"] (defScope s_suffices) := ⟨rfl, rfl, rfl, by decide +kernel, rfl, by decide +kernel, by decide +kernel⟩
theorem ok_suffices (T : Txt K mg c) (F : FunD K "suffices" "suffices" (defArgs s_suffices) (defBody s_suffices) (defScope s_suffices) [] [] f fd) (hm : mg "suffices" = some (.ref f))  : ∀ [LamT], Df P w K mg base 1 "suffices" 5 [] (m_suffices c) := by
 intro I
 obtain rfl := T.kk
 exact df0 (N := N_suffices) (mb := b_suffices c) F S_suffices hm (fun _ _ _ _ _ _ us hl => match us, hl with | [_, _, _, _, _], _ => rfl) fun cdv A outer s H E hr tk hp hu =>
 (lss_cons (ls_set (i := 5) S_suffices.nd rfl (Or.inl rfl) (lm_op op_addA s_add (lm_op op_addA s_add (lm_lst (la_cons (lm_var 2) la_nil)) (lm_var 4)) (lm_lst (la_cons (lm_var 3) la_nil))))
 (lss_cons (ls_if (lt_not (lt_val (lm_callB (cr_all rfl) s_all rfl T.b_all (by decide +kernel) (la_cons (lm_lc (own := [("one", 8), ("other", 9)]) rfl S_suffices.nd (li_zip rfl T.b_zip (la_cons (lm_var 5) (la_cons (lm_sl (lm_var 5) (lo_some (lm_c (.int 1) pe_int)) lo_none) la_nil))) (blkOk_by (own := [("one", 8), ("other", 9)]) (N := N_suffices) (sc := defScope s_suffices) (by decide +kernel)) (sg_tup (sg_cons (sg_nm 8) (sg_cons (sg_nm 9) sg_nil))) (by decide) (fun _ _ _ _ _ => (pg_tup rfl (pgs_cons (pg_name (i := 8) S_suffices.nd rfl (Or.inl rfl)) (pgs_cons (pg_name (i := 9) S_suffices.nd rfl (Or.inl rfl)) pgs_nil)))) (fun _ _ _ _ _ => lts_nil) (fun _ _ _ _ _ => (lm_cmp op_le s_le (lm_op op_sub s_sub (lm_var 9) (lm_var 8)) (lm_var 0)))) la_nil))))
 (lss_one (ls_ret (lm_c (.bl false) pe_bl)))
 lss_nil)
 (lss_cons (ls_set (i := 6) S_suffices.nd rfl (Or.inr rfl) (lm_op op_addA s_add (lm_lst (la_cons (lm_var 2) la_nil)) (lm_var 4)))
 (lss_cons (ls_lc (own := [("first", 10), ("last", 11)]) (i := 7) rfl S_suffices.nd rfl rfl (sw_true rfl rfl rfl (by decide +kernel)) (li_lst (lm_var 1)) (blkOk_by (own := [("first", 10), ("last", 11)]) (N := N_suffices) (sc := defScope s_suffices) (by decide +kernel)) (sg_tup (sg_cons (sg_nm 10) (sg_cons (sg_nm 11) sg_nil))) (by decide) (fun _ _ _ _ _ => (pg_tup rfl (pgs_cons (pg_name (i := 10) S_suffices.nd rfl (Or.inl rfl)) (pgs_cons (pg_name (i := 11) S_suffices.nd rfl (Or.inl rfl)) pgs_nil)))) (fun _ _ _ _ _ => lts_one (lt_chain op_le s_le op_lt s_lt (lm_var 2) (lm_var 11) (lm_var 3))) (fun _ _ _ _ _ => (lm_tup (la_cons (lm_var 10) (la_cons (lm_var 11) la_nil)))))
 (lss_one (ls_ret (lm_callB (cr_all rfl) s_all rfl T.b_all (by decide +kernel) (la_cons (lm_lc (own := [("first", 10), ("last", 11)]) rfl S_suffices.nd (li_lst (lm_var 7)) (blkOk_by (own := [("first", 10), ("last", 11)]) (N := N_suffices) (sc := defScope s_suffices) (by decide +kernel)) (sg_tup (sg_cons (sg_nm 10) (sg_cons (sg_nm 11) sg_nil))) (by decide) (fun _ _ _ _ _ => (pg_tup rfl (pgs_cons (pg_name (i := 10) S_suffices.nd rfl (Or.inr rfl)) (pgs_cons (pg_name (i := 11) S_suffices.nd rfl (Or.inr rfl)) pgs_nil)))) (fun _ _ _ _ _ => lts_nil) (fun _ _ _ _ _ => (lm_callB (cr_any rfl) s_any rfl T.b_any (by decide +kernel) (la_cons (lm_lc (own := [("look", 12)]) rfl S_suffices.nd (li_lst (lm_var 6)) (blkOk_by (own := [("look", 12)]) (N := N_suffices) (sc := { kind := .function, names := [(".0", .local), ("first", .cell), ("last", .cell), ("any", .globalImplicit), ("served", .cell)], isGenerator := false, isCoroutine := false }) (by decide +kernel)) (sg_nm 12) (by decide) (fun _ _ _ _ _ => (pg_name (i := 12) S_suffices.nd rfl (Or.inl rfl))) (fun _ _ _ _ _ => lts_nil) (fun _ _ _ _ _ => (lm_chain op_le s_le op_le s_le (lm_var 10) (lm_var 12) (lm_var 11)))) la_nil)))) la_nil))))))))
abbrev s_is_enough : Stmt := topS 19
abbrev N_is_enough : List Str := ["span", "windows", "begin", "until", "looks"]
theorem S_is_enough : FnScope N_is_enough ["span", "windows", "begin", "until", "looks"] (defScope s_is_enough) := ⟨rfl, rfl, rfl, by decide +kernel, rfl, by decide +kernel, by decide +kernel⟩
theorem ok_is_enough (T : Txt K mg c) (F : FunD K "is_enough" "is_enough" (defArgs s_is_enough) (defBody s_is_enough) (defScope s_is_enough) [] [] f fd) (hm : mg "is_enough" = some (.ref f)) (D_check_frame : ∀ [LamT], Df P w K mg base 3 "check_frame" 4 [] (m_check_frame c)) (D_is_looks : ∀ [LamT], Df P w K mg base 2 "is_looks" 3 [] (m_is_looks c)) (D_suffices : ∀ [LamT], Df P w K mg base 1 "suffices" 5 [] (m_suffices c)) : ∀ [LamT], Df P w K mg base 4 "is_enough" 5 [] (m_is_enough c) := by
 intro I
 obtain rfl := T.kk
 exact df0 (N := N_is_enough) (mb := b_is_enough c) F S_is_enough hm (fun _ _ _ _ _ _ us hl => match us, hl with | [_, _, _, _, _], _ => rfl) fun cdv A outer s H E hr tk hp hu =>
 (lss_cons (ls_expr (lm_call (x := "check_frame") (dvs := []) D_check_frame 0 (by decide) (hr.mono (by decide)) rfl tk (la_cons (lm_var 0) (la_cons (lm_var 1) (la_cons (lm_var 2) (la_cons (lm_var 3) la_nil))))))
 (lss_one (ls_ret (lm_and (lm_call (x := "is_looks") (dvs := []) D_is_looks 0 (by decide) (hr.mono (by decide)) rfl tk (la_cons (lm_var 4) (la_cons (lm_var 2) (la_cons (lm_var 3) la_nil)))) (lm_one (lm_call (x := "suffices") (dvs := []) D_suffices 0 (by decide) (hr.mono (by decide)) rfl tk (la_cons (lm_var 0) (la_cons (lm_var 1) (la_cons (lm_var 2) (la_cons (lm_var 3) (la_cons (lm_var 4) la_nil)))))))))))
abbrev s__law_right : Stmt := topS 31
abbrev N__law_right : List Str := ["span", "windows_in", "begin_at", "end_at", "looks", "rows_in", "look"]
theorem S__law_right : FnScope N__law_right ["span", "windows_in", "begin_at", "end_at"] (defScope s__law_right) := ⟨rfl, rfl, rfl, by decide +kernel, rfl, by decide +kernel, by decide +kernel⟩
theorem ok__law_right (T : Txt K mg c) (F : FunD K "_law_right" "_law_right" (defArgs s__law_right) (defBody s__law_right) (defScope s__law_right) [] [] f fd) (hm : mg "_law_right" = some (.ref f)) (D__law_enough : ∀ [LamT], Df P w K mg base 1 "_law_enough" 5 [] (m_law_enough c)) (D__law_reasons : ∀ [LamT], Df P w K mg base 1 "_law_reasons" 5 [] (m_law_reasons c)) (D_fewest : ∀ [LamT], Df P w K mg base 4 "fewest" 4 [] (m_fewest c)) (D_is_certificate : ∀ [LamT], Df P w K mg base 4 "is_certificate" 5 [] (m_is_certificate c)) (D_is_enough : ∀ [LamT], Df P w K mg base 4 "is_enough" 5 [] (m_is_enough c)) : ∀ [LamT], Df P w K mg base 5 "_law_right" 4 [] (m_law_right c) := by
 intro I
 obtain rfl := T.kk
 exact df0 (N := N__law_right) (mb := b_law_right c) F S__law_right hm (fun _ _ _ _ _ _ us hl => match us, hl with | [_, _, _, _], _ => rfl) fun cdv A outer s H E hr tk hp hu =>
 (lss_cons (ls_set (i := 4) S__law_right.nd rfl (Or.inl rfl) (lm_call (x := "fewest") (dvs := []) D_fewest 0 (by decide) (hr.mono (by decide)) rfl tk (la_cons (lm_var 0) (la_cons (lm_var 1) (la_cons (lm_var 2) (la_cons (lm_var 3) la_nil))))))
 (lss_cons (ls_if (lt_not (lt_val (lm_call (x := "_law_enough") (dvs := []) D__law_enough 0 (by decide) (hr.mono (by decide)) rfl tk (la_cons (lm_var 0) (la_cons (lm_var 1) (la_cons (lm_var 2) (la_cons (lm_var 3) (la_cons (lm_var 4) la_nil))))))))
 (lss_one (ls_ret (lm_c (.bl false) pe_bl)))
 lss_nil)
 (lss_cons (ls_if (lt_not (lt_val (lm_call (x := "is_enough") (dvs := []) D_is_enough 0 (by decide) (hr.mono (by decide)) rfl tk (la_cons (lm_var 0) (la_cons (lm_var 1) (la_cons (lm_var 2) (la_cons (lm_var 3) (la_cons (lm_var 4) la_nil))))))))
 (lss_one (ls_ret (lm_c (.bl false) pe_bl)))
 lss_nil)
 (lss_cons (ls_set (i := 5) S__law_right.nd rfl (Or.inl rfl) (lm_call (x := "_law_reasons") (dvs := []) D__law_reasons 0 (by decide) (hr.mono (by decide)) rfl tk (la_cons (lm_var 0) (la_cons (lm_var 1) (la_cons (lm_var 2) (la_cons (lm_var 3) (la_cons (lm_var 4) la_nil)))))))
 (lss_cons (ls_if (PW.pt (lw_or (lt_cmp op_isN s_isN (lm_var 5) (lm_c .non pe_non)) (lw_or1 (lt_not (lt_val (lm_call (x := "is_certificate") (dvs := []) D_is_certificate 0 (by decide) (hr.mono (by decide)) rfl tk (la_cons (lm_var 0) (la_cons (lm_var 1) (la_cons (lm_var 2) (la_cons (lm_var 3) (la_cons (lm_var 5) la_nil)))))))))))
 (lss_one (ls_ret (lm_c (.bl false) pe_bl)))
 lss_nil)
 (lss_one (ls_ret (lm_cmp (op_eqD hu) s_eq (lm_lc (own := [("look", 6)]) rfl S__law_right.nd (li_lst (lm_var 4)) (blkOk_by (own := [("look", 6)]) (N := N__law_right) (sc := defScope s__law_right) (by decide +kernel)) (sg_nm 6) (by decide) (fun _ _ _ _ _ => (pg_name (i := 6) S__law_right.nd rfl (Or.inl rfl))) (fun _ _ _ _ _ => lts_one (lt_not (lt_chain op_lt s_lt op_lt s_lt (lm_var 2) (lm_var 6) (lm_var 3)))) (fun _ _ _ _ _ => (lm_var 6))) (lm_lst la_nil)))))))))
abbrev s_needed : Stmt := topS 20
abbrev N_needed : List Str := ["span", "windows", "begin", "until", "looks", "found", "look", "ends", "latest", "one"]
theorem S_needed : FnScope N_needed ["span", "windows", "begin", "until", "looks"] (defScope s_needed) := ⟨rfl, rfl, rfl, by decide +kernel, rfl, by decide +kernel, by decide +kernel⟩
theorem ok_needed (T : Txt K mg c) (F : FunD K "needed" "needed" (defArgs s_needed) (defBody s_needed) (defScope s_needed) [] [] f fd) (hm : mg "needed" = some (.ref f)) (D_check_frame : ∀ [LamT], Df P w K mg base 3 "check_frame" 4 [] (m_check_frame c)) (D_is_looks : ∀ [LamT], Df P w K mg base 2 "is_looks" 3 [] (m_is_looks c)) (D_open_ends : ∀ [LamT], Df P w K mg base 1 "open_ends" 3 [] (m_open_ends c)) (D_suffices : ∀ [LamT], Df P w K mg base 1 "suffices" 5 [] (m_suffices c)) : ∀ [LamT], Df P w K mg base 4 "needed" 5 [] (m_needed c) := by
 intro I
 obtain rfl := T.kk
 exact df0 (N := N_needed) (mb := b_needed c) F S_needed hm (fun _ _ _ _ _ _ us hl => match us, hl with | [_, _, _, _, _], _ => rfl) fun cdv A outer s H E hr tk hp hu =>
 (lss_cons (ls_expr (lm_call (x := "check_frame") (dvs := []) D_check_frame 0 (by decide) (hr.mono (by decide)) rfl tk (la_cons (lm_var 0) (la_cons (lm_var 1) (la_cons (lm_var 2) (la_cons (lm_var 3) la_nil))))))
 (lss_cons (ls_if (lt_not (lt_val (lm_call (x := "is_looks") (dvs := []) D_is_looks 0 (by decide) (hr.mono (by decide)) rfl tk (la_cons (lm_var 4) (la_cons (lm_var 2) (la_cons (lm_var 3) la_nil))))))
 (lss_one (ls_raise rfl tk PySem.F.excBase_ValueError T.x_NoLooks.q T.x_NoLooks.g T.x_NoLooks.k (raises_own T.x_NoLooks.b T.x_NoLooks.t) rfl))
 lss_nil)
 (lss_cons (ls_if (lt_not (lt_val (lm_call (x := "suffices") (dvs := []) D_suffices 0 (by decide) (hr.mono (by decide)) rfl tk (la_cons (lm_var 0) (la_cons (lm_var 1) (la_cons (lm_var 2) (la_cons (lm_var 3) (la_cons (lm_var 4) la_nil))))))))
 (lss_one (ls_ret (lm_c .non pe_non)))
 lss_nil)
 (lss_cons (ls_set (i := 5) S_needed.nd rfl (Or.inl rfl) (lm_lst la_nil))
 (lss_cons (ls_set (i := 6) S_needed.nd rfl (Or.inl rfl) (lm_var 2))
 (lss_one (ls_while 1000000 hp (lt_val (lm_c (.bl true) pe_bl))
 (lss_cons (ls_set (i := 7) S_needed.nd rfl (Or.inl rfl) (lm_call (x := "open_ends") (dvs := []) D_open_ends 0 (by decide) (hr.mono (by decide)) rfl tk (la_cons (lm_var 1) (la_cons (lm_var 6) (la_cons (lm_var 3) la_nil)))))
 (lss_cons (ls_if (PW.pt (lw_and (lt_cmp (op_eqD hu) s_eq (lm_var 7) (lm_lst la_nil)) (lw_and1 (lt_cmp op_le s_le (lm_op op_sub s_sub (lm_var 3) (lm_var 6)) (lm_var 0)))))
 (lss_one (ls_ret (lm_var 5)))
 lss_nil)
 (lss_cons (ls_set (i := 8) S_needed.nd rfl (Or.inr rfl) (lm_callB (cr_min rfl) s_min1 rfl T.b_min (by decide +kernel) (la_cons (lm_op op_addA s_add (lm_var 7) (lm_lst (la_cons (lm_op op_addA s_add (lm_var 6) (lm_var 0)) la_nil))) la_nil)))
 (lss_cons (ls_set (i := 6) S_needed.nd rfl (Or.inl rfl) (lm_ix ix_seq s_ix (lm_lc (own := [("one", 9)]) rfl S_needed.nd (li_lst (lm_var 4)) (blkOk_by (own := [("one", 9)]) (N := N_needed) (sc := defScope s_needed) (by decide +kernel)) (sg_nm 9) (by decide) (fun _ _ _ _ _ => (pg_name (i := 9) S_needed.nd rfl (Or.inl rfl))) (fun _ _ _ _ _ => lts_one (lt_cmp op_le s_le (lm_var 9) (lm_var 8))) (fun _ _ _ _ _ => (lm_var 9))) (lm_un un_neg s_neg (lm_c (.int 1) pe_int))))
 (lss_one (ls_expr (lm_mL PySem.F.slot_list_append PySem.F.type_list_append mt_append s_append (lm_var 5) (la_cons (lm_var 6) la_nil)))))))))))))))
abbrev s__law_long_right : Stmt := topS 33
abbrev N__law_long_right : List Str := ["source", "begin_at", "many", "span", "windows_in", "end_at", "turn", "looks", "at", "less", "told"]
theorem S__law_long_right : FnScope N__law_long_right ["source"] (defScope s__law_long_right) := ⟨rfl, rfl, rfl, by decide +kernel, rfl, by decide +kernel, by decide +kernel⟩
theorem ok__law_long_right (T : Txt K mg c) (F : FunD K "_law_long_right" "_law_long_right" (defArgs s__law_long_right) (defBody s__law_long_right) (defScope s__law_long_right) [] [] f fd) (hm : mg "_law_long_right" = some (.ref f)) (D__law_next : ∀ [LamT], Df P w K mg base 2 "_law_next" 2 [] (m_law_next c)) (D__law_right : ∀ [LamT], Df P w K mg base 5 "_law_right" 4 [] (m_law_right c)) (D_fewest : ∀ [LamT], Df P w K mg base 4 "fewest" 4 [] (m_fewest c)) (D_is_enough : ∀ [LamT], Df P w K mg base 4 "is_enough" 5 [] (m_is_enough c)) (D_needed : ∀ [LamT], Df P w K mg base 4 "needed" 5 [] (m_needed c)) : ∀ [LamT], Df P w K mg base 6 "_law_long_right" 1 [] (m_law_long_right c) := by
 intro I
 obtain rfl := T.kk
 exact df0 (N := N__law_long_right) (mb := b_law_long_right c) F S__law_long_right hm (fun _ _ _ _ _ _ us hl => match us, hl with | [_], _ => rfl) fun cdv A outer s H E hr tk hp hu =>
 (lss_cons (ls_par (i := 1) (j := 2) (fun h => ps_par (i := 1) (j := 2) rfl S__law_long_right.nd rfl rfl (by decide) rfl rfl h rfl) (la_cons (lm_call (x := "_law_next") (dvs := []) D__law_next 0 (by decide) (hr.mono (by decide)) rfl tk (la_cons (lm_var 0) (la_cons (lm_c (.int 1000) pe_int) la_nil))) (la_cons (lm_op op_addA s_add (lm_c (.int 150) pe_int) (lm_call (x := "_law_next") (dvs := []) D__law_next 0 (by decide) (hr.mono (by decide)) rfl tk (la_cons (lm_var 0) (la_cons (lm_c (.int 51) pe_int) la_nil)))) la_nil)))
 (lss_cons (ls_par3 (i := 3) (j := 4) (l := 5) (fun h => ps_par3 (i := 3) (j := 4) (l := 5) rfl S__law_long_right.nd rfl rfl rfl (by decide) (by decide) (by decide) rfl rfl rfl h rfl) (la_cons (lm_op op_pow s_pow (lm_c (.int 10) pe_int) (lm_c (.int 50) pe_int)) (la_cons (lm_lst la_nil) (la_cons (lm_op op_addA s_add (lm_var 1) (lm_c (.int 1) pe_int)) la_nil))))
 (lss_cons (ls_for hp rfl (li_rng1 rfl T.b_range (la_cons (lm_var 2) la_nil)) (pg_name (i := 6) S__law_long_right.nd rfl (Or.inl rfl)) (sg_nm 6)
 (lss_cons (ls_set (i := 5) S__law_long_right.nd rfl (Or.inl rfl) (lm_op op_addA s_add (lm_op op_addA s_add (lm_var 5) (lm_c (.int 1) pe_int)) (lm_call (x := "_law_next") (dvs := []) D__law_next 0 (by decide) (hr.mono (by decide)) rfl tk (la_cons (lm_var 0) (la_cons (lm_c (.int 9) pe_int) la_nil)))))
 (lss_one (ls_expr (lm_mL PySem.F.slot_list_append PySem.F.type_list_append mt_append s_append (lm_var 4) (la_cons (lm_tup (la_cons (lm_var 5) (la_cons (lm_op op_addA s_add (lm_var 5) (lm_call (x := "_law_next") (dvs := []) D__law_next 0 (by decide) (hr.mono (by decide)) rfl tk (la_cons (lm_var 0) (la_cons (lm_c (.int 12) pe_int) la_nil)))) la_nil))) la_nil))))))
 (lss_cons (ls_set (i := 5) S__law_long_right.nd rfl (Or.inl rfl) (lm_op op_addA s_add (lm_var 5) (lm_c (.int 20) pe_int)))
 (lss_cons (ls_if (lt_cmp (op_eqD hu) s_eq (lm_call (x := "_law_next") (dvs := []) D__law_next 0 (by decide) (hr.mono (by decide)) rfl tk (la_cons (lm_var 0) (la_cons (lm_c (.int 2) pe_int) la_nil))) (lm_c (.int 0) pe_int))
 (lss_cons (ls_par (i := 3) (j := 4) (fun h => ps_par (i := 3) (j := 4) rfl S__law_long_right.nd rfl rfl (by decide) rfl rfl h rfl) (la_cons (lm_op op_addA s_add (lm_c (.int 1) pe_int) (lm_call (x := "_law_next") (dvs := []) D__law_next 0 (by decide) (hr.mono (by decide)) rfl tk (la_cons (lm_var 0) (la_cons (lm_op op_pow s_pow (lm_c (.int 10) pe_int) (lm_c (.int 9) pe_int)) la_nil)))) (la_cons (lm_lst la_nil) la_nil)))
 (lss_one (ls_set (i := 5) S__law_long_right.nd rfl (Or.inl rfl) (lm_op op_addA s_add (lm_op op_addA s_add (lm_var 1) (lm_op op_mulA s_mulA (lm_var 2) (lm_var 3))) (lm_c (.int 1) pe_int)))))
 lss_nil)
 (lss_cons (ls_if (lt_not (lt_val (lm_call (x := "_law_right") (dvs := []) D__law_right 0 (by decide) (hr.mono (by decide)) rfl tk (la_cons (lm_var 3) (la_cons (lm_var 4) (la_cons (lm_var 1) (la_cons (lm_var 5) la_nil)))))))
 (lss_one (ls_ret (lm_c (.bl false) pe_bl)))
 lss_nil)
 (lss_cons (ls_set (i := 7) S__law_long_right.nd rfl (Or.inl rfl) (lm_call (x := "fewest") (dvs := []) D_fewest 0 (by decide) (hr.mono (by decide)) rfl tk (la_cons (lm_var 3) (la_cons (lm_var 4) (la_cons (lm_var 1) (la_cons (lm_var 5) la_nil))))))
 (lss_cons (ls_if (lt_cmp (op_neD hu) s_ne (lm_call (x := "needed") (dvs := []) D_needed 0 (by decide) (hr.mono (by decide)) rfl tk (la_cons (lm_var 3) (la_cons (lm_rev (lm_var 4)) (la_cons (lm_var 1) (la_cons (lm_var 5) (la_cons (lm_var 7) la_nil)))))) (lm_var 7))
 (lss_one (ls_ret (lm_c (.bl false) pe_bl)))
 lss_nil)
 (lss_cons (ls_set (i := 8) S__law_long_right.nd rfl (Or.inl rfl) (lm_call (x := "_law_next") (dvs := []) D__law_next 0 (by decide) (hr.mono (by decide)) rfl tk (la_cons (lm_var 0) (la_cons (lm_callB call_lenA s_len rfl T.b_len (by decide +kernel) (la_cons (lm_var 7) la_nil)) la_nil))))
 (lss_cons (ls_set (i := 9) S__law_long_right.nd rfl (Or.inl rfl) (lm_op op_addA s_add (lm_sl (lm_var 7) lo_none (lo_some (lm_var 8))) (lm_sl (lm_var 7) (lo_some (lm_op op_addA s_add (lm_var 8) (lm_c (.int 1) pe_int))) lo_none)))
 (lss_cons (ls_set (i := 10) S__law_long_right.nd rfl (Or.inl rfl) (lm_call (x := "is_enough") (dvs := []) D_is_enough 0 (by decide) (hr.mono (by decide)) rfl tk (la_cons (lm_var 3) (la_cons (lm_var 4) (la_cons (lm_var 1) (la_cons (lm_var 5) (la_cons (lm_var 9) la_nil)))))))
 (lss_one (ls_ret (lm_and (lm_cmp op_isBl s_isB (lm_var 10) (lm_c (.bl false) pe_bl)) (lm_one (lm_cmp op_isN s_isN (lm_call (x := "needed") (dvs := []) D_needed 0 (by decide) (hr.mono (by decide)) rfl tk (la_cons (lm_var 3) (la_cons (lm_var 4) (la_cons (lm_var 1) (la_cons (lm_var 5) (la_cons (lm_var 9) la_nil)))))) (lm_c .non pe_non)))))))))))))))))
abbrev s__law_cell_at : Stmt := topS 23
abbrev N__law_cell_at : List Str := ["script", "k"]
theorem S__law_cell_at : FnScope N__law_cell_at ["script", "k"] (defScope s__law_cell_at) := ⟨rfl, rfl, rfl, by decide +kernel, rfl, by decide +kernel, by decide +kernel⟩
theorem ok__law_cell_at (T : Txt K mg c) (F : FunD K "_law_cell_at" "_law_cell_at" (defArgs s__law_cell_at) (defBody s__law_cell_at) (defScope s__law_cell_at) [] [] f fd) (hm : mg "_law_cell_at" = some (.ref f))  : ∀ [LamT], Df P w K mg base 1 "_law_cell_at" 2 [] (m_law_cell_at c) := by
 intro I
 obtain rfl := T.kk
 exact df0 (N := N__law_cell_at) (mb := b_law_cell_at c) F S__law_cell_at hm (fun _ _ _ _ _ _ us hl => match us, hl with | [_, _], _ => rfl) fun cdv A outer s H E hr tk hp hu =>
 (lss_cons (ls_if (lt_cmp op_lt s_lt (lm_var 1) (lm_callB call_lenA s_len rfl T.b_len (by decide +kernel) (la_cons (lm_var 0) la_nil)))
 (lss_one (ls_ret (lm_ix ix_seq s_ix (lm_var 0) (lm_var 1))))
 lss_nil)
 (lss_one (ls_ret (lm_c (.int 0) pe_int))))
abbrev s__law_source : Stmt := topS 25
abbrev N__law_source : List Str := ["script", "k", "cell"]
theorem S__law_source : FnScope N__law_source ["script", "k"] (defScope s__law_source) := ⟨rfl, rfl, rfl, by decide +kernel, rfl, by decide +kernel, by decide +kernel⟩
theorem ok__law_source (T : Txt K mg c) (F : FunD K "_law_source" "_law_source" (defArgs s__law_source) (defBody s__law_source) (defScope s__law_source) [] [] f fd) (hm : mg "_law_source" = some (.ref f)) (D__law_cell_at : ∀ [LamT], Df P w K mg base 1 "_law_cell_at" 2 [] (m_law_cell_at c)) (D__law_mixed : ∀ [LamT], Df P w K mg base 1 "_law_mixed" 2 [] (m_law_mixed c)) : ∀ [LamT], Df P w K mg base 2 "_law_source" 2 [] (m_law_source c) := by
 intro I
 obtain rfl := T.kk
 exact df0 (N := N__law_source) (mb := b_law_source c) F S__law_source hm (fun _ _ _ _ _ _ us hl => match us, hl with | [_, _], _ => rfl) fun cdv A outer s H E hr tk hp hu =>
 (lss_cons (ls_if (lt_cmp op_lt s_lt (lm_var 1) (lm_callB call_lenA s_len rfl T.b_len (by decide +kernel) (la_cons (lm_var 0) la_nil)))
 (lss_one (ls_ret (lm_lst (la_cons (lm_ix ix_seq s_ix (lm_var 0) (lm_var 1)) (la_cons (lm_ix ix_seq s_ix (lm_var 0) (lm_var 1)) (la_cons (lm_c (.int 0) pe_int) la_nil))))))
 lss_nil)
 (lss_cons (ls_set (i := 2) S__law_source.nd rfl (Or.inl rfl) (lm_call (x := "_law_mixed") (dvs := []) D__law_mixed 0 (by decide) (hr.mono (by decide)) rfl tk (la_cons (lm_call (x := "_law_cell_at") (dvs := []) D__law_cell_at 0 (by decide) (hr.mono (by decide)) rfl tk (la_cons (lm_var 0) (la_cons (lm_c (.int 0) pe_int) la_nil))) (la_cons (lm_op op_addA s_add (lm_c (.int 1000) pe_int) (lm_var 1)) la_nil))))
 (lss_one (ls_ret (lm_lst (la_cons (lm_var 2) (la_cons (lm_var 2) (la_cons (lm_c (.int 0) pe_int) la_nil))))))))
abbrev s_law : Stmt := topS 34
abbrev N_law : List Str := ["script", "k", "source", "size", "begin_at", "end_at", "span", "windows_in", "turn", "first", "more"]
theorem S_law : FnScope N_law ["script"] (defScope s_law) := ⟨rfl, rfl, rfl, by decide +kernel, rfl, by decide +kernel, by decide +kernel⟩
theorem ok_law (T : Txt K mg c) (F : FunD K "law" "law" (defArgs s_law) (defBody s_law) (defScope s_law) [] [] f fd) (D__law_bound_right : ∀ [LamT], Df P w K mg base 5 "_law_bound_right" 2 [] (m_law_bound_right c)) (D__law_far : ∀ [LamT], Df P w K mg base 3 "_law_far" 1 [] (m_law_far c)) (D__law_long_right : ∀ [LamT], Df P w K mg base 6 "_law_long_right" 1 [] (m_law_long_right c)) (D__law_next : ∀ [LamT], Df P w K mg base 2 "_law_next" 2 [] (m_law_next c)) (D__law_right : ∀ [LamT], Df P w K mg base 5 "_law_right" 4 [] (m_law_right c)) (D__law_source : ∀ [LamT], Df P w K mg base 2 "_law_source" 2 [] (m_law_source c)) : ∀ [LamT], FnOk P w K mg base (L2.CX P w) 7 f fd ["script"] (spM K 1 (m_law c)) := by
 intro I
 obtain rfl := T.kk
 exact df_fn2 (N := N_law) (ps := ["script"]) (k := 6) (mb := b_law c) F S_law fun cdv A outer s H E hr tk hp hu =>
 (lss_cons (ls_for hp rfl (li_rng1 rfl T.b_range (la_cons (lm_callB (call_max2 rfl) s_max2 rfl T.b_max (by decide +kernel) (la_cons (lm_c (.int 1) pe_int) (la_cons (lm_callB (call_min2 rfl) s_min2 rfl T.b_min (by decide +kernel) (la_cons (lm_c (.int 6) pe_int) (la_cons (lm_callB call_lenA s_len rfl T.b_len (by decide +kernel) (la_cons (lm_var 0) la_nil)) la_nil))) la_nil))) la_nil)) (pg_name (i := 1) S_law.nd rfl (Or.inl rfl)) (sg_nm 1)
 (lss_cons (ls_set (i := 2) S_law.nd rfl (Or.inl rfl) (lm_call (x := "_law_source") (dvs := []) D__law_source 0 (by decide) (hr.mono (by decide)) rfl tk (la_cons (lm_var 0) (la_cons (lm_var 1) la_nil))))
 (lss_cons (ls_set (i := 3) S_law.nd rfl (Or.inl rfl) (lm_call (x := "_law_far") (dvs := []) D__law_far 0 (by decide) (hr.mono (by decide)) rfl tk (la_cons (lm_var 2) la_nil)))
 (lss_cons (ls_set (i := 4) S_law.nd rfl (Or.inl rfl) (lm_call (x := "_law_next") (dvs := []) D__law_next 0 (by decide) (hr.mono (by decide)) rfl tk (la_cons (lm_var 2) (la_cons (lm_var 3) la_nil))))
 (lss_cons (ls_set (i := 5) S_law.nd rfl (Or.inl rfl) (lm_op op_addA s_add (lm_var 4) (lm_call (x := "_law_next") (dvs := []) D__law_next 0 (by decide) (hr.mono (by decide)) rfl tk (la_cons (lm_var 2) (la_cons (lm_op op_mulA s_mulA (lm_c (.int 30) pe_int) (lm_var 3)) la_nil)))))
 (lss_cons (ls_set (i := 6) S_law.nd rfl (Or.inl rfl) (lm_ix ix_seq s_ix (lm_lst (la_cons (lm_op op_addA s_add (lm_op op_addA s_add (lm_c (.int 1) pe_int) (lm_op op_fdivW s_fdiv (lm_var 3) (lm_c (.int 2) pe_int))) (lm_call (x := "_law_next") (dvs := []) D__law_next 0 (by decide) (hr.mono (by decide)) rfl tk (la_cons (lm_var 2) (la_cons (lm_var 3) la_nil)))) (la_cons (lm_op op_addA s_add (lm_c (.int 1) pe_int) (lm_op op_mulA s_mulA (lm_c (.int 5) pe_int) (lm_var 3))) (la_cons (lm_op op_pow s_pow (lm_c (.int 10) pe_int) (lm_c (.int 50) pe_int)) la_nil)))) (lm_call (x := "_law_next") (dvs := []) D__law_next 0 (by decide) (hr.mono (by decide)) rfl tk (la_cons (lm_var 2) (la_cons (lm_c (.int 3) pe_int) la_nil)))))
 (lss_cons (ls_set (i := 7) S_law.nd rfl (Or.inl rfl) (lm_lst la_nil))
 (lss_cons (ls_for hp rfl (li_rng1 rfl T.b_range (la_cons (lm_call (x := "_law_next") (dvs := []) D__law_next 0 (by decide) (hr.mono (by decide)) rfl tk (la_cons (lm_var 2) (la_cons (lm_c (.int 31) pe_int) la_nil))) la_nil)) (pg_name (i := 8) S_law.nd rfl (Or.inl rfl)) (sg_nm 8)
 (lss_cons (ls_set (i := 9) S_law.nd rfl (Or.inl rfl) (lm_call (x := "_law_next") (dvs := []) D__law_next 0 (by decide) (hr.mono (by decide)) rfl tk (la_cons (lm_var 2) (la_cons (lm_op op_addA s_add (lm_var 5) (lm_var 3)) la_nil))))
 (lss_cons (ls_set (i := 10) S_law.nd rfl (Or.inl rfl) (lm_ix ix_seq s_ix (lm_lst (la_cons (lm_c (.int 0) pe_int) (la_cons (lm_call (x := "_law_next") (dvs := []) D__law_next 0 (by decide) (hr.mono (by decide)) rfl tk (la_cons (lm_var 2) (la_cons (lm_c (.int 10) pe_int) la_nil))) (la_cons (lm_call (x := "_law_next") (dvs := []) D__law_next 0 (by decide) (hr.mono (by decide)) rfl tk (la_cons (lm_var 2) (la_cons (lm_op op_mulA s_mulA (lm_c (.int 5) pe_int) (lm_var 3)) la_nil))) la_nil)))) (lm_call (x := "_law_next") (dvs := []) D__law_next 0 (by decide) (hr.mono (by decide)) rfl tk (la_cons (lm_var 2) (la_cons (lm_c (.int 3) pe_int) la_nil)))))
 (lss_one (ls_expr (lm_mL PySem.F.slot_list_append PySem.F.type_list_append mt_append s_append (lm_var 7) (la_cons (lm_tup (la_cons (lm_var 9) (la_cons (lm_op op_addA s_add (lm_var 9) (lm_var 10)) la_nil))) la_nil)))))))
 (lss_one (ls_if (lt_not (lt_val (lm_call (x := "_law_right") (dvs := []) D__law_right 0 (by decide) (hr.mono (by decide)) rfl tk (la_cons (lm_var 6) (la_cons (lm_var 7) (la_cons (lm_var 4) (la_cons (lm_var 5) la_nil)))))))
 (lss_one (ls_ret (lm_c (.bl false) pe_bl)))
 lss_nil))))))))))
 (lss_cons (ls_set (i := 2) S_law.nd rfl (Or.inl rfl) (lm_call (x := "_law_source") (dvs := []) D__law_source 0 (by decide) (hr.mono (by decide)) rfl tk (la_cons (lm_var 0) (la_cons (lm_c (.int 0) pe_int) la_nil))))
 (lss_cons (ls_if (lt_not (lt_val (lm_call (x := "_law_long_right") (dvs := []) D__law_long_right 0 (by decide) (hr.mono (by decide)) rfl tk (la_cons (lm_var 2) la_nil))))
 (lss_one (ls_ret (lm_c (.bl false) pe_bl)))
 lss_nil)
 (lss_one (ls_ret (lm_call (x := "_law_bound_right") (dvs := []) D__law_bound_right 0 (by decide) (hr.mono (by decide)) rfl tk (la_cons (lm_var 2) (la_cons (lm_op op_addA s_add (lm_c (.int 1) pe_int) (lm_call (x := "_law_next") (dvs := []) D__law_next 0 (by decide) (hr.mono (by decide)) rfl tk (la_cons (lm_var 2) (la_cons (lm_op op_pow s_pow (lm_c (.int 10) pe_int) (lm_c (.int 20) pe_int)) la_nil)))) la_nil))))))))
end
end L3
namespace L3
open PySem PySem.Spec PyProof.Rows L2

theorem all_mk {P : Program} {w : World} {K : PySem.W.Frag} {h : Heap} {mg : Str → Option Value} {fa : Addr} (X : K.In h) (G : h.Ns mainGlobals mg) (hfa : mg "law" = some (.ref fa)) {f_law_mixed f_law_next f_is_whole f_check_cycle f_is_stretch f_check_frame f_open_ends f_fewest f_law_bound_right f_law_far f_law_enough f_law_reasons f_is_certificate f_is_looks f_suffices f_is_enough f_law_right f_needed f_law_long_right f_law_cell_at f_law_source f_law C_KernelError C_NoCycle C_NoLooks C_NoSpan C_NoWindow C_TooMany : Addr}
 {od_law_mixed an_law_mixed : Option Addr} {sl_law_mixed : Array (Option Value)} {oc_law_mixed kV_law_mixed dc_law_mixed pm_law_mixed cd_law_mixed ct_law_mixed : Value} {od_law_next an_law_next : Option Addr} {sl_law_next : Array (Option Value)} {oc_law_next kV_law_next dc_law_next pm_law_next cd_law_next ct_law_next : Value} {od_is_whole an_is_whole : Option Addr} {sl_is_whole : Array (Option Value)} {oc_is_whole kV_is_whole dc_is_whole pm_is_whole cd_is_whole ct_is_whole : Value} {T_is_whole : Addr} {o_is_whole : Obj} {n_is_whole : Nat} {d0_is_whole : Value} {od_check_cycle an_check_cycle : Option Addr} {sl_check_cycle : Array (Option Value)} {oc_check_cycle kV_check_cycle dc_check_cycle pm_check_cycle cd_check_cycle ct_check_cycle : Value} {T_check_cycle : Addr} {o_check_cycle : Obj} {n_check_cycle : Nat} {d0_check_cycle : Value} {od_is_stretch an_is_stretch : Option Addr} {sl_is_stretch : Array (Option Value)} {oc_is_stretch kV_is_stretch dc_is_stretch pm_is_stretch cd_is_stretch ct_is_stretch : Value} {od_check_frame an_check_frame : Option Addr} {sl_check_frame : Array (Option Value)} {oc_check_frame kV_check_frame dc_check_frame pm_check_frame cd_check_frame ct_check_frame : Value} {od_open_ends an_open_ends : Option Addr} {sl_open_ends : Array (Option Value)} {oc_open_ends kV_open_ends dc_open_ends pm_open_ends cd_open_ends ct_open_ends : Value} {od_fewest an_fewest : Option Addr} {sl_fewest : Array (Option Value)} {oc_fewest kV_fewest dc_fewest pm_fewest cd_fewest ct_fewest : Value} {od_law_bound_right an_law_bound_right : Option Addr} {sl_law_bound_right : Array (Option Value)} {oc_law_bound_right kV_law_bound_right dc_law_bound_right pm_law_bound_right cd_law_bound_right ct_law_bound_right : Value} {od_law_far an_law_far : Option Addr} {sl_law_far : Array (Option Value)} {oc_law_far kV_law_far dc_law_far pm_law_far cd_law_far ct_law_far : Value} {od_law_enough an_law_enough : Option Addr} {sl_law_enough : Array (Option Value)} {oc_law_enough kV_law_enough dc_law_enough pm_law_enough cd_law_enough ct_law_enough : Value} {od_law_reasons an_law_reasons : Option Addr} {sl_law_reasons : Array (Option Value)} {oc_law_reasons kV_law_reasons dc_law_reasons pm_law_reasons cd_law_reasons ct_law_reasons : Value} {od_is_certificate an_is_certificate : Option Addr} {sl_is_certificate : Array (Option Value)} {oc_is_certificate kV_is_certificate dc_is_certificate pm_is_certificate cd_is_certificate ct_is_certificate : Value} {od_is_looks an_is_looks : Option Addr} {sl_is_looks : Array (Option Value)} {oc_is_looks kV_is_looks dc_is_looks pm_is_looks cd_is_looks ct_is_looks : Value} {od_suffices an_suffices : Option Addr} {sl_suffices : Array (Option Value)} {oc_suffices kV_suffices dc_suffices pm_suffices cd_suffices ct_suffices : Value} {od_is_enough an_is_enough : Option Addr} {sl_is_enough : Array (Option Value)} {oc_is_enough kV_is_enough dc_is_enough pm_is_enough cd_is_enough ct_is_enough : Value} {od_law_right an_law_right : Option Addr} {sl_law_right : Array (Option Value)} {oc_law_right kV_law_right dc_law_right pm_law_right cd_law_right ct_law_right : Value} {od_needed an_needed : Option Addr} {sl_needed : Array (Option Value)} {oc_needed kV_needed dc_needed pm_needed cd_needed ct_needed : Value} {od_law_long_right an_law_long_right : Option Addr} {sl_law_long_right : Array (Option Value)} {oc_law_long_right kV_law_long_right dc_law_long_right pm_law_long_right cd_law_long_right ct_law_long_right : Value} {od_law_cell_at an_law_cell_at : Option Addr} {sl_law_cell_at : Array (Option Value)} {oc_law_cell_at kV_law_cell_at dc_law_cell_at pm_law_cell_at cd_law_cell_at ct_law_cell_at : Value} {od_law_source an_law_source : Option Addr} {sl_law_source : Array (Option Value)} {oc_law_source kV_law_source dc_law_source pm_law_source cd_law_source ct_law_source : Value} {od_law an_law : Option Addr} {sl_law : Array (Option Value)} {oc_law kV_law dc_law pm_law cd_law ct_law : Value} {t_MOST_LOOKS : Tok}
(a_law_mixed : PySem.W.nsIn K mainGlobals "_law_mixed" = some (some (.ref f_law_mixed)))
 (l_law_mixed : K.lookup f_law_mixed = some ⟨oc_law_mixed, od_law_mixed, .func (PySem.W.fnOf "_law_mixed" "_law_mixed" (defArgs s__law_mixed) (defBody s__law_mixed) (defScope s__law_mixed) .none kV_law_mixed dc_law_mixed pm_law_mixed an_law_mixed cd_law_mixed ct_law_mixed), sl_law_mixed⟩)
 (c_law_mixed : PySem.W.codeIn K cd_law_mixed "_law_mixed" = true)
 (k_law_mixed : PySem.W.keepIn K (.ref f_law_mixed) = true)
 (a_law_next : PySem.W.nsIn K mainGlobals "_law_next" = some (some (.ref f_law_next)))
 (l_law_next : K.lookup f_law_next = some ⟨oc_law_next, od_law_next, .func (PySem.W.fnOf "_law_next" "_law_next" (defArgs s__law_next) (defBody s__law_next) (defScope s__law_next) .none kV_law_next dc_law_next pm_law_next an_law_next cd_law_next ct_law_next), sl_law_next⟩)
 (c_law_next : PySem.W.codeIn K cd_law_next "_law_next" = true)
 (k_law_next : PySem.W.keepIn K (.ref f_law_next) = true)
 (a_is_whole : PySem.W.nsIn K mainGlobals "is_whole" = some (some (.ref f_is_whole)))
 (l_is_whole : K.lookup f_is_whole = some ⟨oc_is_whole, od_is_whole, .func (PySem.W.fnOf "is_whole" "is_whole" (defArgs s_is_whole) (defBody s_is_whole) (defScope s_is_whole) (.ref T_is_whole) kV_is_whole dc_is_whole pm_is_whole an_is_whole cd_is_whole ct_is_whole), sl_is_whole⟩)
 (c_is_whole : PySem.W.codeIn K cd_is_whole "is_whole" = true)
 (k_is_whole : PySem.W.keepIn K (.ref f_is_whole) = true)
 (t_is_whole : K.lookup T_is_whole = some o_is_whole)
 (u_is_whole : o_is_whole.data = .seq [d0_is_whole].toArray n_is_whole)
 (v_is_whole : Vals [V.non] [d0_is_whole])
 (a_check_cycle : PySem.W.nsIn K mainGlobals "check_cycle" = some (some (.ref f_check_cycle)))
 (l_check_cycle : K.lookup f_check_cycle = some ⟨oc_check_cycle, od_check_cycle, .func (PySem.W.fnOf "check_cycle" "check_cycle" (defArgs s_check_cycle) (defBody s_check_cycle) (defScope s_check_cycle) (.ref T_check_cycle) kV_check_cycle dc_check_cycle pm_check_cycle an_check_cycle cd_check_cycle ct_check_cycle), sl_check_cycle⟩)
 (c_check_cycle : PySem.W.codeIn K cd_check_cycle "check_cycle" = true)
 (k_check_cycle : PySem.W.keepIn K (.ref f_check_cycle) = true)
 (t_check_cycle : K.lookup T_check_cycle = some o_check_cycle)
 (u_check_cycle : o_check_cycle.data = .seq [d0_check_cycle].toArray n_check_cycle)
 (v_check_cycle : Vals [(V.int 0)] [d0_check_cycle])
 (a_is_stretch : PySem.W.nsIn K mainGlobals "is_stretch" = some (some (.ref f_is_stretch)))
 (l_is_stretch : K.lookup f_is_stretch = some ⟨oc_is_stretch, od_is_stretch, .func (PySem.W.fnOf "is_stretch" "is_stretch" (defArgs s_is_stretch) (defBody s_is_stretch) (defScope s_is_stretch) .none kV_is_stretch dc_is_stretch pm_is_stretch an_is_stretch cd_is_stretch ct_is_stretch), sl_is_stretch⟩)
 (c_is_stretch : PySem.W.codeIn K cd_is_stretch "is_stretch" = true)
 (k_is_stretch : PySem.W.keepIn K (.ref f_is_stretch) = true)
 (a_check_frame : PySem.W.nsIn K mainGlobals "check_frame" = some (some (.ref f_check_frame)))
 (l_check_frame : K.lookup f_check_frame = some ⟨oc_check_frame, od_check_frame, .func (PySem.W.fnOf "check_frame" "check_frame" (defArgs s_check_frame) (defBody s_check_frame) (defScope s_check_frame) .none kV_check_frame dc_check_frame pm_check_frame an_check_frame cd_check_frame ct_check_frame), sl_check_frame⟩)
 (c_check_frame : PySem.W.codeIn K cd_check_frame "check_frame" = true)
 (k_check_frame : PySem.W.keepIn K (.ref f_check_frame) = true)
 (a_open_ends : PySem.W.nsIn K mainGlobals "open_ends" = some (some (.ref f_open_ends)))
 (l_open_ends : K.lookup f_open_ends = some ⟨oc_open_ends, od_open_ends, .func (PySem.W.fnOf "open_ends" "open_ends" (defArgs s_open_ends) (defBody s_open_ends) (defScope s_open_ends) .none kV_open_ends dc_open_ends pm_open_ends an_open_ends cd_open_ends ct_open_ends), sl_open_ends⟩)
 (c_open_ends : PySem.W.codeIn K cd_open_ends "open_ends" = true)
 (k_open_ends : PySem.W.keepIn K (.ref f_open_ends) = true)
 (a_fewest : PySem.W.nsIn K mainGlobals "fewest" = some (some (.ref f_fewest)))
 (l_fewest : K.lookup f_fewest = some ⟨oc_fewest, od_fewest, .func (PySem.W.fnOf "fewest" "fewest" (defArgs s_fewest) (defBody s_fewest) (defScope s_fewest) .none kV_fewest dc_fewest pm_fewest an_fewest cd_fewest ct_fewest), sl_fewest⟩)
 (c_fewest : PySem.W.codeIn K cd_fewest "fewest" = true)
 (k_fewest : PySem.W.keepIn K (.ref f_fewest) = true)
 (a_law_bound_right : PySem.W.nsIn K mainGlobals "_law_bound_right" = some (some (.ref f_law_bound_right)))
 (l_law_bound_right : K.lookup f_law_bound_right = some ⟨oc_law_bound_right, od_law_bound_right, .func (PySem.W.fnOf "_law_bound_right" "_law_bound_right" (defArgs s__law_bound_right) (defBody s__law_bound_right) (defScope s__law_bound_right) .none kV_law_bound_right dc_law_bound_right pm_law_bound_right an_law_bound_right cd_law_bound_right ct_law_bound_right), sl_law_bound_right⟩)
 (c_law_bound_right : PySem.W.codeIn K cd_law_bound_right "_law_bound_right" = true)
 (k_law_bound_right : PySem.W.keepIn K (.ref f_law_bound_right) = true)
 (a_law_far : PySem.W.nsIn K mainGlobals "_law_far" = some (some (.ref f_law_far)))
 (l_law_far : K.lookup f_law_far = some ⟨oc_law_far, od_law_far, .func (PySem.W.fnOf "_law_far" "_law_far" (defArgs s__law_far) (defBody s__law_far) (defScope s__law_far) .none kV_law_far dc_law_far pm_law_far an_law_far cd_law_far ct_law_far), sl_law_far⟩)
 (c_law_far : PySem.W.codeIn K cd_law_far "_law_far" = true)
 (k_law_far : PySem.W.keepIn K (.ref f_law_far) = true)
 (a_law_enough : PySem.W.nsIn K mainGlobals "_law_enough" = some (some (.ref f_law_enough)))
 (l_law_enough : K.lookup f_law_enough = some ⟨oc_law_enough, od_law_enough, .func (PySem.W.fnOf "_law_enough" "_law_enough" (defArgs s__law_enough) (defBody s__law_enough) (defScope s__law_enough) .none kV_law_enough dc_law_enough pm_law_enough an_law_enough cd_law_enough ct_law_enough), sl_law_enough⟩)
 (c_law_enough : PySem.W.codeIn K cd_law_enough "_law_enough" = true)
 (k_law_enough : PySem.W.keepIn K (.ref f_law_enough) = true)
 (a_law_reasons : PySem.W.nsIn K mainGlobals "_law_reasons" = some (some (.ref f_law_reasons)))
 (l_law_reasons : K.lookup f_law_reasons = some ⟨oc_law_reasons, od_law_reasons, .func (PySem.W.fnOf "_law_reasons" "_law_reasons" (defArgs s__law_reasons) (defBody s__law_reasons) (defScope s__law_reasons) .none kV_law_reasons dc_law_reasons pm_law_reasons an_law_reasons cd_law_reasons ct_law_reasons), sl_law_reasons⟩)
 (c_law_reasons : PySem.W.codeIn K cd_law_reasons "_law_reasons" = true)
 (k_law_reasons : PySem.W.keepIn K (.ref f_law_reasons) = true)
 (a_is_certificate : PySem.W.nsIn K mainGlobals "is_certificate" = some (some (.ref f_is_certificate)))
 (l_is_certificate : K.lookup f_is_certificate = some ⟨oc_is_certificate, od_is_certificate, .func (PySem.W.fnOf "is_certificate" "is_certificate" (defArgs s_is_certificate) (defBody s_is_certificate) (defScope s_is_certificate) .none kV_is_certificate dc_is_certificate pm_is_certificate an_is_certificate cd_is_certificate ct_is_certificate), sl_is_certificate⟩)
 (c_is_certificate : PySem.W.codeIn K cd_is_certificate "is_certificate" = true)
 (k_is_certificate : PySem.W.keepIn K (.ref f_is_certificate) = true)
 (a_is_looks : PySem.W.nsIn K mainGlobals "is_looks" = some (some (.ref f_is_looks)))
 (l_is_looks : K.lookup f_is_looks = some ⟨oc_is_looks, od_is_looks, .func (PySem.W.fnOf "is_looks" "is_looks" (defArgs s_is_looks) (defBody s_is_looks) (defScope s_is_looks) .none kV_is_looks dc_is_looks pm_is_looks an_is_looks cd_is_looks ct_is_looks), sl_is_looks⟩)
 (c_is_looks : PySem.W.codeIn K cd_is_looks "is_looks" = true)
 (k_is_looks : PySem.W.keepIn K (.ref f_is_looks) = true)
 (a_suffices : PySem.W.nsIn K mainGlobals "suffices" = some (some (.ref f_suffices)))
 (l_suffices : K.lookup f_suffices = some ⟨oc_suffices, od_suffices, .func (PySem.W.fnOf "suffices" "suffices" (defArgs s_suffices) (defBody s_suffices) (defScope s_suffices) .none kV_suffices dc_suffices pm_suffices an_suffices cd_suffices ct_suffices), sl_suffices⟩)
 (c_suffices : PySem.W.codeIn K cd_suffices "suffices" = true)
 (k_suffices : PySem.W.keepIn K (.ref f_suffices) = true)
 (a_is_enough : PySem.W.nsIn K mainGlobals "is_enough" = some (some (.ref f_is_enough)))
 (l_is_enough : K.lookup f_is_enough = some ⟨oc_is_enough, od_is_enough, .func (PySem.W.fnOf "is_enough" "is_enough" (defArgs s_is_enough) (defBody s_is_enough) (defScope s_is_enough) .none kV_is_enough dc_is_enough pm_is_enough an_is_enough cd_is_enough ct_is_enough), sl_is_enough⟩)
 (c_is_enough : PySem.W.codeIn K cd_is_enough "is_enough" = true)
 (k_is_enough : PySem.W.keepIn K (.ref f_is_enough) = true)
 (a_law_right : PySem.W.nsIn K mainGlobals "_law_right" = some (some (.ref f_law_right)))
 (l_law_right : K.lookup f_law_right = some ⟨oc_law_right, od_law_right, .func (PySem.W.fnOf "_law_right" "_law_right" (defArgs s__law_right) (defBody s__law_right) (defScope s__law_right) .none kV_law_right dc_law_right pm_law_right an_law_right cd_law_right ct_law_right), sl_law_right⟩)
 (c_law_right : PySem.W.codeIn K cd_law_right "_law_right" = true)
 (k_law_right : PySem.W.keepIn K (.ref f_law_right) = true)
 (a_needed : PySem.W.nsIn K mainGlobals "needed" = some (some (.ref f_needed)))
 (l_needed : K.lookup f_needed = some ⟨oc_needed, od_needed, .func (PySem.W.fnOf "needed" "needed" (defArgs s_needed) (defBody s_needed) (defScope s_needed) .none kV_needed dc_needed pm_needed an_needed cd_needed ct_needed), sl_needed⟩)
 (c_needed : PySem.W.codeIn K cd_needed "needed" = true)
 (k_needed : PySem.W.keepIn K (.ref f_needed) = true)
 (a_law_long_right : PySem.W.nsIn K mainGlobals "_law_long_right" = some (some (.ref f_law_long_right)))
 (l_law_long_right : K.lookup f_law_long_right = some ⟨oc_law_long_right, od_law_long_right, .func (PySem.W.fnOf "_law_long_right" "_law_long_right" (defArgs s__law_long_right) (defBody s__law_long_right) (defScope s__law_long_right) .none kV_law_long_right dc_law_long_right pm_law_long_right an_law_long_right cd_law_long_right ct_law_long_right), sl_law_long_right⟩)
 (c_law_long_right : PySem.W.codeIn K cd_law_long_right "_law_long_right" = true)
 (k_law_long_right : PySem.W.keepIn K (.ref f_law_long_right) = true)
 (a_law_cell_at : PySem.W.nsIn K mainGlobals "_law_cell_at" = some (some (.ref f_law_cell_at)))
 (l_law_cell_at : K.lookup f_law_cell_at = some ⟨oc_law_cell_at, od_law_cell_at, .func (PySem.W.fnOf "_law_cell_at" "_law_cell_at" (defArgs s__law_cell_at) (defBody s__law_cell_at) (defScope s__law_cell_at) .none kV_law_cell_at dc_law_cell_at pm_law_cell_at an_law_cell_at cd_law_cell_at ct_law_cell_at), sl_law_cell_at⟩)
 (c_law_cell_at : PySem.W.codeIn K cd_law_cell_at "_law_cell_at" = true)
 (k_law_cell_at : PySem.W.keepIn K (.ref f_law_cell_at) = true)
 (a_law_source : PySem.W.nsIn K mainGlobals "_law_source" = some (some (.ref f_law_source)))
 (l_law_source : K.lookup f_law_source = some ⟨oc_law_source, od_law_source, .func (PySem.W.fnOf "_law_source" "_law_source" (defArgs s__law_source) (defBody s__law_source) (defScope s__law_source) .none kV_law_source dc_law_source pm_law_source an_law_source cd_law_source ct_law_source), sl_law_source⟩)
 (c_law_source : PySem.W.codeIn K cd_law_source "_law_source" = true)
 (k_law_source : PySem.W.keepIn K (.ref f_law_source) = true)
 (a_law : PySem.W.nsIn K mainGlobals "law" = some (some (.ref f_law)))
 (l_law : K.lookup f_law = some ⟨oc_law, od_law, .func (PySem.W.fnOf "law" "law" (defArgs s_law) (defBody s_law) (defScope s_law) .none kV_law dc_law pm_law an_law cd_law ct_law), sl_law⟩)
 (c_law : PySem.W.codeIn K cd_law "law" = true)
 (k_law : PySem.W.keepIn K (.ref f_law) = true)
 (b_all : PySem.W.nsIn K mainGlobals "all" = some none)
 (b_any : PySem.W.nsIn K mainGlobals "any" = some none)
 (b_bool : PySem.W.nsIn K mainGlobals "bool" = some none)
 (b_int : PySem.W.nsIn K mainGlobals "int" = some none)
 (b_isinstance : PySem.W.nsIn K mainGlobals "isinstance" = some none)
 (b_len : PySem.W.nsIn K mainGlobals "len" = some none)
 (b_list : PySem.W.nsIn K mainGlobals "list" = some none)
 (b_max : PySem.W.nsIn K mainGlobals "max" = some none)
 (b_min : PySem.W.nsIn K mainGlobals "min" = some none)
 (b_range : PySem.W.nsIn K mainGlobals "range" = some none)
 (b_tuple : PySem.W.nsIn K mainGlobals "tuple" = some none)
 (b_zip : PySem.W.nsIn K mainGlobals "zip" = some none)
 (g_MOST_LOOKS : PySem.W.nsIn K mainGlobals "MOST_LOOKS" = some (some (.int 2000 t_MOST_LOOKS)))
 (xa_KernelError : PySem.W.nsIn K mainGlobals "KernelError" = some (some (.ref C_KernelError)))
 (xq_KernelError : PySem.W.excIn K C_KernelError [.type "ValueError", .type "Exception", .type "BaseException", .type "object"] "ValueError.__new__" = true)
 (xk_KernelError : PySem.W.keepIn K (.ref C_KernelError) = true)
 (xb_KernelError : PySem.W.subIn K (.ref C_KernelError) (.type "BaseException") = some true)
 (xt_KernelError : PySem.W.typeIn K (.ref C_KernelError) = some (.type "type"))
 (xa_NoCycle : PySem.W.nsIn K mainGlobals "NoCycle" = some (some (.ref C_NoCycle)))
 (xq_NoCycle : PySem.W.excIn K C_NoCycle [.type "ValueError", .type "Exception", .type "BaseException", .type "object"] "ValueError.__new__" = true)
 (xk_NoCycle : PySem.W.keepIn K (.ref C_NoCycle) = true)
 (xb_NoCycle : PySem.W.subIn K (.ref C_NoCycle) (.type "BaseException") = some true)
 (xt_NoCycle : PySem.W.typeIn K (.ref C_NoCycle) = some (.type "type"))
 (xa_NoLooks : PySem.W.nsIn K mainGlobals "NoLooks" = some (some (.ref C_NoLooks)))
 (xq_NoLooks : PySem.W.excIn K C_NoLooks [.type "ValueError", .type "Exception", .type "BaseException", .type "object"] "ValueError.__new__" = true)
 (xk_NoLooks : PySem.W.keepIn K (.ref C_NoLooks) = true)
 (xb_NoLooks : PySem.W.subIn K (.ref C_NoLooks) (.type "BaseException") = some true)
 (xt_NoLooks : PySem.W.typeIn K (.ref C_NoLooks) = some (.type "type"))
 (xa_NoSpan : PySem.W.nsIn K mainGlobals "NoSpan" = some (some (.ref C_NoSpan)))
 (xq_NoSpan : PySem.W.excIn K C_NoSpan [.type "ValueError", .type "Exception", .type "BaseException", .type "object"] "ValueError.__new__" = true)
 (xk_NoSpan : PySem.W.keepIn K (.ref C_NoSpan) = true)
 (xb_NoSpan : PySem.W.subIn K (.ref C_NoSpan) (.type "BaseException") = some true)
 (xt_NoSpan : PySem.W.typeIn K (.ref C_NoSpan) = some (.type "type"))
 (xa_NoWindow : PySem.W.nsIn K mainGlobals "NoWindow" = some (some (.ref C_NoWindow)))
 (xq_NoWindow : PySem.W.excIn K C_NoWindow [.type "ValueError", .type "Exception", .type "BaseException", .type "object"] "ValueError.__new__" = true)
 (xk_NoWindow : PySem.W.keepIn K (.ref C_NoWindow) = true)
 (xb_NoWindow : PySem.W.subIn K (.ref C_NoWindow) (.type "BaseException") = some true)
 (xt_NoWindow : PySem.W.typeIn K (.ref C_NoWindow) = some (.type "type"))
 (xa_TooMany : PySem.W.nsIn K mainGlobals "TooMany" = some (some (.ref C_TooMany)))
 (xq_TooMany : PySem.W.excIn K C_TooMany [.type "ValueError", .type "Exception", .type "BaseException", .type "object"] "ValueError.__new__" = true)
 (xk_TooMany : PySem.W.keepIn K (.ref C_TooMany) = true)
 (xb_TooMany : PySem.W.subIn K (.ref C_TooMany) (.type "BaseException") = some true)
 (xt_TooMany : PySem.W.typeIn K (.ref C_TooMany) = some (.type "type"))
 (xm_NoCycle_KernelError : PySem.W.exmOne K (.ref C_NoCycle) (.ref C_KernelError) = some true)
 (xm_NoCycle_TooMany : PySem.W.exmOne K (.ref C_NoCycle) (.ref C_TooMany) = some false)
 (xm_NoLooks_KernelError : PySem.W.exmOne K (.ref C_NoLooks) (.ref C_KernelError) = some true)
 (xm_NoLooks_TooMany : PySem.W.exmOne K (.ref C_NoLooks) (.ref C_TooMany) = some false)
 (xm_NoSpan_KernelError : PySem.W.exmOne K (.ref C_NoSpan) (.ref C_KernelError) = some true)
 (xm_NoSpan_TooMany : PySem.W.exmOne K (.ref C_NoSpan) (.ref C_TooMany) = some false)
 (xm_NoWindow_KernelError : PySem.W.exmOne K (.ref C_NoWindow) (.ref C_KernelError) = some true)
 (xm_NoWindow_TooMany : PySem.W.exmOne K (.ref C_NoWindow) (.ref C_TooMany) = some false)
 (xm_TooMany_KernelError : PySem.W.exmOne K (.ref C_TooMany) (.ref C_KernelError) = some true)
 (xm_TooMany_TooMany : PySem.W.exmOne K (.ref C_TooMany) (.ref C_TooMany) = some true)
 : ∃ fd : FuncData, (∀ (s : Shared) (v : Value), BindsTo s fd ⟨[v], []⟩ [("script", v)]) ∧ ∀ base : Heap, K.In base → base.Ns mainGlobals mg → FnOk P w K mg base (L2.CX P w) 7 fa fd ["script"] (spLaw K) := by
  have e := hfa.symm.trans (PySem.W.mg_of X G a_law)
  cases e
  have T : Txt K mg (Cs.mk K C_KernelError 0 C_NoLooks C_NoCycle 0 0 0 0 0 0 0 0 0 0 0 0 0 0 C_NoWindow C_NoSpan 0 0 0 0 0 C_TooMany 0) := ⟨rfl, PySem.W.mg_none_of X G b_all, PySem.W.mg_none_of X G b_any, PySem.W.mg_none_of X G b_bool, PySem.W.mg_none_of X G b_int, PySem.W.mg_none_of X G b_isinstance, PySem.W.mg_none_of X G b_len, PySem.W.mg_none_of X G b_list, PySem.W.mg_none_of X G b_max, PySem.W.mg_none_of X G b_min, PySem.W.mg_none_of X G b_range, PySem.W.mg_none_of X G b_tuple, PySem.W.mg_none_of X G b_zip, ⟨_, PySem.W.mg_of X G g_MOST_LOOKS, ⟨_, rfl⟩⟩, ⟨PySem.W.mg_of X G xa_KernelError, xq_KernelError, xk_KernelError, xb_KernelError, xt_KernelError⟩, ⟨PySem.W.mg_of X G xa_NoCycle, xq_NoCycle, xk_NoCycle, xb_NoCycle, xt_NoCycle⟩, ⟨PySem.W.mg_of X G xa_NoLooks, xq_NoLooks, xk_NoLooks, xb_NoLooks, xt_NoLooks⟩, ⟨PySem.W.mg_of X G xa_NoSpan, xq_NoSpan, xk_NoSpan, xb_NoSpan, xt_NoSpan⟩, ⟨PySem.W.mg_of X G xa_NoWindow, xq_NoWindow, xk_NoWindow, xb_NoWindow, xt_NoWindow⟩, ⟨PySem.W.mg_of X G xa_TooMany, xq_TooMany, xk_TooMany, xb_TooMany, xt_TooMany⟩⟩
  have F_law_mixed := fun0 (st := s__law_mixed) l_law_mixed c_law_mixed k_law_mixed
  have F_law_next := fun0 (st := s__law_next) l_law_next c_law_next k_law_next
  have F_is_whole := funD (st := s_is_whole) l_is_whole c_is_whole k_is_whole t_is_whole u_is_whole v_is_whole (by decide)
  have F_check_cycle := funD (st := s_check_cycle) l_check_cycle c_check_cycle k_check_cycle t_check_cycle u_check_cycle v_check_cycle (by decide)
  have F_is_stretch := fun0 (st := s_is_stretch) l_is_stretch c_is_stretch k_is_stretch
  have F_check_frame := fun0 (st := s_check_frame) l_check_frame c_check_frame k_check_frame
  have F_open_ends := fun0 (st := s_open_ends) l_open_ends c_open_ends k_open_ends
  have F_fewest := fun0 (st := s_fewest) l_fewest c_fewest k_fewest
  have F_law_bound_right := fun0 (st := s__law_bound_right) l_law_bound_right c_law_bound_right k_law_bound_right
  have F_law_far := fun0 (st := s__law_far) l_law_far c_law_far k_law_far
  have F_law_enough := fun0 (st := s__law_enough) l_law_enough c_law_enough k_law_enough
  have F_law_reasons := fun0 (st := s__law_reasons) l_law_reasons c_law_reasons k_law_reasons
  have F_is_certificate := fun0 (st := s_is_certificate) l_is_certificate c_is_certificate k_is_certificate
  have F_is_looks := fun0 (st := s_is_looks) l_is_looks c_is_looks k_is_looks
  have F_suffices := fun0 (st := s_suffices) l_suffices c_suffices k_suffices
  have F_is_enough := fun0 (st := s_is_enough) l_is_enough c_is_enough k_is_enough
  have F_law_right := fun0 (st := s__law_right) l_law_right c_law_right k_law_right
  have F_needed := fun0 (st := s_needed) l_needed c_needed k_needed
  have F_law_long_right := fun0 (st := s__law_long_right) l_law_long_right c_law_long_right k_law_long_right
  have F_law_cell_at := fun0 (st := s__law_cell_at) l_law_cell_at c_law_cell_at k_law_cell_at
  have F_law_source := fun0 (st := s__law_source) l_law_source c_law_source k_law_source
  have F_law := fun0 (st := s_law) l_law c_law k_law
  refine ⟨_, fun s v => F_law.bindsA (ps := ["script"]) (fun _ _ _ _ _ _ us hl => match us, hl with | [_], _ => rfl) s [v] rfl, fun base _ _ => ?_⟩
  have D__law_mixed : ∀ [LamT], Df P w K mg base 1 "_law_mixed" 2 [] (m_law_mixed (Cs.mk K C_KernelError 0 C_NoLooks C_NoCycle 0 0 0 0 0 0 0 0 0 0 0 0 0 0 C_NoWindow C_NoSpan 0 0 0 0 0 C_TooMany 0)) := ok__law_mixed (P := P) (w := w) (base := base) T F_law_mixed (PySem.W.mg_of X G a_law_mixed)
  have D__law_next : ∀ [LamT], Df P w K mg base 2 "_law_next" 2 [] (m_law_next (Cs.mk K C_KernelError 0 C_NoLooks C_NoCycle 0 0 0 0 0 0 0 0 0 0 0 0 0 0 C_NoWindow C_NoSpan 0 0 0 0 0 C_TooMany 0)) := ok__law_next (P := P) (w := w) (base := base) T F_law_next (PySem.W.mg_of X G a_law_next) D__law_mixed
  have D_is_whole : ∀ [LamT], Df P w K mg base 1 "is_whole" 2 [.non] (m_is_whole (Cs.mk K C_KernelError 0 C_NoLooks C_NoCycle 0 0 0 0 0 0 0 0 0 0 0 0 0 0 C_NoWindow C_NoSpan 0 0 0 0 0 C_TooMany 0)) := ok_is_whole (P := P) (w := w) (base := base) T F_is_whole (PySem.W.mg_of X G a_is_whole)
  have D_check_cycle : ∀ [LamT], Df P w K mg base 2 "check_cycle" 2 [(.int 0)] (m_check_cycle (Cs.mk K C_KernelError 0 C_NoLooks C_NoCycle 0 0 0 0 0 0 0 0 0 0 0 0 0 0 C_NoWindow C_NoSpan 0 0 0 0 0 C_TooMany 0)) := ok_check_cycle (P := P) (w := w) (base := base) T F_check_cycle (PySem.W.mg_of X G a_check_cycle) D_is_whole
  have D_is_stretch : ∀ [LamT], Df P w K mg base 2 "is_stretch" 1 [] (m_is_stretch (Cs.mk K C_KernelError 0 C_NoLooks C_NoCycle 0 0 0 0 0 0 0 0 0 0 0 0 0 0 C_NoWindow C_NoSpan 0 0 0 0 0 C_TooMany 0)) := ok_is_stretch (P := P) (w := w) (base := base) T F_is_stretch (PySem.W.mg_of X G a_is_stretch) D_is_whole
  have D_check_frame : ∀ [LamT], Df P w K mg base 3 "check_frame" 4 [] (m_check_frame (Cs.mk K C_KernelError 0 C_NoLooks C_NoCycle 0 0 0 0 0 0 0 0 0 0 0 0 0 0 C_NoWindow C_NoSpan 0 0 0 0 0 C_TooMany 0)) := ok_check_frame (P := P) (w := w) (base := base) T F_check_frame (PySem.W.mg_of X G a_check_frame) D_check_cycle D_is_stretch D_is_whole
  have D_open_ends : ∀ [LamT], Df P w K mg base 1 "open_ends" 3 [] (m_open_ends (Cs.mk K C_KernelError 0 C_NoLooks C_NoCycle 0 0 0 0 0 0 0 0 0 0 0 0 0 0 C_NoWindow C_NoSpan 0 0 0 0 0 C_TooMany 0)) := ok_open_ends (P := P) (w := w) (base := base) T F_open_ends (PySem.W.mg_of X G a_open_ends)
  have D_fewest : ∀ [LamT], Df P w K mg base 4 "fewest" 4 [] (m_fewest (Cs.mk K C_KernelError 0 C_NoLooks C_NoCycle 0 0 0 0 0 0 0 0 0 0 0 0 0 0 C_NoWindow C_NoSpan 0 0 0 0 0 C_TooMany 0)) := ok_fewest (P := P) (w := w) (base := base) T F_fewest (PySem.W.mg_of X G a_fewest) D_check_frame D_open_ends
  have D__law_bound_right : ∀ [LamT], Df P w K mg base 5 "_law_bound_right" 2 [] (m_law_bound_right (Cs.mk K C_KernelError 0 C_NoLooks C_NoCycle 0 0 0 0 0 0 0 0 0 0 0 0 0 0 C_NoWindow C_NoSpan 0 0 0 0 0 C_TooMany 0)) := ok__law_bound_right (P := P) (w := w) (base := base) T F_law_bound_right (PySem.W.mg_of X G a_law_bound_right) D__law_next D_fewest
  have D__law_far : ∀ [LamT], Df P w K mg base 3 "_law_far" 1 [] (m_law_far (Cs.mk K C_KernelError 0 C_NoLooks C_NoCycle 0 0 0 0 0 0 0 0 0 0 0 0 0 0 C_NoWindow C_NoSpan 0 0 0 0 0 C_TooMany 0)) := ok__law_far (P := P) (w := w) (base := base) T F_law_far (PySem.W.mg_of X G a_law_far) D__law_next
  have D__law_enough : ∀ [LamT], Df P w K mg base 1 "_law_enough" 5 [] (m_law_enough (Cs.mk K C_KernelError 0 C_NoLooks C_NoCycle 0 0 0 0 0 0 0 0 0 0 0 0 0 0 C_NoWindow C_NoSpan 0 0 0 0 0 C_TooMany 0)) := ok__law_enough (P := P) (w := w) (base := base) T F_law_enough (PySem.W.mg_of X G a_law_enough)
  have D__law_reasons : ∀ [LamT], Df P w K mg base 1 "_law_reasons" 5 [] (m_law_reasons (Cs.mk K C_KernelError 0 C_NoLooks C_NoCycle 0 0 0 0 0 0 0 0 0 0 0 0 0 0 C_NoWindow C_NoSpan 0 0 0 0 0 C_TooMany 0)) := ok__law_reasons (P := P) (w := w) (base := base) T F_law_reasons (PySem.W.mg_of X G a_law_reasons)
  have D_is_certificate : ∀ [LamT], Df P w K mg base 4 "is_certificate" 5 [] (m_is_certificate (Cs.mk K C_KernelError 0 C_NoLooks C_NoCycle 0 0 0 0 0 0 0 0 0 0 0 0 0 0 C_NoWindow C_NoSpan 0 0 0 0 0 C_TooMany 0)) := ok_is_certificate (P := P) (w := w) (base := base) T F_is_certificate (PySem.W.mg_of X G a_is_certificate) D_check_frame D_is_stretch
  have D_is_looks : ∀ [LamT], Df P w K mg base 2 "is_looks" 3 [] (m_is_looks (Cs.mk K C_KernelError 0 C_NoLooks C_NoCycle 0 0 0 0 0 0 0 0 0 0 0 0 0 0 C_NoWindow C_NoSpan 0 0 0 0 0 C_TooMany 0)) := ok_is_looks (P := P) (w := w) (base := base) T F_is_looks (PySem.W.mg_of X G a_is_looks) D_is_whole
  have D_suffices : ∀ [LamT], Df P w K mg base 1 "suffices" 5 [] (m_suffices (Cs.mk K C_KernelError 0 C_NoLooks C_NoCycle 0 0 0 0 0 0 0 0 0 0 0 0 0 0 C_NoWindow C_NoSpan 0 0 0 0 0 C_TooMany 0)) := ok_suffices (P := P) (w := w) (base := base) T F_suffices (PySem.W.mg_of X G a_suffices)
  have D_is_enough : ∀ [LamT], Df P w K mg base 4 "is_enough" 5 [] (m_is_enough (Cs.mk K C_KernelError 0 C_NoLooks C_NoCycle 0 0 0 0 0 0 0 0 0 0 0 0 0 0 C_NoWindow C_NoSpan 0 0 0 0 0 C_TooMany 0)) := ok_is_enough (P := P) (w := w) (base := base) T F_is_enough (PySem.W.mg_of X G a_is_enough) D_check_frame D_is_looks D_suffices
  have D__law_right : ∀ [LamT], Df P w K mg base 5 "_law_right" 4 [] (m_law_right (Cs.mk K C_KernelError 0 C_NoLooks C_NoCycle 0 0 0 0 0 0 0 0 0 0 0 0 0 0 C_NoWindow C_NoSpan 0 0 0 0 0 C_TooMany 0)) := ok__law_right (P := P) (w := w) (base := base) T F_law_right (PySem.W.mg_of X G a_law_right) D__law_enough D__law_reasons D_fewest D_is_certificate D_is_enough
  have D_needed : ∀ [LamT], Df P w K mg base 4 "needed" 5 [] (m_needed (Cs.mk K C_KernelError 0 C_NoLooks C_NoCycle 0 0 0 0 0 0 0 0 0 0 0 0 0 0 C_NoWindow C_NoSpan 0 0 0 0 0 C_TooMany 0)) := ok_needed (P := P) (w := w) (base := base) T F_needed (PySem.W.mg_of X G a_needed) D_check_frame D_is_looks D_open_ends D_suffices
  have D__law_long_right : ∀ [LamT], Df P w K mg base 6 "_law_long_right" 1 [] (m_law_long_right (Cs.mk K C_KernelError 0 C_NoLooks C_NoCycle 0 0 0 0 0 0 0 0 0 0 0 0 0 0 C_NoWindow C_NoSpan 0 0 0 0 0 C_TooMany 0)) := ok__law_long_right (P := P) (w := w) (base := base) T F_law_long_right (PySem.W.mg_of X G a_law_long_right) D__law_next D__law_right D_fewest D_is_enough D_needed
  have D__law_cell_at : ∀ [LamT], Df P w K mg base 1 "_law_cell_at" 2 [] (m_law_cell_at (Cs.mk K C_KernelError 0 C_NoLooks C_NoCycle 0 0 0 0 0 0 0 0 0 0 0 0 0 0 C_NoWindow C_NoSpan 0 0 0 0 0 C_TooMany 0)) := ok__law_cell_at (P := P) (w := w) (base := base) T F_law_cell_at (PySem.W.mg_of X G a_law_cell_at)
  have D__law_source : ∀ [LamT], Df P w K mg base 2 "_law_source" 2 [] (m_law_source (Cs.mk K C_KernelError 0 C_NoLooks C_NoCycle 0 0 0 0 0 0 0 0 0 0 0 0 0 0 C_NoWindow C_NoSpan 0 0 0 0 0 C_TooMany 0)) := ok__law_source (P := P) (w := w) (base := base) T F_law_source (PySem.W.mg_of X G a_law_source) D__law_cell_at D__law_mixed
  exact FnOk.imp (ok_law T F_law D__law_bound_right D__law_far D__law_long_right D__law_next D__law_right D__law_source) (law_imp rfl ⟨rfl, rfl⟩ (run_law _ ⟨xm_NoCycle_KernelError, xm_NoCycle_TooMany, xm_NoLooks_KernelError, xm_NoLooks_TooMany, xm_NoSpan_KernelError, xm_NoSpan_TooMany, xm_NoWindow_KernelError, xm_NoWindow_TooMany, xm_TooMany_KernelError, xm_TooMany_TooMany⟩))
end L3
open PySem PySem.W PyProof.Rows
set_option maxHeartbeats 0 in
theorem PySem.Challenge.cw_timekernel_k33_fewest_looks_far_away_holds : PySem.Challenge.rw_timekernel_k33_fewest_looks_far_away.Holds := by
  w_on; o_law; k_head; (case hw => w_witness2)
  k_fill
  refine L2.walk_ofB (l := PySem.Challenge.rw_timekernel_k33_fewest_looks_far_away) (n := 63) (k := 7) (x := "script") (CX := fun w => L2.CX PySem.Challenge.pw_timekernel_k33_fewest_looks_far_away w) (sp := fun w => L3.spLaw _) rfl (by decide) rfl ⟨rfl, by decide, by decide⟩ (fun w h Y => PySem.W.kIn_of Y) ?F (fun _ _ a ns hl hb hO hS => ⟨a, ns, rfl, hl, hb, hO, hS, fun _ => rfl⟩) (fun w H s e s' h => L3.cx_none h)
  case F =>
    intro w mg fa h KX G hmg
    refine' L3.all_mk KX G hmg ?a_law_mixed ?l_law_mixed ?c_law_mixed ?k_law_mixed ?a_law_next ?l_law_next ?c_law_next ?k_law_next ?a_is_whole ?l_is_whole ?c_is_whole ?k_is_whole ?t_is_whole ?u_is_whole ?v_is_whole ?a_check_cycle ?l_check_cycle ?c_check_cycle ?k_check_cycle ?t_check_cycle ?u_check_cycle ?v_check_cycle ?a_is_stretch ?l_is_stretch ?c_is_stretch ?k_is_stretch ?a_check_frame ?l_check_frame ?c_check_frame ?k_check_frame ?a_open_ends ?l_open_ends ?c_open_ends ?k_open_ends ?a_fewest ?l_fewest ?c_fewest ?k_fewest ?a_law_bound_right ?l_law_bound_right ?c_law_bound_right ?k_law_bound_right ?a_law_far ?l_law_far ?c_law_far ?k_law_far ?a_law_enough ?l_law_enough ?c_law_enough ?k_law_enough ?a_law_reasons ?l_law_reasons ?c_law_reasons ?k_law_reasons ?a_is_certificate ?l_is_certificate ?c_is_certificate ?k_is_certificate ?a_is_looks ?l_is_looks ?c_is_looks ?k_is_looks ?a_suffices ?l_suffices ?c_suffices ?k_suffices ?a_is_enough ?l_is_enough ?c_is_enough ?k_is_enough ?a_law_right ?l_law_right ?c_law_right ?k_law_right ?a_needed ?l_needed ?c_needed ?k_needed ?a_law_long_right ?l_law_long_right ?c_law_long_right ?k_law_long_right ?a_law_cell_at ?l_law_cell_at ?c_law_cell_at ?k_law_cell_at ?a_law_source ?l_law_source ?c_law_source ?k_law_source ?a_law ?l_law ?c_law ?k_law ?b_all ?b_any ?b_bool ?b_int ?b_isinstance ?b_len ?b_list ?b_max ?b_min ?b_range ?b_tuple ?b_zip ?g_MOST_LOOKS ?xa_KernelError ?xq_KernelError ?xk_KernelError ?xb_KernelError ?xt_KernelError ?xa_NoCycle ?xq_NoCycle ?xk_NoCycle ?xb_NoCycle ?xt_NoCycle ?xa_NoLooks ?xq_NoLooks ?xk_NoLooks ?xb_NoLooks ?xt_NoLooks ?xa_NoSpan ?xq_NoSpan ?xk_NoSpan ?xb_NoSpan ?xt_NoSpan ?xa_NoWindow ?xq_NoWindow ?xk_NoWindow ?xb_NoWindow ?xt_NoWindow ?xa_TooMany ?xq_TooMany ?xk_TooMany ?xb_TooMany ?xt_TooMany ?xm_NoCycle_KernelError ?xm_NoCycle_TooMany ?xm_NoLooks_KernelError ?xm_NoLooks_TooMany ?xm_NoSpan_KernelError ?xm_NoSpan_TooMany ?xm_NoWindow_KernelError ?xm_NoWindow_TooMany ?xm_TooMany_KernelError ?xm_TooMany_TooMany
    (case a_law_mixed => k_is)
    (case l_law_mixed => k_is)
    (case c_law_mixed => k_is)
    (case k_law_mixed => k_is)
    (case a_law_next => k_is)
    (case l_law_next => k_is)
    (case c_law_next => k_is)
    (case k_law_next => k_is)
    (case a_is_whole => k_is)
    (case l_is_whole => k_is)
    (case c_is_whole => k_is)
    (case k_is_whole => k_is)
    (case t_is_whole => k_is)
    (case u_is_whole => first | rfl | k_is)
    (case v_is_whole => exact .cons rfl .nil)
    (case a_check_cycle => k_is)
    (case l_check_cycle => k_is)
    (case c_check_cycle => k_is)
    (case k_check_cycle => k_is)
    (case t_check_cycle => k_is)
    (case u_check_cycle => first | rfl | k_is)
    (case v_check_cycle => exact .cons ⟨_, rfl⟩ .nil)
    (case a_is_stretch => k_is)
    (case l_is_stretch => k_is)
    (case c_is_stretch => k_is)
    (case k_is_stretch => k_is)
    (case a_check_frame => k_is)
    (case l_check_frame => k_is)
    (case c_check_frame => k_is)
    (case k_check_frame => k_is)
    (case a_open_ends => k_is)
    (case l_open_ends => k_is)
    (case c_open_ends => k_is)
    (case k_open_ends => k_is)
    (case a_fewest => k_is)
    (case l_fewest => k_is)
    (case c_fewest => k_is)
    (case k_fewest => k_is)
    (case a_law_bound_right => k_is)
    (case l_law_bound_right => k_is)
    (case c_law_bound_right => k_is)
    (case k_law_bound_right => k_is)
    (case a_law_far => k_is)
    (case l_law_far => k_is)
    (case c_law_far => k_is)
    (case k_law_far => k_is)
    (case a_law_enough => k_is)
    (case l_law_enough => k_is)
    (case c_law_enough => k_is)
    (case k_law_enough => k_is)
    (case a_law_reasons => k_is)
    (case l_law_reasons => k_is)
    (case c_law_reasons => k_is)
    (case k_law_reasons => k_is)
    (case a_is_certificate => k_is)
    (case l_is_certificate => k_is)
    (case c_is_certificate => k_is)
    (case k_is_certificate => k_is)
    (case a_is_looks => k_is)
    (case l_is_looks => k_is)
    (case c_is_looks => k_is)
    (case k_is_looks => k_is)
    (case a_suffices => k_is)
    (case l_suffices => k_is)
    (case c_suffices => k_is)
    (case k_suffices => k_is)
    (case a_is_enough => k_is)
    (case l_is_enough => k_is)
    (case c_is_enough => k_is)
    (case k_is_enough => k_is)
    (case a_law_right => k_is)
    (case l_law_right => k_is)
    (case c_law_right => k_is)
    (case k_law_right => k_is)
    (case a_needed => k_is)
    (case l_needed => k_is)
    (case c_needed => k_is)
    (case k_needed => k_is)
    (case a_law_long_right => k_is)
    (case l_law_long_right => k_is)
    (case c_law_long_right => k_is)
    (case k_law_long_right => k_is)
    (case a_law_cell_at => k_is)
    (case l_law_cell_at => k_is)
    (case c_law_cell_at => k_is)
    (case k_law_cell_at => k_is)
    (case a_law_source => k_is)
    (case l_law_source => k_is)
    (case c_law_source => k_is)
    (case k_law_source => k_is)
    (case a_law => k_is)
    (case l_law => k_is)
    (case c_law => k_is)
    (case k_law => k_is)
    (case b_all => k_is)
    (case b_any => k_is)
    (case b_bool => k_is)
    (case b_int => k_is)
    (case b_isinstance => k_is)
    (case b_len => k_is)
    (case b_list => k_is)
    (case b_max => k_is)
    (case b_min => k_is)
    (case b_range => k_is)
    (case b_tuple => k_is)
    (case b_zip => k_is)
    (case g_MOST_LOOKS => k_is)
    (case xa_KernelError => k_is)
    (case xq_KernelError => k_exc)
    (case xk_KernelError => k_is)
    (case xb_KernelError => k_is)
    (case xt_KernelError => k_is)
    (case xa_NoCycle => k_is)
    (case xq_NoCycle => k_exc)
    (case xk_NoCycle => k_is)
    (case xb_NoCycle => k_is)
    (case xt_NoCycle => k_is)
    (case xa_NoLooks => k_is)
    (case xq_NoLooks => k_exc)
    (case xk_NoLooks => k_is)
    (case xb_NoLooks => k_is)
    (case xt_NoLooks => k_is)
    (case xa_NoSpan => k_is)
    (case xq_NoSpan => k_exc)
    (case xk_NoSpan => k_is)
    (case xb_NoSpan => k_is)
    (case xt_NoSpan => k_is)
    (case xa_NoWindow => k_is)
    (case xq_NoWindow => k_exc)
    (case xk_NoWindow => k_is)
    (case xb_NoWindow => k_is)
    (case xt_NoWindow => k_is)
    (case xa_TooMany => k_is)
    (case xq_TooMany => k_exc)
    (case xk_TooMany => k_is)
    (case xb_TooMany => k_is)
    (case xt_TooMany => k_is)
    (case xm_NoCycle_KernelError => first | k_is | kts_exm)
    (case xm_NoCycle_TooMany => first | k_is | kts_exm)
    (case xm_NoLooks_KernelError => first | k_is | kts_exm)
    (case xm_NoLooks_TooMany => first | k_is | kts_exm)
    (case xm_NoSpan_KernelError => first | k_is | kts_exm)
    (case xm_NoSpan_TooMany => first | k_is | kts_exm)
    (case xm_NoWindow_KernelError => first | k_is | kts_exm)
    (case xm_NoWindow_TooMany => first | k_is | kts_exm)
    (case xm_TooMany_KernelError => first | k_is | kts_exm)
    (case xm_TooMany_TooMany => first | k_is | kts_exm)
