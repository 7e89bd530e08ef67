import PyProof.Rows.All
import Wide.All
import OpenK.AllK
import Wide.FinOn
import HandS.ForMost
import HandS.ForExc
import HandS.Flow
import HandS.TupAny
import HandS.Style
import HandS.Deep
import HandS.IsInst
import HandS.TupMul
import HandS.NoneIn
import HandS.Walk
import KE.GoesEnum
import HandS.Wide
import HandS.WordsExc
import HandS.ExcInit
import KE.KExcIs
import HandS.ExcIs
import PyProof.Rows.StrFirst
import HandS.StrMore
import PySem.Challenge.RW_wordsalike_k46_words_by_copies
set_option Elab.async false
set_option linter.all false
set_option maxRecDepth 100000
set_option maxHeartbeats 2000000
/-! PL: a pure layer: data as trees, owned lists and dicts, a handle for the draws. -/
namespace PL
open PySem PySem.Spec PyProof.Rows L2

/-! ### heaps -/
def Ext (B B' : Hp) : Prop := ∀ a o, B a = some o → B' a = some o
theorem Ext.refl (B : Hp) : Ext B B := fun _ _ h => h
theorem Ext.trans {B B1 B2 : Hp} (h : Ext B B1) (h' : Ext B1 B2) : Ext B B2 := fun a o e => h' a o (h a o e)
theorem Ext.new {H : Hp} {p : Addr} {o : HO} (h : H p = none) : Ext H (upd H p o) := fun a u e => by
  rw [upd_ne (ne_of_none e h)]; exact e
theorem Ext.back {B H : Hp} {p : Addr} (e : Ext B H) (h : H p = none) : B p = none := by
  cases q : B p with
  | none => rfl
  | some o => rw [e p o q] at h; cases h
theorem Ext.rd {B H : Hp} {a : Addr} {u : HO} (e : Ext B H) (h : Rd B a u) : Rd H a u := by
  rcases h with h | ⟨o, h⟩
  · exact .inl (e _ _ h)
  · exact .inr ⟨o, e _ _ h⟩
theorem Ext.seqL {K : PySem.W.Frag} {B H : Hp} {a : Addr} {xs : List V} (e : Ext B H) (h : SqL K B a xs) : SqL K H a xs := by
  rcases h with h | h
  · exact .inl (e.rd h)
  · exact .inr h
theorem Ext.seqT {K : PySem.W.Frag} {B H : Hp} {a : Addr} {xs : List V} (e : Ext B H) (h : SqT K B a xs) : SqT K H a xs := by
  rcases h with h | h
  · exact .inl (e.rd h)
  · exact .inr h

/-! ### data -/
def kD : Key → PyData
  | .inl i => .int i
  | .inr s => .str s
/-- a tuple of the written part -/
def WrT (K : PySem.W.Frag) (a : Addr) (xs : List V) : Prop := ∃ (o : Obj) (its : Array Value) (n : Nat), K.lookup a = some o ∧ o.cls = .type "tuple" ∧ o.data = .seq its n ∧ its.size ≤ sizeLine ∧ Vals xs its.toList
mutual
/-- the value v is the data d, in the pure part B -/
inductive Rp (K : PySem.W.Frag) (B : Hp) : V → PyData → Prop
  | non : Rp K B .non .none
  | bl (b : Bool) : Rp K B (.bl b) (.bool b)
  | int (i : Int) : Rp K B (.int i) (.int i)
  | str (x : Str) : Rp K B (.str x) (.str x)
  | lst {a : Addr} {xs : List V} {ds : List PyData} : B a = some (.lst xs) → RpA K B xs ds → Rp K B (.ref a) (.list ds)
  | tup {a : Addr} {xs : List V} {ds : List PyData} : B a = some (.tup xs) → RpA K B xs ds → Rp K B (.ref a) (.tuple ds)
  | tupW {a : Addr} {x : Str} : WrT K a [.str x] → Rp K B (.ref a) (.tuple [.str x])
  | dK {a : Addr} {kvs : List (Key × V)} {ds : List (PyData × PyData)} : Rd B a (.dK kvs) → RpK K B kvs ds → Rp K B (.ref a) (.dict ds)
  | dT {a : Addr} {kvs : List (List Key × V)} {ds : List (PyData × PyData)} : Rd B a (.dT kvs) → RpT K B kvs ds → Rp K B (.ref a) (.dict ((.none, .none) :: ds))
inductive RpA (K : PySem.W.Frag) (B : Hp) : List V → List PyData → Prop
  | nil : RpA K B [] []
  | cons {v : V} {vs : List V} {d : PyData} {ds : List PyData} : Rp K B v d → RpA K B vs ds → RpA K B (v :: vs) (d :: ds)
inductive RpK (K : PySem.W.Frag) (B : Hp) : List (Key × V) → List (PyData × PyData) → Prop
  | nil : RpK K B [] []
  | cons {k : Key} {v : V} {vs : List (Key × V)} {d : PyData} {ds : List (PyData × PyData)} : Rp K B v d → RpK K B vs ds → RpK K B ((k, v) :: vs) ((kD k, d) :: ds)
inductive RpT (K : PySem.W.Frag) (B : Hp) : List (List Key × V) → List (PyData × PyData) → Prop
  | nil : RpT K B [] []
  | cons {k : List Key} {v : V} {vs : List (List Key × V)} {d : PyData} {ds : List (PyData × PyData)} : Rp K B v d → RpT K B vs ds → RpT K B ((k, v) :: vs) ((.tuple (k.map kD), d) :: ds)
end
mutual
theorem Rp.ext {K : PySem.W.Frag} {B B' : Hp} (e : Ext B B') : ∀ {v : V} {d : PyData}, Rp K B v d → Rp K B' v d
  | _, _, .non => .non
  | _, _, .bl b => .bl b
  | _, _, .int i => .int i
  | _, _, .str x => .str x
  | _, _, .lst h r => .lst (e _ _ h) (RpA.ext e r)
  | _, _, .tup h r => .tup (e _ _ h) (RpA.ext e r)
  | _, _, .tupW h => .tupW h
  | _, _, .dK h r => .dK (e.rd h) (RpK.ext e r)
  | _, _, .dT h r => .dT (e.rd h) (RpT.ext e r)
theorem RpA.ext {K : PySem.W.Frag} {B B' : Hp} (e : Ext B B') : ∀ {v : List V} {d : List PyData}, RpA K B v d → RpA K B' v d
  | _, _, .nil => .nil
  | _, _, .cons h r => .cons (Rp.ext e h) (RpA.ext e r)
theorem RpK.ext {K : PySem.W.Frag} {B B' : Hp} (e : Ext B B') : ∀ {v : List (Key × V)} {d : List (PyData × PyData)}, RpK K B v d → RpK K B' v d
  | _, _, .nil => .nil
  | _, _, .cons h r => .cons (Rp.ext e h) (RpK.ext e r)
theorem RpT.ext {K : PySem.W.Frag} {B B' : Hp} (e : Ext B B') : ∀ {v : List (List Key × V)} {d : List (PyData × PyData)}, RpT K B v d → RpT K B' v d
  | _, _, .nil => .nil
  | _, _, .cons h r => .cons (Rp.ext e h) (RpT.ext e r)
end
theorem RpA.length {K : PySem.W.Frag} {B : Hp} : ∀ {vs : List V} {ds : List PyData}, RpA K B vs ds → vs.length = ds.length
  | _, _, .nil => rfl
  | _, _, .cons _ r => by simp [RpA.length r]
theorem RpA.app {K : PySem.W.Frag} {B : Hp} : ∀ {vs : List V} {ds : List PyData} {vs' : List V} {ds' : List PyData}, RpA K B vs ds → RpA K B vs' ds' → RpA K B (vs ++ vs') (ds ++ ds')
  | _, _, _, _, .nil, r => r
  | _, _, _, _, .cons h r, r' => .cons h (RpA.app r r')
theorem RpA.get {K : PySem.W.Frag} {B : Hp} : ∀ {vs : List V} {ds : List PyData} {i : Nat} {d : PyData}, RpA K B vs ds → ds[i]? = some d → ∃ v, vs[i]? = some v ∧ Rp K B v d
  | _, _, i, d, .nil, h => by simp at h
  | _, _, 0, d, .cons h r, e => by simp at e; subst e; exact ⟨_, rfl, h⟩
  | _, _, i + 1, d, .cons h r, e => by simpa using RpA.get r (i := i) (by simpa using e)
theorem RpA.take {K : PySem.W.Frag} {B : Hp} : ∀ {vs : List V} {ds : List PyData} (n : Nat), RpA K B vs ds → RpA K B (vs.take n) (ds.take n)
  | _, _, 0, _ => by simpa using RpA.nil
  | _, _, n + 1, .nil => by simpa using RpA.nil
  | _, _, n + 1, .cons h r => by simpa using RpA.cons h (RpA.take n r)
theorem RpA.drop {K : PySem.W.Frag} {B : Hp} : ∀ {vs : List V} {ds : List PyData} (n : Nat), RpA K B vs ds → RpA K B (vs.drop n) (ds.drop n)
  | _, _, 0, h => by simpa using h
  | _, _, n + 1, .nil => by simpa using RpA.nil
  | _, _, n + 1, .cons h r => by simpa using RpA.drop n r
theorem RpA.set {K : PySem.W.Frag} {B : Hp} : ∀ {vs : List V} {ds : List PyData} (n : Nat) {v : V} {d : PyData}, RpA K B vs ds → Rp K B v d → RpA K B (vs.set n v) (ds.set n d)
  | _, _, _, _, _, .nil, _ => by simpa using RpA.nil
  | _, _, 0, _, _, .cons h r, q => by simpa using RpA.cons q r
  | _, _, n + 1, _, _, .cons h r, q => by simpa using RpA.cons h (RpA.set n r q)
theorem RpA.erase {K : PySem.W.Frag} {B : Hp} : ∀ {vs : List V} {ds : List PyData} (n : Nat), RpA K B vs ds → RpA K B (vs.eraseIdx n) (ds.eraseIdx n)
  | _, _, _, .nil => by simpa using RpA.nil
  | _, _, 0, .cons h r => by simpa using r
  | _, _, n + 1, .cons h r => by simpa using RpA.cons h (RpA.erase n r)
theorem RpA.nil_iff {K : PySem.W.Frag} {B : Hp} {vs : List V} {ds : List PyData} (r : RpA K B vs ds) : vs = [] ↔ ds = [] := by
  cases r <;> simp

/-- an owned thing at p (not in B) is the data d -/
def Own (K : PySem.W.Frag) (B H : Hp) (p : Addr) : PyData → Prop
  | .list ds => ∃ xs, H p = some (.lst xs) ∧ RpA K B xs ds
  | .dict ds => (∃ kvs, H p = some (.dK kvs) ∧ RpK K B kvs ds) ∨ ∃ kvs ds', ds = (.none, .none) :: ds' ∧ H p = some (.dT kvs) ∧ RpT K B kvs ds'
  | _ => False
theorem Own.ext {K : PySem.W.Frag} {B B' H H' : Hp} {p : Addr} {d : PyData} (e : Ext B B') (he : H' p = H p) (h : Own K B H p d) : Own K B' H' p d := by
  cases d with
  | list ds => obtain ⟨xs, h1, h2⟩ := h; exact ⟨xs, he.trans h1, h2.ext e⟩
  | dict ds =>
    rcases h with ⟨xs, h1, h2⟩ | ⟨xs, ds', h0, h1, h2⟩
    · exact .inl ⟨xs, he.trans h1, h2.ext e⟩
    · exact .inr ⟨xs, ds', h0, he.trans h1, h2.ext e⟩
  | _ => exact h.elim
theorem Own.some {K : PySem.W.Frag} {B H : Hp} {p : Addr} {d : PyData} (h : Own K B H p d) : ∃ o, H p = some o := by
  cases d with
  | list ds => obtain ⟨xs, h1, h2⟩ := h; exact ⟨_, h1⟩
  | dict ds =>
    rcases h with ⟨xs, h1, h2⟩ | ⟨xs, _, _, h1, h2⟩
    · exact ⟨_, h1⟩
    · exact ⟨_, h1⟩
  | _ => exact h.elim
/-- .. when it is put into the pure part -/
theorem Own.frz {K : PySem.W.Frag} {B H B' : Hp} {p : Addr} {d : PyData} (h : Own K B H p d) (e : Ext B B') (hp : B' p = H p) : Rp K B' (.ref p) d := by
  cases d with
  | list ds => obtain ⟨xs, h1, h2⟩ := h; exact .lst (hp.trans h1) (h2.ext e)
  | dict ds =>
    rcases h with ⟨xs, h1, h2⟩ | ⟨xs, _, rfl, h1, h2⟩
    · exact .dK (.inl (hp.trans h1)) (h2.ext e)
    · exact .dT (.inl (hp.trans h1)) (h2.ext e)
  | _ => exact h.elim

/-- the draws at p: the script (in B), the place in it, the great number, the seed -/
def DrOk (B H : Hp) (p : Addr) : Prop := ∃ (q : Addr) (i b s : Int) (ns : List Int), H p = some (.lst [.ref q, .int i, .int b, .int s]) ∧ B q = some (.lst (ns.map V.int)) ∧ ns.length ≤ 63 ∧ 0 ≤ i ∧ i ≤ 1000 ∧ 0 ≤ b ∧ 0 ≤ s ∧ s < 2147483648
theorem DrOk.ext {B B' H H' : Hp} {p : Addr} (e : Ext B B') (he : H' p = H p) (h : DrOk B H p) : DrOk B' H' p := by
  obtain ⟨q, i, b, s, ns, h1, h2, h3⟩ := h
  exact ⟨q, i, b, s, ns, he.trans h1, e _ _ h2, h3⟩

/-! ### results, environments -/
inductive Rv where
  | val (d : PyData) | own (d : PyData) | dr | ndr | drv (i : Nat)
def Rv.vv : Rv → (PyData → Prop) → Prop
  | .val d, k => k d
  | .own d, k => k d
  | _, _ => False
/-- frozen -/
def Rv.frz : Rv → Rv
  | .own d => .val d
  | r => r
abbrev EnvP := List (Option Rv)
/-- an exception: the class's name, its fields -/
abbrev Exn := Str × List (Str × PyData)

structure PC where
  H0 : Hp
  B0 : Hp
  mu : Option Addr
structure Fr (C : PC) (B H : Hp) : Prop where
  sub : Ext B H
  b0 : Ext C.B0 B
  new : ∀ a o, B a = some o → C.B0 a = some o ∨ C.H0 a = none
  keep : ∀ a o, C.H0 a = some o → C.mu ≠ some a → H a = some o
  mt : ∀ p, C.mu = some p → C.H0 p ≠ none ∧ DrOk B H p ∧ B p = none
def SlOk (K : PySem.W.Frag) (C : PC) (B H : Hp) (x : Option V) : Rv → Prop
  | .val d => ∃ v, x = some v ∧ Rp K B v d
  | .own d => ∃ p, x = some (.ref p) ∧ Own K B H p d ∧ C.H0 p = none ∧ B p = none
  | .dr => ∃ p, x = some (.ref p) ∧ DrOk B H p ∧ B p = none ∧ (C.mu = some p ∨ C.H0 p = none)
  | .ndr => False
  | .drv _ => False
def Rv.isOwn : Rv → Bool
  | .own _ => true
  | .dr => true
  | _ => false
def OwnAt (env : EnvP) (σ : L2.St) (i : Nat) (p : Addr) : Prop := ∃ r, env[i]? = some (some r) ∧ r.isOwn = true ∧ σ[i]? = some (some (.ref p))
structure Abs (K : PySem.W.Frag) (C : PC) (B : Hp) (σ : L2.St) (H : Hp) (env : EnvP) : Prop where
  fr : Fr C B H
  len : σ.length = env.length
  sl : ∀ (i : Nat) r, env[i]? = some (some r) → SlOk K C B H (σ[i]?.join) r
  ap : ∀ (i j : Nat) p, OwnAt env σ i p → OwnAt env σ j p → i = j
def RvOk (K : PySem.W.Frag) (C : PC) (B H : Hp) (σ : L2.St) (env : EnvP) (v : V) : Rv → Prop
  | .val d => Rp K B v d
  | .own d => ∃ p, v = .ref p ∧ Own K B H p d ∧ C.H0 p = none ∧ B p = none ∧ ∀ i, ¬ OwnAt env σ i p
  | .dr => False
  | .drv i => ∃ p : Addr, v = .ref p ∧ σ[i]? = some (some (.ref p))
  | .ndr => ∃ p, v = .ref p ∧ DrOk B H p ∧ C.H0 p = none ∧ B p = none ∧ ∀ i, ¬ OwnAt env σ i p

theorem ownAt_in {K : PySem.W.Frag} {C : PC} {B H : Hp} {σ : L2.St} {env : EnvP} {i : Nat} {p : Addr} (A : Abs K C B σ H env) (h : OwnAt env σ i p) : B p = none ∧ (∃ o, H p = some o) ∧ (C.mu = some p ∨ C.H0 p = none) := by
  obtain ⟨r, e, o, s⟩ := h
  have q := A.sl i r e
  rw [s] at q
  cases r with
  | val d => cases o
  | ndr => cases o
  | drv _ => cases o
  | own d =>
    obtain ⟨p', e1, h1, h2, h3⟩ := q
    have e2 : V.ref p = V.ref p' := Option.some.inj e1
    cases e2
    exact ⟨h3, h1.some, .inr h2⟩
  | dr =>
    obtain ⟨p', e1, h1, h2, h3⟩ := q
    have e2 : V.ref p = V.ref p' := Option.some.inj e1
    cases e2
    obtain ⟨_, _, _, _, _, h4, _⟩ := h1
    exact ⟨h2, ⟨_, h4⟩, h3⟩

/-- the pure part grows by an address that no slot owns; the heap grows or stays -/
theorem Abs.grow {K : PySem.W.Frag} {C : PC} {B B' H H' : Hp} {σ : L2.St} {env : EnvP} (A : Abs K C B σ H env) (e : Ext B B') (sub : Ext B' H') (hH : Ext H H')
    (new : ∀ a o, B' a = some o → B a = some o ∨ (C.H0 a = none ∧ C.mu ≠ some a ∧ ∀ i, ¬ OwnAt env σ i a)) : Abs K C B' σ H' env := by
  have same : ∀ {p : Addr} {o : HO}, H p = some o → H' p = H p := fun {p o} h => (hH _ _ h).trans h.symm
  refine ⟨⟨sub, A.fr.b0.trans e, fun a o h => ?_, fun a o h n => hH _ _ (A.fr.keep a o h n), fun p h => ?_⟩, A.len, fun i r h => ?_, A.ap⟩
  · rcases new a o h with q | ⟨q, _⟩
    · exact A.fr.new a o q
    · exact .inr q
  · obtain ⟨h1, h2, h3⟩ := A.fr.mt p h
    have h2' := h2
    obtain ⟨_, _, _, _, _, h4, _⟩ := h2'
    refine ⟨h1, h2.ext e (same h4), ?_⟩
    cases q : B' p with
    | none => rfl
    | some o =>
      rcases new p o q with z | ⟨_, z, _⟩
      · rw [h3] at z; cases z
      · exact absurd h z
  · have q := A.sl i r h
    have noB : ∀ p, σ[i]? = some (some (.ref p)) → r.isOwn = true → B p = none → B' p = none := fun p hs ho hb => by
      cases q : B' p with
      | none => rfl
      | some o =>
        rcases new p o q with z | ⟨_, _, z⟩
        · rw [hb] at z; cases z
        · exact absurd ⟨r, h, ho, hs⟩ (z i)
    have jn : ∀ p, σ[i]?.join = some (V.ref p) → σ[i]? = some (some (.ref p)) := fun p z => by
      cases w : σ[i]? with
      | none => rw [w] at z; cases z
      | some x => rw [w] at z; have z' : x = some (V.ref p) := z; rw [z']
    cases r with
    | val d => obtain ⟨v, q1, q2⟩ := q; exact ⟨v, q1, q2.ext e⟩
    | ndr => exact q
    | drv _ => exact q
    | own d =>
      obtain ⟨p, q1, q2, q3, q4⟩ := q
      obtain ⟨o, q5⟩ := q2.some
      exact ⟨p, q1, q2.ext e (same q5), q3, noB p (jn p q1) rfl q4⟩
    | dr =>
      obtain ⟨p, q1, q2, q3, q4⟩ := q
      have q2' := q2
      obtain ⟨_, _, _, _, _, h4, _⟩ := q2'
      exact ⟨p, q1, q2.ext e (same h4), noB p (jn p q1) rfl q3, q4⟩
end PL

namespace PL
open PySem PySem.Spec PyProof.Rows L2
section
variable {K : PySem.W.Frag} {C : PC} {B B' H H' : Hp} {σ : L2.St} {env : EnvP}

theorem set_get {α : Type} {l : List α} {i j : Nat} {x y : α} (h : (l.set i x)[j]? = some y) : (j = i ∧ y = x) ∨ (j ≠ i ∧ l[j]? = some y) := by
  by_cases e : j = i
  · subst e
    by_cases hl : j < l.length
    · rw [List.getElem?_set_self hl] at h
      exact .inl ⟨rfl, (Option.some.inj h).symm⟩
    · rw [List.getElem?_eq_none (by rw [List.length_set]; omega)] at h; cases h
  · rw [List.getElem?_set_ne (Ne.symm e)] at h
    exact .inr ⟨e, h⟩
/-- a slot forgotten -/
theorem Abs.forget (A : Abs K C B σ H env) (i : Nat) : Abs K C B σ H (env.set i none) := by
  refine ⟨A.fr, by rw [List.length_set]; exact A.len, fun j r h => ?_, fun j k p hj hk => ?_⟩
  · rcases set_get h with ⟨_, q⟩ | ⟨_, q⟩
    · cases q
    · exact A.sl j r q
  · obtain ⟨r, e1, o1, s1⟩ := hj
    obtain ⟨r', e2, o2, s2⟩ := hk
    rcases set_get e1 with ⟨_, q⟩ | ⟨_, q⟩
    · cases q
    · rcases set_get e2 with ⟨_, q'⟩ | ⟨_, q'⟩
      · cases q'
      · exact A.ap j k p ⟨r, q, o1, s1⟩ ⟨r', q', o2, s2⟩
/-- a value stored, or kept where it stands -/
theorem Abs.setVal (A : Abs K C B σ H env) {i : Nat} {v : V} {d : PyData} (h : Rp K B v d) : Abs K C B (σ.set i (some v)) H (env.set i (some (.val d))) := by
  refine ⟨A.fr, by rw [List.length_set, List.length_set]; exact A.len, fun j r h' => ?_, fun j k p hj hk => ?_⟩
  · rcases set_get h' with ⟨rfl, q⟩ | ⟨ne, q⟩
    · cases q
      have hl : j < env.length := by
        by_cases hl : j < env.length
        · exact hl
        · rw [List.getElem?_eq_none (by rw [List.length_set]; omega)] at h'; cases h'
      rw [List.getElem?_set_self (by rw [A.len]; exact hl)]
      exact ⟨v, rfl, h⟩
    · rw [List.getElem?_set_ne (Ne.symm ne)]
      exact A.sl j r q
  · obtain ⟨r, e1, o1, s1⟩ := hj
    obtain ⟨r', e2, o2, s2⟩ := hk
    rcases set_get e1 with ⟨_, q⟩ | ⟨n1, q⟩
    · cases q; cases o1
    · rcases set_get e2 with ⟨_, q'⟩ | ⟨n2, q'⟩
      · cases q'; cases o2
      · rw [List.getElem?_set_ne (Ne.symm n1)] at s1
        rw [List.getElem?_set_ne (Ne.symm n2)] at s2
        exact A.ap j k p ⟨r, q, o1, s1⟩ ⟨r', q', o2, s2⟩
/-- an owned thing stored that no slot owns -/
theorem Abs.setOwn (A : Abs K C B σ H env) {i : Nat} {p : Addr} {r0 : Rv} (ho : r0.isOwn = true) (h : SlOk K C B H (some (.ref p)) r0) (hn : ∀ i, ¬ OwnAt env σ i p) : Abs K C B (σ.set i (some (.ref p))) H (env.set i (some r0)) := by
  refine ⟨A.fr, by rw [List.length_set, List.length_set]; exact A.len, fun j r h' => ?_, fun j k q hj hk => ?_⟩
  · rcases set_get h' with ⟨rfl, q⟩ | ⟨ne, q⟩
    · cases q
      have hl : j < env.length := by
        by_cases hl : j < env.length
        · exact hl
        · rw [List.getElem?_eq_none (by rw [List.length_set]; omega)] at h'; cases h'
      rw [List.getElem?_set_self (by rw [A.len]; exact hl)]
      exact h
    · rw [List.getElem?_set_ne (Ne.symm ne)]
      exact A.sl j r q
  · obtain ⟨r, e1, o1, s1⟩ := hj
    obtain ⟨r', e2, o2, s2⟩ := hk
    rcases set_get e1 with ⟨z1, q1⟩ | ⟨n1, q1⟩
    · rcases set_get e2 with ⟨z2, q2⟩ | ⟨n2, q2⟩
      · rw [z1, z2]
      · rcases set_get s1 with ⟨_, w1⟩ | ⟨w1, _⟩
        · cases w1
          rw [List.getElem?_set_ne (Ne.symm n2)] at s2
          exact absurd ⟨r', q2, o2, s2⟩ (hn k)
        · exact absurd z1 w1
    · rw [List.getElem?_set_ne (Ne.symm n1)] at s1
      rcases set_get e2 with ⟨z2, q2⟩ | ⟨n2, q2⟩
      · rcases set_get s2 with ⟨_, w2⟩ | ⟨w2, _⟩
        · cases w2
          exact absurd ⟨r, q1, o1, s1⟩ (hn j)
        · exact absurd z2 w2
      · rw [List.getElem?_set_ne (Ne.symm n2)] at s2
        exact A.ap j k q ⟨r, q1, o1, s1⟩ ⟨r', q2, o2, s2⟩
theorem set_same {i : Nat} {v : V} (h : σ[i]? = some (some v)) : σ.set i (some v) = σ := by
  apply List.ext_getElem?
  intro j
  by_cases e : j = i
  · subst e
    rw [h, List.getElem?_set_self]
    exact (List.getElem?_eq_some_iff.mp h).1
  · rw [List.getElem?_set_ne (Ne.symm e)]
/-- a fresh thing at p is put into the pure part -/
theorem Abs.freezeAt (A : Abs K C B σ H env) {p : Addr} {d : PyData} (h : Own K B H p d) (h0 : C.H0 p = none) (hB : B p = none) (hn : ∀ i, ¬ OwnAt env σ i p) :
    ∃ B', Ext B B' ∧ Abs K C B' σ H env ∧ Rp K B' (.ref p) d := by
  obtain ⟨o, ho⟩ := h.some
  have e : Ext B (upd B p o) := Ext.new hB
  refine ⟨upd B p o, e, A.grow e (fun a u q => ?_) (fun _ _ q => q) (fun a u q => ?_), h.frz e (by rw [upd_same, ho])⟩
  · by_cases z : a = p
    · subst z; rw [upd_same] at q; rw [ho, ← q]
    · rw [upd_ne z] at q; exact A.fr.sub _ _ q
  · by_cases z : a = p
    · subst z
      exact .inr ⟨h0, fun m => (A.fr.mt _ m).1 h0, hn⟩
    · rw [upd_ne z] at q; exact .inl q
theorem freeze {v : V} {r : Rv} (A : Abs K C B σ H env) (R : RvOk K C B H σ env v r) : ∃ B', Ext B B' ∧ Abs K C B' σ H env ∧ RvOk K C B' H σ env v r.frz := by
  cases r with
  | val d => exact ⟨B, Ext.refl B, A, R⟩
  | dr => exact ⟨B, Ext.refl B, A, R⟩
  | ndr => exact ⟨B, Ext.refl B, A, R⟩
  | drv _ => exact ⟨B, Ext.refl B, A, R⟩
  | own d =>
    obtain ⟨p, rfl, h1, h2, h3, h4⟩ := R
    obtain ⟨B', e, A', r⟩ := A.freezeAt h1 h2 h3 h4
    exact ⟨B', e, A', r⟩
/-- a result used as data -/
theorem use {v : V} {r : Rv} {k : PyData → Prop} (A : Abs K C B σ H env) (R : RvOk K C B H σ env v r) (h : r.vv k) : ∃ B' d, Ext B B' ∧ Abs K C B' σ H env ∧ Rp K B' v d ∧ k d := by
  cases r with
  | val d => exact ⟨B, d, Ext.refl B, A, R, h⟩
  | dr => exact h.elim
  | ndr => exact h.elim
  | drv _ => exact h.elim
  | own d =>
    obtain ⟨p, rfl, h1, h2, h3, h4⟩ := R
    obtain ⟨B', e, A', r⟩ := A.freezeAt h1 h2 h3 h4
    exact ⟨B', d, e, A', r, h⟩
theorem Abs.slot (A : Abs K C B σ H env) {i : Nat} {r : Rv} (e : env[i]? = some (some r)) : ∃ v, σ[i]? = some (some v) ∧ SlOk K C B H (some v) r := by
  have q := A.sl i r e
  have jn : ∀ v, σ[i]?.join = some v → σ[i]? = some (some v) := fun v z => by
    cases w : σ[i]? with
    | none => rw [w] at z; cases z
    | some x => rw [w] at z; have z' : x = some v := z; rw [z']
  cases r with
  | val d => obtain ⟨v, e1, h⟩ := q; exact ⟨v, jn v e1, v, rfl, h⟩
  | own d => obtain ⟨p, e1, h⟩ := q; exact ⟨.ref p, jn _ e1, p, rfl, h⟩
  | dr => obtain ⟨p, e1, h⟩ := q; exact ⟨.ref p, jn _ e1, p, rfl, h⟩
  | ndr => exact q.elim
  | drv _ => exact q.elim
/-- a slot's owned thing is read as a value: from then on it is pure -/
theorem Abs.unown (A : Abs K C B σ H env) {i : Nat} {d : PyData} (e : env[i]? = some (some (.own d))) :
    ∃ v B', σ[i]? = some (some v) ∧ Ext B B' ∧ Abs K C B' σ H (env.set i (some (.val d))) ∧ Rp K B' v d := by
  obtain ⟨v, hv, p, ev, h1, h2, h3⟩ := A.slot e
  cases ev
  have hown : OwnAt env σ i p := ⟨_, e, rfl, hv⟩
  obtain ⟨B', ex, A', r⟩ := (A.forget i).freezeAt h1 h2 h3 (fun j hj => by
    obtain ⟨r, e1, o1, s1⟩ := hj
    rcases set_get e1 with ⟨_, q⟩ | ⟨n, q⟩
    · cases q
    · exact n (A.ap j i p ⟨r, q, o1, s1⟩ hown))
  have A2 := A'.setVal (i := i) r
  rw [set_same hv, List.set_set] at A2
  exact ⟨_, B', hv, ex, A2, r⟩
/-- the owned thing of slot i changes -/
theorem Abs.change (A : Abs K C B σ H env) {i : Nat} {p : Addr} {r r' : Rv} {o : HO} (e : env[i]? = some (some r)) (ho : r.isOwn = true) (ho' : r'.isOwn = true) (hv : σ[i]? = some (some (.ref p)))
    (h : SlOk K C B (upd H p o) (some (.ref p)) r') (hm : C.mu = some p → DrOk B (upd H p o) p) : Abs K C B σ (upd H p o) (env.set i (some r')) := by
  obtain ⟨hb, _, hc⟩ := ownAt_in A ⟨r, e, ho, hv⟩
  have other : ∀ (j : Nat) (q : Addr) (r2 : Rv), j ≠ i → env[j]? = some (some r2) → r2.isOwn = true → σ[j]? = some (some (.ref q)) → q ≠ p := fun j q r2 n e2 o2 s2 z => by
    subst z
    exact n (A.ap j i q ⟨r2, e2, o2, s2⟩ ⟨r, e, ho, hv⟩)
  refine ⟨⟨fun a u q => ?_, A.fr.b0, A.fr.new, fun a u q n => ?_, fun q m => ?_⟩, by rw [List.length_set]; exact A.len, fun j r2 h2 => ?_, fun j k q hj hk => ?_⟩
  · rw [upd_ne (ne_of_none q hb)]; exact A.fr.sub _ _ q
  · have np : a ≠ p := fun z => by
      subst z
      rcases hc with z | z
      · exact n z
      · rw [z] at q; cases q
    rw [upd_ne np]; exact A.fr.keep a u q n
  · obtain ⟨m1, m2, m3⟩ := A.fr.mt q m
    by_cases z : q = p
    · subst z; exact ⟨m1, hm m, m3⟩
    · exact ⟨m1, m2.ext (Ext.refl B) (upd_ne z), m3⟩
  · rcases set_get h2 with ⟨rfl, z⟩ | ⟨n, z⟩
    · cases z
      rw [hv]
      exact h
    · have q := A.sl j r2 z
      have jn : ∀ q, σ[j]?.join = some (V.ref q) → σ[j]? = some (some (.ref q)) := fun q z => by
        cases w : σ[j]? with
        | none => rw [w] at z; cases z
        | some x => rw [w] at z; have z' : x = some (V.ref q) := z; rw [z']
      cases r2 with
      | val d => exact q
      | ndr => exact q
      | drv _ => exact q
      | own d =>
        obtain ⟨p2, q1, q2, q3⟩ := q
        exact ⟨p2, q1, q2.ext (Ext.refl B) (upd_ne (other j p2 _ n z rfl (jn _ q1))), q3⟩
      | dr =>
        obtain ⟨p2, q1, q2, q3⟩ := q
        exact ⟨p2, q1, q2.ext (Ext.refl B) (upd_ne (other j p2 _ n z rfl (jn _ q1))), q3⟩
  · have back : ∀ j, OwnAt (env.set i (some r')) σ j q → OwnAt env σ j q := fun j hj => by
      obtain ⟨r1, e1, o1, s1⟩ := hj
      rcases set_get e1 with ⟨z, _⟩ | ⟨n, z⟩
      · subst z; exact ⟨r, e, ho, s1⟩
      · exact ⟨r1, z, o1, s1⟩
    exact A.ap j k q (back j hj) (back k hk)
/-- something new stands in the heap, owned by none -/
theorem Abs.more (A : Abs K C B σ H env) {p : Addr} {o : HO} (h : H p = none) : Abs K C B σ (upd H p o) env :=
  A.grow (Ext.refl B) (fun a u q => by rw [upd_ne (fun z => by subst z; rw [A.fr.sub _ _ q] at h; cases h)]; exact A.fr.sub _ _ q) (Ext.new h) fun a u q => .inl q
theorem Abs.fresh (A : Abs K C B σ H env) {p : Addr} (h : H p = none) : B p = none ∧ C.H0 p = none ∧ ∀ i, ¬ OwnAt env σ i p := by
  have hB : B p = none := A.fr.sub.back h
  have hO : ∀ i, ¬ OwnAt env σ i p := fun i hi => by
    obtain ⟨_, ⟨o, ho⟩, _⟩ := ownAt_in A hi
    rw [h] at ho; cases ho
  refine ⟨hB, ?_, hO⟩
  cases q : C.H0 p with
  | none => rfl
  | some o =>
    by_cases m : C.mu = some p
    · obtain ⟨_, ⟨_, _, _, _, _, h4, _⟩, _⟩ := A.fr.mt p m
      rw [h] at h4; cases h4
    · rw [A.fr.keep p o q m] at h; cases h
end

/-! ### what an operation on values gives -/
/-- the value v in H' behind H: data as it was; a new owned thing; a new tuple -/
def Out (K : PySem.W.Frag) (B H : Hp) (k : Rv → Prop) (v : V) (H' : Hp) : Prop :=
  (∃ d, H' = H ∧ Rp K B v d ∧ k (.val d)) ∨ (∃ p o d, v = .ref p ∧ H p = none ∧ H' = upd H p o ∧ Own K B (upd H p o) p d ∧ k (.own d)) ∨
  (∃ p xs ds, v = .ref p ∧ H p = none ∧ H' = upd H p (.tup xs) ∧ RpA K B xs ds ∧ k (.val (.tuple ds)))
theorem Out.abs {K : PySem.W.Frag} {C : PC} {B H H' : Hp} {σ : L2.St} {env : EnvP} {k : Rv → Prop} {v : V} (A : Abs K C B σ H env) (h : Out K B H k v H') :
    ∃ B' r, Ext B B' ∧ Abs K C B' σ H' env ∧ RvOk K C B' H' σ env v r ∧ k r := by
  rcases h with ⟨d, rfl, r, q⟩ | ⟨p, o, d, rfl, np, rfl, w, q⟩ | ⟨p, xs, ds, rfl, np, rfl, w, q⟩
  · exact ⟨B, .val d, Ext.refl B, A, r, q⟩
  · obtain ⟨f1, f2, f3⟩ := A.fresh np
    exact ⟨B, .own d, Ext.refl B, A.more np, ⟨p, rfl, w, f2, f1, f3⟩, q⟩
  · obtain ⟨f1, f2, f3⟩ := A.fresh np
    have e : Ext B (upd B p (.tup xs)) := Ext.new f1
    refine ⟨upd B p (.tup xs), .val (.tuple ds), e, A.grow e (fun a u z => ?_) (Ext.new np) (fun a u z => ?_), Rp.tup upd_same (w.ext e), q⟩
    · by_cases y : a = p
      · subst y; rw [upd_same] at z ⊢; exact z
      · rw [upd_ne y] at z ⊢; exact A.fr.sub _ _ z
    · by_cases y : a = p
      · subst y
        exact .inr ⟨f2, fun m => (A.fr.mt _ m).1 f2, f3⟩
      · rw [upd_ne y] at z; exact .inl z

/-! ### the pure readings -/
abbrev EX := Exn → EnvP → Prop
abbrev WE := EnvP → EX → (Rv → EnvP → Prop) → Prop
abbrev WT := EnvP → EX → (Bool → EnvP → Prop) → Prop
abbrev WA := EnvP → EX → (List Rv → EnvP → Prop) → Prop
structure EndsP where
  nx : EnvP → Prop
  rt : Rv → EnvP → Prop
  bk : EnvP → Prop
  ct : EnvP → Prop
  ex : EX
abbrev WS := EnvP → EndsP → Prop
/-- what is wanted where an exception leaves -/
abbrev XW := Exn → Hp → L2.St → Hp → Prop
abbrev XW0 : XW := fun _ _ _ _ => False
section
variable (K : PySem.W.Frag) (xw : XW) (C : PC)
def XOk (σ : L2.St) (ex : EX) : Prop := ∀ e env B H, Abs K C B σ H env → ex e env → xw e B σ H
def lift (f : WE) : TE := fun σ H Q => ∃ B env ex k, Abs K C B σ H env ∧ f env ex k ∧ XOk K xw C σ ex ∧
  ∀ r env' v H' B', Ext B B' → Abs K C B' σ H' env' → RvOk K C B' H' σ env' v r → k r env' → Q v H'
def liftT (f : WT) : TT := fun σ H Q => ∃ B env ex k, Abs K C B σ H env ∧ f env ex k ∧ XOk K xw C σ ex ∧
  ∀ b env' H' B', Ext B B' → Abs K C B' σ H' env' → k b env' → Q b H'
/-- a list of results, frozen -/
inductive RvsOk (B : Hp) (σ : L2.St) : List V → List Rv → Prop
  | nil : RvsOk B σ [] []
  | val {v : V} {d : PyData} {vs : List V} {rs : List Rv} : Rp K B v d → RvsOk B σ vs rs → RvsOk B σ (v :: vs) (.val d :: rs)
  | dr {i : Nat} {p : Addr} {vs : List V} {rs : List Rv} : σ[i]? = some (some (.ref p)) → RvsOk B σ vs rs → RvsOk B σ (.ref p :: vs) (.drv i :: rs)
def liftA (f : WA) : TA := fun σ H Q => ∃ B env ex k, Abs K C B σ H env ∧ f env ex k ∧ XOk K xw C σ ex ∧
  ∀ rs env' vs H' B', Ext B B' → Abs K C B' σ H' env' → RvsOk K B' σ vs rs → k rs env' → Q vs H'
def liftS (f : WS) : TS := fun D σ H => ∃ B env E, Abs K C B σ H env ∧ f env E ∧ (∀ σ, XOk K xw C σ E.ex) ∧
  (∀ env' σ' H' B', Ext B B' → Abs K C B' σ' H' env' → E.nx env' → D.nx σ' H') ∧
  (∀ r env' v σ' H' B', Ext B B' → Abs K C B' σ' H' env' → RvOk K C B' H' σ' env' v r → E.rt r env' → D.rt v H') ∧
  (∀ env' σ' H' B', Ext B B' → Abs K C B' σ' H' env' → E.bk env' → D.bk σ' H') ∧
  (∀ env' σ' H' B', Ext B B' → Abs K C B' σ' H' env' → E.ct env' → D.ct σ' H')
end
def PPE (X : Cx) (xw : XW) (e : Expr) (f : WE) : Prop := ∀ C, PE X e (lift X.K xw C f)
def PPT (X : Cx) (xw : XW) (e : Expr) (f : WT) : Prop := ∀ C, PT X e (liftT X.K xw C f)
def PPW (X : Cx) (xw : XW) (e : Expr) (f : WT) : Prop := ∀ C, PW X e (liftT X.K xw C f)
def PPA (X : Cx) (xw : XW) (es : List Expr) (f : WA) : Prop := ∀ C, PA X es (liftA X.K xw C f)
def PPS (X : Cx) (xw : XW) (s : Stmt) (f : WS) : Prop := ∀ C, PS X s (liftS X.K xw C f)
def PPSs (X : Cx) (xw : XW) (s : List Stmt) (f : WS) : Prop := ∀ C, PSs X s (liftS X.K xw C f)
theorem pe_imp {X : Cx} {e : Expr} {t t' : TE} (h : PE X e t) (i : ∀ σ H Q, t' σ H Q → t σ H Q) : PE X e t' := ⟨fun pins s σ H Q I q => h.run pins s σ H Q I (i σ H Q q)⟩
theorem pt_imp {X : Cx} {e : Expr} {t t' : TT} (h : PT X e t) (i : ∀ σ H Q, t' σ H Q → t σ H Q) : PT X e t' := ⟨fun pins s σ H Q I q => h.run pins s σ H Q I (i σ H Q q)⟩
theorem pw_imp {X : Cx} {e : Expr} {t t' : TT} (h : PW X e t) (i : ∀ σ H Q, t' σ H Q → t σ H Q) : PW X e t' := ⟨fun wh pins s σ H Q I q => h.run wh pins s σ H Q I (i σ H Q q)⟩
theorem pa_imp {X : Cx} {e : List Expr} {t t' : TA} (h : PA X e t) (i : ∀ σ H Q, t' σ H Q → t σ H Q) : PA X e t' := ⟨fun pos pins s σ H Q I q => h.run pos pins s σ H Q I (i σ H Q q)⟩
theorem ps_imp {X : Cx} {e : Stmt} {t t' : TS} (h : PS X e t) (i : ∀ D σ H, t' D σ H → t D σ H) : PS X e t' := ⟨fun pins s σ H Q I q => h.run pins s σ H Q I (i _ _ _ q)⟩
theorem pss_imp {X : Cx} {e : List Stmt} {t t' : TS} (h : PSs X e t) (i : ∀ D σ H, t' D σ H → t D σ H) : PSs X e t' := ⟨fun pins s σ H Q I q => h.run pins s σ H Q I (i _ _ _ q)⟩
end PL

namespace PL
open PySem PySem.Spec PyProof.Rows L2 TL

/-! ### texts as lists of codes -/
def S (l : List Nat) : Str := ⟨l.toArray⟩
theorem S_len (l : List Nat) : (S l).length = l.length := by simp [S, Str.length]
theorem S_app (l m : List Nat) : S l ++ S m = S (l ++ m) := by
  apply ext_tl; rw [tl_append]; rfl
theorem S_inj {l m : List Nat} : S l = S m ↔ l = m := by
  constructor
  · intro h
    have h2 : (S l).cps.toList = (S m).cps.toList := by rw [h]
    simpa [S] using h2
  · intro h; rw [h]
theorem S_beq (l m : List Nat) : (S l == S m) = (l == m) := by
  by_cases h : l = m
  · subst h; simp
  · have h2 : ¬ S l = S m := fun e => h (S_inj.mp e)
    rw [beq_eq_false_iff_ne.mpr h, beq_eq_false_iff_ne.mpr h2]
theorem S_tl (x : Str) : S x.cps.toList = x := mk_tl x
theorem tl_S (l : List Nat) : (S l).cps.toList = l := rfl

/-! ### operands: data in the pure part, or an owned thing that is only looked at -/
inductive Pk (K : PySem.W.Frag) (B H : Hp) : V → PyData → Prop
  | val {v : V} {d : PyData} : Rp K B v d → Pk K B H v d
  | own {p : Addr} {d : PyData} : Own K B H p d → Pk K B H (.ref p) d
section
variable {K : PySem.W.Frag} {B B' H H' : Hp} {v : V}
theorem Pk.int {i : Int} (h : Pk K B H v (.int i)) : v = .int i := by
  cases h with
  | val h => cases h; rfl
  | own h => exact h.elim
theorem Pk.bl {i : Bool} (h : Pk K B H v (.bool i)) : v = .bl i := by
  cases h with
  | val h => cases h; rfl
  | own h => exact h.elim
theorem Pk.str {i : Str} (h : Pk K B H v (.str i)) : v = .str i := by
  cases h with
  | val h => cases h; rfl
  | own h => exact h.elim
theorem Pk.non (h : Pk K B H v .none) : v = .non := by
  cases h with
  | val h => cases h; rfl
  | own h => exact h.elim
theorem Pk.list {ds : List PyData} (e : Ext B H) (h : Pk K B H v (.list ds)) : ∃ p xs, v = .ref p ∧ H p = some (.lst xs) ∧ RpA K B xs ds := by
  cases h with
  | val h => cases h with
    | lst h r => exact ⟨_, _, rfl, e _ _ h, r⟩
  | own h => obtain ⟨xs, h1, h2⟩ := h; exact ⟨_, xs, rfl, h1, h2⟩
theorem Pk.tuple {ds : List PyData} (e : Ext B H) (h : Pk K B H v (.tuple ds)) : ∃ p xs, v = .ref p ∧ SqT K H p xs ∧ RpA K B xs ds ∧ Rp K B v (.tuple ds) := by
  cases h with
  | val h => cases h with
    | tup h r => exact ⟨_, _, rfl, SqT.of (e _ _ h), r, .tup h r⟩
    | tupW h => exact ⟨_, _, rfl, .inr h, .cons (.str _) .nil, .tupW h⟩
  | own h => exact h.elim
theorem Pk.tupleT {ds : List PyData} (e : Ext B H) (h : Pk K B H v (.tuple ds)) (hl : ds.length ≠ 1) : ∃ p xs, v = .ref p ∧ H p = some (.tup xs) ∧ B p = some (.tup xs) ∧ RpA K B xs ds := by
  cases h with
  | val h => cases h with
    | tup h r => exact ⟨_, _, rfl, e _ _ h, h, r⟩
    | tupW h => exact absurd rfl hl
  | own h => exact h.elim
theorem Pk.dict {ds : List (PyData × PyData)} (e : Ext B H) (h : Pk K B H v (.dict ds)) : ∃ p, v = .ref p ∧ ((∃ kvs, Rd H p (.dK kvs) ∧ RpK K B kvs ds) ∨ ∃ kvs ds', ds = (.none, .none) :: ds' ∧ Rd H p (.dT kvs) ∧ RpT K B kvs ds') := by
  cases h with
  | val h => cases h with
    | dK h r => exact ⟨_, rfl, .inl ⟨_, e.rd h, r⟩⟩
    | dT h r => exact ⟨_, rfl, .inr ⟨_, _, rfl, e.rd h, r⟩⟩
  | own h =>
    rcases h with ⟨kvs, h, r⟩ | ⟨kvs, ds', h0, h, r⟩
    · exact ⟨_, rfl, .inl ⟨_, .inl h, r⟩⟩
    · exact ⟨_, rfl, .inr ⟨_, ds', h0, .inl h, r⟩⟩
mutual
theorem Rp.dp (e : Ext B H) : ∀ {v : V} {d : PyData}, d.canLay0 = true → Rp K B v d → Dp K H v d
  | _, _, _, .non => .non
  | _, _, _, .bl b => .bl b
  | _, _, _, .int i => .int i
  | _, _, _, .str x => .str x
  | _, _, c, .lst h r => .lst (SqL.of (e _ _ h)) (RpA.dp e (by simpa [PyData.canLay0] using c) r)
  | _, _, c, .tup h r => .tup (SqT.of (e _ _ h)) (RpA.dp e (by simpa [PyData.canLay0] using c) r)
  | _, _, c, .tupW h => .tup (.inr h) (.cons (.str _) .nil)
  | _, _, c, .dK h r => by simp [PyData.canLay0] at c
  | _, _, c, .dT h r => by simp [PyData.canLay0] at c
theorem RpA.dp (e : Ext B H) : ∀ {v : List V} {d : List PyData}, PyData.canLayAll0 d = true → RpA K B v d → DpAll K H v d
  | _, _, _, .nil => .nil
  | _, _, c, .cons h r => by
    have c' := Bool.and_eq_true_iff.mp (by simpa [PyData.canLayAll0] using c)
    exact .cons (Rp.dp e c'.1 h) (RpA.dp e c'.2 r)
end
theorem Pk.dp (e : Ext B H) {d : PyData} (c : d.canLay0 = true) (h : Pk K B H v d) : Dp K H v d := by
  cases h with
  | val h => exact h.dp e c
  | own h =>
    cases d with
    | list ds => obtain ⟨xs, h1, h2⟩ := h; exact .lst (SqL.of h1) (h2.dp e (by simpa [PyData.canLay0] using c))
    | dict ds => simp [PyData.canLay0] at c
    | _ => exact h.elim
end

/-! ### operations by values -/
abbrev Op2 := PyData → PyData → (Rv → Prop) → Prop
abbrev OpN := List PyData → (Rv → Prop) → Prop
structure OpS (X : Cx) (f : Value → Value → Sem Value) (op : Op2) : Prop where
  ex : ∃ r : R2, OpR X f r ∧ ∀ B H x y a b k Q, Ext B H → Pk X.K B H x a → Pk X.K B H y b → op a b k → (∀ v H', Out X.K B H k v H' → Q v H') → r x y H Q
structure IxS (X : Cx) (op : Op2) : Prop where
  ex : ∃ r : R2, IxR X r ∧ ∀ B H x y a b k Q, Ext B H → Pk X.K B H x a → Pk X.K B H y b → op a b k → (∀ v H', Out X.K B H k v H' → Q v H') → r x y H Q
inductive PkA (K : PySem.W.Frag) (B H : Hp) : List V → List PyData → Prop
  | nil : PkA K B H [] []
  | cons {v : V} {vs : List V} {d : PyData} {ds : List PyData} : Pk K B H v d → PkA K B H vs ds → PkA K B H (v :: vs) (d :: ds)
structure CaS (X : Cx) (f : Value) (op : OpN) : Prop where
  ex : ∃ r, CallR X f r ∧ ∀ B H vs ds k Q, Ext B H → PkA X.K B H vs ds → op ds k → (∀ v H', Out X.K B H k v H' → Q v H') → r vs H Q
structure MtS (X : Cx) (id : String) (op : PyData → OpN) : Prop where
  ex : ∃ r, MtR X id r ∧ ∀ B H x a vs ds k Q, Ext B H → Pk X.K B H x a → PkA X.K B H vs ds → op a ds k → (∀ v H', Out X.K B H k v H' → Q v H') → r x vs H Q

def outVal {K : PySem.W.Frag} {B H : Hp} {k : Rv → Prop} {v : V} {d : PyData} (r : Rp K B v d) (q : k (.val d)) : Out K B H k v H := .inl ⟨d, rfl, r, q⟩
theorem outLst {K : PySem.W.Frag} {B H : Hp} {k : Rv → Prop} {p : Addr} {xs : List V} {ds : List PyData} (hp : H p = none) (r : RpA K B xs ds) (q : k (.own (.list ds))) : Out K B H k (.ref p) (upd H p (.lst xs)) :=
  .inr (.inl ⟨p, _, .list ds, rfl, hp, rfl, ⟨xs, upd_same, r⟩, q⟩)
theorem outTup {K : PySem.W.Frag} {B H : Hp} {k : Rv → Prop} {p : Addr} {xs : List V} {ds : List PyData} (hp : H p = none) (r : RpA K B xs ds) (q : k (.val (.tuple ds))) : Out K B H k (.ref p) (upd H p (.tup xs)) :=
  .inr (.inr ⟨p, xs, ds, rfl, hp, rfl, r, q⟩)

def opAdd : Op2
  | .int i, .int j, k => k (.val (.int (i + j)))
  | .str x, .str y, k => x.length + y.length ≤ sizeLine ∧ k (.val (.str (x ++ y)))
  | .list xs, .list ys, k => xs.length + ys.length ≤ sizeLine ∧ k (.own (.list (xs ++ ys)))
  | .tuple xs, .tuple ys, k => xs.length + ys.length ≤ sizeLine ∧ k (.val (.tuple (xs ++ ys)))
  | _, _, _ => False
theorem os_add {X : Cx} : OpS X (binaryOp .Add) opAdd := by
  refine ⟨_, OpR.or op_add (OpR.or op_add_str (OpR.or op_cat op_catA)), fun B H x y a b k Q e hx hy h q => ?_⟩
  cases a <;> cases b <;> first | exact h.elim | skip
  · obtain rfl := hx.int
    obtain rfl := hy.int
    exact .inl ⟨_, _, rfl, rfl, q _ _ (outVal (.int _) h)⟩
  · obtain rfl := hx.str
    obtain rfl := hy.str
    exact .inr (.inl ⟨_, _, rfl, rfl, h.1, q _ _ (outVal (.str _) h.2)⟩)
  · obtain ⟨p, xs, rfl, h1, h2⟩ := hx.list e
    obtain ⟨p2, ys, rfl, h3, h4⟩ := hy.list e
    exact .inr (.inr (.inl ⟨p, p2, xs, ys, rfl, rfl, h1, h3, by rw [h2.length, h4.length]; exact h.1, fun p3 hp => q _ _ (outLst hp (h2.app h4) h.2)⟩))
  · obtain ⟨p, xs, rfl, h1, h2, r1⟩ := hx.tuple e
    obtain ⟨p2, ys, rfl, h3, h4, r2⟩ := hy.tuple e
    refine .inr (.inr (.inr ⟨p, p2, xs, ys, rfl, rfl, h1, h3, by rw [h2.length, h4.length]; exact h.1, fun z => ?_, fun _ z => ?_, fun _ _ p3 hp => q _ _ (outTup hp (h2.app h4) h.2)⟩))
    · have z' := h2.nil_iff.mp z
      subst z'
      exact q _ _ (outVal r2 h.2)
    · have z' := h4.nil_iff.mp z
      subst z'
      have h' := h.2
      rw [List.append_nil] at h'
      exact q _ _ (outVal r1 h')
def opSub : Op2
  | .int i, .int j, k => k (.val (.int (i - j)))
  | _, _, _ => False
theorem os_sub {X : Cx} : OpS X (binaryOp .Sub) opSub := by
  refine ⟨_, op_sub, fun B H x y a b k Q e hx hy h q => ?_⟩
  cases a <;> cases b <;> first | exact h.elim | skip
  obtain rfl := hx.int
  obtain rfl := hy.int
  exact ⟨_, _, rfl, rfl, q _ _ (outVal (.int _) h)⟩
def opDiv : Op2
  | .int i, .int j, k => (0 < j ∧ j < 1073741824) ∧ k (.val (.int (i / j)))
  | _, _, _ => False
theorem os_div {X : Cx} : OpS X (binaryOp .FloorDiv) opDiv := by
  refine ⟨_, op_fdiv, fun B H x y a b k Q e hx hy h q => ?_⟩
  cases a <;> cases b <;> first | exact h.elim | skip
  obtain rfl := hx.int
  obtain rfl := hy.int
  exact ⟨_, _, rfl, rfl, h.1, q _ _ (outVal (.int _) h.2)⟩
def opMod : Op2
  | .int i, .int j, k => 0 < j ∧ k (.val (.int (i % j)))
  | _, _, _ => False
theorem os_mod {X : Cx} : OpS X (binaryOp .Mod) opMod := by
  refine ⟨_, op_mod, fun B H x y a b k Q e hx hy h q => ?_⟩
  cases a <;> cases b <;> first | exact h.elim | skip
  obtain rfl := hx.int
  obtain rfl := hy.int
  exact ⟨_, _, rfl, rfl, h.1, q _ _ (outVal (.int _) h.2)⟩
def opPow : Op2
  | .int i, .int j, k => CPow i j ∧ k (.val (.int (i ^ j.toNat)))
  | _, _, _ => False
theorem os_pow {X : Cx} : OpS X (binaryOp .Pow) opPow := by
  refine ⟨_, op_pow, fun B H x y a b k Q e hx hy h q => ?_⟩
  cases a <;> cases b <;> first | exact h.elim | skip
  obtain rfl := hx.int
  obtain rfl := hy.int
  exact ⟨_, _, rfl, rfl, h.1, q _ _ (outVal (.int _) h.2)⟩
/-- a text times an int -/
def rMulS : R2 := fun x y H Q => ∃ z i, x = .str z ∧ y = .int i ∧ i < 2 ^ 62 ∧ z.length * i.toNat ≤ 16777216 ∧ -(2 ^ 62) < i ∧ Q (.str (S (List.replicate i.toNat z.cps.toList).flatten)) H
theorem foldl_rep_str (xs : Array Nat) : ∀ (k : Nat) (acc : Array Nat), ((List.replicate k xs).foldl (· ++ ·) acc).toList = acc.toList ++ (List.replicate k xs.toList).flatten
  | 0, acc => by simp
  | k + 1, acc => by
    rw [List.replicate_succ, List.foldl_cons, foldl_rep_str xs k, List.replicate_succ, List.flatten_cons]
    simp
theorem op_mulS {X : Cx} : OpR X (binaryOp .Mult) rMulS := by
  intro pins s σ H x y v u Q I rx ry h
  obtain ⟨z, i, rfl, rfl, h1, h2, h0, q⟩ := h
  obtain ⟨t, rfl⟩ := rx
  obtain ⟨t', rfl⟩ := ry
  have hl := sizeLine_eq
  refine PySem.SB.mul ⟨?_, fun hn _ => ?_, fun hn _ => ?_⟩ fun t2 k => ⟨.str (Txt.mul z i), H, I.tok _, ⟨t2, rfl⟩, ?_⟩
  · have p62 : (2 : Int) ^ 62 < 2 ^ 63 := by decide
    simp only [Bool.or_eq_false_iff, decide_eq_false_iff_not]
    constructor <;> omega
  · have hi : 0 < i := by omega
    intro hc
    have h3 : (z.length : Int) * i ≤ 16777216 := by
      have h4 : ((z.length * i.toNat : Nat) : Int) ≤ 16777216 := Int.ofNat_le.mpr h2
      rw [Int.natCast_mul, Int.toNat_of_nonneg (Int.le_of_lt hi)] at h4
      exact h4
    have p63 : (16777216 : Int) ≤ 2 ^ 63 - 1 := by decide
    have h5 : (z.length : Int) ≤ (2 ^ 63 - 1) / i := (Int.le_ediv_iff_mul_le hi).mpr (Int.le_trans h3 p63)
    exact absurd hc (Int.not_lt.mpr h5)
  · have h3 : ¬ (z.length * i.toNat) > sizeLine := by omega
    show decide (z.length * i.toNat > sizeLine) = false
    exact decide_eq_false h3
  · have e : Txt.mul z i = S (List.replicate i.toNat z.cps.toList).flatten := by
      unfold Txt.mul
      by_cases h1 : i < 1
      · rw [if_pos h1]
        have : i.toNat = 0 := by omega
        rw [this]; rfl
      · rw [if_neg h1]
        by_cases h2 : (i == 1 || z.length == 0) = true
        · rw [if_pos h2]
          simp only [Bool.or_eq_true, beq_iff_eq] at h2
          rcases h2 with h2 | h2
          · subst h2
            simp [S]
          · have hz : z.cps.toList = [] := by
              have : z.cps.toList.length = 0 := by simpa [Str.length] using h2
              exact List.eq_nil_of_length_eq_zero this
            rw [hz]
            have : (List.replicate i.toNat ([] : List Nat)).flatten = [] := by simp
            rw [this]
            apply ext_tl
            show z.cps.toList = []
            exact hz
        · rw [if_neg h2]
          apply ext_tl
          show ((List.replicate i.toNat z.cps).foldl (· ++ ·) #[]).toList = _
          rw [foldl_rep_str]
          rfl
    rw [e]
    exact q
end PL

namespace PL
open PySem PySem.Spec PyProof.Rows L2 TL

theorem RpA.rep {K : PySem.W.Frag} {B : Hp} {vs : List V} {ds : List PyData} (r : RpA K B vs ds) : ∀ k : Nat, RpA K B (List.replicate k vs).flatten (List.replicate k ds).flatten
  | 0 => .nil
  | k + 1 => by rw [List.replicate_succ, List.replicate_succ, List.flatten_cons, List.flatten_cons]; exact r.app (r.rep k)
theorem RpA.rev {K : PySem.W.Frag} {B : Hp} : ∀ {vs : List V} {ds : List PyData}, RpA K B vs ds → RpA K B vs.reverse ds.reverse
  | _, _, .nil => .nil
  | _, _, .cons h r => by rw [List.reverse_cons, List.reverse_cons]; exact (RpA.rev r).app (.cons h .nil)
def opMul : Op2
  | .int i, .int j, k => CMul i j ∧ k (.val (.int (i * j)))
  | .str z, .int i, k => (i < 2 ^ 62 ∧ z.length * i.toNat ≤ 16777216 ∧ -(2 ^ 62) < i) ∧ k (.val (.str (S (List.replicate i.toNat z.cps.toList).flatten)))
  | .list xs, .int i, k => (-(2 ^ 63) ≤ i ∧ i < 2 ^ 63 ∧ xs.length * i.toNat ≤ sizeLine) ∧ k (.own (.list (List.replicate i.toNat xs).flatten))
  | .tuple xs, .int i, k => (xs ≠ [] ∧ 2 ≤ i ∧ i ≤ 1000 ∧ xs.length ≤ 1000) ∧ k (.val (.tuple (List.replicate i.toNat xs).flatten))
  | _, _, _ => False
theorem os_mul {X : Cx} : OpS X (binaryOp .Mult) opMul := by
  refine ⟨_, OpR.or op_mul (OpR.or op_mulS (OpR.or op_rep op_repT)), fun B H x y a b k Q e hx hy h q => ?_⟩
  cases a <;> cases b <;> first | exact h.elim | skip
  · obtain rfl := hx.int
    obtain rfl := hy.int
    exact .inl ⟨_, _, rfl, rfl, h.1, q _ _ (outVal (.int _) h.2)⟩
  · obtain rfl := hx.str
    obtain rfl := hy.int
    exact .inr (.inl ⟨_, _, rfl, rfl, h.1.1, h.1.2.1, h.1.2.2, q _ _ (outVal (.str _) h.2)⟩)
  · obtain ⟨p, xs, rfl, h1, h2⟩ := hx.list e
    obtain rfl := hy.int
    exact .inr (.inr (.inl ⟨p, _, xs, rfl, rfl, h1, h.1.1, h.1.2.1, by rw [h2.length]; exact h.1.2.2, fun p3 hp => q _ _ (outLst hp (h2.rep _) h.2)⟩))
  · obtain ⟨p, xs, rfl, h1, h2, r1⟩ := hx.tuple e
    obtain rfl := hy.int
    exact .inr (.inr (.inr ⟨p, _, xs, rfl, rfl, h1, fun z => h.1.1 (h2.nil_iff.mp z), h.1.2.1, h.1.2.2.1, by rw [h2.length]; exact h.1.2.2.2, fun p3 hp => q _ _ (outTup hp (h2.rep _) h.2)⟩))

/-! ### comparisons -/
def isSc : PyData → Bool
  | .none => true | .bool _ => true | .int _ => true | .str _ => true
  | _ => false
theorem Pk.flat {K : PySem.W.Frag} {B H : Hp} {v : V} {d : PyData} (h : Pk K B H v d) (s : isSc d = true) : flatV v = true := by
  cases d with
  | none => obtain rfl := h.non; rfl
  | bool _ => obtain rfl := h.bl; rfl
  | int _ => obtain rfl := h.int; rfl
  | str _ => obtain rfl := h.str; rfl
  | _ => cases s
theorem shaped_sc {d : PyData} (s : isSc d = true) (h : ∀ x, d ≠ .str x) : SeqAt.shaped d = true := by
  cases d with
  | none => rfl
  | bool _ => rfl
  | int _ => rfl
  | str x => exact absurd rfl (h x)
  | _ => cases s
def okEq (a b : PyData) : Prop := (isSc a = true ∧ isSc b = true) ∨ (SeqAt.shaped a = true ∧ SeqAt.shaped b = true)
def opEq : Op2 := fun a b k => okEq a b ∧ k (.val (.bool (PyData.eqv a b)))
def opNe : Op2 := fun a b k => okEq a b ∧ k (.val (.bool (!PyData.eqv a b)))
theorem sc_eq {K : PySem.W.Frag} {B H : Hp} {x y : V} {a b : PyData} (hx : Pk K B H x a) (hy : Pk K B H y b) (sa : isSc a = true) (sb : isSc b = true) :
    (scal x y = true ∧ decide (x = y) = PyData.eqv a b) ∨ (SeqAt.shaped a = true ∧ SeqAt.shaped b = true) := by
  cases a with
  | none =>
    obtain rfl := hx.non
    cases b with
    | none => obtain rfl := hy.non; exact .inl ⟨rfl, by simp [PyData.eqv]⟩
    | bool _ => obtain rfl := hy.bl; exact .inl ⟨rfl, by simp [PyData.eqv]⟩
    | int _ => obtain rfl := hy.int; exact .inl ⟨rfl, by simp [PyData.eqv]⟩
    | str _ => obtain rfl := hy.str; exact .inl ⟨rfl, by simp [PyData.eqv]⟩
    | _ => cases sb
  | bool i =>
    obtain rfl := hx.bl
    cases b with
    | none => obtain rfl := hy.non; exact .inl ⟨rfl, by simp [PyData.eqv]⟩
    | bool j => obtain rfl := hy.bl; exact .inl ⟨rfl, by rw [dec_bl]; simp [PyData.eqv]⟩
    | int _ => exact .inr ⟨rfl, rfl⟩
    | str _ => obtain rfl := hy.str; exact .inl ⟨rfl, by simp [PyData.eqv]⟩
    | _ => cases sb
  | int i =>
    obtain rfl := hx.int
    cases b with
    | none => obtain rfl := hy.non; exact .inl ⟨rfl, by simp [PyData.eqv]⟩
    | bool j => exact .inr ⟨rfl, rfl⟩
    | int _ => obtain rfl := hy.int; exact .inl ⟨rfl, by rw [dec_int]; simp [PyData.eqv]⟩
    | str _ => obtain rfl := hy.str; exact .inl ⟨rfl, by simp [PyData.eqv]⟩
    | _ => cases sb
  | str i =>
    obtain rfl := hx.str
    cases b with
    | none => obtain rfl := hy.non; exact .inl ⟨rfl, by simp [PyData.eqv]⟩
    | bool j => obtain rfl := hy.bl; exact .inl ⟨rfl, by simp [PyData.eqv]⟩
    | int _ => obtain rfl := hy.int; exact .inl ⟨rfl, by simp [PyData.eqv]⟩
    | str _ => obtain rfl := hy.str; exact .inl ⟨rfl, by rw [dec_str]; simp [PyData.eqv]⟩
    | _ => cases sb
  | _ => cases sa
theorem os_eq {X : Cx} (hu : X.A.units + 64 < cLine) : OpS X (compareOp .Eq) opEq := by
  refine ⟨_, OpR.or op_eq (op_eqD hu), fun B H x y a b k Q e hx hy h q => ?_⟩
  have sh : SeqAt.shaped a = true → SeqAt.shaped b = true → rEqD X.K x y H Q := fun s1 s2 =>
    ⟨a, b, hx.dp e (SeqAt.canLay_of_shaped s1), hy.dp e (SeqAt.canLay_of_shaped s2), s1, s2, q _ _ (outVal (.bl _) h.2)⟩
  rcases h.1 with ⟨s1, s2⟩ | ⟨s1, s2⟩
  · rcases sc_eq hx hy s1 s2 with ⟨z, d⟩ | ⟨z1, z2⟩
    · exact .inl ⟨z, q _ _ (outVal (d ▸ .bl _) h.2)⟩
    · exact .inr (sh z1 z2)
  · exact .inr (sh s1 s2)
theorem os_ne {X : Cx} (hu : X.A.units + 64 < cLine) : OpS X (compareOp .NotEq) opNe := by
  refine ⟨_, OpR.or op_ne (op_neD hu), fun B H x y a b k Q e hx hy h q => ?_⟩
  have sh : SeqAt.shaped a = true → SeqAt.shaped b = true → rNeD X.K x y H Q := fun s1 s2 =>
    ⟨a, b, hx.dp e (SeqAt.canLay_of_shaped s1), hy.dp e (SeqAt.canLay_of_shaped s2), s1, s2, q _ _ (outVal (.bl _) h.2)⟩
  rcases h.1 with ⟨s1, s2⟩ | ⟨s1, s2⟩
  · rcases sc_eq hx hy s1 s2 with ⟨z, d⟩ | ⟨z1, z2⟩
    · exact .inl ⟨z, q _ _ (outVal (d ▸ .bl _) h.2)⟩
    · exact .inr (sh z1 z2)
  · exact .inr (sh s1 s2)
def opLt : Op2
  | .int i, .int j, k => k (.val (.bool (decide (i < j))))
  | .str x, .str y, k => k (.val (.bool (decide (x.cps.toList < y.cps.toList))))
  | _, _, _ => False
theorem os_lt {X : Cx} : OpS X (compareOp .Lt) opLt := by
  refine ⟨_, OpR.or op_lt op_lt_str, fun B H x y a b k Q e hx hy h q => ?_⟩
  cases a <;> cases b <;> first | exact h.elim | skip
  · obtain rfl := hx.int
    obtain rfl := hy.int
    exact .inl ⟨_, _, rfl, rfl, q _ _ (outVal (.bl _) h)⟩
  · obtain rfl := hx.str
    obtain rfl := hy.str
    exact .inr ⟨_, _, rfl, rfl, q _ _ (outVal (.bl _) h)⟩
def opCmpI (f : Int → Int → Bool) : Op2
  | .int i, .int j, k => k (.val (.bool (f i j)))
  | _, _, _ => False
abbrev opLe : Op2 := opCmpI fun i j => decide (i ≤ j)
abbrev opGt : Op2 := opCmpI fun i j => decide (j < i)
abbrev opGe : Op2 := opCmpI fun i j => decide (j ≤ i)
theorem os_le {X : Cx} : OpS X (compareOp .LtE) opLe := by
  refine ⟨_, op_le, fun B H x y a b k Q e hx hy h q => ?_⟩
  cases a <;> cases b <;> first | exact h.elim | skip
  obtain rfl := hx.int
  obtain rfl := hy.int
  exact ⟨_, _, rfl, rfl, q _ _ (outVal (.bl _) h)⟩
theorem os_gt {X : Cx} : OpS X (compareOp .Gt) opGt := by
  refine ⟨_, op_gt, fun B H x y a b k Q e hx hy h q => ?_⟩
  cases a <;> cases b <;> first | exact h.elim | skip
  obtain rfl := hx.int
  obtain rfl := hy.int
  exact ⟨_, _, rfl, rfl, q _ _ (outVal (.bl _) h)⟩
theorem os_ge {X : Cx} : OpS X (compareOp .GtE) opGe := by
  refine ⟨_, op_ge, fun B H x y a b k Q e hx hy h q => ?_⟩
  cases a <;> cases b <;> first | exact h.elim | skip
  obtain rfl := hx.int
  obtain rfl := hy.int
  exact ⟨_, _, rfl, rfl, q _ _ (outVal (.bl _) h)⟩
/-- is None, is not None -/
def isN : PyData → Bool
  | .none => true
  | _ => false
def opIs : Op2 := fun a b k => match b with
  | .none => k (.val (.bool (isN a)))
  | _ => False
def opIsNot : Op2 := fun a b k => match b with
  | .none => k (.val (.bool (!isN a)))
  | _ => False
theorem Pk.isNon {K : PySem.W.Frag} {B H : Hp} {v : V} {d : PyData} (h : Pk K B H v d) : decide (v = .non) = isN d := by
  cases h with
  | val h => cases h <;> simp [isN]
  | own h => cases d <;> first | exact h.elim | simp [isN]
theorem os_is {X : Cx} : OpS X (compareOp .Is) opIs := by
  refine ⟨_, op_isN, fun B H x y a b k Q e hx hy h q => ?_⟩
  cases b <;> first | exact h.elim | skip
  obtain rfl := hy.non
  refine ⟨rfl, ?_⟩
  rw [hx.isNon]
  exact q _ _ (outVal (.bl _) h)
theorem os_isNot {X : Cx} : OpS X (compareOp .IsNot) opIsNot := by
  refine ⟨_, op_notN, fun B H x y a b k Q e hx hy h q => ?_⟩
  cases b <;> first | exact h.elim | skip
  obtain rfl := hy.non
  refine ⟨rfl, ?_⟩
  rw [hx.isNon]
  exact q _ _ (outVal (.bl _) h)

/-! ### dicts, by keys -/
def isK : PyData → Bool
  | .int _ => true | .str _ => true
  | _ => false
def isKT : PyData → Bool
  | .tuple ds => ds.all isK && ds.length != 1
  | _ => false
def dget (kvs : List (PyData × PyData)) (k : PyData) : Option PyData := (kvs.find? fun kv => PyData.eqv kv.1 k).map (·.2)
def dput (kvs : List (PyData × PyData)) (k v : PyData) : List (PyData × PyData) :=
  if (kvs.any fun kv => PyData.eqv kv.1 k) = true then kvs.map (fun kv => if PyData.eqv kv.1 k = true then (kv.1, v) else kv) else kvs ++ [(k, v)]
def isT : List (PyData × PyData) → Bool
  | (.none, _) :: _ => true
  | _ => false
theorem kD_eqv (k k' : Key) : PyData.eqv (kD k) (kD k') = decide (k = k') := by
  cases k <;> cases k'
  · rw [key_ll]; simp [kD, PyData.eqv]
  · rw [key_lr]; simp [kD, PyData.eqv]
  · rw [key_rl]; simp [kD, PyData.eqv]
  · rw [key_rr]; simp [kD, PyData.eqv, Bool.beq_eq_decide_eq]
theorem isK_key {d : PyData} (h : isK d = true) : ∃ k, d = kD k := by
  cases d with
  | int i => exact ⟨.inl i, rfl⟩
  | str i => exact ⟨.inr i, rfl⟩
  | _ => cases h
theorem Pk.key {K : PySem.W.Frag} {B H : Hp} {v : V} {k : Key} (h : Pk K B H v (kD k)) : v = kV k := by
  cases k with
  | inl i => exact h.int
  | inr i => exact h.str
theorem RpK.notT {K : PySem.W.Frag} {B : Hp} {kvs : List (Key × V)} {ds : List (PyData × PyData)} (r : RpK K B kvs ds) : isT ds = false := by
  cases r with
  | nil => rfl
  | @cons k v vs d ds h r => cases k <;> rfl
theorem RpK.get {K : PySem.W.Frag} {B : Hp} : ∀ {kvs : List (Key × V)} {ds : List (PyData × PyData)}, RpK K B kvs ds → ∀ k, (match dget ds (kD k) with | some d => ∃ v, valV kvs k = some v ∧ Rp K B v d | none => valV kvs k = none)
  | _, _, .nil, k => rfl
  | _, _, .cons (k := k0) (v := v) (vs := vs) (d := d) (ds := ds) h r, k => by
    have ih := RpK.get r k
    unfold dget valV at ih ⊢
    rw [List.find?_cons, List.find?_cons, kD_eqv]
    cases e : decide (k0 = k) with
    | true => exact ⟨v, rfl, h⟩
    | false => exact ih
theorem RpK.any {K : PySem.W.Frag} {B : Hp} : ∀ {kvs : List (Key × V)} {ds : List (PyData × PyData)}, RpK K B kvs ds → ∀ k, (ds.any fun kv => PyData.eqv kv.1 (kD k)) = kvs.any fun kv => decide (kv.1 = k)
  | _, _, .nil, k => rfl
  | _, _, .cons (k := k0) h r, k => by rw [List.any_cons, List.any_cons, kD_eqv, RpK.any r k]
theorem RpK.app {K : PySem.W.Frag} {B : Hp} : ∀ {kvs : List (Key × V)} {ds : List (PyData × PyData)} {kvs' : List (Key × V)} {ds' : List (PyData × PyData)}, RpK K B kvs ds → RpK K B kvs' ds' → RpK K B (kvs ++ kvs') (ds ++ ds')
  | _, _, _, _, .nil, r => r
  | _, _, _, _, .cons h r, r' => .cons h (RpK.app r r')
theorem RpK.map {K : PySem.W.Frag} {B : Hp} {k : Key} {v : V} {d : PyData} (hv : Rp K B v d) : ∀ {kvs : List (Key × V)} {ds : List (PyData × PyData)}, RpK K B kvs ds →
    RpK K B (kvs.map fun kv => if kv.1 = k then (kv.1, v) else kv) (ds.map fun kv => if PyData.eqv kv.1 (kD k) = true then (kv.1, d) else kv)
  | _, _, .nil => .nil
  | _, _, .cons (k := k0) h r => by
    rw [List.map_cons, List.map_cons, kD_eqv]
    by_cases e : k0 = k
    · simp only [e, decide_true, if_true]
      exact .cons hv (RpK.map hv r)
    · simp only [e, decide_false, if_false]
      exact .cons h (RpK.map hv r)
theorem RpK.put {K : PySem.W.Frag} {B : Hp} {k : Key} {v : V} {d : PyData} {kvs : List (Key × V)} {ds : List (PyData × PyData)} (r : RpK K B kvs ds) (hv : Rp K B v d) : RpK K B (putK kvs k v) (dput ds (kD k) d) := by
  unfold putK dput
  rw [r.any k]
  split
  · exact r.map hv
  · exact r.app (.cons hv .nil)
theorem RpK.length {K : PySem.W.Frag} {B : Hp} : ∀ {kvs : List (Key × V)} {ds : List (PyData × PyData)}, RpK K B kvs ds → kvs.length = ds.length
  | _, _, .nil => rfl
  | _, _, .cons _ r => by simp [RpK.length r]
/-- tuple keys -/
def kT (k : List Key) : PyData := .tuple (k.map kD)
theorem kT_eqvAll : ∀ (k k' : List Key), PyData.eqvAll (k.map kD) (k'.map kD) = decide (k = k')
  | [], [] => by simp [PyData.eqvAll]
  | [], _ :: _ => by simp [PyData.eqvAll]
  | _ :: _, [] => by simp [PyData.eqvAll]
  | a :: k, b :: k' => by
    rw [List.map_cons, List.map_cons, PyData.eqvAll, kD_eqv, kT_eqvAll k k']
    by_cases h1 : a = b <;> by_cases h2 : k = k' <;> simp [h1, h2]
theorem kT_eqv (k k' : List Key) : PyData.eqv (kT k) (kT k') = decide (k = k') := by
  unfold kT; rw [PyData.eqv]; exact kT_eqvAll k k'
theorem allK_keys : ∀ {ds : List PyData}, ds.all isK = true → ∃ ks : List Key, ds = ks.map kD
  | [], _ => ⟨[], rfl⟩
  | d :: ds, h => by
    rw [List.all_cons, Bool.and_eq_true] at h
    obtain ⟨k, rfl⟩ := isK_key h.1
    obtain ⟨ks, rfl⟩ := allK_keys h.2
    exact ⟨k :: ks, rfl⟩
theorem isKT_key {d : PyData} (h : isKT d = true) : ∃ ks, d = kT ks ∧ ks.length ≠ 1 := by
  cases d with
  | tuple ds =>
    have h' := Bool.and_eq_true_iff.mp (show (ds.all isK && ds.length != 1) = true from h)
    obtain ⟨ks, rfl⟩ := allK_keys h'.1
    refine ⟨ks, rfl, ?_⟩
    have h2 := h'.2
    rw [List.length_map] at h2
    simpa using h2
  | _ => cases h
theorem RpA.keys {K : PySem.W.Frag} {B : Hp} : ∀ {ks : List Key} {vs : List V}, RpA K B vs (ks.map kD) → vs = ks.map kV
  | [], _, h => by cases h; rfl
  | k :: ks, _, h => by
    cases h with
    | cons h r =>
      rw [RpA.keys r]
      have : _ = kV k := Pk.key (H := B) (.val h)
      rw [this]; rfl
theorem RpT.get {K : PySem.W.Frag} {B : Hp} : ∀ {kvs : List (List Key × V)} {ds : List (PyData × PyData)}, RpT K B kvs ds → ∀ k, (match dget ds (kT k) with | some d => ∃ v, valV kvs k = some v ∧ Rp K B v d | none => valV kvs k = none)
  | _, _, .nil, k => rfl
  | _, _, .cons (k := k0) (v := v) (vs := vs) (d := d) (ds := ds) h r, k => by
    have ih := RpT.get r k
    unfold dget valV at ih ⊢
    rw [List.find?_cons, List.find?_cons, show PyData.eqv (PyData.tuple (List.map kD k0)) (kT k) = _ from kT_eqv k0 k]
    cases e : decide (k0 = k) with
    | true => exact ⟨v, rfl, h⟩
    | false => exact ih
theorem RpT.any {K : PySem.W.Frag} {B : Hp} : ∀ {kvs : List (List Key × V)} {ds : List (PyData × PyData)}, RpT K B kvs ds → ∀ k, (ds.any fun kv => PyData.eqv kv.1 (kT k)) = kvs.any fun kv => decide (kv.1 = k)
  | _, _, .nil, k => rfl
  | _, _, .cons (k := k0) h r, k => by rw [List.any_cons, List.any_cons, show PyData.eqv (PyData.tuple (List.map kD k0)) (kT k) = _ from kT_eqv k0 k, RpT.any r k]
theorem RpT.app {K : PySem.W.Frag} {B : Hp} : ∀ {kvs : List (List Key × V)} {ds : List (PyData × PyData)} {kvs' : List (List Key × V)} {ds' : List (PyData × PyData)}, RpT K B kvs ds → RpT K B kvs' ds' → RpT K B (kvs ++ kvs') (ds ++ ds')
  | _, _, _, _, .nil, r => r
  | _, _, _, _, .cons h r, r' => .cons h (RpT.app r r')
theorem RpT.map {K : PySem.W.Frag} {B : Hp} {k : List Key} {v : V} {d : PyData} (hv : Rp K B v d) : ∀ {kvs : List (List Key × V)} {ds : List (PyData × PyData)}, RpT K B kvs ds →
    RpT K B (kvs.map fun kv => if kv.1 = k then (kv.1, v) else kv) (ds.map fun kv => if PyData.eqv kv.1 (kT k) = true then (kv.1, d) else kv)
  | _, _, .nil => .nil
  | _, _, .cons (k := k0) h r => by
    rw [List.map_cons, List.map_cons, show PyData.eqv (PyData.tuple (List.map kD k0)) (kT k) = _ from kT_eqv k0 k]
    by_cases e : k0 = k
    · simp only [e, decide_true, if_true]
      exact .cons hv (RpT.map hv r)
    · simp only [e, decide_false, if_false]
      exact .cons h (RpT.map hv r)
theorem RpT.put {K : PySem.W.Frag} {B : Hp} {k : List Key} {v : V} {d : PyData} {kvs : List (List Key × V)} {ds : List (PyData × PyData)} (r : RpT K B kvs ds) (hv : Rp K B v d) : RpT K B (putK kvs k v) (dput ds (kT k) d) := by
  unfold putK dput
  rw [r.any k]
  split
  · exact r.map hv
  · exact r.app (.cons hv .nil)
theorem RpT.length {K : PySem.W.Frag} {B : Hp} : ∀ {kvs : List (List Key × V)} {ds : List (PyData × PyData)}, RpT K B kvs ds → kvs.length = ds.length
  | _, _, .nil => rfl
  | _, _, .cons _ r => by simp [RpT.length r]
end PL

namespace PL
open PySem PySem.Spec PyProof.Rows L2 TL

/-! ### in, not in -/
theorem Pk.dgetK {K : PySem.W.Frag} {B H : Hp} {x : V} {y : V} {ds : List (PyData × PyData)} {a : PyData} (e : Ext B H) (hy : Pk K B H y (.dict ds)) (hx : Pk K B H x a) (ht : isT ds = false) (hk : isK a = true) :
    ∃ p r, y = .ref p ∧ DGet H p x r ∧ (match dget ds a with | some d => ∃ v, r = some v ∧ Rp K B v d | none => r = none) := by
  obtain ⟨k, rfl⟩ := isK_key hk
  obtain rfl := hx.key
  obtain ⟨p, rfl, h⟩ := hy.dict e
  rcases h with ⟨kvs, h1, h2⟩ | ⟨kvs, ds', rfl, _⟩
  · exact ⟨p, valV kvs k, rfl, .inl ⟨kvs, k, h1, rfl, rfl⟩, h2.get k⟩
  · cases ht
theorem Pk.dgetT {K : PySem.W.Frag} {B H : Hp} {x : V} {y : V} {ds : List (PyData × PyData)} {a : PyData} (e : Ext B H) (hy : Pk K B H y (.dict ds)) (hx : Pk K B H x a) (ht : isT ds = true) (hk : isKT a = true) :
    ∃ p r, y = .ref p ∧ DGet H p x r ∧ (match dget ds a with | some d => ∃ v, r = some v ∧ Rp K B v d | none => r = none) := by
  obtain ⟨k, rfl, hl⟩ := isKT_key hk
  obtain ⟨q, xs, rfl, hq, _, r⟩ := hx.tupleT e (by rw [List.length_map]; exact hl)
  have ex := r.keys
  subst ex
  obtain ⟨p, rfl, h⟩ := hy.dict e
  rcases h with ⟨kvs, h1, h2⟩ | ⟨kvs, ds', rfl, h1, h2⟩
  · rw [h2.notT] at ht; cases ht
  · refine ⟨p, valV kvs k, rfl, .inr ⟨kvs, k, q, h1, rfl, hq, rfl⟩, ?_⟩
    have := h2.get k
    unfold dget at this ⊢
    rw [List.find?_cons, show PyData.eqv (PyData.none) (kT k) = false from rfl]
    exact this
theorem Pk.dgetA {K : PySem.W.Frag} {B H : Hp} {x : V} {y : V} {ds : List (PyData × PyData)} {a : PyData} (e : Ext B H) (hy : Pk K B H y (.dict ds)) (hx : Pk K B H x a) (hk : (if isT ds = true then isKT a else isK a) = true) :
    ∃ p r, y = .ref p ∧ DGet H p x r ∧ (match dget ds a with | some d => ∃ v, r = some v ∧ Rp K B v d | none => r = none) := by
  cases ht : isT ds with
  | true => rw [ht, if_pos rfl] at hk; exact hy.dgetT e hx ht hk
  | false => rw [ht] at hk; exact hy.dgetK e hx ht hk
/-- a key that fits the dict -/
def okKey (ds : List (PyData × PyData)) (a : PyData) : Prop := (if isT ds = true then isKT a else isK a) = true
def inAns (a : PyData) : PyData → (Bool → Prop) → Prop
  | .dict ds, k => okKey ds a ∧ k (dget ds a).isSome
  | .list ds, k => (SeqAt.shaped a = true ∧ SeqAt.shaped (.list ds) = true) ∧ k (ds.any fun z => PyData.eqv z a)
  | .tuple ds, k => (isSc a = true ∧ ds.all isSc = true) ∧ k (ds.any fun z => PyData.eqv z a)
  | .str y, k => match a with
    | .str x => ∃ c, x = S [c] ∧ k (decide (c ∈ y.cps.toList))
    | _ => False
  | _, _ => False
def opIn : Op2 := fun a b k => inAns a b fun r => k (.val (.bool r))
def opNotIn : Op2 := fun a b k => inAns a b fun r => k (.val (.bool (!r)))
def rInDict : R2 := fun y x H Q => ∃ a o, x = .ref a ∧ DGet H a y o ∧ Q (.bl o.isSome) H
def rNotInDict : R2 := fun y x H Q => ∃ a o, x = .ref a ∧ DGet H a y o ∧ Q (.bl (!o.isSome)) H
theorem op_inDict {X : Cx} (hu : X.A.units + 1 < cLine) : OpR X (compareOp .In) rInDict := by
  intro pins s σ H x y v u Q I rx ry h
  obtain ⟨a, o, rfl, g, q⟩ := h
  obtain rfl : u = Value.ref a := ry
  exact d_in hu I g rx fun s3 I3 => ⟨.bl o.isSome, H, I3, rfl, q⟩
theorem op_notInDict {X : Cx} (hu : X.A.units + 1 < cLine) : OpR X (compareOp .NotIn) rNotInDict := by
  intro pins s σ H x y v u Q I rx ry h
  obtain ⟨a, o, rfl, g, q⟩ := h
  obtain rfl : u = Value.ref a := ry
  exact d_notIn hu I g rx fun s3 I3 => ⟨.bl (!o.isSome), H, I3, rfl, q⟩
theorem sc_eqV {K : PySem.W.Frag} {B H : Hp} {x y : V} {a b : PyData} (hx : Pk K B H x a) (hy : Pk K B H y b) (sa : isSc a = true) (sb : isSc b = true) : eqV x y = PyData.eqv a b := by
  cases a with
  | none => obtain rfl := hx.non; cases b with
    | none => obtain rfl := hy.non; rfl
    | bool _ => obtain rfl := hy.bl; rfl
    | int _ => obtain rfl := hy.int; rfl
    | str _ => obtain rfl := hy.str; rfl
    | _ => cases sb
  | bool i => obtain rfl := hx.bl; cases b with
    | none => obtain rfl := hy.non; rfl
    | bool _ => obtain rfl := hy.bl; simp [eqV, PyData.eqv]
    | int _ => obtain rfl := hy.int; simp [eqV, PyData.eqv]
    | str _ => obtain rfl := hy.str; rfl
    | _ => cases sb
  | int i => obtain rfl := hx.int; cases b with
    | none => obtain rfl := hy.non; rfl
    | bool _ => obtain rfl := hy.bl; simp [eqV, PyData.eqv]
    | int _ => obtain rfl := hy.int; simp [eqV, PyData.eqv]
    | str _ => obtain rfl := hy.str; rfl
    | _ => cases sb
  | str i => obtain rfl := hx.str; cases b with
    | none => obtain rfl := hy.non; rfl
    | bool _ => obtain rfl := hy.bl; rfl
    | int _ => obtain rfl := hy.int; rfl
    | str _ => obtain rfl := hy.str; simp [eqV, PyData.eqv]
    | _ => cases sb
  | _ => cases sa
theorem RpA.flat {K : PySem.W.Frag} {B : Hp} : ∀ {vs : List V} {ds : List PyData}, RpA K B vs ds → ds.all isSc = true → vs.all flatV = true
  | _, _, .nil, _ => rfl
  | _, _, .cons h r, s => by
    rw [List.all_cons, Bool.and_eq_true] at s
    rw [List.all_cons, Pk.flat (H := B) (.val h) s.1, RpA.flat r s.2]; rfl
theorem RpA.inV {K : PySem.W.Frag} {B H : Hp} {x : V} {a : PyData} (hx : Pk K B H x a) (sa : isSc a = true) : ∀ {vs : List V} {ds : List PyData}, RpA K B vs ds → ds.all isSc = true → inV x vs = ds.any fun z => PyData.eqv z a
  | _, _, .nil, _ => rfl
  | _, _, .cons h r, s => by
    rw [List.all_cons, Bool.and_eq_true] at s
    have ih := RpA.inV hx sa r s.2
    unfold L2.inV at ih ⊢
    rw [List.any_cons, List.any_cons, ih, sc_eqV (.val h) hx s.1 sa]
theorem os_in {X : Cx} (hu : X.A.units + 65 < cLine) : OpS X (compareOp .In) opIn := by
  refine ⟨_, OpR.or (op_inDict (by omega)) (OpR.or (op_inD hu) (OpR.or op_in_seq op_in_sign)), fun B H x y a b k Q e hx hy h q => ?_⟩
  cases b <;> first | exact (show False from h).elim | skip
  · rename_i z
    cases a <;> first | exact (show False from h).elim | skip
    obtain ⟨c, rfl, h⟩ := h
    obtain rfl := hx.str
    obtain rfl := hy.str
    exact .inr (.inr (.inr ⟨c, z, rfl, rfl, q _ _ (outVal (.bl _) h)⟩))
  · rename_i ds
    obtain ⟨⟨h1, h2⟩, h3⟩ := h
    exact .inr (.inl ⟨a, ds, hx.dp e (SeqAt.canLay_of_shaped h1), hy.dp e (SeqAt.canLay_of_shaped h2), h1, h2, q _ _ (outVal (.bl _) h3)⟩)
  · rename_i ds
    obtain ⟨⟨h1, h2⟩, h3⟩ := h
    obtain ⟨p, xs, rfl, hp, r, _⟩ := hy.tuple e
    refine .inr (.inr (.inl ⟨p, xs, rfl, .inr hp, hx.flat h1, r.flat h2, ?_⟩))
    rw [r.inV hx h1 h2]
    exact q _ _ (outVal (.bl _) h3)
  · rename_i ds
    obtain ⟨h1, h2⟩ := h
    obtain ⟨p, r, rfl, g, m⟩ := hy.dgetA e hx h1
    refine .inl ⟨p, r, rfl, g, ?_⟩
    have : r.isSome = (dget ds a).isSome := by
      cases z : dget ds a with
      | none => rw [z] at m; rw [m]; rfl
      | some d => rw [z] at m; obtain ⟨v, rfl, _⟩ := m; rfl
    rw [this]
    exact q _ _ (outVal (.bl _) h2)
theorem os_notIn {X : Cx} (hu : X.A.units + 65 < cLine) : OpS X (compareOp .NotIn) opNotIn := by
  refine ⟨_, OpR.or (op_notInDict (by omega)) (OpR.or (op_notInD hu) (OpR.or op_notIn_seq op_notIn_sign)), fun B H x y a b k Q e hx hy h q => ?_⟩
  cases b <;> first | exact (show False from h).elim | skip
  · rename_i z
    cases a <;> first | exact (show False from h).elim | skip
    obtain ⟨c, rfl, h⟩ := h
    obtain rfl := hx.str
    obtain rfl := hy.str
    exact .inr (.inr (.inr ⟨c, z, rfl, rfl, q _ _ (outVal (.bl _) h)⟩))
  · rename_i ds
    obtain ⟨⟨h1, h2⟩, h3⟩ := h
    exact .inr (.inl ⟨a, ds, hx.dp e (SeqAt.canLay_of_shaped h1), hy.dp e (SeqAt.canLay_of_shaped h2), h1, h2, q _ _ (outVal (.bl _) h3)⟩)
  · rename_i ds
    obtain ⟨⟨h1, h2⟩, h3⟩ := h
    obtain ⟨p, xs, rfl, hp, r, _⟩ := hy.tuple e
    refine .inr (.inr (.inl ⟨p, xs, rfl, .inr hp, hx.flat h1, r.flat h2, ?_⟩))
    rw [r.inV hx h1 h2]
    exact q _ _ (outVal (.bl _) h3)
  · rename_i ds
    obtain ⟨h1, h2⟩ := h
    obtain ⟨p, r, rfl, g, m⟩ := hy.dgetA e hx h1
    refine .inl ⟨p, r, rfl, g, ?_⟩
    have : r.isSome = (dget ds a).isSome := by
      cases z : dget ds a with
      | none => rw [z] at m; rw [m]; rfl
      | some d => rw [z] at m; obtain ⟨v, rfl, _⟩ := m; rfl
    rw [this]
    exact q _ _ (outVal (.bl _) h2)

/-! ### subscripts -/
theorem atI_len {α β : Type} {xs : List α} {ys : List β} (h : xs.length = ys.length) {i : Int} {y : β} (e : atI ys i = some y) : ∃ j : Nat, ys[j]? = some y ∧ ∀ x, xs[j]? = some x → atI xs i = some x := by
  unfold atI at e ⊢
  rw [h]
  cases z : ixN ys.length i with
  | none => rw [z] at e; cases e
  | some j => rw [z] at e; exact ⟨j, e, fun x hx => hx⟩
theorem RpA.atI {K : PySem.W.Frag} {B : Hp} {vs : List V} {ds : List PyData} (r : RpA K B vs ds) {i : Int} {d : PyData} (e : L2.atI ds i = some d) : ∃ v, L2.atI vs i = some v ∧ Rp K B v d := by
  obtain ⟨j, hj, f⟩ := atI_len r.length e
  obtain ⟨v, hv, rv⟩ := r.get hj
  exact ⟨v, f v hv, rv⟩
def opIx : Op2
  | .list ds, .int i, k => ∃ d, atI ds i = some d ∧ k (.val d)
  | .tuple ds, .int i, k => ∃ d, atI ds i = some d ∧ k (.val d)
  | .str z, .int i, k => z.length ≤ sizeLine ∧ ∃ c, atI z.cps.toList i = some c ∧ k (.val (.str (S [c])))
  | .dict ds, a, k => okKey ds a ∧ ∃ d, dget ds a = some d ∧ k (.val d)
  | _, _, _ => False
def rIxDict : R2 := fun x y H Q => ∃ a v, x = .ref a ∧ DGet H a y (some v) ∧ Q v H
theorem ix_dict {X : Cx} (hu : X.A.units + 1 < cLine) : IxR X rIxDict := by
  intro value slice pins s σ H x y v u Q I rx ry h hs
  obtain ⟨a, w, rfl, g, q⟩ := h
  obtain rfl : v = Value.ref a := rx
  exact tail_any (dict_typeIs I g) PySem.F.slot_dict_getitem.lookup (d_getItem hu I g ry fun w' s3 I3 rw' => ⟨w, H, I3, rw', q⟩) hs
theorem is_ix {X : Cx} (hu : X.A.units + 1 < cLine) : IxS X opIx := by
  refine ⟨_, IxR.or ix_seq (ix_dict hu), fun B H x y a b k Q e hx hy h q => ?_⟩
  cases a <;> first | exact (show False from h).elim | skip
  · cases b <;> first | exact (show False from h).elim | skip
    obtain ⟨h1, c, h2, h3⟩ := h
    obtain rfl := hx.str
    obtain rfl := hy.int
    exact .inl (.inr (.inr ⟨_, _, c, rfl, rfl, h1, h2, q _ _ (outVal (.str _) h3)⟩))
  · cases b <;> first | exact (show False from h).elim | skip
    obtain ⟨d, h1, h2⟩ := h
    obtain ⟨p, xs, rfl, hp, r⟩ := hx.list e
    obtain rfl := hy.int
    obtain ⟨v, hv, rv⟩ := r.atI h1
    exact .inl (.inl ⟨p, xs, _, v, rfl, rfl, SqL.of hp, hv, q _ _ (outVal rv h2)⟩)
  · cases b <;> first | exact (show False from h).elim | skip
    obtain ⟨d, h1, h2⟩ := h
    obtain ⟨p, xs, rfl, hp, r, _⟩ := hx.tuple e
    obtain rfl := hy.int
    obtain ⟨v, hv, rv⟩ := r.atI h1
    exact .inl (.inr (.inl ⟨p, xs, _, v, rfl, rfl, hp, hv, q _ _ (outVal rv h2)⟩))
  · rename_i ds
    have h' : okKey ds b ∧ ∃ d, dget ds b = some d ∧ k (.val d) := by cases b <;> exact h
    obtain ⟨h1, d, h2, h3⟩ := h'
    obtain ⟨p, r, rfl, g, m⟩ := hx.dgetA e hy h1
    rw [h2] at m
    obtain ⟨v, rfl, rv⟩ := m
    exact .inr ⟨p, v, rfl, g, q _ _ (outVal rv h3)⟩

/-! ### expressions -/
section
variable {X : Cx} {xw : XW} {pos : Pos}
def wC (d : PyData) : WE := fun env _ k => k (.val d) env
theorem pp_c {e : Expr} {v : V} {d : PyData} (h : PE X e (tC v)) (r : ∀ B, Rp X.K B v d) : PPE X xw e (wC d) := fun C => pe_imp h fun σ H Q ⟨B, env, ex, k, A, hk, xo, kq⟩ => kq (.val d) env v H B (Ext.refl B) A (r B) hk
theorem pp_int {i j} : PPE X xw (.Constant (.int i) j pos) (wC (.int i)) := pp_c pe_int fun _ => .int i
theorem pp_bl {i j} : PPE X xw (.Constant (.bool i) j pos) (wC (.bool i)) := pp_c pe_bl fun _ => .bl i
theorem pp_non {j} : PPE X xw (.Constant .none j pos) (wC .none) := pp_c pe_non fun _ => .non
theorem pp_str {x j} (l : List Nat) (h : x = S l) : PPE X xw (.Constant (.str x) j pos) (wC (.str (S l))) := by
  subst h; exact pp_c pe_str fun _ => .str _
/-- a name, read as a value -/
def wN (i : Nat) : WE := fun env _ k => match env[i]? with
  | some (some (.val d)) => k (.val d) env
  | some (some (.own d)) => k (.val d) (env.set i (some (.val d)))
  | some (some .dr) => k (.drv i) env
  | _ => False
theorem pp_n {i : Nat} {x : Str} (h : PE X (.Name x pos) (tVar i)) : PPE X xw (.Name x pos) (wN i) := fun C => pe_imp h fun σ H Q ⟨B, env, ex, k, A, hk, xo, kq⟩ => by
  unfold wN at hk
  cases he : env[i]? with
  | none => rw [he] at hk; exact hk.elim
  | some o =>
    rw [he] at hk
    cases o with
    | none => exact hk.elim
    | some r =>
      cases r with
      | val d =>
        obtain ⟨v, hv, v', e1, rv⟩ := A.slot he
        cases e1
        exact ⟨v, hv, kq (.val d) env v H B (Ext.refl B) A rv hk⟩
      | own d =>
        obtain ⟨v, B', hv, ex', A', rv⟩ := A.unown he
        exact ⟨v, hv, kq (.val d) _ v H B' ex' A' rv hk⟩
      | dr =>
        obtain ⟨v, hv, p, e1, _⟩ := A.slot he
        cases e1
        exact ⟨_, hv, kq (.drv i) env _ H B (Ext.refl B) A ⟨p, rfl, hv⟩ hk⟩
      | ndr => exact hk.elim
      | drv _ => exact hk.elim

/-! ### operands -/
abbrev Rd1 := EnvP → (PyData → Prop) → Prop
abbrev WO := EnvP → EX → (Rd1 → EnvP → Prop) → Prop
def RdOk (K : PySem.W.Frag) (C : PC) (σ : L2.St) (v : V) (rd : Rd1) (B : Hp) : Prop := ∀ B2 H2 e2 q, Ext B B2 → Abs K C B2 σ H2 e2 → rd e2 q → ∃ d, Pk K B2 H2 v d ∧ q d
theorem RdOk.ext {K : PySem.W.Frag} {C : PC} {σ : L2.St} {v : V} {rd : Rd1} {B B' : Hp} (h : RdOk K C σ v rd B) (e : Ext B B') : RdOk K C σ v rd B' := fun B2 H2 e2 q x A r => h B2 H2 e2 q (e.trans x) A r
def liftO (K : PySem.W.Frag) (xw : XW) (C : PC) (f : WO) : TE := fun σ H Q => ∃ B env ex k, Abs K C B σ H env ∧ f env ex k ∧ XOk K xw C σ ex ∧
  ∀ rd env' v H' B', Ext B B' → Abs K C B' σ H' env' → RdOk K C σ v rd B' → k rd env' → Q v H'
def PPO (X : Cx) (xw : XW) (e : Expr) (f : WO) : Prop := ∀ C, PE X e (liftO X.K xw C f)
def wO (f : WE) : WO := fun env ex k => f env ex fun r e1 => r.vv fun a => k (fun _ q => q a) e1
def rdN (i : Nat) : Rd1 := fun env q => match env[i]? with
  | some (some (.val d)) => q d
  | some (some (.own d)) => q d
  | _ => False
/-- a name that is only looked at -/
def wL (i : Nat) : WO := fun env _ k => (match env[i]? with
  | some (some (.val _)) => True
  | some (some (.own _)) => True
  | _ => False) ∧ k (rdN i) env
theorem po_e {e : Expr} {f : WE} (h : PPE X xw e f) : PPO X xw e (wO f) := fun C => pe_imp (h C) fun σ H Q ⟨B, env, ex, k, A, hk, xo, kq⟩ => by
  refine ⟨B, env, ex, _, A, hk, xo, fun r env' v H' B' e' A' R' h' => ?_⟩
  obtain ⟨B2, a, e2, A2, ra, h2⟩ := use A' R' h'
  exact kq _ env' v H' B2 (e'.trans e2) A2 (fun B3 H3 e3 q x A3 hq => ⟨a, .val (ra.ext x), hq⟩) h2
theorem po_n {i : Nat} {x : Str} (h : PE X (.Name x pos) (tVar i)) : PPO X xw (.Name x pos) (wL i) := fun C => pe_imp h fun σ H Q ⟨B, env, ex, k, A, hk, xo, kq⟩ => by
  obtain ⟨h1, hk⟩ := hk
  have : ∃ v, σ[i]? = some (some v) := by
    cases he : env[i]? with
    | none => rw [he] at h1; exact h1.elim
    | some o => cases o with
      | none => rw [he] at h1; exact h1.elim
      | some r => cases r with
        | val d => obtain ⟨v, hv, _⟩ := A.slot he; exact ⟨v, hv⟩
        | own d => obtain ⟨v, hv, _⟩ := A.slot he; exact ⟨v, hv⟩
        | dr => rw [he] at h1; exact h1.elim
        | ndr => rw [he] at h1; exact h1.elim
        | drv _ => rw [he] at h1; exact h1.elim
  obtain ⟨v, hv⟩ := this
  refine ⟨v, hv, kq _ env v H B (Ext.refl B) A (fun B2 H2 e2 q _ A2 hq => ?_) hk⟩
  unfold rdN at hq
  cases he : e2[i]? with
  | none => rw [he] at hq; exact hq.elim
  | some o => cases o with
    | none => rw [he] at hq; exact hq.elim
    | some r =>
      rw [he] at hq
      cases r with
      | val d =>
        obtain ⟨v', hv', v2, ev, rv⟩ := A2.slot he
        rw [hv] at hv'; cases hv'; cases ev
        exact ⟨d, .val rv, hq⟩
      | own d =>
        obtain ⟨v', hv', p, ev, rv, _⟩ := A2.slot he
        rw [hv] at hv'; cases hv'; cases ev
        exact ⟨d, .own rv, hq⟩
      | dr => exact hq.elim
      | ndr => exact hq.elim
      | drv _ => exact hq.elim

/-- a two-place operation -/
def wB (op : Op2) (fa fb : WO) : WE := fun env ex k => fa env ex fun ra e1 => fb e1 ex fun rb e2 => ra e2 fun a => rb e2 fun b => op a b fun r => k r e2
theorem wB_imp {C : PC} {op : Op2} {fa fb : WO} {r : R2} (h : ∀ B H x y a b k Q, Ext B H → Pk X.K B H x a → Pk X.K B H y b → op a b k → (∀ v H', Out X.K B H k v H' → Q v H') → r x y H Q) :
    ∀ σ H Q, lift X.K xw C (wB op fa fb) σ H Q → tOp r (liftO X.K xw C fa) (liftO X.K xw C fb) σ H Q := fun σ H Q ⟨B, env, ex, k, A, hk, xo, kq⟩ => by
  refine ⟨B, env, ex, _, A, hk, xo, fun ra e1 v H1 B1 x1 A1 R1 h1 => ?_⟩
  refine ⟨B1, e1, ex, _, A1, h1, xo, fun rb e2 u H2 B2 x2 A2 R2 h2 => ?_⟩
  obtain ⟨a, pa, h3⟩ := R1 B2 H2 e2 _ x2 A2 h2
  obtain ⟨b, pb, h4⟩ := R2 B2 H2 e2 _ (Ext.refl B2) A2 h3
  refine h B2 H2 v u a b _ Q A2.fr.sub pa pb h4 fun w H3 o => ?_
  obtain ⟨B3, r3, x3, A3, R3, q3⟩ := Out.abs A2 o
  exact kq r3 e2 w H3 B3 (x1.trans (x2.trans x3)) A3 R3 q3
theorem pp_bin {a b : Expr} {op : Operator} {o : Op2} {fa fb : WO} (ho : OpS X (binaryOp op) o) (ha : PPO X xw a fa) (hb : PPO X xw b fb) : PPE X xw (.BinOp a op b pos) (wB o fa fb) := by
  obtain ⟨r, h1, h2⟩ := ho.ex
  exact fun C => pe_imp (pe_op h1 (ha C) (hb C)) (wB_imp h2)
theorem pp_cmp {a b : Expr} {op : CmpOp} {o : Op2} {fa fb : WO} (ho : OpS X (compareOp op) o) (ha : PPO X xw a fa) (hb : PPO X xw b fb) (hm : behindInMarks op b = false) : PPE X xw (.Compare a [op] [b] pos) (wB o fa fb) := by
  obtain ⟨r, h1, h2⟩ := ho.ex
  exact fun C => pe_imp (pe_cmpR h1 (ha C) (hb C) hm) (wB_imp h2)
theorem pp_ix {a b : Expr} {o : Op2} {fa fb : WO} (ho : IxS X o) (ha : PPO X xw a fa) (hb : PPO X xw b fb) (hs : PlainIx b) : PPE X xw (.Subscript a b pos) (wB o fa fb) := by
  obtain ⟨r, h1, h2⟩ := ho.ex
  exact fun C => pe_imp (pe_ix h1 (ha C) (hb C) hs) (wB_imp h2)
/-- - e -/
def wNeg (f : WO) : WE := fun env ex k => f env ex fun ra e1 => ra e1 fun a => match a with
  | .int i => k (.val (.int (-i))) e1
  | _ => False
theorem pp_neg {a : Expr} {f : WO} (ha : PPO X xw a f) : PPE X xw (.UnaryOp .USub a pos) (wNeg f) := fun C => pe_imp (pe_un un_neg (ha C)) fun σ H Q ⟨B, env, ex, k, A, hk, xo, kq⟩ => by
  refine ⟨B, env, ex, _, A, hk, xo, fun ra e1 v H1 B1 x1 A1 R1 h1 => ?_⟩
  obtain ⟨a, pa, h3⟩ := R1 B1 H1 e1 _ (Ext.refl B1) A1 h1
  cases a <;> first | exact h3.elim | skip
  obtain rfl := pa.int
  exact ⟨_, rfl, kq (.val (.int _)) e1 _ H1 B1 x1 A1 (Rp.int _) h3⟩

/-! ### tests -/
/-- a value that is True or False, as a test -/
def wTe (f : WE) : WT := fun env ex k => f env ex fun r e1 => match r with
  | .val (.bool b) => k b e1
  | _ => False
theorem pt_e {e : Expr} {f : WE} (h : PPE X xw e f) (he : ∀ whole, isTrue e X.env whole = (do let v ← whole; standAt e.pos; holding [v] (truthy v)) := by intro _; rfl) : PPT X xw e (wTe f) := fun C =>
  pt_imp (pt_val (h C) he) fun σ H Q ⟨B, env, ex, k, A, hk, xo, kq⟩ => by
    refine ⟨B, env, ex, _, A, hk, xo, fun r e1 v H1 B1 x1 A1 R1 h1 => ?_⟩
    cases r with
    | val d =>
      cases d with
      | bool b =>
        cases R1
        exact ⟨b, rfl, kq b e1 H1 B1 x1 A1 h1⟩
      | _ => exact h1.elim
    | _ => exact h1.elim
theorem pt_cmp {a b : Expr} {op : CmpOp} {o : Op2} {fa fb : WO} (ho : OpS X (compareOp op) o) (ha : PPO X xw a fa) (hb : PPO X xw b fb) (hm : behindInMarks op b = false) : PPT X xw (.Compare a [op] [b] pos) (wTe (wB o fa fb)) := by
  obtain ⟨r, h1, h2⟩ := ho.ex
  refine fun C => pt_imp (pt_cmpR h1 (ha C) (hb C) hm) fun σ H Q ⟨B, env, ex, k, A, hk, xo, kq⟩ => ?_
  refine wB_imp h2 σ H _ ⟨B, env, ex, _, A, hk, xo, fun r e1 v H1 B1 x1 A1 R1 h1 => ?_⟩
  cases r with
  | val d =>
    cases d with
    | bool b =>
      cases R1
      exact ⟨b, rfl, kq b e1 H1 B1 x1 A1 h1⟩
    | _ => exact h1.elim
  | _ => exact h1.elim
def wTAnd (f g : WT) : WT := fun env ex k => f env ex fun b e1 => if b = true then g e1 ex k else k false e1
def wTOr (f g : WT) : WT := fun env ex k => f env ex fun b e1 => if b = true then k true e1 else g e1 ex k
def wTNot (f : WT) : WT := fun env ex k => f env ex fun b e1 => k (!b) e1
theorem pw_andP {a b : Expr} {rest : List Expr} {f g : WT} (ha : PPT X xw a f) (hb : PPW X xw (.BoolOp .And (b :: rest) pos) g) : PPW X xw (.BoolOp .And (a :: b :: rest) pos) (wTAnd f g) := fun C =>
  pw_imp (pw_and (ha C) (hb C)) fun σ H Q ⟨B, env, ex, k, A, hk, xo, kq⟩ => by
    refine ⟨B, env, ex, _, A, hk, xo, fun b e1 H1 B1 x1 A1 h1 => ?_⟩
    cases b with
    | true => exact ⟨B1, e1, ex, k, A1, h1, xo, fun b e2 H2 B2 x2 A2 h2 => kq b e2 H2 B2 (x1.trans x2) A2 h2⟩
    | false => exact kq false e1 H1 B1 x1 A1 h1
theorem pw_orP {a b : Expr} {rest : List Expr} {f g : WT} (ha : PPT X xw a f) (hb : PPW X xw (.BoolOp .Or (b :: rest) pos) g) : PPW X xw (.BoolOp .Or (a :: b :: rest) pos) (wTOr f g) := fun C =>
  pw_imp (pw_or (ha C) (hb C)) fun σ H Q ⟨B, env, ex, k, A, hk, xo, kq⟩ => by
    refine ⟨B, env, ex, _, A, hk, xo, fun b e1 H1 B1 x1 A1 h1 => ?_⟩
    cases b with
    | true => exact kq true e1 H1 B1 x1 A1 h1
    | false => exact ⟨B1, e1, ex, k, A1, h1, xo, fun b e2 H2 B2 x2 A2 h2 => kq b e2 H2 B2 (x1.trans x2) A2 h2⟩
theorem pw_and1P {a : Expr} {f : WT} (ha : PPT X xw a f) : PPW X xw (.BoolOp .And [a] pos) f := fun C => pw_and1 (ha C)
theorem pw_or1P {a : Expr} {f : WT} (ha : PPT X xw a f) : PPW X xw (.BoolOp .Or [a] pos) f := fun C => pw_or1 (ha C)
theorem pt_w {e : Expr} {f : WT} (h : PPW X xw e f) : PPT X xw e f := fun C => PW.pt (h C)
theorem pt_notP {a : Expr} {f : WT} (ha : PPT X xw a f) : PPT X xw (.UnaryOp .Not a pos) (wTNot f) := fun C =>
  pt_imp (pt_not (ha C)) fun σ H Q ⟨B, env, ex, k, A, hk, xo, kq⟩ => ⟨B, env, ex, _, A, hk, xo, fun b e1 H1 B1 x1 A1 h1 => kq (!b) e1 H1 B1 x1 A1 h1⟩
/-- and, or, not as values (True or False) -/
def wAnd (f g : WE) : WE := fun env ex k => f env ex fun r e1 => match r with
  | .val (.bool b) => if b = true then g e1 ex k else k (.val (.bool false)) e1
  | _ => False
def wOr (f g : WE) : WE := fun env ex k => f env ex fun r e1 => match r with
  | .val (.bool b) => if b = true then k (.val (.bool true)) e1 else g e1 ex k
  | _ => False
def wNot (f : WE) : WE := fun env ex k => f env ex fun r e1 => match r with
  | .val (.bool b) => k (.val (.bool (!b))) e1
  | _ => False
theorem pp_one {op} {a : Expr} {f : WE} (h : PPE X xw a f) : PPE X xw (.BoolOp op [a] pos) f := fun C => pe_one (h C)
theorem pp_and {a b : Expr} {rest : List Expr} {f g : WE} (ha : PPE X xw a f) (hb : PPE X xw (.BoolOp .And (b :: rest) pos) g) : PPE X xw (.BoolOp .And (a :: b :: rest) pos) (wAnd f g) := fun C =>
  pe_imp (pe_and (ha C) (hb C)) fun σ H Q ⟨B, env, ex, k, A, hk, xo, kq⟩ => by
    refine ⟨B, env, ex, _, A, hk, xo, fun r e1 v H1 B1 x1 A1 R1 h1 => ?_⟩
    cases r with
    | val d =>
      cases d with
      | bool b =>
        cases R1
        refine ⟨b, rfl, ?_⟩
        cases b with
        | true => exact ⟨B1, e1, ex, k, A1, h1, xo, fun b e2 v H2 B2 x2 A2 h2 => kq b e2 v H2 B2 (x1.trans x2) A2 h2⟩
        | false => exact kq (.val (.bool false)) e1 _ H1 B1 x1 A1 (Rp.bl _) h1
      | _ => exact h1.elim
    | _ => exact h1.elim
theorem pp_or {a b : Expr} {rest : List Expr} {f g : WE} (ha : PPE X xw a f) (hb : PPE X xw (.BoolOp .Or (b :: rest) pos) g) : PPE X xw (.BoolOp .Or (a :: b :: rest) pos) (wOr f g) := fun C =>
  pe_imp (pe_or (ha C) (hb C)) fun σ H Q ⟨B, env, ex, k, A, hk, xo, kq⟩ => by
    refine ⟨B, env, ex, _, A, hk, xo, fun r e1 v H1 B1 x1 A1 R1 h1 => ?_⟩
    cases r with
    | val d =>
      cases d with
      | bool b =>
        cases R1
        refine ⟨b, rfl, ?_⟩
        cases b with
        | true => exact kq (.val (.bool true)) e1 _ H1 B1 x1 A1 (Rp.bl _) h1
        | false => exact ⟨B1, e1, ex, k, A1, h1, xo, fun b e2 v H2 B2 x2 A2 h2 => kq b e2 v H2 B2 (x1.trans x2) A2 h2⟩
      | _ => exact h1.elim
    | _ => exact h1.elim
theorem pp_not {a : Expr} {f : WE} (ha : PPE X xw a f) : PPE X xw (.UnaryOp .Not a pos) (wNot f) := fun C =>
  pe_imp (pe_not (ha C)) fun σ H Q ⟨B, env, ex, k, A, hk, xo, kq⟩ => by
    refine ⟨B, env, ex, _, A, hk, xo, fun r e1 v H1 B1 x1 A1 R1 h1 => ?_⟩
    cases r with
    | val d =>
      cases d with
      | bool b =>
        cases R1
        exact ⟨b, rfl, kq (.val (.bool (!b))) e1 _ H1 B1 x1 A1 (Rp.bl _) h1⟩
      | _ => exact h1.elim
    | _ => exact h1.elim
def wIf (t : WT) (f g : WE) : WE := fun env ex k => t env ex fun b e1 => if b = true then f e1 ex k else g e1 ex k
theorem pp_if {c a b : Expr} {t : WT} {f g : WE} (hc : PPT X xw c t) (ha : PPE X xw a f) (hb : PPE X xw b g) : PPE X xw (.IfExp c a b pos) (wIf t f g) := fun C =>
  pe_imp (pe_ifExp (hc C) (ha C) (hb C)) fun σ H Q ⟨B, env, ex, k, A, hk, xo, kq⟩ => by
    refine ⟨B, env, ex, _, A, hk, xo, fun b e1 H1 B1 x1 A1 h1 => ?_⟩
    cases b with
    | true => exact ⟨B1, e1, ex, k, A1, h1, xo, fun b e2 v H2 B2 x2 A2 h2 => kq b e2 v H2 B2 (x1.trans x2) A2 h2⟩
    | false => exact ⟨B1, e1, ex, k, A1, h1, xo, fun b e2 v H2 B2 x2 A2 h2 => kq b e2 v H2 B2 (x1.trans x2) A2 h2⟩
/-- a < b < c -/
def wCh (op op' : Op2) (fa fb fc : WO) : WE := fun env ex k => fa env ex fun ra e1 => fb e1 ex fun rb e2 => ra e2 fun a => rb e2 fun b => op a b fun r => match r with
  | .val (.bool t) => if t = true then fc e2 ex fun rc e3 => rb e3 fun b => rc e3 fun c => op' b c fun r => k r e3 else k (.val (.bool false)) e2
  | _ => False
theorem wCh_imp {C : PC} {op op' : Op2} {fa fb fc : WO} {r r' : R2} (h : ∀ B H x y a b k Q, Ext B H → Pk X.K B H x a → Pk X.K B H y b → op a b k → (∀ v H', Out X.K B H k v H' → Q v H') → r x y H Q)
    (h' : ∀ B H x y a b k Q, Ext B H → Pk X.K B H x a → Pk X.K B H y b → op' a b k → (∀ v H', Out X.K B H k v H' → Q v H') → r' x y H Q) :
    ∀ σ H Q, lift X.K xw C (wCh op op' fa fb fc) σ H Q → tChain r r' (liftO X.K xw C fa) (liftO X.K xw C fb) (liftO X.K xw C fc) σ H Q := fun σ H Q ⟨B, env, ex, k, A, hk, xo, kq⟩ => by
  refine ⟨B, env, ex, _, A, hk, xo, fun ra e1 v H1 B1 x1 A1 R1 h1 => ?_⟩
  refine ⟨B1, e1, ex, _, A1, h1, xo, fun rb e2 u H2 B2 x2 A2 R2 h2 => ?_⟩
  obtain ⟨a, pa, h3⟩ := R1 B2 H2 e2 _ x2 A2 h2
  obtain ⟨b, pb, h4⟩ := R2 B2 H2 e2 _ (Ext.refl B2) A2 h3
  refine h B2 H2 v u a b _ _ A2.fr.sub pa pb h4 fun w H3 o => ?_
  obtain ⟨B3, r3, x3, A3, R3, q3⟩ := Out.abs A2 o
  cases r3 with
  | val d =>
    cases d with
    | bool t =>
      cases R3
      refine ⟨t, rfl, ?_⟩
      cases t with
      | true =>
        refine ⟨B3, e2, ex, _, A3, q3, xo, fun rc e3 w2 H4 B4 x4 A4 R4 h5 => ?_⟩
        obtain ⟨b', pb', h6⟩ := R2 B4 H4 e3 _ (x3.trans x4) A4 h5
        obtain ⟨c, pc, h7⟩ := R4 B4 H4 e3 _ (Ext.refl B4) A4 h6
        refine h' B4 H4 u w2 b' c _ Q A4.fr.sub pb' pc h7 fun w3 H5 o5 => ?_
        obtain ⟨B5, r5, x5, A5, R5, q5⟩ := Out.abs A4 o5
        exact kq r5 e3 w3 H5 B5 (x1.trans (x2.trans (x3.trans (x4.trans x5)))) A5 R5 q5
      | false => exact kq (.val (.bool false)) e2 _ H3 B3 (x1.trans (x2.trans x3)) A3 (Rp.bl _) q3
    | _ => exact q3.elim
  | _ => exact q3.elim
theorem pp_chain {a b c : Expr} {op op' : CmpOp} {o o' : Op2} {fa fb fc : WO} (ho : OpS X (compareOp op) o) (ho' : OpS X (compareOp op') o') (ha : PPO X xw a fa) (hb : PPO X xw b fb) (hc : PPO X xw c fc)
    (hm : lastMarks [op, op'] [b, c] = false := by with_unfolding_all rfl) : PPE X xw (.Compare a [op, op'] [b, c] pos) (wCh o o' fa fb fc) := by
  obtain ⟨r, h1, h2⟩ := ho.ex
  obtain ⟨r', h1', h2'⟩ := ho'.ex
  exact fun C => pe_imp (pe_chain h1 h1' (ha C) (hb C) (hc C) hm) (wCh_imp h2 h2')
theorem pt_chainP {a b c : Expr} {op op' : CmpOp} {o o' : Op2} {fa fb fc : WO} (ho : OpS X (compareOp op) o) (ho' : OpS X (compareOp op') o') (ha : PPO X xw a fa) (hb : PPO X xw b fb) (hc : PPO X xw c fc)
    (hm : lastMarks [op, op'] [b, c] = false := by with_unfolding_all rfl) : PPT X xw (.Compare a [op, op'] [b, c] pos) (wTe (wCh o o' fa fb fc)) := by
  obtain ⟨r, h1, h2⟩ := ho.ex
  obtain ⟨r', h1', h2'⟩ := ho'.ex
  refine fun C => pt_imp (pt_chain h1 h1' (ha C) (hb C) (hc C) hm) fun σ H Q ⟨B, env, ex, k, A, hk, xo, kq⟩ => ?_
  refine wCh_imp h2 h2' σ H _ ⟨B, env, ex, _, A, hk, xo, fun r e1 v H1 B1 x1 A1 R1 h1 => ?_⟩
  cases r with
  | val d =>
    cases d with
    | bool b =>
      cases R1
      exact ⟨b, rfl, kq b e1 H1 B1 x1 A1 h1⟩
    | _ => exact h1.elim
  | _ => exact h1.elim
end
end PL

namespace PL
open PySem PySem.Spec PyProof.Rows L2 TL
theorem RvsOk.ext {K : PySem.W.Frag} {B B' : Hp} {σ : L2.St} (e : Ext B B') : ∀ {vs : List V} {rs : List Rv}, RvsOk K B σ vs rs → RvsOk K B' σ vs rs
  | _, _, .nil => .nil
  | _, _, .val h r => .val (h.ext e) (RvsOk.ext e r)
  | _, _, .dr h r => .dr h (RvsOk.ext e r)
section
variable {X : Cx} {xw : XW} {pos : Pos}

/-! ### argument lists: values (frozen), or readers -/
def wNil : WA := fun env _ k => k [] env
def wCons (f : WE) (g : WA) : WA := fun env ex k => f env ex fun r e1 => match r.frz with
  | .val d => g e1 ex fun rs e2 => k (.val d :: rs) e2
  | .drv i => g e1 ex fun rs e2 => k (.drv i :: rs) e2
  | _ => False
theorem pa_nilP : PPA X xw [] wNil := fun C => pa_imp pa_nil fun σ H Q ⟨B, env, ex, k, A, hk, xo, kq⟩ => kq [] env [] H B (Ext.refl B) A .nil hk
theorem pa_consP {e : Expr} {es : List Expr} {f : WE} {g : WA} (hf : PPE X xw e f) (hg : PPA X xw es g) (hs : starEach (e :: es) X.env = (false, eval e X.env) :: starEach es X.env := by rfl) : PPA X xw (e :: es) (wCons f g) := fun C =>
  pa_imp (pa_cons (hf C) (hg C) hs) fun σ H Q ⟨B, env, ex, k, A, hk, xo, kq⟩ => by
    refine ⟨B, env, ex, _, A, hk, xo, fun r e1 v H1 B1 x1 A1 R1 h1 => ?_⟩
    obtain ⟨B2, x2, A2, R2⟩ := freeze A1 R1
    cases hr : r.frz with
    | val d =>
      rw [hr] at h1 R2
      exact ⟨B2, e1, ex, _, A2, h1, xo, fun rs e2 vs H3 B3 x3 A3 R3 h3 => kq _ e2 _ H3 B3 (x1.trans (x2.trans x3)) A3 (.val (Rp.ext x3 R2) R3) h3⟩
    | drv i =>
      rw [hr] at h1 R2
      obtain ⟨p, rfl, hp⟩ := R2
      exact ⟨B2, e1, ex, _, A2, h1, xo, fun rs e2 vs H3 B3 x3 A3 R3 h3 => kq _ e2 _ H3 B3 (x1.trans (x2.trans x3)) A3 (.dr hp R3) h3⟩
    | own d => rw [hr] at h1; exact h1.elim
    | dr => rw [hr] at h1; exact h1.elim
    | ndr => rw [hr] at h1; exact h1.elim
/-- all are data -/
def vals : List Rv → (List PyData → Prop) → Prop
  | [], k => k []
  | .val d :: rs, k => vals rs fun ds => k (d :: ds)
  | _ :: _, _ => False
theorem RvsOk.vals {K : PySem.W.Frag} {B : Hp} {σ : L2.St} : ∀ {vs : List V} {rs : List Rv} {k : List PyData → Prop}, RvsOk K B σ vs rs → PL.vals rs k → ∃ ds, RpA K B vs ds ∧ k ds
  | _, _, _, .nil, h => ⟨[], .nil, h⟩
  | _, _, _, .val q r, h => by
    obtain ⟨ds, r2, h2⟩ := RvsOk.vals r h
    exact ⟨_, .cons q r2, h2⟩
  | _, _, _, .dr _ _, h => h.elim
/-- readers -/
abbrev WAO := EnvP → EX → (List Rd1 → EnvP → Prop) → Prop
inductive RdsOk (K : PySem.W.Frag) (C : PC) (σ : L2.St) (B : Hp) : List V → List Rd1 → Prop
  | nil : RdsOk K C σ B [] []
  | cons {v : V} {rd : Rd1} {vs : List V} {rds : List Rd1} : RdOk K C σ v rd B → RdsOk K C σ B vs rds → RdsOk K C σ B (v :: vs) (rd :: rds)
def liftAO (K : PySem.W.Frag) (xw : XW) (C : PC) (f : WAO) : TA := fun σ H Q => ∃ B env ex k, Abs K C B σ H env ∧ f env ex k ∧ XOk K xw C σ ex ∧
  ∀ rds env' vs H' B', Ext B B' → Abs K C B' σ H' env' → RdsOk K C σ B' vs rds → k rds env' → Q vs H'
def PPAO (X : Cx) (xw : XW) (es : List Expr) (f : WAO) : Prop := ∀ C, PA X es (liftAO X.K xw C f)
def wNilO : WAO := fun env _ k => k [] env
def wConsO (f : WO) (g : WAO) : WAO := fun env ex k => f env ex fun rd e1 => g e1 ex fun rds e2 => k (rd :: rds) e2
theorem pao_nil : PPAO X xw [] wNilO := fun C => pa_imp pa_nil fun σ H Q ⟨B, env, ex, k, A, hk, xo, kq⟩ => kq [] env [] H B (Ext.refl B) A .nil hk
theorem pao_cons {e : Expr} {es : List Expr} {f : WO} {g : WAO} (hf : PPO X xw e f) (hg : PPAO X xw es g) (hs : starEach (e :: es) X.env = (false, eval e X.env) :: starEach es X.env := by rfl) : PPAO X xw (e :: es) (wConsO f g) := fun C =>
  pa_imp (pa_cons (hf C) (hg C) hs) fun σ H Q ⟨B, env, ex, k, A, hk, xo, kq⟩ =>
    ⟨B, env, ex, _, A, hk, xo, fun rd e1 v H1 B1 x1 A1 R1 h1 => ⟨B1, e1, ex, _, A1, h1, xo, fun rds e2 vs H2 B2 x2 A2 R2 h2 => kq _ e2 _ H2 B2 (x1.trans x2) A2 (.cons (R1.ext x2) R2) h2⟩⟩
def reads : List Rd1 → EnvP → (List PyData → Prop) → Prop
  | [], _, k => k []
  | rd :: rds, e, k => rd e fun d => reads rds e fun ds => k (d :: ds)
theorem RdsOk.reads {K : PySem.W.Frag} {C : PC} {σ : L2.St} {B B2 H2 : Hp} {e2 : EnvP} (x : Ext B B2) (A : Abs K C B2 σ H2 e2) : ∀ {vs : List V} {rds : List Rd1} {k : List PyData → Prop}, RdsOk K C σ B vs rds → PL.reads rds e2 k → ∃ ds, PkA K B2 H2 vs ds ∧ k ds
  | _, _, _, .nil, h => ⟨[], .nil, h⟩
  | _, _, _, .cons q r, h => by
    obtain ⟨d, p, h1⟩ := q _ _ _ _ x A h
    obtain ⟨ds, ps, h2⟩ := RdsOk.reads x A r h1
    exact ⟨_, .cons p ps, h2⟩

/-! ### displays -/
def wTup (f : WA) : WE := fun env ex k => f env ex fun rs e1 => vals rs fun ds => ds.length ≤ sizeLine ∧ k (.val (.tuple ds)) e1
def wLst (f : WA) : WE := fun env ex k => f env ex fun rs e1 => vals rs fun ds => ds.length ≤ sizeLine ∧ k (.own (.list ds)) e1
theorem pp_tup {es : List Expr} {x1} {f : WA} (h : PPA X xw es f) : PPE X xw (.Tuple es x1 pos) (wTup f) := fun C => pe_imp (pe_tup (h C)) fun σ H Q ⟨B, env, ex, k, A, hk, xo, kq⟩ => by
  refine ⟨B, env, ex, _, A, hk, xo, fun rs e1 vs H1 B1 x1 A1 R1 h1 => ?_⟩
  obtain ⟨ds, r, hl, h2⟩ := R1.vals h1
  refine ⟨by rw [r.length]; exact hl, fun p hp => ?_⟩
  obtain ⟨B3, r3, x3, A3, R3, q3⟩ := Out.abs (k := fun r => k r e1) A1 (outTup hp r h2)
  exact kq r3 e1 _ _ B3 (x1.trans x3) A3 R3 q3
theorem pp_lst {es : List Expr} {f : WA} (h : PPA X xw es f) : PPE X xw (.List es pos) (wLst f) := fun C => pe_imp (pe_lst (h C)) fun σ H Q ⟨B, env, ex, k, A, hk, xo, kq⟩ => by
  refine ⟨B, env, ex, _, A, hk, xo, fun rs e1 vs H1 B1 x1 A1 R1 h1 => ?_⟩
  obtain ⟨ds, r, hl, h2⟩ := R1.vals h1
  refine ⟨by rw [r.length]; exact hl, fun p hp => ?_⟩
  obtain ⟨B3, r3, x3, A3, R3, q3⟩ := Out.abs (k := fun r => k r e1) A1 (outLst hp r h2)
  exact kq r3 e1 _ _ B3 (x1.trans x3) A3 R3 q3
def wDct0 (t : Bool) : WE := fun env _ k => k (.own (.dict (if t then [(.none, .none)] else []))) env
theorem pp_dctK : PPE X xw (.Dict [] [] pos) (wDct0 false) := fun C => pe_imp pe_dnewK fun σ H Q ⟨B, env, ex, k, A, hk, xo, kq⟩ => by
  intro p hp
  obtain ⟨B3, r3, x3, A3, R3, q3⟩ := Out.abs (k := fun r => k r env) (v := .ref p) (H' := upd H p (.dK [])) A (.inr (.inl ⟨p, _, .dict [], rfl, hp, rfl, .inl ⟨[], upd_same, .nil⟩, hk⟩))
  exact kq r3 env _ _ B3 x3 A3 R3 q3
theorem pp_dctT : PPE X xw (.Dict [] [] pos) (wDct0 true) := fun C => pe_imp pe_dnewT fun σ H Q ⟨B, env, ex, k, A, hk, xo, kq⟩ => by
  intro p hp
  obtain ⟨B3, r3, x3, A3, R3, q3⟩ := Out.abs (k := fun r => k r env) (v := .ref p) (H' := upd H p (.dT [])) A (.inr (.inl ⟨p, _, .dict [(.none, .none)], rfl, hp, rfl, .inr ⟨[], [], rfl, upd_same, .nil⟩, hk⟩))
  exact kq r3 env _ _ B3 x3 A3 R3 q3

/-! ### calls of builtins and of types, by name -/
def wCa (op : OpN) (f : WAO) : WE := fun env ex k => f env ex fun rds e1 => reads rds e1 fun ds => op ds fun r => k r e1
theorem wCa_imp {C : PC} {op : OpN} {f : WAO} {r} (h : ∀ B H vs ds k Q, Ext B H → PkA X.K B H vs ds → op ds k → (∀ v H', Out X.K B H k v H' → Q v H') → r vs H Q) :
    ∀ σ H Q, lift X.K xw C (wCa op f) σ H Q → tCB r (liftAO X.K xw C f) σ H Q := fun σ H Q ⟨B, env, ex, k, A, hk, xo, kq⟩ => by
  refine ⟨B, env, ex, _, A, hk, xo, fun rds e1 vs H1 B1 x1 A1 R1 h1 => ?_⟩
  obtain ⟨ds, ps, h2⟩ := R1.reads (Ext.refl B1) A1 h1
  refine h B1 H1 vs ds _ Q A1.fr.sub ps h2 fun v H2 o => ?_
  obtain ⟨B3, r3, x3, A3, R3, q3⟩ := Out.abs A1 o
  exact kq r3 e1 v H2 B3 (x1.trans x3) A3 R3 q3
variable {x : Str} {p : Pos} {e : Expr} {es : List Expr}
theorem pp_callB {id : String} {op : OpN} {f : WAO} (hc : CaS X (.builtin id) op) (hg : Gl X x) (hm : X.mg x = none) (hv : bootBuiltins x = some (.builtin id)) (ha : PPAO X xw (e :: es) f) (hn : x ≠ "__name__" := by decide) (hdb : (x == ("__debug__" : Str)) = false := by decide)
    (he : starEach (e :: es) X.env = (false, eval e X.env) :: starEach es X.env := by rfl) (hpl : (backTo pos (starEach es X.env)).any (·.1) = false := by rfl) : PPE X xw (.Call (.Name x p) (e :: es) [] pos) (wCa op f) := by
  obtain ⟨r, h1, h2⟩ := hc.ex
  exact fun C => pe_imp (pe_callB h1 hg hm hv (ha C) hn hdb he hpl) (wCa_imp h2)
theorem pp_callTy {T : String} {op : OpN} {f : WAO} (hc : CaS X (.type T) op) (hg : Gl X x) (hm : X.mg x = none) (hv : bootBuiltins x = some (.type T)) (ha : PPAO X xw (e :: es) f) (hn : x ≠ "__name__" := by decide) (hdb : (x == ("__debug__" : Str)) = false := by decide)
    (he : starEach (e :: es) X.env = (false, eval e X.env) :: starEach es X.env := by rfl) (hpl : (backTo pos (starEach es X.env)).any (·.1) = false := by rfl) : PPE X xw (.Call (.Name x p) (e :: es) [] pos) (wCa op f) := by
  obtain ⟨r, h1, h2⟩ := hc.ex
  exact fun C => pe_imp (pe_callTy h1 hg hm hv (ha C) hn hdb he hpl) (wCa_imp h2)

theorem PkA.one {K : PySem.W.Frag} {B H : Hp} {vs : List V} {d : PyData} (h : PkA K B H vs [d]) : ∃ v, vs = [v] ∧ Pk K B H v d := by
  cases h with
  | cons h r => cases r; exact ⟨_, rfl, h⟩
theorem PkA.two {K : PySem.W.Frag} {B H : Hp} {vs : List V} {d d' : PyData} (h : PkA K B H vs [d, d']) : ∃ v v', vs = [v, v'] ∧ Pk K B H v d ∧ Pk K B H v' d' := by
  cases h with
  | cons h r => cases r with
    | cons h' r => cases r; exact ⟨_, _, rfl, h, h'⟩
theorem PkA.nil_of {K : PySem.W.Frag} {B H : Hp} {vs : List V} (h : PkA K B H vs []) : vs = [] := by cases h; rfl
def opLen : OpN
  | [.list ds], k => k (.val (.int ds.length))
  | [.tuple ds], k => k (.val (.int ds.length))
  | [.str z], k => z.length ≤ sizeLine ∧ k (.val (.int z.length))
  | [.dict ds], k => isT ds = false ∧ k (.val (.int ds.length))
  | _, _ => False
theorem call_lenD' : CallR X (.builtin "len") (fun xs H Q => ∃ d kvs, xs = [.ref d] ∧ Rd H d (.dK kvs) ∧ Q (.int kvs.length) H) := by
  intro pins s σ H xs us Q I r h
  obtain ⟨d, kvs, rfl, e, q⟩ := h
  obtain ⟨u, rfl, rx⟩ := vals1 r
  obtain rfl : u = Value.ref d := rx
  exact d_len I e fun t s' I' => ⟨.int kvs.length, H, I', ⟨t, rfl⟩, q⟩
theorem ca_len : CaS X (.builtin "len") opLen := by
  refine ⟨_, CallR.or call_len call_lenD', fun B H vs ds k Q e hv h q => ?_⟩
  unfold opLen at h
  split at h
  · obtain ⟨v, rfl, hp⟩ := hv.one
    obtain ⟨p, xs, rfl, h1, h2⟩ := hp.list e
    exact .inl ⟨_, _, rfl, .inl ⟨xs, SqL.of h1, rfl⟩, q _ _ (outVal (by rw [h2.length]; exact .int _) h)⟩
  · obtain ⟨v, rfl, hp⟩ := hv.one
    obtain ⟨p, xs, rfl, h1, h2, _⟩ := hp.tuple e
    exact .inl ⟨_, _, rfl, .inr ⟨xs, h1, rfl⟩, q _ _ (outVal (by rw [h2.length]; exact .int _) h)⟩
  · obtain ⟨v, rfl, hp⟩ := hv.one
    obtain rfl := hp.str
    exact .inl ⟨_, _, rfl, ⟨h.1, rfl⟩, q _ _ (outVal (.int _) h.2)⟩
  · obtain ⟨v, rfl, hp⟩ := hv.one
    obtain ⟨p, rfl, hd⟩ := hp.dict e
    rcases hd with ⟨kvs, h1, h2⟩ | ⟨kvs, ds', rfl, _⟩
    · exact .inr ⟨p, kvs, rfl, h1, q _ _ (outVal (by rw [h2.length]; exact .int _) h.2)⟩
    · exact absurd h.1 (by simp [isT])
  · exact h.elim
def opInt : OpN
  | [.int i], k => k (.val (.int i))
  | [.bool b], k => k (.val (.int (if b then 1 else 0)))
  | _, _ => False
theorem ca_int : CaS X (.type "int") opInt := by
  refine ⟨_, call_int1, fun B H vs ds k Q e hv h q => ?_⟩
  unfold opInt at h
  split at h
  · obtain ⟨v, rfl, hp⟩ := hv.one; obtain rfl := hp.int; exact .inl ⟨_, rfl, q _ _ (outVal (.int _) h)⟩
  · obtain ⟨v, rfl, hp⟩ := hv.one; obtain rfl := hp.bl; exact .inr ⟨_, rfl, q _ _ (outVal (.int _) h)⟩
  · exact h.elim
def opMax2 : OpN
  | [.int i, .int j], k => k (.val (.int (if j > i then j else i)))
  | _, _ => False
def opMin2 : OpN
  | [.int i, .int j], k => k (.val (.int (if j < i then j else i)))
  | _, _ => False
theorem ca_max2 (hc : X.calm = true) : CaS X (.builtin "max") opMax2 := by
  refine ⟨_, call_max2 hc, fun B H vs ds k Q e hv h q => ?_⟩
  unfold opMax2 at h
  split at h
  · obtain ⟨v, v', rfl, hp, hp'⟩ := hv.two; obtain rfl := hp.int; obtain rfl := hp'.int; exact ⟨_, _, rfl, q _ _ (outVal (.int _) h)⟩
  · exact h.elim
theorem ca_min2 (hc : X.calm = true) : CaS X (.builtin "min") opMin2 := by
  refine ⟨_, call_min2 hc, fun B H vs ds k Q e hv h q => ?_⟩
  unfold opMin2 at h
  split at h
  · obtain ⟨v, v', rfl, hp, hp'⟩ := hv.two; obtain rfl := hp.int; obtain rfl := hp'.int; exact ⟨_, _, rfl, q _ _ (outVal (.int _) h)⟩
  · exact h.elim
/-- any(xs), all(xs) of a list of bools -/
def bools : List PyData → Option (List Bool)
  | [] => some []
  | .bool b :: ds => (bools ds).map (b :: ·)
  | _ :: _ => none
theorem bools_map (bs : List Bool) : bools (bs.map .bool) = some bs := by
  induction bs with
  | nil => rfl
  | cons b bs ih => simp [bools, ih]
theorem RpA.bls {K : PySem.W.Frag} {B : Hp} : ∀ {vs : List V} {ds : List PyData} {bs : List Bool}, RpA K B vs ds → bools ds = some bs → vs = bs.map V.bl
  | _, _, bs, .nil, h => by cases h; rfl
  | _, _, bs, .cons (d := d) (ds := ds) q r, h => by
    cases d <;> first | (cases h; done) | skip
    cases q
    have h' : (bools ds).map _ = some bs := h
    cases z : bools ds with
    | none => rw [z] at h'; cases h'
    | some bs' => rw [z] at h'; cases h'; rw [RpA.bls r z]; rfl
def opAny : OpN
  | [.list ds], k => ∃ bs, bools ds = some bs ∧ k (.val (.bool (bs.any id)))
  | _, _ => False
def opAll : OpN
  | [.list ds], k => ∃ bs, bools ds = some bs ∧ k (.val (.bool (bs.all id)))
  | _, _ => False
theorem ca_any (hc : X.calm = true) : CaS X (.builtin "any") opAny := by
  refine ⟨_, cr_any hc, fun B H vs ds k Q e hv h q => ?_⟩
  unfold opAny at h
  split at h
  · obtain ⟨bs, hb, h⟩ := h
    obtain ⟨v, rfl, hp⟩ := hv.one
    obtain ⟨p, xs, rfl, h1, h2⟩ := hp.list e
    have := h2.bls hb
    subst this
    exact ⟨p, bs, rfl, SqL.of h1, q _ _ (outVal (.bl _) h)⟩
  · exact h.elim
theorem ca_all (hc : X.calm = true) : CaS X (.builtin "all") opAll := by
  refine ⟨_, cr_all hc, fun B H vs ds k Q e hv h q => ?_⟩
  unfold opAll at h
  split at h
  · obtain ⟨bs, hb, h⟩ := h
    obtain ⟨v, rfl, hp⟩ := hv.one
    obtain ⟨p, xs, rfl, h1, h2⟩ := hp.list e
    have := h2.bls hb
    subst this
    exact ⟨p, bs, rfl, SqL.of h1, q _ _ (outVal (.bl _) h)⟩
  · exact h.elim
/-- list(x), tuple(x) of a list or a tuple -/
def opList : OpN
  | [.list ds], k => k (.own (.list ds))
  | [.tuple ds], k => k (.own (.list ds))
  | _, _ => False
def opTuple : OpN
  | [.list ds], k => k (.val (.tuple ds))
  | [.tuple ds], k => k (.val (.tuple ds))
  | _, _ => False
theorem ca_list : CaS X (.type "list") opList := by
  refine ⟨_, call_list_of, fun B H vs ds k Q e hv h q => ?_⟩
  unfold opList at h
  split at h
  · obtain ⟨v, rfl, hp⟩ := hv.one
    obtain ⟨p, xs, rfl, h1, h2⟩ := hp.list e
    exact ⟨p, xs, rfl, .inl (SqL.of h1), fun l hl => q _ _ (outLst hl h2 h)⟩
  · obtain ⟨v, rfl, hp⟩ := hv.one
    obtain ⟨p, xs, rfl, h1, h2, _⟩ := hp.tuple e
    exact ⟨p, xs, rfl, .inr h1, fun l hl => q _ _ (outLst hl h2 h)⟩
  · exact h.elim
theorem ca_tuple : CaS X (.type "tuple") opTuple := by
  refine ⟨_, call_tuple_of, fun B H vs ds k Q e hv h q => ?_⟩
  unfold opTuple at h
  split at h
  · obtain ⟨v, rfl, hp⟩ := hv.one
    obtain ⟨p, xs, rfl, h1, h2⟩ := hp.list e
    exact ⟨p, xs, rfl, .inl ⟨SqL.of h1, fun l hl => q _ _ (outTup hl h2 h)⟩⟩
  · obtain ⟨v, rfl, hp⟩ := hv.one
    obtain ⟨p, xs, rfl, h1, h2, r⟩ := hp.tuple e
    exact ⟨p, xs, rfl, .inr ⟨h1, q _ _ (outVal r h)⟩⟩
  · exact h.elim

/-! ### methods of data -/
def tyD : PyData → String
  | .str _ => "str" | .list _ => "list" | .dict _ => "dict" | _ => ""
theorem Pk.tyV {K : PySem.W.Frag} {B H : Hp} {v : V} {d : PyData} (e : Ext B H) (h : Pk K B H v d) (hd : tyD d = "str" ∨ tyD d = "list") : L2.tyV K (tyD d) v H := by
  cases d with
  | str z => obtain rfl := h.str; rfl
  | list ds => obtain ⟨p, xs, rfl, h1, _⟩ := h.list e; exact .inl ⟨rfl, xs, .inl (.inl h1)⟩
  | _ => simp [tyD] at hd
def wMt (T : String) (op : PyData → OpN) (fo : WO) (f : WAO) : WE := fun env ex k => fo env ex fun ra e0 => ra e0 fun a0 => tyD a0 = T ∧ f e0 ex fun rds e1 => ra e1 fun a => reads rds e1 fun ds => op a ds fun r => k r e1
theorem pp_mt {T id : String} {name : Str} {op : PyData → OpN} {fo : WO} {f : WAO} {o : Expr} {apos cpos : Pos} (hm : MtS X id op) (hT : T = "str" ∨ T = "list") (pa : PlainAttrs T) (slot : Slot T name id) (hty : typeOf (.builtin id) = pure (.type "method_descriptor")) (ho : PPO X xw o fo) (ha : PPAO X xw (e :: es) f)
    (hbase : attributeBase o name X.env (eval o X.env) = eval o X.env := by rfl)
    (hfew : ((backTo cpos (starEach (e :: es) X.env)).all (fun x => !x.1) && (backToKw cpos (keywordEach [] X.env)).all (fun x => x.1.isSome)
      && decide ((e :: es).length + ([] : List Keyword).length + (if ([] : List Keyword).isEmpty then 0 else 1) < 30)) = true := by rfl)
    (hline : (apos.endLine == cpos.line) = true := by rfl) (hs : starEach (e :: es) X.env = (false, eval e X.env) :: starEach es X.env := by rfl) (hplain : (backTo cpos (starEach es X.env)).any (·.1) = false := by rfl) :
    PPE X xw (.Call (.Attribute o name apos) (e :: es) [] cpos) (wMt T op fo f) := by
  obtain ⟨r, h1, h2⟩ := hm.ex
  refine fun C => pe_imp (pe_bm pa slot hty h1 (ho C) (ha C) hbase hfew hline hs hplain) fun σ H Q ⟨B, env, ex, k, A, hk, xo, kq⟩ => ?_
  refine ⟨B, env, ex, _, A, hk, xo, fun ra e0 v H0 B0 x0 A0 R0 h0 => ?_⟩
  obtain ⟨a0, p0, ht, h00⟩ := R0 B0 H0 e0 _ (Ext.refl B0) A0 h0
  subst ht
  refine ⟨p0.tyV A0.fr.sub hT, B0, e0, ex, _, A0, h00, xo, fun rds e1 vs H1 B1 x1 A1 R1 h1 => ?_⟩
  obtain ⟨a, pa, h3⟩ := R0 B1 H1 e1 _ x1 A1 h1
  obtain ⟨ds, ps, h4⟩ := R1.reads (Ext.refl B1) A1 h3
  refine h2 B1 H1 v a vs ds _ Q A1.fr.sub pa ps h4 fun w H2 ou => ?_
  obtain ⟨B3, r3, x3, A3, R3, q3⟩ := Out.abs A1 ou
  exact kq r3 e1 w H2 B3 (x0.trans (x1.trans x3)) A3 R3 q3
/-- ''.join(a list of texts) -/
def txts : List PyData → Option (List Str)
  | [] => some []
  | .str b :: ds => (txts ds).map (b :: ·)
  | _ :: _ => none
theorem txts_map (bs : List Str) : txts (bs.map .str) = some bs := by
  induction bs with
  | nil => rfl
  | cons b bs ih => simp [txts, ih]
theorem RpA.txts {K : PySem.W.Frag} {B : Hp} : ∀ {vs : List V} {ds : List PyData} {bs : List Str}, RpA K B vs ds → PL.txts ds = some bs → vs = bs.map V.str
  | _, _, bs, .nil, h => by cases h; rfl
  | _, _, bs, .cons (d := d) (ds := ds) q r, h => by
    cases d <;> first | (cases h; done) | skip
    cases q
    have h' : (PL.txts ds).map _ = some bs := h
    cases z : PL.txts ds with
    | none => rw [z] at h'; cases h'
    | some bs' => rw [z] at h'; cases h'; rw [RpA.txts r z]; rfl
theorem joinL_nil : ∀ l : List (List Nat), joinL [] l = l.flatten
  | [] => rfl
  | [x] => by simp [joinL]
  | x :: y :: r => by
    show x ++ ([] ++ joinL [] (y :: r)) = _
    rw [joinL_nil (y :: r)]
    simp
theorem join_nil (ys : List Str) : Txt.join (S []) ys = S (ys.map (·.cps.toList)).flatten := by
  apply ext_tl
  rw [join_eq, tl_join]
  exact joinL_nil _
def opJoin : PyData → OpN
  | .str z, [.list ds], k => ∃ ys, z = S [] ∧ txts ds = some ys ∧ (ys.map (·.length)).sum ≤ 16777216 ∧ k (.val (.str (S (ys.map (·.cps.toList)).flatten)))
  | .str z, [.tuple ds], k => ∃ ys, z = S [] ∧ txts ds = some ys ∧ (ys.map (·.length)).sum ≤ 16777216 ∧ k (.val (.str (S (ys.map (·.cps.toList)).flatten)))
  | _, _, _ => False
theorem mt_joinS : MtS X "str.join" opJoin := by
  refine ⟨_, mt_join, fun B H x a vs ds k Q e hx hv h q => ?_⟩
  unfold opJoin at h
  split at h
  · obtain ⟨ys, rfl, hy, hz, h⟩ := h
    obtain rfl := hx.str
    obtain ⟨v, rfl, hp⟩ := hv.one
    obtain ⟨p, xs, rfl, h1, h2⟩ := hp.list e
    have := h2.txts hy
    subst this
    refine ⟨_, p, ys, rfl, rfl, .inl (SqL.of h1), by rw [S_len, List.length_nil, Nat.mul_zero]; exact hz, ?_⟩
    rw [join_nil]
    exact q _ _ (outVal (.str _) h)
  · obtain ⟨ys, rfl, hy, hz, h⟩ := h
    obtain rfl := hx.str
    obtain ⟨v, rfl, hp⟩ := hv.one
    obtain ⟨p, xs, rfl, h1, h2, _⟩ := hp.tuple e
    have := h2.txts hy
    subst this
    refine ⟨_, p, ys, rfl, rfl, .inr h1, by rw [S_len, List.length_nil, Nat.mul_zero]; exact hz, ?_⟩
    rw [join_nil]
    exact q _ _ (outVal (.str _) h)
  · exact h.elim
end
end PL

namespace PL
open PySem PySem.Spec PyProof.Rows L2 TL
section
variable {X : Cx} {xw : XW} {pos : Pos}
/-- xs.index(y) -/
def opIndex : PyData → OpN
  | .list ds, [d], k => (SeqAt.shaped (.list ds) = true ∧ SeqAt.shaped d = true) ∧ ∃ j, ds.findIdx? (fun z => PyData.eqv z d) = some j ∧ k (.val (.int (j : Nat)))
  | _, _, _ => False
theorem mt_indexS (hu : X.A.units + 65 < cLine) : MtS X "list.index" opIndex := by
  refine ⟨_, mt_indexD hu, fun B H x a vs ds k Q e hx hv h q => ?_⟩
  unfold opIndex at h
  split at h
  · rename_i ds d
    obtain ⟨⟨h1, h2⟩, j, hj, h3⟩ := h
    obtain ⟨v, rfl, hp⟩ := hv.one
    have hl := hx
    obtain ⟨p, xs, rfl, hH, r⟩ := hl.list e
    rw [List.findIdx?_eq_some_iff_getElem] at hj
    obtain ⟨hlt, hz, hno⟩ := hj
    exact ⟨p, v, d, ds, j, ds[j], rfl, rfl, hx.dp e (SeqAt.canLay_of_shaped h1), hp.dp e (SeqAt.canLay_of_shaped h2), h1, h2, List.getElem?_eq_getElem hlt, hz, fun m z' hm hz' => by
      have hm' : m < ds.length := by omega
      rw [List.getElem?_eq_getElem hm'] at hz'
      cases hz'
      simpa using hno m hm, q _ _ (outVal (.int _) h3)⟩
  · exact h.elim

/-! ### slices -/
def cutL {α : Type} (xs : List α) (lo hi : Option Int) : List α := (xs.drop (HT.sIx xs.length 0 lo)).take (HT.sIx xs.length xs.length hi - HT.sIx xs.length 0 lo)
theorem cutL_V (xs : List V) (lo hi : Option Int) : cutV xs lo hi = cutL xs lo hi := rfl
theorem cutL_S (z : Str) (lo hi : Option Int) : cutS z lo hi = S (cutL z.cps.toList lo hi) := by
  unfold cutS cutL
  have : z.length = z.cps.toList.length := by simp [Str.length]
  rw [this]; rfl
theorem RpA.cut {K : PySem.W.Frag} {B : Hp} {vs : List V} {ds : List PyData} (r : RpA K B vs ds) (lo hi : Option Int) : RpA K B (cutV vs lo hi) (cutL ds lo hi) := by
  rw [cutL_V]; unfold cutL; rw [r.length]; exact (r.drop _).take _
def opSl : PyData → Option Int → Option Int → (Rv → Prop) → Prop
  | .str z, lo, hi, k => z.length ≤ sizeLine ∧ k (.val (.str (S (cutL z.cps.toList lo hi))))
  | .list ds, lo, hi, k => k (.own (.list (cutL ds lo hi)))
  | .tuple ds, lo, hi, k => k (.val (.tuple (cutL ds lo hi)))
  | _, _, _, _ => False
def rSlAll (K : PySem.W.Frag) := fun (x : V) (lo hi : Option Int) (H : Hp) (Q : VK) => rSlS x lo hi H Q ∨ (rSlL K x lo hi H Q ∨ rSlA K x lo hi H Q)
theorem sl_all : SlR X (rSlAll X.K) := SlR.or sl_str (SlR.or sl_list sl_tupA)
theorem slAll {B H : Hp} {x : V} {a : PyData} {lo hi : Option Int} {k : Rv → Prop} {Q : VK} (e : Ext B H) (hx : Pk X.K B H x a) (h : opSl a lo hi k) (q : ∀ v H', Out X.K B H k v H' → Q v H') : rSlAll X.K x lo hi H Q := by
  cases a <;> first | exact h.elim | skip
  · obtain rfl := hx.str
    exact .inl ⟨_, rfl, h.1, q _ _ (outVal (by rw [cutL_S]; exact .str _) h.2)⟩
  · obtain ⟨p, xs, rfl, h1, r⟩ := hx.list e
    exact .inr (.inl ⟨p, xs, rfl, SqL.of h1, fun p' hp => q _ _ (outLst hp (r.cut _ _) h)⟩)
  · rename_i ds
    obtain ⟨p, xs, rfl, h1, r, rt⟩ := hx.tuple e
    refine .inr (.inr ⟨p, xs, rfl, h1, fun z => q _ _ (outVal rt ?_), fun z p' hp => q _ _ (outTup hp (r.cut _ _) h)⟩)
    have : cutL ds lo hi = ds := by
      unfold cutL
      rw [← r.length, z.1, z.2, List.drop_zero, Nat.sub_zero, r.length, List.take_length]
    have h' : k (.val (.tuple (cutL ds lo hi))) := h
    rw [this] at h'
    exact h'
/-- a part of a slice -/
abbrev WP := EnvP → EX → (Option Rd1 → EnvP → Prop) → Prop
def RpOk (K : PySem.W.Frag) (C : PC) (σ : L2.St) (B : Hp) : Option Int → Option Rd1 → Prop
  | none, none => True
  | some i, some rd => RdOk K C σ (.int i) rd B
  | _, _ => False
def liftP (K : PySem.W.Frag) (xw : XW) (C : PC) (f : WP) : TO := fun σ H Q => ∃ B env ex k, Abs K C B σ H env ∧ f env ex k ∧ XOk K xw C σ ex ∧
  ∀ o env' i H' B', Ext B B' → Abs K C B' σ H' env' → RpOk K C σ B' i o → k o env' → Q i H'
def PPP (X : Cx) (xw : XW) (e : Option Expr) (f : WP) : Prop := ∀ C, PO X e (liftP X.K xw C f)
theorem po_imp {e : Option Expr} {t t' : TO} (h : PO X e t) (i : ∀ σ H Q, t' σ H Q → t σ H Q) : PO X e t' := ⟨fun pins s σ H Q I q => h.run pins s σ H Q I (i σ H Q q)⟩
def wPn : WP := fun env _ k => k none env
def wPs (f : WO) : WP := fun env ex k => f env ex fun rd e1 => rd e1 fun a => match a with
  | .int i => k (some fun _ q => q (.int i)) e1
  | _ => False
theorem ppp_none : PPP X xw none wPn := fun C => po_imp po_none fun σ H Q ⟨B, env, ex, k, A, hk, xo, kq⟩ => kq none env none H B (Ext.refl B) A trivial hk
theorem ppp_some {e : Expr} {f : WO} (h : PPO X xw e f) : PPP X xw (some e) (wPs f) := fun C => po_imp (po_some (h C)) fun σ H Q ⟨B, env, ex, k, A, hk, xo, kq⟩ => by
  refine ⟨B, env, ex, _, A, hk, xo, fun rd e1 v H1 B1 x1 A1 R1 h1 => ?_⟩
  obtain ⟨a, pa, h2⟩ := R1 B1 H1 e1 _ (Ext.refl B1) A1 h1
  cases a <;> first | exact h2.elim | skip
  rename_i i
  obtain rfl := pa.int
  exact ⟨_, rfl, kq (some fun _ q => q (.int i)) e1 (some i) H1 B1 x1 A1 (show RdOk X.K C σ (.int i) (fun _ q => q (.int i)) B1 from fun B2 H2 e2 q x A2 hq => ⟨_, .val (.int _), hq⟩) h2⟩
def rdP : Option Rd1 → EnvP → (Option Int → Prop) → Prop
  | none, _, k => k none
  | some rd, e, k => rd e fun a => match a with
    | .int i => k (some i)
    | _ => False
def wSl (fo : WO) (lo hi : WP) : WE := fun env ex k => fo env ex fun ra e1 => lo e1 ex fun ol e2 => hi e2 ex fun oh e3 => ra e3 fun a => rdP ol e3 fun l => rdP oh e3 fun h => opSl a l h fun r => k r e3
theorem RpOk.rd {K : PySem.W.Frag} {C : PC} {σ : L2.St} {B B2 H2 : Hp} {e2 : EnvP} {i : Option Int} {o : Option Rd1} {k : Option Int → Prop} (h : RpOk K C σ B i o) (x : Ext B B2) (A : Abs K C B2 σ H2 e2) (q : rdP o e2 k) : k i := by
  cases i with
  | none => cases o with
    | none => exact q
    | some _ => exact h.elim
  | some i => cases o with
    | none => exact h.elim
    | some rd =>
      obtain ⟨d, pd, hd⟩ := h B2 H2 e2 _ x A q
      cases d <;> first | exact hd.elim | skip
      have := pd.int
      cases this
      exact hd
theorem pp_sl {e : Expr} {fo : WO} {lo hi : Option Expr} {fl fh : WP} {p2 : Pos} (ho : PPO X xw e fo) (hl : PPP X xw lo fl) (hh : PPP X xw hi fh) : PPE X xw (.Subscript e (.Slice lo hi none p2) pos) (wSl fo fl fh) := fun C =>
  pe_imp (pe_slice sl_all (ho C) (hl C) (hh C)) fun σ H Q ⟨B, env, ex, k, A, hk, xo, kq⟩ => by
    refine ⟨B, env, ex, _, A, hk, xo, fun ra e1 v H1 B1 x1 A1 R1 h1 => ?_⟩
    refine ⟨B1, e1, ex, _, A1, h1, xo, fun ol e2 i H2 B2 x2 A2 R2 h2 => ?_⟩
    refine ⟨B2, e2, ex, _, A2, h2, xo, fun oh e3 j H3 B3 x3 A3 R3 h3 => ?_⟩
    obtain ⟨a, pa, h4⟩ := R1 B3 H3 e3 _ (x2.trans x3) A3 h3
    have h5 := R2.rd x3 A3 h4
    have h6 := R3.rd (Ext.refl B3) A3 h5
    refine slAll A3.fr.sub pa h6 fun w H4 o => ?_
    obtain ⟨B5, r5, x5, A5, R5, q5⟩ := Out.abs A3 o
    exact kq r5 e3 w H4 B5 (x1.trans (x2.trans (x3.trans x5))) A5 R5 q5
/-- x[::-1] of a text or a list -/
theorem pick_rev (z : Str) : (Builtin.Str.strSliceIndices none none (-1) z.length).filterMap (z.cps[·]?) = z.cps.toList.reverse := by
  have e : Builtin.Str.strSliceIndices none none (-1) z.length = sliceRange ((z.length : Int) - 1) (-1) (-1) := by
    unfold Builtin.Str.strSliceIndices; rfl
  rw [e, PySem.W.krv_sliceRange, PySem.W.krv_range, List.filterMap_reverse]
  have : z.length = z.cps.size := rfl
  rw [this, PySem.W.krv_all]
def tRevS (te : TE) : TE := fun σ H Q => te σ H fun x H1 => ∃ z, x = .str z ∧ z.length ≤ sizeLine ∧ Q (.str (S z.cps.toList.reverse)) H1
theorem pe_revS {e : Expr} {te : TE} {k : Nat} {p1 p2 p3 pos : Pos} (he : PE X e te) : PE X (.Subscript e (.Slice none none (some (.UnaryOp .USub (.Constant (.int 1) k p1) p2)) p3) pos) (tRevS te) := by
  refine ⟨fun pins s σ H Q I h => ?_⟩
  refine Subscript_ (thn (he.run pins s σ H _ I h) fun v s1 ⟨x, H1, I1, r1, q1⟩ => ?_)
  obtain ⟨z, ex, hz, q⟩ := q1
  subst ex
  obtain ⟨t, rfl⟩ := r1
  have hst : PO X (some (.UnaryOp .USub (.Constant (.int 1) k p1) p2)) (tPart (tUn (rU fun i => .int (-i)) (tC (.int 1)))) := po_some (pe_un un_neg pe_int)
  refine wpAny_Slice (thn (po_none.run pins s1 σ H1 (fun o H2 => o = none ∧ H2 = H1) I1 ⟨rfl, rfl⟩) fun vl s2 ⟨l, H2, I2, pl, el, e2⟩ => ?_)
  subst el e2
  refine thn (po_none.run pins s2 σ H2 (fun o H3 => o = none ∧ H3 = H2) I2 ⟨rfl, rfl⟩) fun vu s3 ⟨u, H3, I3, pu, eu, e3⟩ => ?_
  subst eu e3
  refine thn (hst.run pins s3 σ H3 (fun o H4 => o = some (-1) ∧ H4 = H3) I3 ⟨1, rfl, -1, rfl, rfl, rfl⟩) fun vs s4 ⟨o, H4, I4, ps, eo, e4⟩ => ?_
  subst eo e4
  have I5 : Inv X pins σ H4 { s4 with heap := s4.heap.push { cls := .type "slice", data := .fields #[vl, vu, vs] } } := I4.kept (t' := s4.toks) fun b ob q => Heap.get?_push_of_some _ q
  show wpAny (model X.prog X.w) X.A (subscriptTail e (.Slice none none (some (.UnaryOp .USub (.Constant (.int 1) k p1) p2)) p3) (.str z t) (.ref s4.heap.objs.size)) (EP X pins σ Q) X.xe { s4 with heap := s4.heap.push { cls := .type "slice", data := .fields #[vl, vu, vs] } }
  refine tail_any (ops := [.ref s4.heap.objs.size, .str z t]) (T := "str") (typeIs_str _ _ _) F.slot_str_getitem.lookup ?_ (by with_unfolding_all rfl)
  obtain ⟨lq, rfl, hl⟩ := IsPart.raw pl
  obtain ⟨uq, rfl, hu⟩ := IsPart.raw pu
  obtain ⟨sq, rfl, hs⟩ := IsPart.raw ps
  refine wpAny_getItem_str_slice (l := lq) (u := uq) (st := sq) ⟨_, Heap.get?_push_size _ rfl, rfl, rfl⟩ (by rw [hs]; rfl) ?_
  unfold sliceMade slicePicked
  rw [hl, hu, hs]
  show Made.post (if ((-1 : Int) == 1 && _) = true then _ else Made.str ⟨((Builtin.Str.strSliceIndices none none (-1) z.length).filterMap (z.cps[·]?)).toArray⟩) _ _
  rw [if_neg (by simp), pick_rev]
  exact ⟨by show (z.cps.toList.reverse.toArray).size ≤ sizeLine; simpa [Str.length] using hz, .str _, H4, I5.tok _, ⟨_, rfl⟩, q⟩
def wRev (fo : WO) : WE := fun env ex k => fo env ex fun ra e1 => ra e1 fun a => match a with
  | .str z => z.length ≤ sizeLine ∧ k (.val (.str (S z.cps.toList.reverse))) e1
  | _ => False
theorem pp_revS {e : Expr} {fo : WO} {k : Nat} {p1 p2 p3 : Pos} (ho : PPO X xw e fo) : PPE X xw (.Subscript e (.Slice none none (some (.UnaryOp .USub (.Constant (.int 1) k p1) p2)) p3) pos) (wRev fo) := fun C =>
  pe_imp (pe_revS (ho C)) fun σ H Q ⟨B, env, ex, k, A, hk, xo, kq⟩ => by
    refine ⟨B, env, ex, _, A, hk, xo, fun ra e1 v H1 B1 x1 A1 R1 h1 => ?_⟩
    obtain ⟨a, pa, h2⟩ := R1 B1 H1 e1 _ (Ext.refl B1) A1 h1
    cases a <;> first | exact h2.elim | skip
    obtain rfl := pa.str
    exact ⟨_, rfl, h2.1, kq (.val (.str _)) e1 _ H1 B1 x1 A1 (Rp.str _) h2.2⟩

/-! ### isinstance of a value and a built-in type -/
def tyName : PyData → String
  | .none => "NoneType" | .bool _ => "bool" | .int _ => "int" | .str _ => "str" | .list _ => "list" | .tuple _ => "tuple" | .dict _ => "dict"
theorem Pk.tyX {B H : Hp} {v : V} {d : PyData} (e : Ext B H) (h : Pk X.K B H v d) (hd : tyName d ≠ "dict") : TyX X.K H v (.type (tyName d)) := by
  cases h with
  | val h =>
    cases h with
    | non => exact .base .non
    | bl b => exact .base (.bl b)
    | int i => exact .base (.int i)
    | str x => exact .base (.str x)
    | lst h r => exact .base (.lst (e _ _ h))
    | tup h r => exact .base (.tup (e _ _ h))
    | tupW h => obtain ⟨o, its, n, h1, h2, _⟩ := h; exact .kTuple h1 h2
    | dK _ _ => exact absurd rfl hd
    | dT _ _ => exact absurd rfl hd
  | own h =>
    cases d with
    | list ds => obtain ⟨xs, h1, _⟩ := h; exact .base (.lst h1)
    | dict ds => exact absurd rfl hd
    | _ => exact h.elim
def isTyN (T t : String) : Bool := t == T || (T == "int" && t == "bool")
def isTy (T : String) (d : PyData) : Bool := isTyN T (tyName d)
def wIsi (T : String) (fo : WO) : WE := fun env ex k => fo env ex fun ra e1 => ra e1 fun a => tyName a ≠ "dict" ∧ k (.val (.bool (isTy T a))) e1
def okT (T : String) : Prop := ∀ d, tyName d ≠ "dict" → kitB (tyName d) T = some (isTy T d)
theorem okT_of {T : String} (h : ∀ t ∈ ["NoneType", "bool", "int", "str", "list", "tuple"], kitB t T = some (isTyN T t)) : okT T := fun d hd => h (tyName d) (by cases d <;> first | exact absurd rfl hd | simp [tyName])
theorem okT_int : okT "int" := okT_of (by decide +kernel)
theorem okT_bool : okT "bool" := okT_of (by decide +kernel)
theorem okT_str : okT "str" := okT_of (by decide +kernel)
theorem okT_tuple : okT "tuple" := okT_of (by decide +kernel)
theorem okT_list : okT "list" := okT_of (by decide +kernel)
theorem pp_isi {e : Expr} {fo : WO} {T : String} {Tn : Str} {p p2 : Pos} (hT : okT T) (ho : PPO X xw e fo) (hg : Gl X "isinstance") (hm : X.mg "isinstance" = none) (hg2 : Gl X Tn) (hm2 : X.mg Tn = none) (hv : bootBuiltins Tn = some (.type T))
    (hn : Tn ≠ "__name__" := by decide) (hd : (Tn == ("__debug__" : Str)) = false := by decide)
    (he : starEach [e, .Name Tn p2] X.env = (false, eval e X.env) :: starEach [.Name Tn p2] X.env := by rfl) (he2 : starEach [.Name Tn p2] X.env = (false, eval (.Name Tn p2) X.env) :: starEach [] X.env := by rfl) (hpl : (backTo pos (starEach [.Name Tn p2] X.env)).any (·.1) = false := by rfl) :
    PPE X xw (.Call (.Name "isinstance" p) [e, .Name Tn p2] [] pos) (wIsi T fo) := fun C =>
  pe_imp (pe_callB call_isi hg hm boot_isinstance (pa_cons (ho C) (pa_cons (pe_bltn (v := .ty T) hg2 hm2 hv rfl hn hd) pa_nil he2) he) (by decide) (by decide) he hpl) fun σ H Q ⟨B, env, ex, k, A, hk, xo, kq⟩ => by
    refine ⟨B, env, ex, _, A, hk, xo, fun ra e1 v H1 B1 x1 A1 R1 h1 => ?_⟩
    obtain ⟨a, pa, h2, h3⟩ := R1 B1 H1 e1 _ (Ext.refl B1) A1 h1
    exact ⟨v, .ty T, _, _, isTy T a, rfl, .ty T, pa.tyX A1.fr.sub h2, kit_ty (hT a h2), kq (.val (.bool _)) e1 _ H1 B1 x1 A1 (Rp.bl _) h3⟩
end
end PL

namespace PL
open PySem PySem.Spec PyProof.Rows L2 TL

/-! ### enumerate of a tuple -/
section
theorem meets_enum1 {v : Value} {o : Obj} {Hb : Heap → Prop} (B : Begins v o Hb) :
    Meets (Builtin.«enumerate.__new__» ⟨[.type "enumerate", v], []⟩) (fun _ R s => Hb s.heap ∧
      R (.ok (.ret (.ref (s.heap.push o).objs.size))) { s with heap := (s.heap.push o).push { cls := .type "enumerate", data := .fields #[.none, .bool false, .ref s.heap.objs.size, rawInt 0, .none, .none] } }) :=
  .of_wp fun prog w A R s hh => by
    obtain ⟨hp, g, d, tk, os⟩ := s; obtain ⟨hb, hh⟩ := hh
    have hsub := sub_enumerate
    have it0 : ∀ {A' : Around} {E : Value → Shared → Prop} {Q : Value → Shared → Prop}, Q (.ref hp.objs.size) ⟨hp.push o, g, d, tk, os⟩ → wpAny (model prog w) A' (pyIter v) Q E ⟨hp, g, d, tk, os⟩ :=
      fun q => B.iter prog w _ _ ⟨hp, g, d, tk, os⟩ _ hb q
    wp_walk using it0
    refine wpAny_stack_any fun st => wpAny_pure ?_
    split
    · rename_i c _ _ _ _ _
      cases (c == Value.type "enumerate") <;>
      · wp_walk using it0
        exact ⟨_, rfl, hh⟩
    · wp_walk using it0
      exact ⟨_, rfl, hh⟩
end
section
variable {prog : Program} {w : World} {A : Around} {E : Value → Shared → Prop} {s : Shared}
theorem call_enum1 {v : Value} {o : Obj} {Hb : Heap → Prop} {Q : Value → Shared → Prop} (B : Begins v o Hb) (hb : Hb s.heap)
    (k : ∀ h', IsEnum h' (s.heap.objs.size + 1) s.heap.objs.size 0 .none → h'.get? s.heap.objs.size = some o → (∀ b u, s.heap.get? b = some u → h'.get? b = some u) → Q (.ref (s.heap.objs.size + 1)) { s with heap := h' }) :
    wpAny (model prog w) A (call (.type "enumerate") [v]) Q E s := by
  refine callType_new F.called_enumerate (by decide) (F.typeCall_enumerate_1 _) (F.newCall_enumerate_1 _) (fun obj => F.args_object_init_2 obj _) F.entry_enumerate_new (meets_enum1 B) ⟨hb, ?_⟩
  have z : (s.heap.push o).objs.size = s.heap.objs.size + 1 := Heap.size_push ..
  show _ ∧ _
  rw [z]
  have he : IsEnum ((s.heap.push o).push { cls := .type "enumerate", data := .fields #[.none, .bool false, .ref s.heap.objs.size, rawInt 0, .none, .none] }) (s.heap.objs.size + 1) s.heap.objs.size 0 .none := by
    have q := Heap.get?_push_size (s.heap.push o) (o := { cls := .type "enumerate", data := .fields #[.none, .bool false, .ref s.heap.objs.size, rawInt 0, .none, .none] }) rfl
    rw [z] at q; exact q
  exact ⟨⟨_, he, rfl⟩, k _ he (Heap.get?_push_of_some _ (Heap.get?_push_size _ B.free)) fun b u x => Heap.get?_push_of_some _ (Heap.get?_push_of_some _ x)⟩
end
/-- the tuple at a, each item in a new pair -/
def ItET (K : PySem.W.Frag) (a : Addr) : It :=
  ⟨fun i H => ∃ (xs : List V) (x : V), SqT K H a xs ∧ xs[i]? = some x, fun i H v H' => ∃ T x, v = .ref T ∧ H T = none ∧ H' = upd H T (.tup [.int (i : Nat), x]) ∧ ∀ xs, SqT K H a xs → xs[i]? = some x, fun i H => ∃ xs : List V, SqT K H a xs ∧ xs.length = i⟩
theorem turn_enumT {P : Program} {w : World} {K : PySem.W.Frag} {elts : List Expr} {kk : Nat} {tpos : Pos} (a e it : Addr) :
    Turn P w K (.Tuple elts kk tpos) (ItET K a) [e, it] e (fun i h => (∃ old, IsEnum h e it ((i : Nat) : Int) old) ∧ h.IsTupleIter it a i ∧ e ≠ it ∧ e ≠ a ∧ a ≠ it) where
  mem := by simp
  obj := fun i h st b hb => by
    obtain ⟨⟨old, he⟩, ⟨o, ho, hc, hd⟩, _⟩ := st
    rcases (show b = e ∨ b = it by simpa using hb) with rfl | rfl
    · exact ⟨_, he, fun v q => nomatch q⟩
    · exact ⟨o, ho, fun v q => by rw [hd] at q; cases q⟩
  keep := fun i h h' st k => by
    obtain ⟨⟨old, he⟩, hi, r⟩ := st
    exact ⟨⟨old, k e (by simp) _ he⟩, hi.at fun o q => k it (by simp) o q, r⟩
  item := by
    intro X hP hw hK hc i pins s σ H E I hf st hg
    subst hP hw hK
    obtain ⟨⟨old, he⟩, hit, hne, hea, hai⟩ := st
    obtain ⟨xs, x, hq, hx⟩ := hg
    obtain ⟨its, rv, pt, hz⟩ := I.tuple hq
    obtain ⟨u, hu, ru⟩ := rv.get hx
    have hel : e < s.heap.objs.size := Heap.lt_size he
    have hil : it < s.heap.objs.size := by obtain ⟨_, q, _⟩ := hit; exact Heap.lt_size q
    have hlt : i < its.toArray.size := by
      have := (List.getElem?_eq_some_iff.mp hu).1
      simpa using this
    refine wpAny_pyNext_enum_itemD (Draws.tuple (A := X.A.in1) (show X.A.in1.handled = none from I.ok.hd hc) it a hai its.toArray) he ⟨hit, pt⟩ hlt hne (by simp [hne, hea]) fun u2 h' tk hP ho hst' hT hsz hk => ?_
    have eu : u2 = u := by
      have : its.toArray[i]? = some u := by simpa using hu
      rw [this] at hP; exact (Option.some.inj hP).symm
    subst eu
    refine ⟨_, rfl, wpAny_letOwnedTupleGo_enum (s := { s with heap := h', toks := tk + 1 }) ho fun h'' he' sb => ?_⟩
    have hT2 : h''.get? s.heap.objs.size = some { cls := .type "tuple", data := .seq #[.int i tk, u2] } := (sb.2 _ (Nat.ne_of_gt hel)).trans hT
    have new : ObjOk X.prog X.w (upd H s.heap.objs.size (.tup [.int (i : Nat), x])) h'' s.heap.objs.size (.tup [.int (i : Nat), x]) :=
      ⟨by show 2 ≤ sizeLine; decide, [.int i tk, u2], .cons ⟨_, rfl⟩ (.cons ru .nil), ⟨_, hT2, rfl, _, rfl⟩⟩
    have J : Inv X pins σ (upd H s.heap.objs.size (.tup [.int (i : Nat), x])) { s with heap := h'', toks := tk + 1 } :=
      I.turnedNew (ch := [e, it]) (fun b ob hb q => (sb.2 b (fun z => hb (by simp [z]))).trans (hk b ob (fun z => hb (by simp [z])) (fun z => hb (by simp [z])) q)) hf (Nat.le_refl _) new
    refine ⟨.ref s.heap.objs.size, _, J, rfl, ⟨_, x, rfl, I.hok.fresh (Nat.le_refl _), rfl, fun ys hy => by rw [I.tuple_inj hy hq]; exact hx⟩, ⟨⟨u2, ?_⟩, hst'.1.at fun o q => (sb.2 it (Ne.symm hne)).trans q, hne, hea, hai⟩, fun b hb => ?_⟩
    · have e1 : ((i + 1 : Nat) : Int) = (i : Int) + 1 := by omega
      rw [e1]; exact he'
    · have hb' : b < s.heap.objs.size := by
        rcases (show b = e ∨ b = it by simpa using hb) with rfl | rfl
        · exact hel
        · exact hil
      rw [upd_ne (Nat.ne_of_lt hb')]
      exact (hf b hb).1
  done := by
    intro X hP hw hK hc i pins s σ H E I hf st hg
    subst hP hw hK
    obtain ⟨⟨old, he⟩, hit, hne, hea, hai⟩ := st
    obtain ⟨xs, hq, hx⟩ := hg
    obtain ⟨its, rv, pt, hz⟩ := I.tuple hq
    obtain ⟨f0, f1, f2, f3, f4, f5⟩ := hf it (by simp)
    have hl := rv.length
    have hi : i = its.toArray.size := by simp; omega
    subst hi
    exact wpAny_pyNext_enum_endD (Draws.tuple (A := X.A.in1) (show X.A.in1.handled = none from I.ok.hd hc) it a hai its.toArray) he ⟨hit, pt⟩ fun h' eb => ⟨rfl, I.turned (t' := s.toks) (fun b o hb q => eb b o hb q) f0 f1 f3 f4 f5⟩
  self := fun A i s Q E st h => by
    obtain ⟨⟨_, he⟩, _⟩ := st
    exact wpAny_pyIter_enum he h
end PL

namespace PL
open PySem PySem.Spec PyProof.Rows L2 TL

/-! ### what a loop walks: its items, as data -/
def ItOk (K : PySem.W.Frag) (B : Hp) (J : It) (ds : List PyData) : Prop := ∀ i H, Ext B H → (ds.length = i → J.stop i H) ∧ ∀ d, ds[i]? = some d → J.go i H ∧ ∀ x H', J.yld i H x H' → Out K B H (fun r => r = .val d) x H'
theorem Out.ext {K : PySem.W.Frag} {B B' H H' : Hp} {k : Rv → Prop} {v : V} (h : Out K B H k v H') (e : Ext B B') : Out K B' H k v H' := by
  rcases h with ⟨d, h1, h2, h3⟩ | ⟨p, o, d, h1, h2, h3, h4, h5⟩ | ⟨p, xs, ds, h1, h2, h3, h4, h5⟩
  · exact .inl ⟨d, h1, h2.ext e, h3⟩
  · exact .inr (.inl ⟨p, o, d, h1, h2, h3, h4.ext e rfl, h5⟩)
  · exact .inr (.inr ⟨p, xs, ds, h1, h2, h3, h4.ext e, h5⟩)
theorem ItOk.ext {K : PySem.W.Frag} {B B' : Hp} {J : It} {ds : List PyData} (h : ItOk K B J ds) (e : Ext B B') : ItOk K B' J ds := fun i H x => by
  obtain ⟨h1, h2⟩ := h i H (e.trans x)
  exact ⟨h1, fun d hd => ⟨(h2 d hd).1, fun x H' y => ((h2 d hd).2 x H' y).ext e⟩⟩
abbrev WI := EnvP → EX → (List PyData → EnvP → Prop) → Prop
def liftI (K : PySem.W.Frag) (xw : XW) (C : PC) (f : WI) : TI := fun σ H R => ∃ B env ex k, Abs K C B σ H env ∧ f env ex k ∧ XOk K xw C σ ex ∧
  ∀ ds env' H' B' J, Ext B B' → Abs K C B' σ H' env' → ItOk K B' J ds → k ds env' → R J H'
def PPI (X : Cx) (xw : XW) (tg e : Expr) (f : WI) : Prop := ∀ C, PI X tg e (liftI X.K xw C f)
theorem pi_imp {X : Cx} {tg e : Expr} {t t' : TI} (h : PI X tg e t) (i : ∀ σ H R, t' σ H R → t σ H R) : PI X tg e t' := ⟨fun pins s σ H R I q => h.run pins s σ H R I (i _ _ _ q)⟩
section
variable {X : Cx} {xw : XW} {pos : Pos} {tg : Expr}
/-- a list, a tuple, a text -/
def iSeq (K : PySem.W.Frag) (te : TE) : TI := fun σ H R => te σ H fun x H1 => (∃ a xs, x = .ref a ∧ SqL K H1 a xs ∧ R (Itl K a) H1) ∨ (∃ a xs, x = .ref a ∧ SqT K H1 a xs ∧ R (Itt K a) H1) ∨ ∃ z, x = .str z ∧ R (Its z) H1
theorem pi_seq {e : Expr} {te : TE} (he : PE X e te) : PI X tg e (iSeq X.K te) := by
  refine ⟨fun pins s σ H R I h => ?_⟩
  refine thn (he.run pins s σ H _ I h) fun v s1 ⟨x, H1, I1, r1, q⟩ => ?_
  rcases q with ⟨a, xs, rfl, hq, q⟩ | ⟨a, xs, rfl, hq, q⟩ | ⟨z, rfl, q⟩
  · cases r1
    obtain ⟨its, rv, pl, _⟩ := I1.list hq
    exact wpAny_pyIter_list pl.isList (pi_one (tk := s1.toks) I1 _ (turn_list a _) ⟨_, Heap.get?_push_size _ rfl, rfl, rfl⟩ q)
  · cases r1
    obtain ⟨its, rv, pl, _⟩ := I1.tuple hq
    exact wpAny_pyIter_tuple (show s1.heap.IsTuple a its.toArray from pl) (pi_one (tk := s1.toks) I1 _ (turn_tuple a _) ⟨_, Heap.get?_push_size _ rfl, rfl, rfl⟩ q)
  · obtain ⟨t, rfl⟩ := r1
    cases ha : z.cps.all (· < 128)
    · exact wpAny_pyIter_wide ha (pi_one (tk := s1.toks) I1 _ (turn_str _ z t "str_iterator" (.inr rfl)) ⟨_, Heap.get?_push_size _ rfl, rfl, rfl⟩ q)
    · exact wpAny_pyIter_ascii ha (pi_one (tk := s1.toks) I1 _ (turn_str _ z t "str_ascii_iterator" (.inl rfl)) ⟨_, Heap.get?_push_size _ rfl, rfl, rfl⟩ q)
def itemsOf : PyData → Option (List PyData)
  | .list ds => some ds
  | .tuple ds => some ds
  | .str z => some (z.cps.toList.map fun c => .str (S [c]))
  | _ => none
def wIt (f : WE) : WI := fun env ex k => f env ex fun r e1 => r.vv fun d => match itemsOf d with
  | some ds => k ds e1
  | none => False
theorem itOk_list {K : PySem.W.Frag} {B : Hp} {a : Addr} {xs : List V} {ds : List PyData} (hb : B a = some (.lst xs)) (r : RpA K B xs ds) : ItOk K B (Itl K a) ds := fun i H e => by
  have hs : SqL K H a xs := SqL.of (e _ _ hb)
  refine ⟨fun h => ⟨xs, hs, by rw [r.length, h]; exact Nat.le_refl _⟩, fun d hd => ?_⟩
  obtain ⟨v, hv, rv⟩ := r.get hd
  refine ⟨⟨xs, v, hs, hv⟩, fun x H' y => ?_⟩
  obtain ⟨rfl, y⟩ := y
  have := (y xs hs).symm.trans hv
  cases this
  exact outVal rv rfl
theorem itOk_tuple {K : PySem.W.Frag} {B : Hp} {a : Addr} {xs : List V} {ds : List PyData} (hb : ∀ H, Ext B H → SqT K H a xs) (r : RpA K B xs ds) : ItOk K B (Itt K a) ds := fun i H e => by
  have hs : SqT K H a xs := hb H e
  refine ⟨fun h => ⟨xs, hs, by rw [r.length, h]; exact Nat.le_refl _⟩, fun d hd => ?_⟩
  obtain ⟨v, hv, rv⟩ := r.get hd
  refine ⟨⟨xs, v, hs, hv⟩, fun x H' y => ?_⟩
  obtain ⟨rfl, y⟩ := y
  have := (y xs hs).symm.trans hv
  cases this
  exact outVal rv rfl
theorem itOk_str {K : PySem.W.Frag} {B : Hp} {z : Str} : ItOk K B (Its z) (z.cps.toList.map fun c => .str (S [c])) := fun i H e => by
  refine ⟨fun h => ?_, fun d hd => ?_⟩
  · show z.cps.size ≤ i
    rw [← h, List.length_map, Array.length_toList]; exact Nat.le_refl _
  · rw [List.getElem?_map] at hd
    cases hc : z.cps.toList[i]? with
    | none => rw [hc] at hd; cases hd
    | some c =>
      rw [hc] at hd
      cases hd
      have hi : i < z.cps.size := by
        have := (List.getElem?_eq_some_iff.mp hc).1
        simpa using this
      refine ⟨hi, fun x H' y => ?_⟩
      obtain ⟨rfl, c', hc', rfl⟩ := y
      have : z.cps.toList[i]? = some c' := by simpa using hc'
      rw [hc] at this
      cases this
      exact outVal (.str _) rfl
theorem Rp.tupAll {K : PySem.W.Frag} {B : Hp} {v : V} {ds : List PyData} (h : Rp K B v (.tuple ds)) : ∃ a xs, v = .ref a ∧ RpA K B xs ds ∧ ∀ H, Ext B H → SqT K H a xs := by
  cases h with
  | tup h r => exact ⟨_, _, rfl, r, fun H e => SqT.of (e _ _ h)⟩
  | tupW h => exact ⟨_, _, rfl, .cons (.str _) .nil, fun H e => .inr h⟩
theorem ppi_seq {e : Expr} {f : WE} (h : PPE X xw e f) : PPI X xw tg e (wIt f) := fun C => pi_imp (pi_seq (h C)) fun σ H R ⟨B, env, ex, k, A, hk, xo, kq⟩ => by
  refine ⟨B, env, ex, _, A, hk, xo, fun r e1 v H1 B1 x1 A1 R1 h1 => ?_⟩
  obtain ⟨B2, d, x2, A2, rd, h2⟩ := use A1 R1 h1
  cases d with
  | list ds =>
    cases rd with
    | lst hb r => exact .inl ⟨_, _, rfl, SqL.of (A2.fr.sub _ _ hb), kq ds e1 H1 B2 _ (x1.trans x2) A2 (itOk_list hb r) h2⟩
  | tuple ds =>
    obtain ⟨a, xs, rfl, r, hs⟩ := rd.tupAll
    exact .inr (.inl ⟨_, _, rfl, hs _ A2.fr.sub, kq ds e1 H1 B2 _ (x1.trans x2) A2 (itOk_tuple hs r) h2⟩)
  | str z =>
    cases rd
    exact .inr (.inr ⟨z, rfl, kq _ e1 H1 B2 _ (x1.trans x2) A2 itOk_str h2⟩)
  | _ => exact h2.elim
/-- range -/
def rangeD (lo : Int) (n : Nat) : List PyData := (List.range n).map fun i => .int (lo + (i : Nat))
theorem itOk_range {K : PySem.W.Frag} {B : Hp} {lo : Int} {n : Nat} : ItOk K B (Itr lo n) (rangeD lo n) := fun i H e => by
  refine ⟨fun h => ?_, fun d hd => ?_⟩
  · show n ≤ i
    rw [← h]; simp [rangeD]
  · unfold rangeD at hd
    rw [List.getElem?_map] at hd
    cases hc : (List.range n)[i]? with
    | none => rw [hc] at hd; cases hd
    | some c =>
      rw [hc] at hd
      obtain ⟨hi, hc'⟩ := List.getElem?_eq_some_iff.mp hc
      rw [List.getElem_range] at hc'
      subst hc'
      have hd' : some (PyData.int (lo + (i : Nat))) = some d := hd
      cases hd'
      have hi' : i < n := by simpa using hi
      refine ⟨hi', fun x H' y => ?_⟩
      obtain ⟨rfl, rfl⟩ := y
      exact outVal (.int _) rfl
def rangeN (lo : Int) (n : Nat) : List PyData := (List.range n).map fun i => .int (lo - (i : Nat))
theorem itOk_rangeN {K : PySem.W.Frag} {B : Hp} {lo : Int} {n : Nat} : ItOk K B (Itc lo (-1) n) (rangeN lo n) := fun i H e => by
  refine ⟨fun h => ?_, fun d hd => ?_⟩
  · show n ≤ i
    rw [← h]; simp [rangeN]
  · unfold rangeN at hd
    rw [List.getElem?_map] at hd
    cases hc : (List.range n)[i]? with
    | none => rw [hc] at hd; cases hd
    | some c =>
      rw [hc] at hd
      obtain ⟨hi, hc'⟩ := List.getElem?_eq_some_iff.mp hc
      rw [List.getElem_range] at hc'
      subst hc'
      have hd' : some (PyData.int (lo - (i : Nat))) = some d := hd
      cases hd'
      have hi' : i < n := by simpa using hi
      refine ⟨hi', fun x H' y => ?_⟩
      obtain ⟨rfl, rfl⟩ := y
      have e1 : lo + ((i : Nat) : Int) * (-1) = lo - (i : Nat) := by omega
      rw [e1]
      exact outVal (.int _) rfl
def sm (i : Int) : Prop := -(2 ^ 62) ≤ i ∧ i < 2 ^ 62
def opRange1 : List PyData → (List PyData → Prop) → Prop
  | [.int j], k => sm j ∧ k (rangeD 0 j.toNat)
  | _, _ => False
def opRange2 : List PyData → (List PyData → Prop) → Prop
  | [.int i, .int j], k => (sm i ∧ sm j) ∧ k (rangeD i (j - i).toNat)
  | _, _ => False
def opRange3 : List PyData → (List PyData → Prop) → Prop
  | [.int i, .int j, .int c], k => (c = -1 ∧ sm i ∧ sm j) ∧ k (rangeN i (i - j).toNat)
  | _, _ => False
def wRg (op : List PyData → (List PyData → Prop) → Prop) (f : WAO) : WI := fun env ex k => f env ex fun rds e1 => reads rds e1 fun ds => op ds fun is => k is e1
variable {a b c : Expr} {p : Pos}
theorem ppi_range1 {f : WAO} (hg : Gl X "range") (hm : X.mg "range" = none) (ha : PPAO X xw [a] f) (hs : starEach [a] X.env = [(false, eval a X.env)] := by rfl) : PPI X xw tg (.Call (.Name "range" p) [a] [] pos) (wRg opRange1 f) := fun C =>
  pi_imp (pi_range1 hg hm (ha C) hs) fun σ H R ⟨B, env, ex, k, A, hk, xo, kq⟩ => by
    refine ⟨B, env, ex, _, A, hk, xo, fun rds e1 vs H1 B1 x1 A1 R1 h1 => ?_⟩
    obtain ⟨ds, ps, h2⟩ := R1.reads (Ext.refl B1) A1 h1
    unfold opRange1 at h2
    split at h2
    · obtain ⟨v, rfl, hp⟩ := ps.one
      obtain rfl := hp.int
      exact ⟨_, rfl, h2.1.1, h2.1.2, kq _ e1 H1 B1 _ x1 A1 itOk_range h2.2⟩
    · exact h2.elim
theorem ppi_range2 {f : WAO} (hg : Gl X "range") (hm : X.mg "range" = none) (ha : PPAO X xw [a, b] f) (hs : starEach [a, b] X.env = [(false, eval a X.env), (false, eval b X.env)] := by rfl) (hs2 : starEach [b] X.env = [(false, eval b X.env)] := by rfl) :
    PPI X xw tg (.Call (.Name "range" p) [a, b] [] pos) (wRg opRange2 f) := fun C =>
  pi_imp (pi_range2 hg hm (ha C) hs hs2) fun σ H R ⟨B, env, ex, k, A, hk, xo, kq⟩ => by
    refine ⟨B, env, ex, _, A, hk, xo, fun rds e1 vs H1 B1 x1 A1 R1 h1 => ?_⟩
    obtain ⟨ds, ps, h2⟩ := R1.reads (Ext.refl B1) A1 h1
    unfold opRange2 at h2
    split at h2
    · obtain ⟨v, v', rfl, hp, hp'⟩ := ps.two
      obtain rfl := hp.int
      obtain rfl := hp'.int
      exact ⟨_, _, rfl, ⟨h2.1.1.1, h2.1.1.2, h2.1.2.1, h2.1.2.2⟩, kq _ e1 H1 B1 _ x1 A1 itOk_range h2.2⟩
    · exact h2.elim
theorem ppi_range3 {f : WAO} (hg : Gl X "range") (hm : X.mg "range" = none) (ha : PPAO X xw [a, b, c] f)
    (hs : starEach [a, b, c] X.env = (false, eval a X.env) :: starEach [b, c] X.env := by rfl) (hpl : (backTo pos (starEach [b, c] X.env)).any (·.1) = false := by rfl) :
    PPI X xw tg (.Call (.Name "range" p) [a, b, c] [] pos) (wRg opRange3 f) := fun C =>
  pi_imp (pi_range3 hg hm (ha C) hs hpl) fun σ H R ⟨B, env, ex, k, A, hk, xo, kq⟩ => by
    refine ⟨B, env, ex, _, A, hk, xo, fun rds e1 vs H1 B1 x1 A1 R1 h1 => ?_⟩
    obtain ⟨ds, ps, h2⟩ := R1.reads (Ext.refl B1) A1 h1
    unfold opRange3 at h2
    split at h2
    · cases ps with
      | cons hp ps =>
        obtain ⟨v, v', rfl, hp', hp''⟩ := ps.two
        obtain rfl := hp.int
        obtain rfl := hp'.int
        obtain rfl := hp''.int
        obtain ⟨⟨rfl, h3, h4⟩, h5⟩ := h2
        exact ⟨_, _, _, _, rfl, RgC.neg h3.1 h3.2 h4.1 h4.2, kq _ e1 H1 B1 _ x1 A1 itOk_rangeN h5⟩
    · exact h2.elim
/-- enumerate of a list or a tuple -/
def enumD : Nat → List PyData → List PyData
  | _, [] => []
  | n, d :: ds => .tuple [.int (n : Nat), d] :: enumD (n + 1) ds
theorem enumD_get : ∀ (ds : List PyData) (n i : Nat), (enumD n ds)[i]? = ds[i]?.map fun d => .tuple [.int ((n + i : Nat) : Int), d]
  | [], n, i => by simp [enumD]
  | d :: ds, n, 0 => by simp [enumD]
  | d :: ds, n, i + 1 => by
    unfold enumD
    rw [List.getElem?_cons_succ, List.getElem?_cons_succ, enumD_get ds (n + 1) i]
    have : n + 1 + i = n + (i + 1) := by omega
    rw [this]
theorem enumD_len : ∀ (ds : List PyData) (n : Nat), (enumD n ds).length = ds.length
  | [], n => rfl
  | d :: ds, n => by simp [enumD, enumD_len ds (n + 1)]
theorem itOk_enumL {K : PySem.W.Frag} {B : Hp} {a : Addr} {xs : List V} {ds : List PyData} (hb : B a = some (.lst xs)) (r : RpA K B xs ds) : ItOk K B (Ite K a) (enumD 0 ds) := fun i H e => by
  have hs : SqL K H a xs := SqL.of (e _ _ hb)
  refine ⟨fun h => ⟨xs, hs, by rw [enumD_len] at h; rw [r.length, h]; exact Nat.le_refl _⟩, fun d hd => ?_⟩
  rw [enumD_get] at hd
  cases hc : ds[i]? with
  | none => rw [hc] at hd; cases hd
  | some d0 =>
    rw [hc] at hd
    obtain ⟨v, hv, rv⟩ := r.get hc
    refine ⟨⟨xs, v, hs, hv⟩, fun x H' y => ?_⟩
    obtain ⟨T, x0, rfl, hT, rfl, y⟩ := y
    have := (y xs hs).symm.trans hv
    cases this
    refine outTup hT (.cons (.int _) (.cons rv .nil)) ?_
    have hd' : some _ = some d := hd
    cases hd'
    simp
theorem itOk_enumT {K : PySem.W.Frag} {B : Hp} {a : Addr} {xs : List V} {ds : List PyData} (hb : ∀ H, Ext B H → SqT K H a xs) (r : RpA K B xs ds) : ItOk K B (ItET K a) (enumD 0 ds) := fun i H e => by
  have hs : SqT K H a xs := hb H e
  refine ⟨fun h => ⟨xs, hs, by rw [enumD_len] at h; rw [r.length, h]⟩, fun d hd => ?_⟩
  rw [enumD_get] at hd
  cases hc : ds[i]? with
  | none => rw [hc] at hd; cases hd
  | some d0 =>
    rw [hc] at hd
    obtain ⟨v, hv, rv⟩ := r.get hc
    refine ⟨⟨xs, v, hs, hv⟩, fun x H' y => ?_⟩
    obtain ⟨T, x0, rfl, hT, rfl, y⟩ := y
    have := (y xs hs).symm.trans hv
    cases this
    refine outTup hT (.cons (.int _) (.cons rv .nil)) ?_
    have hd' : some _ = some d := hd
    cases hd'
    simp
def iEn (K : PySem.W.Frag) (ta : TA) : TI := fun σ H R => ta σ H fun vs H1 => ∃ a xs, vs = [.ref a] ∧ ((SqL K H1 a xs ∧ R (Ite K a) H1) ∨ (SqT K H1 a xs ∧ R (ItET K a) H1))
theorem pi_en {e : Expr} {ta : TA} {tpos : Pos} {elts : List Expr} {kk : Nat} (hg : Gl X "enumerate") (hm : X.mg "enumerate" = none) (ha : PA X [e] ta) (hs : starEach [e] X.env = [(false, eval e X.env)] := by rfl) :
    PI X (.Tuple elts kk tpos) (.Call (.Name "enumerate" p) [e] [] pos) (iEn X.K ta) := by
  refine ⟨fun pins s σ H R I h => ?_⟩
  refine Call_ (ld_blt I hg hm boot_enumerate (PyProof.Rows.callWith_type1 (thn (ha.run pos pins s σ H _ I h) fun us s1 ⟨vs, H1, I1, r1, q1⟩ => ?_) hs rfl))
  obtain ⟨a, xs, rfl, q⟩ := q1
  obtain rfl := r1.ref1
  have two : ∀ b ∈ [s1.heap.objs.size + 1, s1.heap.objs.size], s1.heap.objs.size ≤ b := fun b hb => by
    rcases (show b = s1.heap.objs.size + 1 ∨ b = s1.heap.objs.size by simpa using hb) with rfl | rfl
    · exact Nat.le_succ _
    · exact Nat.le_refl _
  rcases q with ⟨hq, q⟩ | ⟨hq, q⟩
  · obtain ⟨its, rv, pl, _⟩ := I1.list hq
    refine call_enum1 (begins_list a its.toArray) pl.isList fun h' he hit hk => wpAny_pyIter_enum he ?_
    have I2 : Inv X pins σ H1 { s1 with heap := h' } := I1.kept (t' := s1.toks) hk
    exact ⟨_, _, _, _, H1, rfl, I2, turn_enum a (s1.heap.objs.size + 1) s1.heap.objs.size, ⟨⟨.none, he⟩, ⟨_, hit, rfl, rfl⟩, Nat.succ_ne_self _⟩, fun b hb => I1.fpOk (two b hb) (I1.hok.fresh (two b hb)), q⟩
  · obtain ⟨its, rv, pl, _⟩ := I1.tuple hq
    have hlt : a < s1.heap.objs.size := pl.lt
    refine call_enum1 (begins_tuple a its.toArray) pl fun h' he hit hk => wpAny_pyIter_enum he ?_
    have I2 : Inv X pins σ H1 { s1 with heap := h' } := I1.kept (t' := s1.toks) hk
    exact ⟨_, _, _, _, H1, rfl, I2, turn_enumT a (s1.heap.objs.size + 1) s1.heap.objs.size, ⟨⟨.none, he⟩, ⟨_, hit, rfl, rfl⟩, Nat.succ_ne_self _, Nat.ne_of_gt (Nat.lt_succ_of_lt hlt), Nat.ne_of_lt hlt⟩, fun b hb => I1.fpOk (two b hb) (I1.hok.fresh (two b hb)), q⟩
def wEn (f : WA) : WI := fun env ex k => f env ex fun rs e1 => vals rs fun ds => match ds with
  | [.list xs] => k (enumD 0 xs) e1
  | [.tuple xs] => k (enumD 0 xs) e1
  | _ => False
theorem ppi_enum {e : Expr} {f : WA} {tpos : Pos} {elts : List Expr} {kk : Nat} (hg : Gl X "enumerate") (hm : X.mg "enumerate" = none) (ha : PPA X xw [e] f) (hs : starEach [e] X.env = [(false, eval e X.env)] := by rfl) :
    PPI X xw (.Tuple elts kk tpos) (.Call (.Name "enumerate" p) [e] [] pos) (wEn f) := fun C => pi_imp (pi_en hg hm (ha C) hs) fun σ H R ⟨B, env, ex, k, A, hk, xo, kq⟩ => by
  refine ⟨B, env, ex, _, A, hk, xo, fun rs e1 vs H1 B1 x1 A1 R1 h1 => ?_⟩
  obtain ⟨ds, r, h2⟩ := R1.vals h1
  split at h2
  · cases r with
    | cons r r' =>
      cases r'
      cases r with
      | lst hb r => exact ⟨_, _, rfl, .inl ⟨SqL.of (A1.fr.sub _ _ hb), kq _ e1 H1 B1 _ x1 A1 (itOk_enumL hb r) h2⟩⟩
  · cases r with
    | cons r r' =>
      cases r'
      obtain ⟨a, xs, rfl, r, hs⟩ := r.tupAll
      exact ⟨_, _, rfl, .inr ⟨hs _ A1.fr.sub, kq _ e1 H1 B1 _ x1 A1 (itOk_enumT hs r) h2⟩⟩
  · exact h2.elim

/-! ### targets -/
abbrev WG := PyData → EnvP → (EnvP → Prop) → Prop
abbrev WGs := List PyData → EnvP → (EnvP → Prop) → Prop
/-- only the slots of sl are set -/
def SetsOnly (sl : List Nat) (σ σ' : L2.St) : Prop := σ'.length = σ.length ∧ ∀ j, j ∉ sl → σ'[j]? = σ[j]?
theorem SetsOnly.refl (σ : L2.St) : SetsOnly [] σ σ := ⟨rfl, fun _ _ => rfl⟩
theorem SetsOnly.trans {a b : List Nat} {σ σ1 σ2 : L2.St} (h : SetsOnly a σ σ1) (h' : SetsOnly b σ1 σ2) : SetsOnly (a ++ b) σ σ2 := ⟨h'.1.trans h.1, fun j hj => by
  rw [List.mem_append, not_or] at hj
  exact (h'.2 j hj.2).trans (h.2 j hj.1)⟩
def liftG (K : PySem.W.Frag) (C : PC) (sl : List Nat) (f : WG) : TG := fun v σ H Q => ∃ B env d k, Abs K C B σ H env ∧ Rp K B v d ∧ f d env k ∧
  ∀ env' σ' H' B', SetsOnly sl σ σ' → Ext B B' → Abs K C B' σ' H' env' → k env' → Q σ' H'
def liftGs (K : PySem.W.Frag) (C : PC) (sl : List Nat) (f : WGs) : TGs := fun vs σ H Q => ∃ B env ds k, Abs K C B σ H env ∧ RpA K B vs ds ∧ f ds env k ∧
  ∀ env' σ' H' B', SetsOnly sl σ σ' → Ext B B' → Abs K C B' σ' H' env' → k env' → Q σ' H'
def PPG (X : Cx) (tg : Expr) (sl : List Nat) (f : WG) : Prop := ∀ C, PG X tg (liftG X.K C sl f)
def PPGs (X : Cx) (tgs : List Expr) (sl : List Nat) (f : WGs) : Prop := ∀ C, PGs X tgs (liftGs X.K C sl f)
theorem pg_imp {tg : Expr} {t t' : TG} (h : PG X tg t) (i : ∀ v σ H Q, t' v σ H Q → t v σ H Q) : PG X tg t' := ⟨fun pins s σ H v u Q I r q => h.run pins s σ H v u Q I r (i _ _ _ _ q)⟩
theorem pgs_imp {tgs : List Expr} {t t' : TGs} (h : PGs X tgs t) (i : ∀ v σ H Q, t' v σ H Q → t v σ H Q) : PGs X tgs t' := ⟨fun pins s σ H v u Q I r q => h.run pins s σ H v u Q I r (i _ _ _ _ q)⟩
def wGn (i : Nat) : WG := fun d env k => k (env.set i (some (.val d)))
theorem ppg_name {x : Str} {i : Nat} (h : PG X (.Name x pos) (gName i)) : PPG X (.Name x pos) [i] (wGn i) := fun C => pg_imp h fun v σ H Q ⟨B, env, d, k, A, r, hk, kq⟩ =>
  kq _ _ H B ⟨by rw [List.length_set], fun j hj => by rw [List.getElem?_set_ne (by intro z; exact hj (by simp [z]))]⟩ (Ext.refl B) (A.setVal r) hk
def wGnil : WGs := fun ds env k => ds = [] ∧ k env
def wGcons (f : WG) (g : WGs) : WGs := fun ds env k => match ds with
  | d :: r => f d env fun e1 => g r e1 k
  | [] => False
theorem ppgs_nil : PPGs X [] [] wGnil := fun C => pgs_imp pgs_nil fun v σ H Q ⟨B, env, ds, k, A, r, ⟨hd, hk⟩, kq⟩ => by
  subst hd
  cases r
  exact ⟨rfl, kq env σ H B (SetsOnly.refl σ) (Ext.refl B) A hk⟩
theorem ppgs_cons {e : Expr} {es : List Expr} {s1 s2 : List Nat} {f : WG} {g : WGs} (hf : PPG X e s1 f) (hg : PPGs X es s2 g) (h : ∀ {t : TG} {u : TGs}, PG X e t → PGs X es u → PGs X (e :: es) (gCons t u)) : PPGs X (e :: es) (s1 ++ s2) (wGcons f g) := fun C =>
  pgs_imp (h (hf C) (hg C)) fun v σ H Q ⟨B, env, ds, k, A, r, hk, kq⟩ => by
    cases r with
    | nil => exact hk.elim
    | cons r rs =>
      refine ⟨_, _, rfl, B, env, _, _, A, r, hk, fun e1 σ1 H1 B1 so x1 A1 h1 => ?_⟩
      exact ⟨B1, e1, _, k, A1, rs.ext x1, h1, fun e2 σ2 H2 B2 so2 x2 A2 h2 => kq e2 σ2 H2 B2 (so.trans so2) (x1.trans x2) A2 h2⟩
def wGt (n : Nat) (f : WGs) : WG := fun d env k => match d with
  | .tuple ds => ds.length = n ∧ f ds env k
  | _ => False
def wGl (n : Nat) (f : WGs) : WG := fun d env k => match d with
  | .list ds => ds.length = n ∧ f ds env k
  | _ => False
theorem ppg_tup {es : List Expr} {kk n : Nat} {sl : List Nat} {f : WGs} (hg : PPGs X es sl f) (h : ∀ {t : TGs}, PGs X es t → PG X (.Tuple es kk pos) (gTup X.K n t)) : PPG X (.Tuple es kk pos) sl (wGt n f) := fun C =>
  pg_imp (h (hg C)) fun v σ H Q ⟨B, env, d, k, A, r, hk, kq⟩ => by
    cases d <;> first | exact hk.elim | skip
    obtain ⟨a, xs, rfl, r, hs⟩ := r.tupAll
    exact ⟨a, xs, rfl, hs _ A.fr.sub, by rw [r.length]; exact hk.1, B, env, _, k, A, r, hk.2, kq⟩
theorem ppg_unl {es : List Expr} {kk n : Nat} {sl : List Nat} {f : WGs} (hg : PPGs X es sl f) (h : ∀ {t : TGs}, PGs X es t → PG X (.Tuple es kk pos) (gUnl X.K n t)) : PPG X (.Tuple es kk pos) sl (wGl n f) := fun C =>
  pg_imp (h (hg C)) fun v σ H Q ⟨B, env, d, k, A, r, hk, kq⟩ => by
    cases d <;> first | exact hk.elim | skip
    cases r with
    | lst hb r => exact ⟨_, _, rfl, SqL.of (A.fr.sub _ _ hb), by rw [r.length]; exact hk.1, B, env, _, k, A, r, hk.2, kq⟩
end
end PL

namespace PL
open PySem PySem.Spec PyProof.Rows L2 TL

/-- what a slot holds of a result -/
def Rv.sl : Rv → Option Rv
  | .val d => some (.val d)
  | .own d => some (.own d)
  | .ndr => some .dr
  | _ => none
theorem Abs.store {K : PySem.W.Frag} {C : PC} {B H : Hp} {σ : L2.St} {env : EnvP} {v : V} {r s : Rv} (A : Abs K C B σ H env) (R : RvOk K C B H σ env v r) (hs : r.sl = some s) (i : Nat) : Abs K C B (σ.set i (some v)) H (env.set i (some s)) := by
  cases r with
  | val d => cases hs; exact A.setVal R
  | own d =>
    cases hs
    obtain ⟨p, rfl, h1, h2, h3, h4⟩ := R
    exact A.setOwn rfl ⟨p, rfl, h1, h2, h3⟩ h4
  | ndr =>
    cases hs
    obtain ⟨p, rfl, h1, h2, h3, h4⟩ := R
    exact A.setOwn rfl ⟨p, rfl, h1, h3, .inr h2⟩ h4
  | dr => cases hs
  | drv _ => cases hs
section
variable {X : Cx} {xw : XW} {pos : Pos}

/-! ### blocks -/
def wNext : WS := fun env E => E.nx env
def wSeq (f g : WS) : WS := fun env E => f env { E with nx := fun e => g e E }
theorem ss_nil : PPSs X xw [] wNext := fun C => pss_imp pss_nil fun D σ H ⟨B, env, E, A, h, xo, k1, k2, k3, k4⟩ => k1 env σ H B (Ext.refl B) A h
theorem ss_cons {st : Stmt} {rest : List Stmt} {f g : WS} (hf : PPS X xw st f) (hg : PPSs X xw rest g) : PPSs X xw (st :: rest) (wSeq f g) := fun C =>
  pss_imp (pss_cons (hf C) (hg C)) fun D σ H ⟨B, env, E, A, h, xo, k1, k2, k3, k4⟩ =>
    ⟨B, env, { E with nx := fun e => g e E }, A, h, xo, fun e1 σ1 H1 B1 x1 A1 h1 => ⟨B1, e1, E, A1, h1, xo,
      fun e2 σ2 H2 B2 x2 A2 h2 => k1 e2 σ2 H2 B2 (x1.trans x2) A2 h2, fun r e2 v σ2 H2 B2 x2 A2 R2 h2 => k2 r e2 v σ2 H2 B2 (x1.trans x2) A2 R2 h2,
      fun e2 σ2 H2 B2 x2 A2 h2 => k3 e2 σ2 H2 B2 (x1.trans x2) A2 h2, fun e2 σ2 H2 B2 x2 A2 h2 => k4 e2 σ2 H2 B2 (x1.trans x2) A2 h2⟩, k2, k3, k4⟩
theorem ss_one {st : Stmt} {f : WS} (hf : PPS X xw st f) : PPSs X xw [st] f := fun C => pss_imp (pss_one (hf C)) fun D σ H h => h
def wBreak : WS := fun env E => E.bk env
def wCont : WS := fun env E => E.ct env
theorem s_pass : PPS X xw (.Pass pos) wNext := fun C => ps_imp ps_pass fun D σ H ⟨B, env, E, A, h, xo, k1, k2, k3, k4⟩ => k1 env σ H B (Ext.refl B) A h
theorem s_break : PPS X xw (.Break pos) wBreak := fun C => ps_imp ps_break fun D σ H ⟨B, env, E, A, h, xo, k1, k2, k3, k4⟩ => k3 env σ H B (Ext.refl B) A h
theorem s_cont : PPS X xw (.Continue pos) wCont := fun C => ps_imp ps_continue fun D σ H ⟨B, env, E, A, h, xo, k1, k2, k3, k4⟩ => k4 env σ H B (Ext.refl B) A h
def wDrop (f : WE) : WS := fun env E => f env E.ex fun _ e => E.nx e
theorem s_expr {e : Expr} {f : WE} (h : PPE X xw e f) (hs : swapsWith e none pos.line X.env = pure false := by rfl) : PPS X xw (.Expr e pos) (wDrop f) := fun C =>
  ps_imp (ps_expr (h C) hs) fun D σ H ⟨B, env, E, A, h, xo, k1, k2, k3, k4⟩ => ⟨B, env, E.ex, _, A, h, xo σ, fun r e1 v H1 B1 x1 A1 R1 h1 => k1 e1 σ H1 B1 x1 A1 h1⟩
def wRet (f : WE) : WS := fun env E => f env E.ex fun r e => E.rt r e
theorem s_ret {e : Expr} {f : WE} (h : PPE X xw e f) : PPS X xw (.Return (some e) pos) (wRet f) := fun C =>
  ps_imp (ps_ret (h C)) fun D σ H ⟨B, env, E, A, h, xo, k1, k2, k3, k4⟩ => ⟨B, env, E.ex, _, A, h, xo σ, fun r e1 v H1 B1 x1 A1 R1 h1 => k2 r e1 v σ H1 B1 x1 A1 R1 h1⟩
def wIfS (t : WT) (f g : WS) : WS := fun env E => t env E.ex fun b e => if b = true then f e E else g e E
theorem s_if {c : Expr} {a b : List Stmt} {t : WT} {f g : WS} (hc : PPT X xw c t) (ha : PPSs X xw a f) (hb : PPSs X xw b g) : PPS X xw (.If c a b pos) (wIfS t f g) := fun C =>
  ps_imp (ps_if (hc C) (ha C) (hb C)) fun D σ H ⟨B, env, E, A, h, xo, k1, k2, k3, k4⟩ => by
    refine ⟨B, env, E.ex, _, A, h, xo σ, fun b e1 H1 B1 x1 A1 h1 => ?_⟩
    have go : ∀ {f : WS}, f e1 E → liftS X.K xw C f D σ H1 := fun {f} h1 => ⟨B1, e1, E, A1, h1, xo, fun e2 σ2 H2 B2 x2 A2 h2 => k1 e2 σ2 H2 B2 (x1.trans x2) A2 h2,
      fun r e2 v σ2 H2 B2 x2 A2 R2 h2 => k2 r e2 v σ2 H2 B2 (x1.trans x2) A2 R2 h2, fun e2 σ2 H2 B2 x2 A2 h2 => k3 e2 σ2 H2 B2 (x1.trans x2) A2 h2, fun e2 σ2 H2 B2 x2 A2 h2 => k4 e2 σ2 H2 B2 (x1.trans x2) A2 h2⟩
    cases b with
    | true => exact go h1
    | false => exact go h1

/-! ### assignments -/
def wSet (i : Nat) (f : WE) : WS := fun env E => f env E.ex fun r e => match r.sl with
  | some s => E.nx (e.set i (some s))
  | none => False
/-- h: ps_set with the name's facts -/
theorem s_set {i : Nat} {x : Str} {e : Expr} {f : WE} {pos' : Pos} (he : PPE X xw e f) (h : ∀ {te : TE}, PE X e te → PS X (.Assign [.Name x pos'] e pos) (tAsg te (gName i))) : PPS X xw (.Assign [.Name x pos'] e pos) (wSet i f) := fun C =>
  ps_imp (h (he C)) fun D σ H ⟨B, env, E, A, h, xo, k1, k2, k3, k4⟩ => by
    refine ⟨B, env, E.ex, _, A, h, xo σ, fun r e1 v H1 B1 x1 A1 R1 h1 => ?_⟩
    cases hr : r.sl with
    | none => rw [hr] at h1; exact h1.elim
    | some s => rw [hr] at h1; exact k1 _ _ H1 B1 x1 (A1.store R1 hr i) h1
/-- targets = a value that is data -/
def wAsg (f : WE) (g : WG) : WS := fun env E => f env E.ex fun r e => r.vv fun d => g d e E.nx
theorem s_asg {tg e : Expr} {f : WE} {sl : List Nat} {g : WG} (he : PPE X xw e f) (hg : PPG X tg sl g) (hs : swapsWithSole [tg] e pos.line X.env = pure false := by rfl) (hw : swappedStores [tg] e X.env = pure none := by rfl)
    (h1 : (assignEach [tg] X.env).map (·.2) = [assign tg X.env] := by rfl) : PPS X xw (.Assign [tg] e pos) (wAsg f g) := fun C =>
  ps_imp (ps_asg (he C) (hg C) hs hw h1) fun D σ H ⟨B, env, E, A, h, xo, k1, k2, k3, k4⟩ => by
    refine ⟨B, env, E.ex, _, A, h, xo σ, fun r e1 v H1 B1 x1 A1 R1 h1 => ?_⟩
    obtain ⟨B2, d, x2, A2, rd, h2⟩ := use A1 R1 h1
    exact ⟨B2, e1, d, _, A2, rd, h2, fun e3 σ3 H3 B3 _ x3 A3 h3 => k1 e3 σ3 H3 B3 (x1.trans (x2.trans x3)) A3 h3⟩
/-- a, b = x, y -/
def wPar (i j : Nat) (f : WA) : WS := fun env E => f env E.ex fun rs e => vals rs fun ds => match ds with
  | [d, d'] => E.nx ((e.set i (some (.val d))).set j (some (.val d')))
  | _ => False
theorem s_par {i j : Nat} {st : Stmt} {a b : Expr} {f : WA} (ha : PPA X xw [a, b] f) (h : ∀ {ta : TA}, PA X [a, b] ta → PS X st (tPar i j ta)) : PPS X xw st (wPar i j f) := fun C =>
  ps_imp (h (ha C)) fun D σ H ⟨B, env, E, A, h, xo, k1, k2, k3, k4⟩ => by
    refine ⟨B, env, E.ex, _, A, h, xo σ, fun rs e1 vs H1 B1 x1 A1 R1 h1 => ?_⟩
    obtain ⟨ds, r, h2⟩ := R1.vals h1
    split at h2
    · cases r with
      | cons r r' => cases r' with
        | cons r' r'' =>
          cases r''
          exact ⟨_, _, rfl, k1 _ _ H1 B1 x1 ((A1.setVal r).setVal r') h2⟩
    · exact h2.elim
def wPar3 (i j l : Nat) (f : WA) : WS := fun env E => f env E.ex fun rs e => vals rs fun ds => match ds with
  | [d, d', d''] => E.nx (((e.set i (some (.val d))).set j (some (.val d'))).set l (some (.val d'')))
  | _ => False
theorem s_par3 {i j l : Nat} {st : Stmt} {a b c : Expr} {f : WA} (ha : PPA X xw [a, b, c] f) (h : ∀ {ta : TA}, PA X [a, b, c] ta → PS X st (tPar3 i j l ta)) : PPS X xw st (wPar3 i j l f) := fun C =>
  ps_imp (h (ha C)) fun D σ H ⟨B, env, E, A, h, xo, k1, k2, k3, k4⟩ => by
    refine ⟨B, env, E.ex, _, A, h, xo σ, fun rs e1 vs H1 B1 x1 A1 R1 h1 => ?_⟩
    obtain ⟨ds, r, h2⟩ := R1.vals h1
    split at h2
    · cases r with
      | cons r r' => cases r' with
        | cons r' r'' => cases r'' with
          | cons r'' r''' =>
            cases r'''
            exact ⟨_, _, _, rfl, k1 _ _ H1 B1 x1 (((A1.setVal r).setVal r').setVal r'') h2⟩
    · exact h2.elim
/-- name op= e, of data -/
def opAddI : Op2
  | .int i, .int j, k => k (.val (.int (i + j)))
  | .str x, .str y, k => x.length + y.length ≤ sizeLine ∧ k (.val (.str (x ++ y)))
  | _, _, _ => False
theorem os_iadd : OpS X (inplaceOp .Add) opAddI := by
  refine ⟨_, OpR.or iop_add iop_add_str, fun B H x y a b k Q e hx hy h q => ?_⟩
  cases a <;> cases b <;> first | exact h.elim | skip
  · obtain rfl := hx.int
    obtain rfl := hy.int
    exact .inl ⟨_, _, rfl, rfl, q _ _ (outVal (.int _) h)⟩
  · obtain rfl := hx.str
    obtain rfl := hy.str
    exact .inr ⟨_, _, rfl, rfl, h.1, q _ _ (outVal (.str _) h.2)⟩
theorem os_isub : OpS X (inplaceOp .Sub) opSub := by
  refine ⟨_, iop_sub, fun B H x y a b k Q e hx hy h q => ?_⟩
  cases a <;> cases b <;> first | exact h.elim | skip
  obtain rfl := hx.int
  obtain rfl := hy.int
  exact ⟨_, _, rfl, rfl, q _ _ (outVal (.int _) h)⟩
def wAug (i : Nat) (op : Op2) (f : WO) : WS := fun env E => match env[i]? with
  | some (some (.val a)) => f env E.ex fun rd e => rd e fun b => op a b fun r => match r.sl with
    | some s => E.nx (e.set i (some s))
    | none => False
  | _ => False
theorem s_aug {i : Nat} {x : Str} {e : Expr} {f : WO} {op : Operator} {o : Op2} {pos' : Pos} (ho : OpS X (inplaceOp op) o) (he : PPO X xw e f) (h : ∀ {te : TE} {ti : TIp}, PE X e te → PIp X op ti → PS X (.AugAssign (.Name x pos') op e pos) (tAug i te ti)) :
    PPS X xw (.AugAssign (.Name x pos') op e pos) (wAug i o f) := by
  obtain ⟨r, h1, h2⟩ := ho.ex
  refine fun C => ps_imp (h (he C) h1) fun D σ H ⟨B, env, E, A, h, xo, k1, k2, k3, k4⟩ => ?_
  unfold wAug at h
  cases hi : env[i]? with
  | none => rw [hi] at h; exact h.elim
  | some s =>
    rw [hi] at h
    cases s with
    | none => exact h.elim
    | some s =>
      cases s <;> first | exact h.elim | skip
      rename_i a
      obtain ⟨v, hv, v', ev, rv⟩ := A.slot hi
      cases ev
      refine ⟨v, hv, B, env, E.ex, _, A, h, xo σ, fun rd e1 u H1 B1 x1 A1 R1 q1 => ?_⟩
      obtain ⟨b, pb, q2⟩ := R1 B1 H1 e1 _ (Ext.refl B1) A1 q1
      refine h2 B1 H1 v u a b _ _ A1.fr.sub (.val (rv.ext x1)) pb q2 fun z H2 ou => ?_
      obtain ⟨B3, r3, x3, A3, R3, q3⟩ := Out.abs A1 ou
      cases hr : r3.sl with
      | none => rw [hr] at q3; exact q3.elim
      | some s => rw [hr] at q3; exact k1 _ _ H2 B3 (x1.trans x3) (A3.store R3 hr i) q3

/-! ### owned lists, at a name -/
def ownL (env : EnvP) (i : Nat) (k : List PyData → Prop) : Prop := match env[i]? with
  | some (some (.own (.list ds))) => k ds
  | _ => False
theorem Abs.ownL {K : PySem.W.Frag} {C : PC} {B H : Hp} {σ : L2.St} {env : EnvP} {i : Nat} {k : List PyData → Prop} (A : Abs K C B σ H env) (h : PL.ownL env i k) :
    ∃ ds p xs, env[i]? = some (some (.own (.list ds))) ∧ σ[i]? = some (some (.ref p)) ∧ H p = some (.lst xs) ∧ RpA K B xs ds ∧ C.H0 p = none ∧ B p = none ∧ k ds := by
  unfold PL.ownL at h
  cases hi : env[i]? with
  | none => rw [hi] at h; exact h.elim
  | some s =>
    rw [hi] at h
    cases s with
    | none => exact h.elim
    | some s =>
      cases s <;> first | exact h.elim | skip
      rename_i d
      cases d <;> first | exact h.elim | skip
      rename_i ds
      obtain ⟨v, hv, p, ev, ⟨xs, h1, h2⟩, h3, h4⟩ := A.slot hi
      cases ev
      exact ⟨ds, p, xs, rfl, hv, h1, h2, h3, h4, h⟩
theorem Abs.changeL {K : PySem.W.Frag} {C : PC} {B H : Hp} {σ : L2.St} {env : EnvP} {i : Nat} {p : Addr} {ds ds' : List PyData} {xs' : List V} (A : Abs K C B σ H env) (e : env[i]? = some (some (.own (.list ds)))) (hv : σ[i]? = some (some (.ref p)))
    (h0 : C.H0 p = none) (hB : B p = none) (r : RpA K B xs' ds') : Abs K C B σ (upd H p (.lst xs')) (env.set i (some (.own (.list ds')))) :=
  A.change e rfl rfl hv ⟨p, rfl, ⟨xs', upd_same, r⟩, h0, hB⟩ fun m => absurd h0 (A.fr.mt p m).1
/-- xs.append(e) -/
def wApp (i : Nat) (f : WE) : WE := fun env ex k => PL.ownL env i (fun _ => True) ∧ f env ex fun r e => r.vv fun d => PL.ownL e i fun ds => ds.length < sizeLine ∧ k (.val .none) (e.set i (some (.own (.list (ds ++ [d])))))
theorem pp_app {i : Nat} {o a : Expr} {f : WE} {apos cpos : Pos} (ha : PPE X xw a f) (ho : PE X o (tVar i)) (h : ∀ {t : TA}, PA X [a] t → PE X (.Call (.Attribute o "append" apos) [a] [] cpos) (tBM X.K "list" rAppend (tVar i) t))
    (hs : starEach [a] X.env = (false, eval a X.env) :: starEach [] X.env := by rfl) : PPE X xw (.Call (.Attribute o "append" apos) [a] [] cpos) (wApp i f) := fun C =>
  pe_imp (h (pa_cons (ha C) pa_nil hs)) fun σ H Q ⟨B, env, ex, k, A, ⟨h0, hk⟩, xo, kq⟩ => by
    obtain ⟨ds, p, xs, e1, hv, hp, r, z0, zB, _⟩ := A.ownL h0
    refine ⟨.ref p, hv, .inl ⟨rfl, xs, SqL.of hp⟩, ?_⟩
    refine ⟨B, env, ex, _, A, hk, xo, fun rv e2 v H1 B1 x1 A1 R1 h1 => ?_⟩
    obtain ⟨B2, d, x2, A2, rd, h2⟩ := use A1 R1 h1
    obtain ⟨ds', p', xs', e3, hv', hp', r', z0', zB', hl, h3⟩ := A2.ownL h2
    rw [hv] at hv'
    cases hv'
    refine ⟨p, xs', v, rfl, rfl, hp', by rw [r'.length]; exact hl, ?_⟩
    exact kq (.val .none) _ _ _ B2 (x1.trans x2) (A2.changeL e3 hv z0' zB' (r'.app (.cons rd .nil))) Rp.non h3
/-- xs.pop() -/
def wPop (i : Nat) : WE := fun env ex k => PL.ownL env i fun ds => ∃ d, ds.getLast? = some d ∧ k (.val d) (env.set i (some (.own (.list ds.dropLast))))
theorem RpA.dropLast {K : PySem.W.Frag} {B : Hp} {vs : List V} {ds : List PyData} (r : RpA K B vs ds) : RpA K B vs.dropLast ds.dropLast := by
  rw [List.dropLast_eq_take, List.dropLast_eq_take, r.length]; exact r.take _
theorem pp_pop {i : Nat} {o : Expr} {apos cpos : Pos} (h : PE X (.Call (.Attribute o "pop" apos) [] [] cpos) (tBM0 X.K "list" rPop (tVar i))) : PPE X xw (.Call (.Attribute o "pop" apos) [] [] cpos) (wPop i) := fun C =>
  pe_imp h fun σ H Q ⟨B, env, ex, k, A, hk, xo, kq⟩ => by
    obtain ⟨ds, p, xs, e1, hv, hp, r, z0, zB, d, hd, h1⟩ := A.ownL hk
    rw [List.getLast?_eq_getElem?] at hd
    obtain ⟨v, hx, rv⟩ := r.get hd
    exact ⟨.ref p, hv, .inl ⟨rfl, xs, SqL.of hp⟩, p, xs, v, rfl, rfl, hp, by rw [r.length]; exact hx, kq (.val d) _ _ _ B (Ext.refl B) (A.changeL e1 hv z0 zB r.dropLast) rv h1⟩
/-- xs.pop(e) -/
def wPopAt (i : Nat) (f : WO) : WE := fun env ex k => PL.ownL env i (fun _ => True) ∧ f env ex fun rd e => rd e fun a => PL.ownL e i fun ds => match a with
  | .int j => sm j ∧ ∃ n d, ixN ds.length j = some n ∧ ds[n]? = some d ∧ k (.val d) (e.set i (some (.own (.list (ds.eraseIdx n)))))
  | _ => False
theorem pp_popAt {i : Nat} {o a : Expr} {f : WO} {apos cpos : Pos} (ha : PPO X xw a f) (h : ∀ {t : TA}, PA X [a] t → PE X (.Call (.Attribute o "pop" apos) [a] [] cpos) (tBM X.K "list" rPopAt (tVar i) t))
    (hs : starEach [a] X.env = (false, eval a X.env) :: starEach [] X.env := by rfl) : PPE X xw (.Call (.Attribute o "pop" apos) [a] [] cpos) (wPopAt i f) := fun C =>
  pe_imp (h (pa_cons (ha C) pa_nil hs)) fun σ H Q ⟨B, env, ex, k, A, ⟨h0, hk⟩, xo, kq⟩ => by
    obtain ⟨ds, p, xs, e1, hv, hp, r, z0, zB, _⟩ := A.ownL h0
    refine ⟨.ref p, hv, .inl ⟨rfl, xs, SqL.of hp⟩, ?_⟩
    refine ⟨B, env, ex, _, A, hk, xo, fun rd e2 v H1 B1 x1 A1 R1 h1 => ?_⟩
    obtain ⟨a, pa, h2⟩ := R1 B1 H1 e2 _ (Ext.refl B1) A1 h1
    obtain ⟨ds', p', xs', e3, hv', hp', r', z0', zB', h3⟩ := A1.ownL h2
    rw [hv] at hv'
    cases hv'
    cases a <;> first | exact h3.elim | skip
    obtain rfl := pa.int
    obtain ⟨sj, n, d, hn, hd, h4⟩ := h3
    obtain ⟨v, hx, rv⟩ := r'.get hd
    exact ⟨p, xs', _, n, v, rfl, rfl, hp', by have := sj.1; omega, by have := sj.2; omega, by rw [r'.length]; exact (ixN_seq hn).1, hx, kq (.val d) _ _ _ B1 x1 (A1.changeL e3 hv z0' zB' (r'.erase n)) rv h4⟩
/-- xs[j] = e -/
def wSetIx (i : Nat) (fv : WE) (fj : WO) : WS := fun env E => fv env E.ex fun r e1 => r.vv fun d => PL.ownL e1 i (fun _ => True) ∧ fj e1 E.ex fun rd e2 => rd e2 fun a => PL.ownL e2 i fun ds => match a with
  | .int j => ∃ n, ixN ds.length j = some n ∧ E.nx (e2.set i (some (.own (.list (ds.set n d)))))
  | _ => False
theorem s_setIx {i : Nat} {o ix e : Expr} {fv : WE} {fj : WO} {pos' : Pos} (hv : PPE X xw e fv) (hj : PPO X xw ix fj) (ho : PE X o (tVar i)) (h : ∀ {te ti : TE}, PE X e te → PE X ix ti → PS X (.Assign [.Subscript o ix pos'] e pos) (tAsg te (gSub (tVar i) ti rSetL))) :
    PPS X xw (.Assign [.Subscript o ix pos'] e pos) (wSetIx i fv fj) := fun C =>
  ps_imp (h (hv C) (hj C)) fun D σ H ⟨B, env, E, A, h, xo, k1, k2, k3, k4⟩ => by
    refine ⟨B, env, E.ex, _, A, h, xo σ, fun r e1 v H1 B1 x1 A1 R1 h1 => ?_⟩
    obtain ⟨B2, d, x2, A2, rd, h0, h2⟩ := use A1 R1 h1
    obtain ⟨ds, p, xs, e3, hv, hp, r3, z0, zB, _⟩ := A2.ownL h0
    refine ⟨.ref p, hv, B2, e1, E.ex, _, A2, h2, xo σ, fun rdr e2 u H3 B3 x3 A3 R3 h3 => ?_⟩
    obtain ⟨a, pa, h4⟩ := R3 B3 H3 e2 _ (Ext.refl B3) A3 h3
    obtain ⟨ds', p', xs', e5, hv', hp', r', z0', zB', h5⟩ := A3.ownL h4
    rw [hv] at hv'
    cases hv'
    cases a <;> first | exact h5.elim | skip
    obtain rfl := pa.int
    obtain ⟨n, hn, h6⟩ := h5
    exact ⟨p, xs', _, n, rfl, rfl, hp', by rw [r'.length]; exact hn, k1 _ σ _ B3 (x1.trans (x2.trans x3)) (A3.changeL e5 hv z0' zB' (r'.set n (rd.ext x3))) h6⟩

/-! ### owned dicts, at a name -/
def ownD (env : EnvP) (i : Nat) (k : List (PyData × PyData) → Prop) : Prop := match env[i]? with
  | some (some (.own (.dict ds))) => k ds
  | _ => False
theorem Abs.ownD {K : PySem.W.Frag} {C : PC} {B H : Hp} {σ : L2.St} {env : EnvP} {i : Nat} {k : List (PyData × PyData) → Prop} (A : Abs K C B σ H env) (h : PL.ownD env i k) :
    ∃ ds p, env[i]? = some (some (.own (.dict ds))) ∧ σ[i]? = some (some (.ref p)) ∧ Own K B H p (.dict ds) ∧ C.H0 p = none ∧ B p = none ∧ k ds := by
  unfold PL.ownD at h
  cases hi : env[i]? with
  | none => rw [hi] at h; exact h.elim
  | some s =>
    rw [hi] at h
    cases s with
    | none => exact h.elim
    | some s =>
      cases s <;> first | exact h.elim | skip
      rename_i d
      cases d <;> first | exact h.elim | skip
      rename_i ds
      obtain ⟨v, hv, p, ev, h1, h3, h4⟩ := A.slot hi
      cases ev
      exact ⟨ds, p, rfl, hv, h1, h3, h4, h⟩
theorem Abs.changeD {K : PySem.W.Frag} {C : PC} {B H : Hp} {σ : L2.St} {env : EnvP} {i : Nat} {p : Addr} {ds ds' : List (PyData × PyData)} {o : HO} (A : Abs K C B σ H env) (e : env[i]? = some (some (.own (.dict ds)))) (hv : σ[i]? = some (some (.ref p)))
    (h0 : C.H0 p = none) (hB : B p = none) (r : Own K B (upd H p o) p (.dict ds')) : Abs K C B σ (upd H p o) (env.set i (some (.own (.dict ds')))) :=
  A.change e rfl rfl hv ⟨p, rfl, r, h0, hB⟩ fun m => absurd h0 (A.fr.mt p m).1
/-- the new pairs behind d[a] = v -/
theorem Own.put {K : PySem.W.Frag} {B H : Hp} {p : Addr} {ds : List (PyData × PyData)} {a d : PyData} {x v : V} (e : Ext B H) (h : Own K B H p (.dict ds)) (hk : okKey ds a) (hx : Pk K B H x a) (rv : Rp K B v d) (hl : ds.length < sizeLine) :
    ∃ o, DPut H p x v (upd H p o) ∧ Own K B (upd H p o) p (.dict (dput ds a d)) := by
  unfold okKey at hk
  rcases h with ⟨kvs, h1, h2⟩ | ⟨kvs, ds', rfl, h1, h2⟩
  · rw [h2.notT] at hk
    obtain ⟨k, rfl⟩ := isK_key (show isK a = true from hk)
    obtain rfl := hx.key
    exact ⟨_, .inl ⟨kvs, k, h1, rfl, by rw [h2.length]; exact hl, rfl⟩, .inl ⟨_, upd_same, h2.put rv⟩⟩
  · obtain ⟨k, rfl, hl1⟩ := isKT_key (show isKT a = true from hk)
    obtain ⟨q, xs, rfl, hq, _, r⟩ := hx.tupleT e (by rw [List.length_map]; exact hl1)
    have ex := r.keys
    subst ex
    refine ⟨_, .inr ⟨kvs, k, q, h1, rfl, hq, by rw [h2.length]; simp at hl; omega, rfl⟩, .inr ⟨_, _, ?_, upd_same, h2.put rv⟩⟩
    unfold dput
    rw [List.any_cons, show PyData.eqv (PyData.none) (kT k) = false from rfl, Bool.false_or]
    split
    · rfl
    · rfl
def wSetD (i : Nat) (fv : WE) (fj : WO) : WS := fun env E => fv env E.ex fun r e1 => r.vv fun d => PL.ownD e1 i (fun _ => True) ∧ fj e1 E.ex fun rd e2 => rd e2 fun a => PL.ownD e2 i fun ds => (okKey ds a ∧ ds.length < sizeLine) ∧ E.nx (e2.set i (some (.own (.dict (dput ds a d)))))
theorem s_setD {i : Nat} {o ix e : Expr} {fv : WE} {fj : WO} {pos' : Pos} (hv : PPE X xw e fv) (hj : PPO X xw ix fj) (ho : PE X o (tVar i)) (h : ∀ {te ti : TE}, PE X e te → PE X ix ti → PS X (.Assign [.Subscript o ix pos'] e pos) (sDPut (tVar i) ti te)) :
    PPS X xw (.Assign [.Subscript o ix pos'] e pos) (wSetD i fv fj) := fun C =>
  ps_imp (h (hv C) (hj C)) fun D σ H ⟨B, env, E, A, h, xo, k1, k2, k3, k4⟩ => by
    refine ⟨B, env, E.ex, _, A, h, xo σ, fun r e1 v H1 B1 x1 A1 R1 h1 => ?_⟩
    obtain ⟨B2, d, x2, A2, rd, h0, h2⟩ := use A1 R1 h1
    obtain ⟨ds, p, e3, hv, ow, z0, zB, _⟩ := A2.ownD h0
    refine ⟨.ref p, hv, B2, e1, E.ex, _, A2, h2, xo σ, fun rdr e2 u H3 B3 x3 A3 R3 h3 => ?_⟩
    obtain ⟨a, pa, h4⟩ := R3 B3 H3 e2 _ (Ext.refl B3) A3 h3
    obtain ⟨ds', p', e5, hv', ow', z0', zB', ⟨h5, hl⟩, h6⟩ := A3.ownD h4
    rw [hv] at hv'
    cases hv'
    obtain ⟨o, g, ow2⟩ := ow'.put A3.fr.sub h5 pa (rd.ext x3) hl
    exact ⟨p, _, rfl, g, k1 _ σ _ B3 (x1.trans (x2.trans x3)) (A3.changeD e5 hv z0' zB' ow2) h6⟩
end
end PL

namespace PL
open PySem PySem.Spec PyProof.Rows L2 TL
section
variable {X : Cx} {xw : XW} {pos : Pos}

/-! ### for, while -/
def forW (g : WG) (b : WS) (E : EndsP) : List PyData → EnvP → Prop
  | [], env => E.nx env
  | d :: ds, env => g d env fun e1 => b e1 { E with nx := fun e => forW g b E ds e, ct := fun e => forW g b E ds e, bk := E.nx }
def wFor (wi : WI) (g : WG) (b : WS) : WS := fun env E => wi env E.ex fun ds e => forW g b E ds e
theorem s_for {tg iter : Expr} {body : List Stmt} {wi : WI} {sl : List Nat} {g : WG} {b : WS} (hp : PassesOwn (model X.prog X.w) X.A X.env X.xe) (hc : X.calm = true) (hi : PPI X xw tg iter wi) (hg : PPG X tg sl g) (hb : PPSs X xw body b)
    (hs : ∀ x, foldedSetIterable iter X.env x = pure x := by intro _; rfl) : PPS X xw (.For tg iter body [] pos) (wFor wi g b) := fun C =>
  ps_imp (ps_for hp hc (hi C) (hg C) (hb C) hs) fun D σ H ⟨B, env, E, A, h, xo, k1, k2, k3, k4⟩ => by
    refine ⟨B, env, E.ex, _, A, h, xo σ, fun ds e1 H1 B1 J x1 A1 it h1 => ?_⟩
    refine ⟨fun i m σ' H' => ∃ B' e', Ext B1 B' ∧ Abs X.K C B' σ' H' e' ∧ i ≤ ds.length ∧ m = ds.length - i ∧ forW g b E (ds.drop i) e',
      ⟨ds.length, B1, e1, Ext.refl B1, A1, Nat.zero_le _, by simp, h1⟩, ?_⟩
    rintro i m σ' H' ⟨B', e', x', A', hi, rfl, hw⟩
    have hit := it i H' (x'.trans A'.fr.sub)
    by_cases hlt : i < ds.length
    · have hd : ds[i]? = some ds[i] := List.getElem?_eq_getElem hlt
      obtain ⟨go, yl⟩ := hit.2 _ hd
      rw [List.drop_eq_getElem_cons hlt] at hw
      refine .inr ⟨go, _, fun _ _ n => n, fun x H2 y => ?_⟩
      obtain ⟨B2, r, x2, A2, R2, hr⟩ := Out.abs A' ((yl x H2 y).ext x')
      subst hr
      refine ⟨B2, e', _, _, A2, R2, hw, fun e3 σ3 H3 B3 _ x3 A3 h3 => ?_⟩
      have xx : Ext B B3 := x1.trans (x'.trans (x2.trans x3))
      have nx : ∀ env' σ'' H'' B'', Ext B3 B'' → Abs X.K C B'' σ'' H'' env' → forW g b E (ds.drop (i + 1)) env' →
          ∃ m', m' < ds.length - i ∧ ∃ B' e', Ext B1 B' ∧ Abs X.K C B' σ'' H'' e' ∧ i + 1 ≤ ds.length ∧ m' = ds.length - (i + 1) ∧ forW g b E (ds.drop (i + 1)) e' :=
        fun env' σ'' H'' B'' x'' A'' hf => ⟨_, by omega, B'', env', x'.trans (x2.trans (x3.trans x'')), A'', hlt, rfl, hf⟩
      exact ⟨B3, e3, _, A3, h3, xo, nx, fun r e4 v σ4 H4 B4 x4 A4 R4 h4 => k2 r e4 v σ4 H4 B4 (xx.trans x4) A4 R4 h4,
        fun e4 σ4 H4 B4 x4 A4 h4 => k1 e4 σ4 H4 B4 (xx.trans x4) A4 h4, nx⟩
    · have e : i = ds.length := by omega
      subst e
      rw [List.drop_length] at hw
      exact .inl ⟨hit.1 rfl, k1 e' σ' H' B' (x1.trans x') A' hw⟩
def wWhile (t : WT) (b : WS) : WS := fun env E => ∃ I : Nat → EnvP → Prop, (∃ n, I n env) ∧ ∀ n e, I n e → t e E.ex fun c e1 =>
  if c = true then b e1 { E with nx := fun e2 => ∃ m, m < n ∧ I m e2, ct := fun e2 => ∃ m, m < n ∧ I m e2, bk := E.nx } else E.nx e1
theorem s_while {c : Expr} {body : List Stmt} {t : WT} {b : WS} (hp : PassesOwn (model X.prog X.w) X.A X.env X.xe) (hc : PPT X xw c t) (hb : PPSs X xw body b) : PPS X xw (.While c body [] pos) (wWhile t b) := fun C =>
  ps_imp (ps_while hp (hc C) (hb C)) fun D σ H ⟨B, env, E, A, ⟨I, ⟨n0, h0⟩, hI⟩, xo, k1, k2, k3, k4⟩ => by
    refine ⟨fun m σ' H' => ∃ B' e', Ext B B' ∧ Abs X.K C B' σ' H' e' ∧ I m e', ⟨n0, B, env, Ext.refl B, A, h0⟩, ?_⟩
    rintro m σ' H' ⟨B', e', x', A', hi⟩
    refine ⟨B', e', E.ex, _, A', hI m e' hi, xo σ', fun c e1 H1 B1 x1 A1 h1 => ?_⟩
    cases c with
    | true =>
      have nx : ∀ env' σ'' H'' B'', Ext B1 B'' → Abs X.K C B'' σ'' H'' env' → (∃ m', m' < m ∧ I m' env') → ∃ m', m' < m ∧ ∃ B' e', Ext B B' ∧ Abs X.K C B' σ'' H'' e' ∧ I m' e' :=
        fun env' σ'' H'' B'' x'' A'' ⟨m', hm, hi'⟩ => ⟨m', hm, B'', env', x'.trans (x1.trans x''), A'', hi'⟩
      exact ⟨_, fun _ _ n => n, B1, e1, _, A1, h1, xo, nx, fun r e4 v σ4 H4 B4 x4 A4 R4 h4 => k2 r e4 v σ4 H4 B4 (x'.trans (x1.trans x4)) A4 R4 h4,
        fun e4 σ4 H4 B4 x4 A4 h4 => k1 e4 σ4 H4 B4 (x'.trans (x1.trans x4)) A4 h4, nx⟩
    | false => exact k1 e1 σ' H1 B1 (x'.trans x1) A1 h1

/-! ### list comprehensions -/
def wipeP (e : EnvP) : List Nat → EnvP
  | [] => e
  | v :: vs => (wipeP e vs).set v none
def restP (e0 e : EnvP) : List Nat → EnvP
  | [] => e
  | v :: vs => match e0[v]? with
    | some (some (.val d)) => (restP e0 e vs).set v (some (.val d))
    | _ => (restP e0 e vs).set v none
theorem Abs.none1 {K : PySem.W.Frag} {C : PC} {B H : Hp} {σ : L2.St} {env : EnvP} (A : Abs K C B σ H env) (v : Nat) : Abs K C B (σ.set v none) H (env.set v none) := by
  refine ⟨A.fr, by rw [List.length_set, List.length_set]; exact A.len, fun j r h => ?_, fun j k p hj hk => ?_⟩
  · rcases set_get h with ⟨_, q⟩ | ⟨n, q⟩
    · cases q
    · rw [List.getElem?_set_ne (Ne.symm n)]; exact A.sl j r q
  · obtain ⟨r, e1, o1, s1⟩ := hj
    obtain ⟨r', e2, o2, s2⟩ := hk
    rcases set_get e1 with ⟨_, q⟩ | ⟨n1, q⟩
    · cases q
    · rcases set_get e2 with ⟨_, q'⟩ | ⟨n2, q'⟩
      · cases q'
      · rw [List.getElem?_set_ne (Ne.symm n1)] at s1
        rw [List.getElem?_set_ne (Ne.symm n2)] at s2
        exact A.ap j k p ⟨r, q, o1, s1⟩ ⟨r', q', o2, s2⟩
theorem Abs.wipe {K : PySem.W.Frag} {C : PC} {B H : Hp} {σ : L2.St} {env : EnvP} (A : Abs K C B σ H env) : ∀ vs : List Nat, Abs K C B (L2.wipe σ vs) H (wipeP env vs)
  | [] => A
  | v :: vs => (A.wipe vs).none1 v
theorem wipe_none {σ : L2.St} : ∀ {vs : List Nat} {i : Nat}, i ∈ vs → i < σ.length → (L2.wipe σ vs)[i]? = some none
  | v :: vs, i, h, hl => by
    unfold L2.wipe
    by_cases e : i = v
    · subst e; rw [List.getElem?_set_self (by rw [wipe_length]; exact hl)]
    · rw [List.getElem?_set_ne (Ne.symm e)]
      rcases List.mem_cons.mp h with h | h
      · exact absurd h e
      · exact wipe_none h hl
theorem wipe_setsOnly {sl vs : List Nat} {σ σ2 : L2.St} (h : SetsOnly sl (L2.wipe σ vs) σ2) (hs : ∀ j ∈ sl, j ∈ vs) : L2.wipe σ2 vs = L2.wipe σ vs := by
  have hl : σ2.length = σ.length := by rw [h.1, wipe_length]
  apply List.ext_getElem?
  intro j
  by_cases hj : j ∈ vs
  · by_cases hlt : j < σ.length
    · rw [wipe_none hj hlt, wipe_none hj (by rw [hl]; exact hlt)]
    · rw [List.getElem?_eq_none (by rw [wipe_length]; omega), List.getElem?_eq_none (by rw [wipe_length]; omega)]
  · rw [wipe_out hj]
    exact h.2 j fun z => hj (hs j z)
theorem rest_len (e0 e : EnvP) : ∀ vs, (restP e0 e vs).length = e.length
  | [] => rfl
  | v :: vs => by
    unfold restP
    split <;> rw [List.length_set, rest_len e0 e vs]
theorem rest_out (e0 e : EnvP) : ∀ {vs : List Nat} {i : Nat}, i ∉ vs → (restP e0 e vs)[i]? = e[i]?
  | [], i, _ => rfl
  | v :: vs, i, h => by
    rw [List.mem_cons, not_or] at h
    unfold restP
    split <;> rw [List.getElem?_set_ne (Ne.symm h.1), rest_out e0 e h.2]
theorem rest_in (e0 e : EnvP) : ∀ {vs : List Nat} {i : Nat} {r : Rv}, i ∈ vs → (restP e0 e vs)[i]? = some (some r) → ∃ d, r = .val d ∧ e0[i]? = some (some (.val d))
  | v :: vs, i, r, h, hr => by
    unfold restP at hr
    split at hr
    · rename_i d hd
      rcases set_get hr with ⟨rfl, z⟩ | ⟨n, z⟩
      · cases z; exact ⟨d, rfl, hd⟩
      · exact rest_in e0 e ((List.mem_cons.mp h).resolve_left n) z
    · rcases set_get hr with ⟨_, z⟩ | ⟨n, z⟩
      · cases z
      · exact rest_in e0 e ((List.mem_cons.mp h).resolve_left n) z
theorem Abs.rest {K : PySem.W.Frag} {C : PC} {B B' H H' : Hp} {σ : L2.St} {e0 e : EnvP} {vs : List Nat} (A0 : Abs K C B σ H e0) (x : Ext B B') (A : Abs K C B' (L2.wipe σ vs) H' e) : Abs K C B' σ H' (restP e0 e vs) := by
  have own : ∀ i p, OwnAt (restP e0 e vs) σ i p → OwnAt e (L2.wipe σ vs) i p := fun i p ⟨r, e1, o1, s1⟩ => by
    by_cases hi : i ∈ vs
    · obtain ⟨d, rfl, _⟩ := rest_in e0 e hi e1
      cases o1
    · rw [rest_out e0 e hi] at e1
      exact ⟨r, e1, o1, by rw [wipe_out hi]; exact s1⟩
  refine ⟨A.fr, by rw [rest_len, ← A.len, wipe_length], fun i r h => ?_, fun i j p hi hj => A.ap i j p (own i p hi) (own j p hj)⟩
  by_cases hi : i ∈ vs
  · obtain ⟨d, rfl, hd⟩ := rest_in e0 e hi h
    obtain ⟨v, h1, h2⟩ := A0.sl i _ hd
    exact ⟨v, h1, h2.ext x⟩
  · rw [rest_out e0 e hi] at h
    have q := A.sl i r h
    rw [wipe_out hi] at q
    exact q
/-- an address that is kept for a while -/
def PC.pin (C : PC) (D : Addr) (o : HO) : PC := { C with H0 := upd C.H0 D o }
theorem Abs.pin {K : PySem.W.Frag} {C : PC} {B H : Hp} {σ : L2.St} {env : EnvP} {D : Addr} {o : HO} (A : Abs K C B σ H env) (hD : H D = some o) (h0 : C.H0 D = none) (hB : B D = none) (hn : ∀ i, ¬ OwnAt env σ i D) : Abs K (C.pin D o) B σ H env := by
  have z0 : ∀ p, p ≠ D → (C.pin D o).H0 p = C.H0 p := fun p hp => upd_ne hp
  refine ⟨⟨A.fr.sub, A.fr.b0, fun a u h => ?_, fun a u h n => ?_, fun p h => ?_⟩, A.len, fun i r h => ?_, A.ap⟩
  · rcases A.fr.new a u h with q | q
    · exact .inl q
    · exact .inr ((z0 a (ne_of_none h hB)).trans q)
  · by_cases e : a = D
    · subst e
      have : upd C.H0 a o a = some u := h
      rw [upd_same] at this; cases this; exact hD
    · exact A.fr.keep a u ((z0 a e).symm.trans h) n
  · obtain ⟨m1, m2, m3⟩ := A.fr.mt p h
    refine ⟨?_, m2, m3⟩
    have e : p ≠ D := fun e => m1 (e ▸ h0)
    rw [z0 p e]; exact m1
  · have q := A.sl i r h
    have jn : ∀ q, σ[i]?.join = some (V.ref q) → σ[i]? = some (some (.ref q)) := fun q z => by
      cases w : σ[i]? with
      | none => rw [w] at z; cases z
      | some x => rw [w] at z; have z' : x = some (V.ref q) := z; rw [z']
    cases r with
    | val d => exact q
    | ndr => exact q
    | drv _ => exact q
    | own d =>
      obtain ⟨p, q1, q2, q3, q4⟩ := q
      have : p ≠ D := fun e => hn i (e ▸ ⟨_, h, rfl, jn _ q1⟩)
      exact ⟨p, q1, q2, (z0 p this).trans q3, q4⟩
    | dr =>
      obtain ⟨p, q1, q2, q3, q4⟩ := q
      have : p ≠ D := fun e => hn i (e ▸ ⟨_, h, rfl, jn _ q1⟩)
      exact ⟨p, q1, q2, q3, q4.imp id fun z => (z0 p this).trans z⟩
theorem Abs.unpin {K : PySem.W.Frag} {C : PC} {B H : Hp} {σ : L2.St} {env : EnvP} {D : Addr} {o : HO} (A : Abs K (C.pin D o) B σ H env) (h0 : C.H0 D = none) (hm : C.mu ≠ some D) (hB0 : C.B0 D = none) :
    Abs K C B σ H env ∧ H D = some o ∧ B D = none ∧ ∀ i, ¬ OwnAt env σ i D := by
  have pD : (C.pin D o).H0 D = some o := upd_same
  have z0 : ∀ p, (C.pin D o).H0 p = none → C.H0 p = none := fun p hp => by
    by_cases e : p = D
    · subst e; exact h0
    · exact (upd_ne e).symm.trans hp
  have hBD : B D = none := by
    cases q : B D with
    | none => rfl
    | some u =>
      rcases A.fr.new D u q with z | z
      · rw [show (C.pin D o).B0 D = C.B0 D from rfl, hB0] at z; cases z
      · rw [pD] at z; cases z
  refine ⟨⟨⟨A.fr.sub, A.fr.b0, fun a u h => (A.fr.new a u h).imp id (z0 a), fun a u h n => A.fr.keep a u ?_ n, fun p h => ?_⟩, A.len, fun i r h => ?_, A.ap⟩, A.fr.keep D o pD hm, hBD, fun i hi => ?_⟩
  · show upd C.H0 D o a = some u
    rw [upd_ne (ne_of_none h h0)]; exact h
  · obtain ⟨m1, m2, m3⟩ := A.fr.mt p h
    refine ⟨fun z => ?_, m2, m3⟩
    have e : p ≠ D := fun e => hm (e ▸ h)
    exact m1 ((upd_ne e).trans z)
  · have q := A.sl i r h
    cases r with
    | val d => exact q
    | ndr => exact q
    | drv _ => exact q
    | own d => obtain ⟨p, q1, q2, q3, q4⟩ := q; exact ⟨p, q1, q2, z0 p q3, q4⟩
    | dr => obtain ⟨p, q1, q2, q3, q4⟩ := q; exact ⟨p, q1, q2, q3, q4.imp id (z0 p)⟩
  · obtain ⟨_, _, h3⟩ := ownAt_in A hi
    rcases h3 with z | z
    · exact hm z
    · rw [pD] at z; cases z
/-- what none owns is written -/
theorem Abs.poke {K : PySem.W.Frag} {C : PC} {B H : Hp} {σ : L2.St} {env : EnvP} {D : Addr} {o : HO} (A : Abs K C B σ H env) (h0 : C.H0 D = none) (hB : B D = none) (hn : ∀ i, ¬ OwnAt env σ i D) : Abs K C B σ (upd H D o) env := by
  have ne : ∀ {p : Addr} {u : HO}, C.H0 p = some u → p ≠ D := fun {p u} h => ne_of_none h h0
  refine ⟨⟨fun a u h => ?_, A.fr.b0, A.fr.new, fun a u h n => ?_, fun p h => ?_⟩, A.len, fun i r h => ?_, A.ap⟩
  · rw [upd_ne (ne_of_none h hB)]; exact A.fr.sub _ _ h
  · rw [upd_ne (ne h)]; exact A.fr.keep a u h n
  · obtain ⟨m1, m2, m3⟩ := A.fr.mt p h
    have e : p ≠ D := fun e => m1 (e ▸ h0)
    exact ⟨m1, m2.ext (Ext.refl B) (upd_ne e), m3⟩
  · have q := A.sl i r h
    have jn : ∀ q, σ[i]?.join = some (V.ref q) → σ[i]? = some (some (.ref q)) := fun q z => by
      cases w : σ[i]? with
      | none => rw [w] at z; cases z
      | some x => rw [w] at z; have z' : x = some (V.ref q) := z; rw [z']
    cases r with
    | val d => exact q
    | ndr => exact q
    | drv _ => exact q
    | own d =>
      obtain ⟨p, q1, q2, q3, q4⟩ := q
      have : p ≠ D := fun e => hn i (e ▸ ⟨_, h, rfl, jn _ q1⟩)
      exact ⟨p, q1, q2.ext (Ext.refl B) (upd_ne this), q3, q4⟩
    | dr =>
      obtain ⟨p, q1, q2, q3, q4⟩ := q
      have : p ≠ D := fun e => hn i (e ▸ ⟨_, h, rfl, jn _ q1⟩)
      exact ⟨p, q1, q2.ext (Ext.refl B) (upd_ne this), q3, q4⟩
def lcW (g : WG) (t : WT) (f : WE) (vs : List Nat) (k : List PyData → EnvP → Prop) : List PyData → List PyData → EnvP → Prop
  | [], acc, env => k acc env
  | d :: ds, acc, env => g d env fun e1 => t e1 (fun _ _ => False) fun b e2 =>
    if b = true then f e2 (fun _ _ => False) fun r e3 => r.vv fun y => acc.length < sizeLine ∧ lcW g t f vs k ds (acc ++ [y]) (wipeP e3 vs) else lcW g t f vs k ds acc (wipeP e2 vs)
def wLc (wi : WI) (g : WG) (t : WT) (f : WE) (vs : List Nat) : WE := fun env ex k => wi env ex fun ds e => lcW g t f vs (fun acc e' => k (.own (.list acc)) (restP e e' vs)) ds [] (wipeP e vs)
def wYes : WT := fun env _ k => k true env
theorem lc_imp {K : PySem.W.Frag} {C : PC} {wi : WI} {g : WG} {t : WT} {f : WE} {vs sl : List Nat} (hsl : ∀ j ∈ sl, j ∈ vs) {tt : TT} {te : TE} {tg : TG} (hg : ∀ C v σ H Q, liftG K C sl g v σ H Q → tg v σ H Q) (ht : ∀ C σ H Q, liftT K XW0 C t σ H Q → tt σ H Q) (hf : ∀ C σ H Q, lift K XW0 C f σ H Q → te σ H Q) :
    ∀ σ H Q, lift K xw C (wLc wi g t f vs) σ H Q → tLc (liftI K xw C wi) tg tt te vs σ H Q := fun σ H Q ⟨B, env, ex, k, A, hk, xo, kq⟩ => by
  refine ⟨B, env, ex, _, A, hk, xo, fun ds e1 H1 B1 J x1 A1 it h1 D hD => ?_⟩
  obtain ⟨f1, f2, f3⟩ := A1.fresh hD
  have hm : C.mu ≠ some D := fun m => (A1.fr.mt D m).1 f2
  have hB0 : C.B0 D = none := A1.fr.b0.back f1
  have xoF : ∀ C σ, XOk K XW0 C σ (fun _ _ => False) := fun C σ e env B H A h => h
  have wOwn : ∀ {e : EnvP} {σ' : L2.St} {i : Nat}, OwnAt (wipeP e vs) (L2.wipe σ' vs) i D → OwnAt e σ' i D := by
    intro e σ' i
    have gen : ∀ ws : List Nat, OwnAt (wipeP e ws) (L2.wipe σ' ws) i D → OwnAt e σ' i D := fun ws => by
      induction ws with
      | nil => exact id
      | cons v ws ih =>
        intro ⟨r, e1, o1, s1⟩
        rcases set_get e1 with ⟨_, z⟩ | ⟨n, z⟩
        · cases z
        · have s1' : ((L2.wipe σ' ws).set v none)[i]? = some (some (V.ref D)) := s1
          rw [List.getElem?_set_ne (Ne.symm n)] at s1'
          exact ih ⟨r, z, o1, s1'⟩
    exact gen vs
  refine ⟨fun i m H' => ∃ B' e' acc accV, Ext B1 B' ∧ Abs K C B' (L2.wipe σ vs) H' e' ∧ H' D = some (.lst accV) ∧ RpA K B' accV acc ∧ B' D = none ∧ (∀ i, ¬ OwnAt e' (L2.wipe σ vs) i D) ∧ i ≤ ds.length ∧ m = ds.length - i ∧
      lcW g t f vs (fun acc e' => k (.own (.list acc)) (restP e1 e' vs)) (ds.drop i) acc e',
    ⟨ds.length, B1, wipeP e1 vs, [], [], Ext.refl B1, (A1.more hD).wipe vs, upd_same, .nil, f1, fun i hi => f3 i (wOwn hi), Nat.zero_le _, by simp, h1⟩, ?_⟩
  rintro i m H' ⟨B', e', acc, accV, x', A', hDl, ra, hBD, hno, hi, rfl, hw⟩
  have hit := it i H' (x'.trans A'.fr.sub)
  by_cases hlt : i < ds.length
  · have hd : ds[i]? = some ds[i] := List.getElem?_eq_getElem hlt
    obtain ⟨go, yl⟩ := hit.2 _ hd
    rw [List.drop_eq_getElem_cons hlt] at hw
    refine .inr ⟨go, _, fun _ n => n, fun x H2 y => ?_⟩
    have A'' := A'.pin hDl f2 hBD hno
    obtain ⟨B2, r, x2, A2, R2, hr⟩ := Out.abs A'' ((yl x H2 y).ext x')
    subst hr
    refine hg (C.pin D (.lst accV)) _ _ _ _ ⟨B2, e', _, _, A2, R2, hw, fun e3 σ3 H3 B3 so x3 A3 h3 => ?_⟩
    have hwp := wipe_setsOnly so hsl
    refine ⟨hwp, ht (C.pin D (.lst accV)) _ _ _ ⟨B3, e3, _, _, A3, h3, xoF _ _, fun b e4 H4 B4 x4 A4 h4 => ?_⟩⟩
    cases b with
    | true =>
      refine hf (C.pin D (.lst accV)) _ _ _ ⟨B4, e4, _, _, A4, h4, xoF _ _, fun r5 e5 v5 H5 B5 x5 A5 R5 h5 => ?_⟩
      obtain ⟨B6, y6, x6, A6, ry, hl, h6⟩ := use A5 R5 h5
      obtain ⟨A7, q1, q2, q3⟩ := A6.unpin f2 hm hB0
      refine ⟨accV, q1, by rw [ra.length]; exact hl, ?_⟩
      have A8 := (A7.poke (o := .lst (accV ++ [v5])) f2 q2 q3).wipe vs
      rw [hwp] at A8
      have xx : Ext B' B6 := x2.trans (x3.trans (x4.trans (x5.trans x6)))
      exact ⟨_, by omega, B6, wipeP e5 vs, acc ++ [y6], accV ++ [v5], x'.trans xx, A8, upd_same, (ra.ext xx).app (.cons ry .nil), q2, fun j hj => q3 j (wOwn (hwp.symm ▸ hj)), hlt, rfl, h6⟩
    | false =>
      obtain ⟨A7, q1, q2, q3⟩ := A4.unpin f2 hm hB0
      have A8 := A7.wipe vs
      rw [hwp] at A8
      have xx : Ext B' B4 := x2.trans (x3.trans x4)
      exact ⟨_, by omega, B4, wipeP e4 vs, acc, accV, x'.trans xx, A8, q1, ra.ext xx, q2, fun j hj => q3 j (wOwn (hwp.symm ▸ hj)), hlt, rfl, h4⟩
  · have e : i = ds.length := by omega
    subst e
    rw [List.drop_length] at hw
    refine .inl ⟨hit.1 rfl, kq (.own (.list acc)) _ _ _ B' (x1.trans x') (A1.rest x' A') ⟨D, rfl, ⟨accV, hDl, ra⟩, f2, hBD, fun j hj => ?_⟩ hw⟩
    obtain ⟨r, e2, o2, s2⟩ := hj
    by_cases hjv : j ∈ vs
    · obtain ⟨d, rfl, _⟩ := rest_in e1 e' hjv e2
      cases o2
    · rw [rest_out e1 e' hjv] at e2
      exact hno j ⟨r, e2, o2, by rw [wipe_out hjv]; exact s2⟩
theorem pg_ex {X : Cx} {tg : Expr} {sl : List Nat} {g : WG} (h : PPG X tg sl g) : PG X tg (fun v σ H Q => ∃ C, liftG X.K C sl g v σ H Q) := ⟨fun pins s σ H v u Q I r ⟨C, q⟩ => (h C).run pins s σ H v u Q I r q⟩
theorem pe_ex {X : Cx} {e : Expr} {f : WE} (h : PPE X XW0 e f) : PE X e (fun σ H Q => ∃ C, lift X.K XW0 C f σ H Q) := ⟨fun pins s σ H Q I ⟨C, q⟩ => (h C).run pins s σ H Q I q⟩
/-- a clause's tests -/
def PPTs (X : Cx) (ifs : List Expr) (t : WT) : Prop := ∀ C, PTs X ifs (liftT X.K XW0 C t)
theorem pts_ex {X : Cx} {ifs : List Expr} {t : WT} (h : PPTs X ifs t) : PTs X ifs (fun σ H Q => ∃ C, liftT X.K XW0 C t σ H Q) := ⟨fun pins s σ H Q I ⟨C, q⟩ => (h C).run pins s σ H Q I q⟩
theorem ppts_nil : PPTs X [] wYes := fun C => ⟨fun pins s σ H Q I ⟨B, env, ex, k, A, hk, xo, kq⟩ => pts_nil.run pins s σ H Q I (kq true env H B (Ext.refl B) A hk)⟩
theorem ppts_one {c : Expr} {t : WT} (h : PPT X XW0 c t) : PPTs X [c] t := fun C => pts_one (h C)
theorem pp_lc {elt tg iter : Expr} {ifs : List Expr} {scope : Scope} (own : List (Str × Nat)) {wi : WI} {sl : List Nat} {g : WG} {t : WT} {f : WE} (hc : X.calm = true) (hN : X.N.Nodup) (hi : PPI X xw tg iter wi) (ok : BlkOk X.N X.env.scope scope own) (hsl : ∀ j ∈ sl, j ∈ own.map (·.2))
    (hg : ∀ (s : Shared) (H : Hp) (Ca : Addr) (cl : List (Str × Addr)) (fp : List Addr), PPG (X.blk s H scope (compEnvC scope cl Ca X.env) fp) tg sl g)
    (ht : ∀ (s : Shared) (H : Hp) (Ca : Addr) (cl : List (Str × Addr)) (fp : List Addr), PPTs (X.blk s H scope (compEnvC scope cl Ca X.env) fp) ifs t)
    (hf : ∀ (s : Shared) (H : Hp) (Ca : Addr) (cl : List (Str × Addr)) (fp : List Addr), PPE (X.blk s H scope (compEnvC scope cl Ca X.env) fp) XW0 elt f) (hs : ∀ x, foldedSetIterable iter X.env x = pure x := by intro _; rfl) :
    PPE X xw (.ListComp elt [⟨tg, iter, ifs, 0⟩] scope pos) (wLc wi g t f (own.map (·.2))) := fun C =>
  pe_imp (pe_lc (g := fun v σ H Q => ∃ C, liftG X.K C sl g v σ H Q) (tt := fun σ H Q => ∃ C, liftT X.K XW0 C t σ H Q) (te := fun σ H Q => ∃ C, lift X.K XW0 C f σ H Q) hc hN (hi C) ok (fun s H Ca cl fp => pg_ex (hg s H Ca cl fp)) (fun s H Ca cl fp => pts_ex (ht s H Ca cl fp)) (fun s H Ca cl fp => pe_ex (hf s H Ca cl fp)) hs)
    (lc_imp hsl (fun C v σ H Q h => ⟨C, h⟩) (fun C σ H Q h => ⟨C, h⟩) fun C σ H Q h => ⟨C, h⟩)
/-- name = [..] -/
theorem s_setLc {i : Nat} {y : Str} {py spos : Pos} {elt tg iter : Expr} {ifs : List Expr} {scope : Scope} (own : List (Str × Nat)) {wi : WI} {sl : List Nat} {g : WG} {t : WT} {f : WE} (hc : X.calm = true) (hN : X.N.Nodup) (hy : X.N[i]? = some y) (hyl : X.env.scope.names.lookup y = some .local)
    (hsw : swapsWith (.ListComp elt [⟨tg, iter, ifs, 0⟩] scope pos) (some (.Name y py)) spos.line X.env = pure true) (hi : PPI X xw tg iter wi) (ok : BlkOk X.N X.env.scope scope own) (hsl : ∀ j ∈ sl, j ∈ own.map (·.2))
    (hg : ∀ (s : Shared) (H : Hp) (Ca : Addr) (cl : List (Str × Addr)) (fp : List Addr), PPG (X.blk s H scope (compEnvC scope cl Ca X.env) fp) tg sl g)
    (ht : ∀ (s : Shared) (H : Hp) (Ca : Addr) (cl : List (Str × Addr)) (fp : List Addr), PPTs (X.blk s H scope (compEnvC scope cl Ca X.env) fp) ifs t)
    (hf : ∀ (s : Shared) (H : Hp) (Ca : Addr) (cl : List (Str × Addr)) (fp : List Addr), PPE (X.blk s H scope (compEnvC scope cl Ca X.env) fp) XW0 elt f) (hs : ∀ x, foldedSetIterable iter X.env x = pure x := by intro _; rfl) :
    PPS X xw (.Assign [.Name y py] (.ListComp elt [⟨tg, iter, ifs, 0⟩] scope pos) spos) (wSet i (wLc wi g t f (own.map (·.2)))) := fun C =>
  ps_imp (ps_setLc (g := fun v σ H Q => ∃ C, liftG X.K C sl g v σ H Q) (tt := fun σ H Q => ∃ C, liftT X.K XW0 C t σ H Q) (te := fun σ H Q => ∃ C, lift X.K XW0 C f σ H Q) hc hN hy hyl hsw (hi C) ok (fun s H Ca cl fp => pg_ex (hg s H Ca cl fp)) (fun s H Ca cl fp => pts_ex (ht s H Ca cl fp)) (fun s H Ca cl fp => pe_ex (hf s H Ca cl fp)) hs) fun D σ H ⟨B, env, E, A, h, xo, k1, k2, k3, k4⟩ => by
    refine lc_imp hsl (fun C v σ H Q h => ⟨C, h⟩) (fun C σ H Q h => ⟨C, h⟩) (fun C σ H Q h => ⟨C, h⟩) σ H _ ⟨B, env, E.ex, _, A, h, xo σ, fun r e1 v H1 B1 x1 A1 R1 h1 => ?_⟩
    cases hr : r.sl with
    | none => rw [hr] at h1; exact h1.elim
    | some s => rw [hr] at h1; exact k1 _ _ H1 B1 x1 (A1.store R1 hr i) h1
end
end PL

namespace PL
open PySem PySem.Spec PyProof.Rows L2 TL

/-- what a def does, on data: a wish of its result -/
abbrev Sem := List Rv → (Rv → Prop) → Prop
/-- arguments: data; the draws may stand first -/
inductive ArgsOk (K : PySem.W.Frag) (B H : Hp) : List V → List Rv → Option Addr → Prop
  | all {vs : List V} {ds : List PyData} : RpA K B vs ds → ArgsOk K B H vs (ds.map .val) none
  | dr {p : Addr} {vs : List V} {ds : List PyData} : DrOk B H p → B p = none → RpA K B vs ds → ArgsOk K B H (.ref p :: vs) (.dr :: ds.map .val) (some p)
def RetOk (K : PySem.W.Frag) (C : PC) (B H : Hp) (v : V) : Rv → Prop
  | .val d => Rp K B v d
  | .own d => ∃ p, v = .ref p ∧ Own K B H p d ∧ C.H0 p = none ∧ B p = none
  | .ndr => ∃ p, v = .ref p ∧ DrOk B H p ∧ C.H0 p = none ∧ B p = none
  | _ => False
/-- the promise -/
def spP (K : PySem.W.Frag) (sem : Sem) : Sp := fun vs H Q _ => ∃ B as mu k, Ext B H ∧ ArgsOk K B H vs as mu ∧ sem as k ∧
  ∀ r v H' B', Fr ⟨H, B, mu⟩ B' H' → RetOk K ⟨H, B, mu⟩ B' H' v r → k r → Q v H'
def envOf (N : List Str) (as : List Rv) : EnvP := as.map some ++ List.replicate (N.length - as.length) none
theorem ArgsOk.length {K : PySem.W.Frag} {B H : Hp} {vs : List V} {as : List Rv} {mu : Option Addr} (h : ArgsOk K B H vs as mu) : vs.length = as.length := by
  cases h with
  | all r => rw [List.length_map, r.length]
  | dr _ _ r => rw [List.length_cons, List.length_cons, List.length_map, r.length]
theorem env_get {N : List Str} {as : List Rv} {i : Nat} {r : Rv} (h : (envOf N as)[i]? = some (some r)) : as[i]? = some r := by
  unfold envOf at h
  by_cases hi : i < as.length
  · rw [List.getElem?_append_left (by rw [List.length_map]; exact hi), List.getElem?_map] at h
    cases q : as[i]? with
    | none => rw [q] at h; cases h
    | some x => rw [q] at h; cases h; rfl
  · rw [List.getElem?_append_right (by rw [List.length_map]; omega), List.getElem?_replicate] at h
    split at h <;> cases h
theorem start_get {N : List Str} {vs : List V} {i : Nat} {v : V} (h : vs[i]? = some v) : (L2.start N vs)[i]? = some (some v) := by
  have hi := (List.getElem?_eq_some_iff.mp h).1
  unfold L2.start
  rw [List.getElem?_append_left (by rw [List.length_map]; exact hi), List.getElem?_map, h]; rfl
theorem abs_start {K : PySem.W.Frag} {B H : Hp} {vs : List V} {as : List Rv} {mu : Option Addr} {N : List Str} (e : Ext B H) (h : ArgsOk K B H vs as mu) : Abs K ⟨H, B, mu⟩ B (L2.start N vs) H (envOf N as) := by
  have hl := h.length
  have mtv : ∀ p, mu = some p → H p ≠ none ∧ DrOk B H p ∧ B p = none := fun p hp => by
    cases h with
    | all r => cases hp
    | dr d b r =>
      cases hp
      have d' := d
      obtain ⟨_, _, _, _, _, h4, _⟩ := d'
      exact ⟨by rw [h4]; simp, d, b⟩
  refine ⟨⟨e, Ext.refl B, fun a o q => .inl q, fun a o q _ => q, mtv⟩, ?_, fun i r hr => ?_, fun i j p hi hj => ?_⟩
  · unfold L2.start envOf; simp [hl]
  · have ha := env_get hr
    cases h with
    | all ra =>
      rw [List.getElem?_map] at ha
      cases q : (_ : List PyData)[i]? with
      | none => rw [q] at ha; cases ha
      | some d =>
        rw [q] at ha; cases ha
        obtain ⟨v, hv, rv⟩ := ra.get q
        exact ⟨v, by rw [start_get hv]; rfl, rv⟩
    | @dr p vs' ds d b ra =>
      cases i with
      | zero =>
        cases ha
        exact ⟨p, by rw [start_get (v := .ref p) rfl]; rfl, d, b, .inl rfl⟩
      | succ i =>
        rw [List.getElem?_cons_succ, List.getElem?_map] at ha
        cases q : ds[i]? with
        | none => rw [q] at ha; cases ha
        | some d' =>
          rw [q] at ha; cases ha
          obtain ⟨v, hv, rv⟩ := ra.get q
          exact ⟨v, by rw [start_get (v := v) (by simpa using hv)]; rfl, rv⟩
  · have zero : ∀ i, OwnAt (envOf N as) (L2.start N vs) i p → i = 0 := fun i hi => by
      obtain ⟨r, e1, o1, _⟩ := hi
      have ha := env_get e1
      cases h with
      | all ra =>
        rw [List.getElem?_map] at ha
        cases q : (_ : List PyData)[i]? with
        | none => rw [q] at ha; cases ha
        | some d => rw [q] at ha; cases ha; cases o1
      | @dr p vs' ds d b ra =>
        cases i with
        | zero => rfl
        | succ i =>
          rw [List.getElem?_cons_succ, List.getElem?_map] at ha
          cases q : ds[i]? with
          | none => rw [q] at ha; cases ha
          | some d => rw [q] at ha; cases ha; cases o1
    rw [zero i hi, zero j hj]
/-- what may be handed back -/
def Rv.good : Rv → Prop
  | .val _ => True
  | .own _ => True
  | .ndr => True
  | _ => False
def endsOf (k : Rv → Prop) : EndsP := { nx := fun _ => k (.val .none), rt := fun r _ => r.good ∧ k r, bk := fun _ => False, ct := fun _ => False, ex := fun _ _ => False }
section
variable {P : Program} {w : World} {K : PySem.W.Frag} {mg : Str → Option Value} {base : Heap}
/-- A DEF: its body's reading on data keeps its promise -/
theorem def_ok {x qual : Str} {st : Stmt} {f : Addr} {fd : FuncData} {N ps : List Str} {k : Nat} {sem : Sem} {b : WS} (F : Fun K x qual st f fd) (sc : FnScope N ps (defScope st)) (len : ∀ as q, sem as q → as.length = ps.length)
    (hb : ∀ X : Cx, X.prog = P → X.w = w → X.K = K → X.mg = mg → X.base = base → X.N = N → X.env.scope = defScope st → X.calm = true → X.fn = (fun _ => true) → Room k X.A → PassesOwn (model X.prog X.w) X.A X.env X.xe → PPSs X XW0 (defBody st) b)
    (hs : ∀ as q, sem as q → b (envOf N as) (endsOf q)) : FnOk P w K mg base CX0 (k + 1) f fd ps (spP K sem) := by
  refine F.ok sc (fun vs H Q E h => ?_) (fun cdv A outer s H vs Q E hr h => ?_)
  · obtain ⟨B, as, mu, q, e, ha, hq, _⟩ := h
    rw [ha.length]; exact len as q hq
  · obtain ⟨B, as, mu, q, e, ha, hq, kq⟩ := h
    refine ⟨liftS K XW0 ⟨H, B, mu⟩ b, hb _ rfl rfl rfl rfl rfl rfl rfl rfl rfl hr PassesOwn.never ⟨H, B, mu⟩, ?_⟩
    refine ⟨B, envOf N as, endsOf q, abs_start e ha, hs as q hq, fun σ e env B H A h => h, fun env' σ' H' B' x A h => ?_, fun r env' v σ' H' B' x A R h => ?_, fun _ _ _ _ _ _ h => h.elim, fun _ _ _ _ _ _ h => h.elim⟩
    · exact kq (.val .none) .non H' B' A.fr .non h
    · obtain ⟨hg, h⟩ := h
      refine kq r v H' B' A.fr ?_ h
      cases r with
      | val d => exact R
      | own d => obtain ⟨p, h1, h2, h3, h4, _⟩ := R; exact ⟨p, h1, h2, h3, h4⟩
      | ndr => obtain ⟨p, h1, h2, h3, h4, _⟩ := R; exact ⟨p, h1, h2, h3, h4⟩
      | dr => exact hg.elim
      | drv i => exact hg.elim
end

/-! ### calls -/
def argsOf (rs : List Rv) (e : EnvP) (k : List Rv → Prop) : Prop := match rs with
  | .drv i :: rs => (match e[i]? with
    | some (some .dr) => vals rs fun ds => k (.dr :: ds.map .val)
    | _ => False)
  | rs => vals rs fun ds => k (ds.map .val)
def wCall (sem : Sem) (f : WA) : WE := fun env ex k => f env ex fun rs e => argsOf rs e fun as => sem as fun r => k r e
section
variable {X : Cx} {xw : XW} {pos : Pos}
theorem RvsOk.args {K : PySem.W.Frag} {C : PC} {B H : Hp} {σ : L2.St} {e : EnvP} {vs : List V} {rs : List Rv} {k : List Rv → Prop} (R : RvsOk K B σ vs rs) (A : Abs K C B σ H e) (h : argsOf rs e k) :
    ∃ as mu, ArgsOk K B H vs as mu ∧ k as ∧ ∀ p, mu = some p → ∃ i : Nat, e[i]? = some (some .dr) ∧ σ[i]? = some (some (.ref p)) := by
  unfold argsOf at h
  split at h
  · rename_i i rs'
    cases R with
    | dr hp R =>
      cases he : e[i]? with
      | none => rw [he] at h; exact h.elim
      | some o =>
        rw [he] at h
        cases o with
        | none => exact h.elim
        | some r =>
          cases r <;> first | exact h.elim | skip
          obtain ⟨ds, r, h2⟩ := R.vals h
          obtain ⟨v, hv, q, ev, d, b, _⟩ := A.slot he
          rw [hp] at hv; cases hv; cases ev
          exact ⟨_, _, .dr d b r, h2, fun p e => by cases e; exact ⟨i, he, hp⟩⟩
  · obtain ⟨ds, r, h2⟩ := R.vals h
    exact ⟨_, _, .all r, h2, fun p e => by cases e⟩
/-- behind a call -/
theorem Abs.called {K : PySem.W.Frag} {C : PC} {B B' H H' : Hp} {σ : L2.St} {e : EnvP} {mu : Option Addr} (A : Abs K C B σ H e) (hm : ∀ p, mu = some p → ∃ i : Nat, e[i]? = some (some .dr) ∧ σ[i]? = some (some (.ref p))) (F : Fr ⟨H, B, mu⟩ B' H') : Abs K C B' σ H' e := by
  have own : ∀ p, mu = some p → ∃ i, OwnAt e σ i p := fun p h => let ⟨i, h1, h2⟩ := hm p h; ⟨i, _, h1, rfl, h2⟩
  have stay : ∀ {p : Addr} {o : HO}, H p = some o → mu ≠ some p → H' p = some o := fun {p o} h n => F.keep p o h n
  have outB : ∀ {p : Addr}, B p = none → (∃ o, H p = some o) → B' p = none := fun {p} hb ⟨o, ho⟩ => by
    cases q : B' p with
    | none => rfl
    | some u =>
      rcases F.new p u q with z | z
      · rw [show (PC.mk H B mu).B0 p = B p from rfl, hb] at z; cases z
      · rw [show (PC.mk H B mu).H0 p = H p from rfl, ho] at z; cases z
  have free : ∀ {p : Addr}, H p = none → C.H0 p = none := fun {p} h => (A.fresh h).2.1
  refine ⟨⟨F.sub, A.fr.b0.trans F.b0, fun a o h => ?_, fun a o h n => ?_, fun p h => ?_⟩, A.len, fun i r h => ?_, A.ap⟩
  · rcases F.new a o h with q | q
    · exact A.fr.new a o q
    · exact .inr (free q)
  · refine stay (A.fr.keep a o h n) fun z => ?_
    obtain ⟨i, hi⟩ := own a z
    obtain ⟨_, _, hc⟩ := ownAt_in A hi
    rcases hc with hc | hc
    · exact n hc
    · rw [h] at hc; cases hc
  · obtain ⟨m1, m2, m3⟩ := A.fr.mt p h
    by_cases e : mu = some p
    · obtain ⟨_, d, b⟩ := F.mt p e
      exact ⟨m1, d, b⟩
    · have m2' := m2
      obtain ⟨_, _, _, _, _, h4, _⟩ := m2'
      exact ⟨m1, m2.ext F.b0 ((stay h4 e).trans h4.symm), outB m3 ⟨_, h4⟩⟩
  · have q := A.sl i r h
    have jn : ∀ q, σ[i]?.join = some (V.ref q) → σ[i]? = some (some (.ref q)) := fun q z => by
      cases w : σ[i]? with
      | none => rw [w] at z; cases z
      | some x => rw [w] at z; have z' : x = some (V.ref q) := z; rw [z']
    cases r with
    | val d => obtain ⟨v, h1, h2⟩ := q; exact ⟨v, h1, h2.ext F.b0⟩
    | ndr => exact q
    | drv _ => exact q
    | own d =>
      obtain ⟨p, h1, h2, h3, h4⟩ := q
      have np : mu ≠ some p := fun z => by
        obtain ⟨j, hj1, hj2⟩ := hm p z
        have := A.ap i j p ⟨_, h, rfl, jn _ h1⟩ ⟨_, hj1, rfl, hj2⟩
        subst this
        rw [h] at hj1; cases hj1
      obtain ⟨o, ho⟩ := h2.some
      exact ⟨p, h1, h2.ext F.b0 ((stay ho np).trans ho.symm), h3, outB h4 ⟨o, ho⟩⟩
    | dr =>
      obtain ⟨p, h1, h2, h3, h4⟩ := q
      by_cases e : mu = some p
      · obtain ⟨_, d, b⟩ := F.mt p e
        exact ⟨p, h1, d, b, h4⟩
      · have h2' := h2
        obtain ⟨_, _, _, _, _, h5, _⟩ := h2'
        exact ⟨p, h1, h2.ext F.b0 ((stay h5 e).trans h5.symm), outB h3 ⟨_, h5⟩, h4⟩
theorem RetOk.rv {K : PySem.W.Frag} {C : PC} {B B' H H' : Hp} {σ : L2.St} {e : EnvP} {mu : Option Addr} {v : V} {r : Rv} (A : Abs K C B σ H e) (h : RetOk K ⟨H, B, mu⟩ B' H' v r) : RvOk K C B' H' σ e v r := by
  have no : ∀ {p : Addr}, H p = none → ∀ i, ¬ OwnAt e σ i p := fun {p} hp => (A.fresh hp).2.2
  cases r with
  | val d => exact h
  | own d => obtain ⟨p, h1, h2, h3, h4⟩ := h; exact ⟨p, h1, h2, (A.fresh h3).2.1, h4, no h3⟩
  | ndr => obtain ⟨p, h1, h2, h3, h4⟩ := h; exact ⟨p, h1, h2, (A.fresh h3).2.1, h4, no h3⟩
  | dr => exact h.elim
  | drv _ => exact h.elim
theorem wCall_imp {C : PC} {sem : Sem} {f : WA} : ∀ σ H Q, lift X.K xw C (wCall sem f) σ H Q → tCall (spP X.K sem) [] E0 (liftA X.K xw C f) σ H Q := fun σ H Q ⟨B, env, ex, k, A, hk, xo, kq⟩ => by
  refine ⟨B, env, ex, _, A, hk, xo, fun rs e1 vs H1 B1 x1 A1 R1 h1 => ?_⟩
  obtain ⟨as, mu, ha, hs, hm⟩ := R1.args A1 h1
  rw [List.append_nil]
  exact ⟨B1, as, mu, _, A1.fr.sub, ha, hs, fun r v H2 B2 F2 R2 k2 => kq r e1 v H2 B2 (x1.trans F2.b0) (A1.called hm F2) (R2.rv A1) k2⟩
theorem pp_call {f : Addr} {fd : FuncData} {ps : List Str} {k : Nat} {sem : Sem} {x : Str} {p : Pos} {e : Expr} {es : List Expr} {fa : WA} (F : FnOk X.prog X.w X.K X.mg X.base CX0 k f fd ps (spP X.K sem)) (hr : Room k X.A) (hg : Gl X x) (hm : X.mg x = some (.ref f)) (hk : PySem.W.keepIn X.K (.ref f) = true) (hb : Binds X.K fd ps [])
    (ha : PPA X xw (e :: es) fa) (hdb : (x == ("__debug__" : Str)) = false := by decide) (he : starEach (e :: es) X.env = (false, eval e X.env) :: starEach es X.env := by rfl) (hpl : (backTo pos (starEach es X.env)).any (·.1) = false := by rfl) :
    PPE X xw (.Call (.Name x p) (e :: es) [] pos) (wCall sem fa) := fun C => pe_imp (pe_call F hr hg hm hk hb .nil pass0 (ha C) hdb he hpl) (wCall_imp)
/-- return of a name: the owned thing itself -/
def wRetN (i : Nat) : WS := fun env E => match env[i]? with
  | some (some (.val d)) => E.rt (.val d) env
  | some (some (.own d)) => E.rt (.own d) (env.set i none)
  | _ => False
theorem s_retN {i : Nat} {e : Expr} (h : PE X e (tVar i)) : PPS X xw (.Return (some e) pos) (wRetN i) := fun C =>
  ps_imp (ps_ret h) fun D σ H ⟨B, env, E, A, h, xo, k1, k2, k3, k4⟩ => by
    unfold wRetN at h
    cases he : env[i]? with
    | none => rw [he] at h; exact h.elim
    | some o =>
      rw [he] at h
      cases o with
      | none => exact h.elim
      | some r =>
        cases r <;> first | exact h.elim | skip
        · obtain ⟨v, hv, v', ev, rv⟩ := A.slot he
          cases ev
          exact ⟨v, hv, k2 (.val _) env v σ H B (Ext.refl B) A rv h⟩
        · obtain ⟨v, hv, p, ev, h1, h2, h3⟩ := A.slot he
          cases ev
          refine ⟨_, hv, k2 (.own _) _ _ σ H B (Ext.refl B) (A.forget i) ⟨p, rfl, h1, h2, h3, fun j hj => ?_⟩ h⟩
          obtain ⟨r, e1, o1, s1⟩ := hj
          rcases set_get e1 with ⟨_, z⟩ | ⟨n, z⟩
          · cases z
          · exact n (A.ap j i p ⟨r, z, o1, s1⟩ ⟨_, he, rfl, hv⟩)
end
end PL

namespace PL
open PySem PySem.Spec PyProof.Rows L2 TL

/-! ### the draws of a law -/
section
variable (K : PySem.W.Frag)
/-- draws[j] -/
abbrev tDi (j : Int) : TE := tOp (rIx K) (tVar 0) (tC (.int j))
abbrev rLenSeq : List V → Hp → VK → Prop := fun xs H Q => ∃ p ys, xs = [.ref p] ∧ (SqL K H p ys ∨ SqT K H p ys) ∧ Q (.int ys.length) H
abbrev rInt1 : List V → Hp → VK → Prop := fun xs H Q => (∃ i, xs = [.int i] ∧ Q (.int i) H) ∨ ∃ k, xs = [.bl k] ∧ Q (.int (if k then 1 else 0)) H
abbrev rAddI : R2 := rI0 fun i j => .int (i + j)
abbrev rMulI : R2 := rI CMul fun i j => .int (i * j)
abbrev rModI : R2 := rI (fun _ j => 0 < j) fun i j => .int (i % j)
abbrev rDivI : R2 := rI CDivW fun i j => .int (i / j)
abbrev tSt (j : Int) (te : TE) : TS := tAsg te (gSub (tVar 0) (tC (.int j)) rSetL)
def tTail : TS :=
  (tSeq (tIfS (tTest (tOp (rI0 fun i j => .bl (decide (j < i))) (tDi K 2) (tC (.int 0))))
    (tSeq (tAsg (tOp rModI (tCB rInt1 (tCons (tDi K 2) tNil)) (tVar 1)) (gName 3))
    (tSeq (tSt 2 (tOp rDivI (tDi K 2) (tVar 1)))
    (tRet (tVar 3))))
    tNext)
  (tSeq (tSt 3 (tOp rModI (tCB rInt1 (tCons (tOp rAddI (tOp rMulI (tDi K 3) (tC (.int 69621))) (tC (.int 7))) tNil)) (tC (.int 2147483629))))
  (tRet (tOp rModI (tCB rInt1 (tCons (tOp rDivI (tDi K 3) (tC (.int 11))) tNil)) (tVar 1)))))
def tDraw : TS :=
  tSeq (tIfS (tAnd (tTest (tOp rEq (tDi K 2) (tC (.int 0)))) (tTest (tOp (rI0 fun i j => .bl (decide (i < j))) (tDi K 1) (tCB (rLenSeq K) (tCons (tDi K 0) tNil)))))
    (tSeq (tAsg (tOp (rIx K) (tDi K 0) (tDi K 1)) (gName 2))
    (tSeq (tSt 1 (tOp rAddI (tDi K 1) (tC (.int 1))))
    (tSeq (tIfS (tTest (tOp (rI0 fun i j => .bl (decide (j ≤ i))) (tVar 2) (tOp (rI CPow fun i j => .int (i ^ j.toNat)) (tC (.int 10)) (tC (.int 18))))) (tSt 2 (tVar 2)) tNext)
    (tSt 3 (tOp rModI (tCB rInt1 (tCons (tOp rAddI (tOp rAddI (tOp rMulI (tDi K 3) (tC (.int 48271))) (tVar 2)) (tC (.int 13))) tNil)) (tC (.int 2147483647)))))))
    tNext)
  (tTail K)
end
section
variable {K : PySem.W.Frag} {H : Hp} {p q : Addr} {i b s n : Int} {ns : List Int}
/-- the cell of the draws -/
def DC (H : Hp) (p q : Addr) (i b s : Int) : Prop := H p = some (.lst [.ref q, .int i, .int b, .int s])
theorem di {σ : L2.St} {j : Int} {v : V} {Q : VK} {xs : List V} (hσ : σ[0]? = some (some (.ref p))) (hp : H p = some (.lst xs)) (ha : atI xs j = some v) (k : Q v H) : tDi K j σ H Q :=
  ⟨.ref p, hσ, .inl ⟨p, xs, j, v, rfl, rfl, SqL.of hp, ha, k⟩⟩
theorem ifF {a b : Prop} (h : b) : (if (false : Bool) = true then a else b) := by rw [if_neg Bool.false_ne_true]; exact h
theorem dset {σ : L2.St} {j : Int} {m : Nat} {v : V} {te : TE} {D : Ends} {xs : List V} (hσ : σ[0]? = some (some (.ref p))) (hp : H p = some (.lst xs)) (hj : ixN xs.length j = some m) (he : ∀ Q : VK, Q v H → te σ H Q) (k : D.nx σ (upd H p (.lst (xs.set m v)))) : tSt j te D σ H :=
  he _ ⟨.ref p, hσ, p, xs, j, m, rfl, rfl, hp, hj, k⟩
/-- the end: a value in the range, the cell turned -/
def DEnd (H : Hp) (p q : Addr) (n : Int) (Q : VK) : Prop := ∀ (v i' b' s' : Int), 0 ≤ v → v < n → 0 ≤ i' → i' ≤ 1000 → 0 ≤ b' → 0 ≤ s' → s' < 2147483648 → Q (.int v) (upd H p (.lst [.ref q, .int i', .int b', .int s']))
/-- behind the first if -/
theorem draw_tail {x2 : Option V} (hi : 0 ≤ i) (hi' : i ≤ 1000) (hb : 0 ≤ b) (hs : 0 ≤ s) (hs' : s < 2147483648) (hn : 0 < n) (hn' : n < 2 ^ 62) {Q : VK} (hQ : DEnd H p q n Q) :
    tTail K { nx := fun _ H' => Q .non H', rt := Q } [some (.ref p), some (.int n), x2, none] (upd H p (.lst [.ref q, .int i, .int b, .int s])) := by
  have hp : (upd H p (.lst [.ref q, .int i, .int b, .int s])) p = some (.lst [.ref q, .int i, .int b, .int s]) := upd_same
  have dn : CDivW b n := wide_div (b := 62) hn (by omega) (by decide) (by decide)
  refine di rfl hp (v := .int b) rfl ⟨b, 0, rfl, rfl, _, rfl, ite2 (fun hc => ?_) (fun hc => ?_)⟩
  · have hb0 : 0 < b := of_decide_eq_true hc
    refine di rfl hp (v := .int b) rfl (.inl ⟨b, rfl, .int n, rfl, b, n, rfl, rfl, hn, ?_⟩)
    refine dset (j := 2) (te := (tOp rDivI (tDi K 2) (tVar 1))) rfl hp (m := 2) (v := .int (b / n)) rfl ?_ ?_
    · intro Q' k; exact di rfl hp (v := .int b) rfl ⟨.int n, rfl, b, n, rfl, rfl, dn, k⟩
    refine ⟨.int (b % n), rfl, ?_⟩
    rw [upd_upd]
    exact hQ (b % n) i (b / n) s (Int.emod_nonneg _ (by omega)) (Int.emod_lt_of_pos _ hn) hi hi' (Int.ediv_nonneg hb (by omega)) hs hs'
  · refine dset (j := 3) (te := (tOp rModI (tCB rInt1 (tCons (tOp rAddI (tOp rMulI (tDi K 3) (tC (.int 69621))) (tC (.int 7))) tNil)) (tC (.int 2147483629)))) rfl hp (m := 3) (v := .int ((s * 69621 + 7) % 2147483629)) rfl ?_ ?_
    · intro Q' k; exact di rfl hp (v := .int s) rfl ⟨s, 69621, rfl, rfl, .inl ⟨by omega, by omega⟩, s * 69621, 7, rfl, rfl, .inl ⟨_, rfl, _, _, rfl, rfl, (by decide : (0 : Int) < _), k⟩⟩
    rw [upd_upd]
    have e1 := Int.emod_nonneg (s * 69621 + 7) (show (2147483629 : Int) ≠ 0 by decide)
    have e2 := Int.emod_lt_of_pos (s * 69621 + 7) (show (0 : Int) < 2147483629 by decide)
    refine di (xs := [.ref q, .int i, .int b, .int ((s * 69621 + 7) % 2147483629)]) rfl upd_same (v := .int ((s * 69621 + 7) % 2147483629)) rfl ⟨_, 11, rfl, rfl, wide_div (b := 4) (by decide) (by decide) (by decide) (by decide), .inl ⟨_, rfl, .int n, rfl, _, n, rfl, rfl, hn, ?_⟩⟩
    exact hQ _ i b _ (Int.emod_nonneg _ (by omega)) (Int.emod_lt_of_pos _ hn) hi hi' hb e1 (by omega)
theorem draw_read (hp : H p = some (.lst [.ref q, .int i, .int b, .int s])) (hq : H q = some (.lst (ns.map V.int))) (hl : ns.length ≤ 63) (hi : 0 ≤ i) (hi' : i ≤ 1000) (hb : 0 ≤ b) (hs : 0 ≤ s) (hs' : s < 2147483648) (hn : 0 < n) (hn' : n < 2 ^ 62) {Q : VK} (hQ : DEnd H p q n Q) :
    tDraw K { nx := fun _ H' => Q .non H', rt := Q } [some (.ref p), some (.int n), none, none] H := by
  have self : upd H p (.lst [.ref q, .int i, .int b, .int s]) = H := by
    funext a
    by_cases e : a = p
    · subst e; rw [upd_same, hp]
    · rw [upd_ne e]
  have tail := fun (i b s : Int) (x2 : Option V) h1 h2 h3 h4 h5 => draw_tail (K := K) (H := H) (p := p) (q := q) (i := i) (b := b) (s := s) (n := n) (x2 := x2) h1 h2 h3 h4 h5 hn hn' hQ
  have npq : q ≠ p := fun e => by
    subst e
    rw [hp] at hq
    have hq' : [V.ref q, V.int i, V.int b, V.int s] = ns.map V.int := HO.lst.inj (Option.some.inj hq)
    cases ns <;> cases hq'
  have skip : tTail K { nx := fun _ H' => Q .non H', rt := Q } [some (.ref p), some (.int n), none, none] H := by
    have t := tail i b s none hi hi' hb hs hs'
    rw [self] at t
    exact t
  refine di rfl hp (v := .int b) rfl ⟨rfl, _, rfl, ite2 (fun h0 => ?_) (fun _ => ifF skip)⟩
  have hb0 : b = 0 := V.int.inj (of_decide_eq_true h0)
  subst hb0
  refine di rfl hp (v := .int i) rfl ?_
  refine di rfl hp (v := .ref q) rfl ⟨q, ns.map V.int, rfl, .inl (SqL.of hq), i, _, rfl, rfl, _, rfl, ite2 (fun hc => ?_) (fun _ => skip)⟩
  have hlt : i < ((ns.map V.int).length : Int) := of_decide_eq_true hc
  rw [List.length_map] at hlt
  have hin : i.toNat < ns.length := by omega
  obtain ⟨c, hc0⟩ : ∃ c, ns[i.toNat]? = some c := ⟨_, List.getElem?_eq_getElem hin⟩
  have hat : atI (ns.map V.int) i = some (.int c) := by
    have e : (i.toNat : Int) = i := Int.toNat_of_nonneg hi
    rw [← e]
    exact atI_nat (by rw [List.getElem?_map, hc0]; rfl)
  refine di rfl hp (v := .ref q) rfl ?_
  refine di rfl hp (v := .int i) rfl (.inl ⟨q, _, i, _, rfl, rfl, SqL.of hq, hat, ?_⟩)
  refine dset (j := 1) (te := (tOp rAddI (tDi K 1) (tC (.int 1)))) rfl hp (m := 1) (v := .int (i + 1)) rfl ?_ ?_
  · intro Q' k; exact di rfl hp (v := .int i) rfl ⟨i, 1, rfl, rfl, k⟩
  show tSeq _ _ _ [some (.ref p), some (.int n), some (.int c), none] (upd H p (.lst [.ref q, .int (i + 1), .int 0, .int s]))
  have last : ∀ b', 0 ≤ b' → (tSt 3 (tOp rModI (tCB rInt1 (tCons (tOp rAddI (tOp rAddI (tOp rMulI (tDi K 3) (tC (.int 48271))) (tVar 2)) (tC (.int 13))) tNil)) (tC (.int 2147483647))))
      { nx := fun σ H => tTail K { nx := fun _ H' => Q .non H', rt := Q } σ H, rt := Q } [some (.ref p), some (.int n), some (.int c), none] (upd H p (.lst [.ref q, .int (i + 1), .int b', .int s])) := fun b' hb' => by
    refine dset (j := 3) (te := (tOp rModI (tCB rInt1 (tCons (tOp rAddI (tOp rAddI (tOp rMulI (tDi K 3) (tC (.int 48271))) (tVar 2)) (tC (.int 13))) tNil)) (tC (.int 2147483647)))) rfl upd_same (m := 3) (v := .int ((s * 48271 + c + 13) % 2147483647)) rfl ?_ ?_
    · intro Q' k; exact di rfl upd_same (v := .int s) rfl ⟨s, 48271, rfl, rfl, .inl ⟨by omega, by omega⟩, .int c, rfl, _, c, rfl, rfl, _, 13, rfl, rfl, .inl ⟨_, rfl, _, _, rfl, rfl, (by decide : (0 : Int) < _), k⟩⟩
    rw [upd_upd]
    have e1 := Int.emod_nonneg (s * 48271 + c + 13) (show (2147483647 : Int) ≠ 0 by decide)
    have e2 := Int.emod_lt_of_pos (s * 48271 + c + 13) (show (0 : Int) < 2147483647 by decide)
    exact tail (i + 1) b' _ _ (by omega) (by omega) hb' e1 (by omega)
  refine ⟨.int c, rfl, 10, 18, rfl, rfl, ⟨by decide, by decide, by decide⟩, c, _, rfl, rfl, _, rfl, ite2 (fun hc => ?_) (fun _ => last 0 (Int.le_refl 0))⟩
  have hc' : (10 : Int) ^ (18 : Int).toNat ≤ c := of_decide_eq_true hc
  have c0 : 0 ≤ c := Int.le_trans (by decide) hc'
  refine dset (j := 2) (te := (tVar 2)) rfl upd_same (m := 2) (v := .int c) rfl ?_ ?_
  · intro Q' k; exact ⟨_, rfl, k⟩
  rw [upd_upd]
  exact last c c0
end
end PL

namespace PL
open PySem PySem.Spec PyProof.Rows L2 TL

def semDraw : Sem := fun as k => ∃ n : Int, as = [.dr, .val (.int n)] ∧ 0 < n ∧ n < 2 ^ 62 ∧ ∀ v : Int, 0 ≤ v → v < n → k (.val (.int v))
def spDraws (K : PySem.W.Frag) : Sp := fun vs H Q _ => ∃ (a : Addr) (ns : List Int), vs = [.ref a] ∧ SqL K H a (ns.map V.int) ∧ ns.length ≤ 63 ∧
  ∀ q p, H q = none → upd H q (.lst (ns.map V.int)) p = none → Q (.ref p) (upd (upd H q (.lst (ns.map V.int))) p (.lst [.ref q, .int 0, .int 0, .int 1]))
def spLaw (K : PySem.W.Frag) : Sp := fun vs H Q _ => ∃ (a : Addr) (ns : List Int), vs = [.ref a] ∧ SqL K H a (ns.map V.int) ∧ ns.length ≤ 63 ∧ ∀ H', Q (.bl true) H'
abbrev rListOf (K : PySem.W.Frag) : List V → Hp → VK → Prop := fun xs H Q => ∃ p ys, xs = [.ref p] ∧ (SqL K H p ys ∨ SqT K H p ys) ∧ ∀ l, H l = none → Q (.ref l) (upd H l (.lst ys))
abbrev tDraws (K : PySem.W.Frag) : TE := tLst (tCons (tCB (rListOf K) (tCons (tVar 0) tNil)) (tCons (tC (.int 0)) (tCons (tC (.int 0)) (tCons (tC (.int 1)) tNil))))
section
variable {P : Program} {w : World} {K : PySem.W.Frag} {mg : Str → Option Value} {base : Heap}
/-- what a def's body hands to its reading -/
abbrev BodyX (P : Program) (w : World) (K : PySem.W.Frag) (mg : Str → Option Value) (base : Heap) (N : List Str) (st : Stmt) (k : Nat) (Φ : Cx → Prop) : Prop :=
  ∀ X : Cx, X.prog = P → X.w = w → X.K = K → X.mg = mg → X.base = base → X.N = N → X.env.scope = defScope st → X.calm = true → X.fn = (fun _ => true) → Room k X.A → PassesOwn (model X.prog X.w) X.A X.env X.xe → Φ X
theorem draw_ok {x qual : Str} {st : Stmt} {f : Addr} {fd : FuncData} {N ps : List Str} {k : Nat} (F : Fun K x qual st f fd) (sc : FnScope N ps (defScope st)) (hN : N.length = 4) (hps : ps.length = 2)
    (hb : BodyX P w K mg base N st k fun X => PSs X (defBody st) (tDraw K)) : FnOk P w K mg base CX0 (k + 1) f fd ps (spP K semDraw) := by
  refine F.ok sc (fun vs H Q E h => ?_) (fun cdv A outer s H vs Q E hr h => ⟨_, hb _ rfl rfl rfl rfl rfl rfl rfl rfl rfl hr PassesOwn.never, ?_⟩)
  · obtain ⟨B, as, mu, q, e, ha, ⟨n, rfl, _⟩, _⟩ := h
    rw [ha.length, hps]; rfl
  · obtain ⟨B, as, mu, q, e, ha, ⟨n, rfl, hn, hn', hv⟩, kq⟩ := h
    generalize has : [Rv.dr, Rv.val (.int n)] = as at ha
    cases ha with
    | @all vs ds r =>
      cases ds with
      | nil => cases has
      | cons d ds => cases has
    | @dr p vs ds hd hB r =>
      cases ds with
      | nil => cases has
      | cons d ds =>
        cases ds with
        | cons d2 ds2 => cases has
        | nil =>
          cases has
          obtain ⟨v, rfl, hv2⟩ : ∃ v, vs = [v] ∧ Rp K B v (.int n) := by
            cases r with
            | cons h r => cases r; exact ⟨_, rfl, h⟩
          cases hv2
          have hst : L2.start N [V.ref p, V.int n] = [some (.ref p), some (.int n), none, none] := by
            unfold L2.start; rw [hN]; rfl
          rw [hst]
          obtain ⟨q', i, b, s', ns, h1, h2, h3, h4, h5, h6, h7, h8⟩ := hd
          refine draw_read h1 (e _ _ h2) h3 h4 h5 h6 h7 h8 hn hn' fun v i' b' s2 g1 g2 g3 g4 g5 g6 g7 => ?_
          refine kq (.val (.int v)) (.int v) _ B ?_ (.int v) (hv v g1 g2)
          refine ⟨fun a o ho => ?_, Ext.refl B, fun a o ho => .inl ho, fun a o ho hne => ?_, fun p' hp' => ?_⟩
          · rw [upd_ne (fun z => by subst z; rw [hB] at ho; cases ho)]; exact e _ _ ho
          · rw [upd_ne (fun z => by subst z; exact hne rfl)]; exact ho
          · cases hp'
            exact ⟨by rw [show (PC.mk H B (some p)).H0 p = H p from rfl, h1]; simp, ⟨q', i', b', s2, ns, upd_same, h2, h3, g3, g4, g5, g6, g7⟩, hB⟩
theorem draws_ok {x qual : Str} {st : Stmt} {f : Addr} {fd : FuncData} {N ps : List Str} {k : Nat} (F : Fun K x qual st f fd) (sc : FnScope N ps (defScope st)) (hN : N.length = 1) (hps : ps.length = 1)
    (hb : BodyX P w K mg base N st k fun X => PSs X (defBody st) (tSeq (tRet (tDraws K)) tNext)) : FnOk P w K mg base CX0 (k + 1) f fd ps (spDraws K) := by
  refine F.ok sc (fun vs H Q E h => ?_) (fun cdv A outer s H vs Q E hr h => ⟨_, hb _ rfl rfl rfl rfl rfl rfl rfl rfl rfl hr PassesOwn.never, ?_⟩)
  · obtain ⟨a, ns, rfl, _⟩ := h
    rw [hps]; rfl
  · obtain ⟨a, ns, rfl, hS, hl, kq⟩ := h
    have hst : L2.start N [V.ref a] = [some (.ref a)] := by unfold L2.start; rw [hN]; rfl
    rw [hst]
    exact ⟨.ref a, rfl, a, _, rfl, .inl hS, fun q hq => ⟨(by show 4 ≤ sizeLine; decide), fun p hp => kq q p hq hp⟩⟩
theorem law_ok {x qual : Str} {st : Stmt} {f : Addr} {fd : FuncData} {N ps : List Str} {k : Nat} {b : WS} (F : Fun K x qual st f fd) (sc : FnScope N ps (defScope st)) (hN : 2 ≤ N.length) (hps : ps.length = 1)
    (hb : BodyX P w K mg base N st k fun X => ∀ C, PSs X (defBody st) (tSeq (tAsg (tCall (spDraws K) [] E0 (tCons (tVar 0) tNil)) (gName 1)) (liftS K XW0 C b)))
    (hs : b (none :: some .dr :: List.replicate (N.length - 2) none) (endsOf fun r => r = .val (.bool true))) : FnOk P w K mg base CX0 (k + 1) f fd ps (spLaw K) := by
  refine F.ok sc (fun vs H Q E h => ?_) (fun cdv A outer s H vs Q E hr h => ⟨_, hb _ rfl rfl rfl rfl rfl rfl rfl rfl rfl hr PassesOwn.never ⟨H, fun _ => none, none⟩, ?_⟩)
  · obtain ⟨a, ns, rfl, _⟩ := h
    rw [hps]; rfl
  · obtain ⟨a, ns, rfl, hS, hl, kq⟩ := h
    have hst : L2.start N [V.ref a] = some (.ref a) :: List.replicate (N.length - 1) none := by unfold L2.start; rfl
    rw [hst]
    refine ⟨.ref a, rfl, a, ns, rfl, hS, hl, fun q p hq hp => ?_⟩
    have hpq : p ≠ q := fun z => by subst z; rw [upd_same] at hp; cases hp
    have hpH : H p = none := by rw [upd_ne hpq] at hp; exact hp
    obtain ⟨m, hm⟩ : ∃ m, N.length = m + 2 := ⟨N.length - 2, by omega⟩
    have e1 : (some (V.ref a) :: List.replicate (N.length - 1) (none : Option V)).set 1 (some (.ref p)) = some (.ref a) :: some (.ref p) :: List.replicate (N.length - 2) none := by
      rw [hm]; rfl
    show liftS K XW0 _ b _ ((some (V.ref a) :: List.replicate (N.length - 1) (none : Option V)).set 1 (some (.ref p))) _
    rw [e1]
    refine ⟨fun z => if z = q then some (.lst (ns.map V.int)) else none, _, _, ?_, hs, fun σ e env B H A h => h, fun env' σ' H' B' x A h => ?_, fun r env' v σ' H' B' x A R h => ?_, fun _ _ _ _ _ _ h => h.elim, fun _ _ _ _ _ _ h => h.elim⟩
    · have bq : (fun z => if z = q then some (HO.lst (ns.map V.int)) else none) q = some (.lst (ns.map V.int)) := if_pos rfl
      have bn : ∀ z, z ≠ q → (fun z => if z = q then some (HO.lst (ns.map V.int)) else none) z = none := fun z h => if_neg h
      refine ⟨⟨fun z o ho => ?_, fun z o ho => (by cases ho), fun z o ho => .inr ?_, fun z o ho _ => ?_, fun p h => (by cases h)⟩, ?_, fun i r hi => ?_, fun i j p' hi hj => ?_⟩
      · by_cases hz : z = q
        · subst hz; rw [if_pos rfl] at ho; cases ho
          rw [upd_ne hpq.symm, upd_same]
        · rw [if_neg hz] at ho; cases ho
      · by_cases hz : z = q
        · subst hz; exact hq
        · rw [if_neg hz] at ho; cases ho
      · rw [upd_ne (fun e => by subst e; rw [show (PC.mk H (fun _ => none) none).H0 z = H z from rfl, hpH] at ho; cases ho), upd_ne (fun e => by subst e; rw [show (PC.mk H (fun _ => none) none).H0 z = H z from rfl, hq] at ho; cases ho)]
        exact ho
      · simp
      · match i with
        | 0 => cases hi
        | 1 =>
          cases hi
          exact ⟨p, rfl, ⟨q, 0, 0, 1, ns, upd_same, bq, hl, by decide, by decide, by decide, by decide, by decide⟩, bn p hpq, .inr hpH⟩
        | i + 2 =>
          rw [List.getElem?_cons_succ, List.getElem?_cons_succ, List.getElem?_replicate] at hi
          split at hi <;> cases hi
      · have one : ∀ i, OwnAt (none :: some Rv.dr :: List.replicate (N.length - 2) none) (some (V.ref a) :: some (.ref p) :: List.replicate (N.length - 2) none) i p' → i = 1 := fun i hi => by
          obtain ⟨r, e1, o1, _⟩ := hi
          match i with
          | 0 => cases e1
          | 1 => rfl
          | i + 2 =>
            rw [List.getElem?_cons_succ, List.getElem?_cons_succ, List.getElem?_replicate] at e1
            split at e1 <;> cases e1
        rw [one i hi, one j hj]
    · obtain h := h
      cases h
    · obtain ⟨hg, h⟩ := h
      subst h
      cases R
      exact kq _
end
end PL

namespace PL
open PySem PySem.Spec PyProof.Rows L2 TL
/-- {key: value}, both constants -/
def wDct1 (key d : PyData) : WE := fun env _ k => k (.own (.dict [(key, d)])) env
theorem pp_dct1 {X : Cx} {xw : XW} {pos : Pos} {ke ve : Expr} (key : Key) {v : V} {d : PyData} (hk : PE X ke (tC (kV key))) (hv : PE X ve (tC v)) (r : ∀ B, Rp X.K B v d) : PPE X xw (.Dict [some ke] [ve] pos) (wDct1 (kD key) d) := fun C =>
  pe_imp (pe_disp (pps_cons hk hv pps_nil) rfl rfl (by simp) (by show 1 ≤ 15; decide)) fun σ H Q ⟨B, env, ex, k, A, hk, xo, kq⟩ => by
    intro p hp
    refine ⟨upd_same, [(key, v)], rfl, (by show 1 ≤ 15; decide), ?_⟩
    rw [upd_upd]
    obtain ⟨B3, r3, x3, A3, R3, q3⟩ := Out.abs (k := fun r => k r env) (v := .ref p) (H' := upd H p (.dK (mergeK [] [(key, v)]))) A (.inr (.inl ⟨p, _, .dict [(kD key, d)], rfl, hp, rfl, .inl ⟨[(key, v)], upd_same, .cons (r B) .nil⟩, hk⟩))
    exact kq r3 env _ _ B3 x3 A3 R3 q3
theorem hu65_of {A : Around} {k : Nat} (hr : Room k A) : A.units + 65 < cLine := by have := hr.un; omega
/-- a constant of the module -/
theorem pp_gl {X : Cx} {xw : XW} {pos : Pos} {x : Str} {v : V} {u : Value} {d : PyData} (hg : Gl X x) (hm : X.mg x = some u) (r : RelV v u) (rp : ∀ B, Rp X.K B v d) (hd : (x == ("__debug__" : Str)) = false := by decide) : PPE X xw (.Name x pos) (wC d) := pp_c (pe_glob hg hm r hd) rp
end PL

namespace PL
open PySem PySem.Spec PyProof.Rows L2 TL
/-! ### loops, in plain lists -/
theorem for_inv {g : WG} {b : WS} {E : EndsP} (I : List PyData → EnvP → Prop) (h0 : ∀ env, I [] env → E.nx env)
    (hs : ∀ d ds env, I (d :: ds) env → ∀ nx : EnvP → Prop, (∀ e, I ds e → nx e) → g d env fun e1 => b e1 { E with nx := nx, ct := nx, bk := E.nx }) : ∀ ds env, I ds env → forW g b E ds env
  | [], env, h => h0 env h
  | d :: ds, env, h => hs d ds env h _ fun e he => for_inv I h0 hs ds e he
theorem for_map {α : Type} {g : WG} {b : WS} {E : EndsP} (f : α → PyData) (I : List α → EnvP → Prop) (h0 : ∀ env, I [] env → E.nx env)
    (hs : ∀ x xs env, I (x :: xs) env → ∀ nx : EnvP → Prop, (∀ e, I xs e → nx e) → g (f x) env fun e1 => b e1 { E with nx := nx, ct := nx, bk := E.nx }) : ∀ (xs : List α) env, I xs env → forW g b E (xs.map f) env
  | [], env, h => h0 env h
  | x :: xs, env, h => hs x xs env h _ fun e he => for_map f I h0 hs xs e he
theorem rangeD_succ (lo : Int) (n : Nat) : rangeD lo (n + 1) = .int lo :: rangeD (lo + 1) n := by
  unfold rangeD
  rw [List.range_succ_eq_map, List.map_cons, List.map_map]
  congr 1
  · simp
  · apply List.map_congr_left; intro i _
    show PyData.int (lo + ((i + 1 : Nat) : Int)) = .int (lo + 1 + (i : Int))
    congr 1; omega
theorem for_range {g : WG} {b : WS} {E : EndsP} (I : Nat → EnvP → Prop) (h0 : ∀ i env, I i env → ∀ n, i = n → E.nx env) : True := trivial
theorem for_rng {g : WG} {b : WS} {E : EndsP} {lo : Int} {n : Nat} (I : Nat → EnvP → Prop) (h0 : ∀ env, I n env → E.nx env)
    (hs : ∀ i env, i < n → I i env → ∀ nx : EnvP → Prop, (∀ e, I (i + 1) e → nx e) → g (.int (lo + (i : Nat))) env fun e1 => b e1 { E with nx := nx, ct := nx, bk := E.nx }) (env : EnvP) (h : I 0 env) : forW g b E (rangeD lo n) env := by
  have key : ∀ m i env, i + m = n → I i env → forW g b E (rangeD (lo + (i : Nat)) m) env := by
    intro m
    induction m with
    | zero => intro i env e h; rw [Nat.add_zero] at e; subst e; exact h0 env h
    | succ m ih =>
      intro i env e h
      rw [rangeD_succ]
      refine hs i env (by omega) h _ fun e2 he => ?_
      have := ih (i + 1) e2 (by omega) he
      rw [show lo + ((i + 1 : Nat) : Int) = lo + (i : Nat) + 1 by omega] at this
      exact this
  have := key n 0 env (by omega) h
  rw [show lo + ((0 : Nat) : Int) = lo by omega] at this
  exact this
/-- a comprehension -/
theorem lc_pure {α : Type} {g : WG} {t : WT} {f : WE} {vs : List Nat} {k : List PyData → EnvP → Prop} (h : α → PyData) (p : α → Bool) (y : α → PyData) (I : EnvP → Prop)
    (hs : ∀ x env, I env → ∀ (c : Prop) (nY : PyData → EnvP → Prop) (nN : EnvP → Prop), c → (p x = true → ∀ e, I e → nY (y x) e) → (p x = false → ∀ e, I e → nN e) →
      g (h x) env fun e1 => t e1 (fun _ _ => False) fun b e2 => if b = true then f e2 (fun _ _ => False) fun r e3 => r.vv fun z => c ∧ nY z (wipeP e3 vs) else nN (wipeP e2 vs)) :
    ∀ (xs : List α) (acc : List PyData) env, acc.length + xs.length ≤ sizeLine → I env → (∀ e, I e → k (acc ++ (xs.filter p).map y) e) → lcW g t f vs k (xs.map h) acc env
  | [], acc, env, _, i, q => by
    have := q env i
    rw [List.filter_nil, List.map_nil, List.append_nil] at this
    exact this
  | x :: xs, acc, env, hl, i, q => by
    rw [List.length_cons] at hl
    refine hs x env i _ _ _ (by omega) (fun hp e ie => ?_) (fun hp e ie => ?_)
    · refine lc_pure h p y I hs xs (acc ++ [y x]) e (by rw [List.length_append]; show acc.length + 1 + _ ≤ _; omega) ie fun e ie => ?_
      have := q e ie
      rw [List.filter_cons_of_pos hp, List.map_cons] at this
      rw [List.append_assoc]; exact this
    · refine lc_pure h p y I hs xs acc e (by omega) ie fun e ie => ?_
      have := q e ie
      rw [List.filter_cons_of_neg (by rw [hp]; decide)] at this
      exact this
/-! ### texts and data -/
theorem S_cps (l : List Nat) : (S l).cps.toList = l := rfl
theorem items_S (l : List Nat) : itemsOf (.str (S l)) = some (l.map fun c => .str (S [c])) := rfl
theorem eqv_int (i j : Int) : PyData.eqv (.int i) (.int j) = (i == j) := rfl
theorem eqv_str (l m : List Nat) : PyData.eqv (.str (S l)) (.str (S m)) = (l == m) := S_beq l m
end PL
namespace PL
open PySem PySem.Spec PyProof.Rows L2 TL
def isI : PyData → Bool
  | .int _ => true | .bool _ => true
  | _ => false
def isB : PyData → Bool
  | .bool _ => true
  | _ => false
def isSt : PyData → Bool
  | .str _ => true
  | _ => false
def isTu : PyData → Bool
  | .tuple _ => true
  | _ => false
def isLi : PyData → Bool
  | .list _ => true
  | _ => false
theorem isTy_int (d : PyData) : isTy "int" d = isI d := by cases d <;> rfl
theorem isTy_bool (d : PyData) : isTy "bool" d = isB d := by cases d <;> rfl
theorem isTy_str (d : PyData) : isTy "str" d = isSt d := by cases d <;> rfl
theorem isTy_tuple (d : PyData) : isTy "tuple" d = isTu d := by cases d <;> rfl
theorem isTy_list (d : PyData) : isTy "list" d = isLi d := by cases d <;> rfl
end PL
namespace PL
open PySem PySem.Spec PyProof.Rows L2 TL
/-- a text as data -/
abbrev sD (p : List Nat) : PyData := .str (S p)
theorem txts_mapS : ∀ ps : List (List Nat), txts (ps.map sD) = some (ps.map S)
  | [] => rfl
  | p :: r => by show (txts (r.map sD)).map (S p :: ·) = _; rw [txts_mapS r]; rfl
theorem cps_map (ps : List (List Nat)) : (ps.map S).map (fun z => z.cps.toList) = ps := by
  rw [List.map_map]; exact (List.map_congr_left fun _ _ => rfl).trans (List.map_id _)
theorem sum_S_le : ∀ (ps : List (List Nat)) (n : Nat), (∀ p ∈ ps, p.length ≤ n) → ((ps.map S).map (fun z => z.length)).sum ≤ ps.length * n
  | [], n, _ => by simp
  | p :: r, n, h => by
    have ih := sum_S_le r n fun q hq => h q (List.mem_cons_of_mem _ hq)
    have hp := h p (List.mem_cons_self ..)
    rw [List.map_cons, List.map_cons, List.sum_cons, S_len, List.length_cons, Nat.succ_mul]
    omega
theorem join_S {ps : List (List Nat)} {n : Nat} {k : Rv → Prop} (h : ∀ p ∈ ps, p.length ≤ n) (hn : ps.length * n ≤ 16777216) (q : k (.val (.str (S ps.flatten)))) : opJoin (.str (S [])) [.list (ps.map sD)] k :=
  ⟨ps.map S, rfl, txts_mapS ps, Nat.le_trans (sum_S_le ps n h) hn, by rw [cps_map]; exact q⟩
theorem atI_ok {α : Type} {xs : List α} {i : Int} {x : α} (h0 : 0 ≤ i) (h : xs[i.toNat]? = some x) : atI xs i = some x := by
  have e : (i.toNat : Int) = i := Int.toNat_of_nonneg h0
  rw [← e]; exact atI_nat h
theorem small {n : Nat} (m : Nat) (h : n ≤ m) (hm : m < sizeLine := by decide) : n ≤ sizeLine := Nat.le_trans h (Nat.le_of_lt hm)
theorem small' {n : Nat} (m : Nat) (h : n ≤ m) (hm : m < sizeLine := by decide) : n < sizeLine := Nat.lt_of_le_of_lt h hm
end PL
namespace PL
open PySem PySem.Spec PyProof.Rows L2 TL
theorem cutL_to {α : Type} (xs : List α) {h : Int} (h0 : 0 ≤ h) : cutL xs none (some h) = xs.take h.toNat := by
  unfold cutL
  have e : (h.toNat : Int) = h := Int.toNat_of_nonneg h0
  rw [HT.sIx_none, ← e, HT.sIx_nat, e, List.drop_zero, Nat.sub_zero]
  rw [show min h.toNat xs.length = min h.toNat xs.length from rfl, List.take_eq_take_iff]; omega
theorem cutL_from {α : Type} (xs : List α) {h : Int} (h0 : 0 ≤ h) : cutL xs (some h) none = xs.drop h.toNat := by
  unfold cutL
  have e : (h.toNat : Int) = h := Int.toNat_of_nonneg h0
  rw [HT.sIx_none, ← e, HT.sIx_nat, e]
  by_cases hc : h.toNat ≤ xs.length
  · rw [Nat.min_eq_left hc, List.take_of_length_le (by rw [List.length_drop]; omega)]
  · rw [List.drop_eq_nil_of_le (by omega : xs.length ≤ h.toNat), List.drop_eq_nil_of_le (by omega), List.take_nil]
theorem cutL_mid {α : Type} (xs : List α) {a b : Int} (h0 : 0 ≤ a) (h1 : 0 ≤ b) : cutL xs (some a) (some b) = (xs.drop a.toNat).take (b.toNat - a.toNat) := by
  unfold cutL
  have e : (a.toNat : Int) = a := Int.toNat_of_nonneg h0
  have e' : (b.toNat : Int) = b := Int.toNat_of_nonneg h1
  rw [← e, ← e', HT.sIx_nat, HT.sIx_nat, e, e']
  by_cases hc : a.toNat ≤ xs.length
  · rw [Nat.min_eq_left hc, List.take_eq_take_iff, List.length_drop]; omega
  · rw [List.drop_eq_nil_of_le (by omega : xs.length ≤ a.toNat), List.drop_eq_nil_of_le (by omega), List.take_nil, List.take_nil]
theorem mem_cutL {α : Type} {xs : List α} {lo hi : Option Int} {x : α} (h : x ∈ cutL xs lo hi) : x ∈ xs := List.mem_of_mem_drop (List.mem_of_mem_take h)
end PL
namespace PL
theorem seq_mid {f g : WS} {env : EnvP} {E : EndsP} (M : EnvP → Prop) (h1 : ∀ nx : EnvP → Prop, (∀ e, M e → nx e) → f env { E with nx := nx }) (h2 : ∀ e, M e → g e E) : wSeq f g env E := h1 _ h2
end PL
namespace PL
open PySem PySem.Spec PyProof.Rows L2 TL
/-- laid and not deeper than n -/
def Sh (n : Nat) (d : PyData) : Prop := PyData.canLay0 d = true ∧ PyData.depth d ≤ n
def ShA (n : Nat) (ds : List PyData) : Prop := PyData.canLayAll0 ds = true ∧ PyData.depthAll ds ≤ n
theorem Sh.ok {n : Nat} {d : PyData} (h : Sh n d) (hn : n ≤ 64 := by decide) : SeqAt.shaped d = true := by
  unfold SeqAt.shaped
  rw [h.1, decide_eq_true (Nat.le_trans h.2 hn)]; rfl
theorem ShA.of {n : Nat} : ∀ {ds : List PyData}, (∀ d ∈ ds, Sh n d) → ShA n ds
  | [], _ => ⟨by simp [PyData.canLayAll0], by simp [PyData.depthAll]⟩
  | d :: ds, h => by
    have h1 := h d (List.mem_cons_self ..)
    have h2 := ShA.of (n := n) (ds := ds) fun x hx => h x (List.mem_cons_of_mem _ hx)
    refine ⟨by simp only [PyData.canLayAll0, h1.1, h2.1, Bool.and_self], ?_⟩
    simp only [PyData.depthAll]
    exact Nat.max_le.mpr ⟨h1.2, h2.2⟩
theorem Sh.list {n : Nat} {ds : List PyData} (h : ∀ d ∈ ds, Sh n d) : Sh (n + 1) (.list ds) := by
  have := ShA.of h
  exact ⟨by simp only [PyData.canLay0]; exact this.1, by simp only [PyData.depth]; have := this.2; omega⟩
theorem Sh.tuple {n : Nat} {ds : List PyData} (h : ∀ d ∈ ds, Sh n d) : Sh (n + 1) (.tuple ds) := by
  have := ShA.of h
  exact ⟨by simp only [PyData.canLay0]; exact this.1, by simp only [PyData.depth]; have := this.2; omega⟩
theorem Sh.int (i : Int) (n : Nat) : Sh n (.int i) := ⟨by simp [PyData.canLay0], by simp [PyData.depth]⟩
theorem Sh.bool (i : Bool) (n : Nat) : Sh n (.bool i) := ⟨by simp [PyData.canLay0], by simp [PyData.depth]⟩
theorem Sh.none (n : Nat) : Sh n .none := ⟨by simp [PyData.canLay0], by simp [PyData.depth]⟩
theorem strOk_S {l : List Nat} (h : ∀ c ∈ l, c < 1114112) : PyData.strOk (S l) = true := by
  unfold PyData.strOk S
  simpa using h
theorem Sh.str {l : List Nat} (n : Nat) (h : ∀ c ∈ l, c < 1114112) : Sh n (.str (S l)) := ⟨by simp only [PyData.canLay0]; exact strOk_S h, by simp [PyData.depth]⟩
theorem any_sD : ∀ (ps : List (List Nat)) (w : List Nat), ((ps.map sD).any fun z => PyData.eqv z (sD w)) = decide (w ∈ ps)
  | [], w => rfl
  | p :: r, w => by
    rw [List.map_cons, List.any_cons, any_sD r w, eqv_str]
    by_cases e : p = w
    · subst e; simp
    · have e1 : (p == w) = false := by simpa using e
      rw [e1, Bool.false_or]; simp [Ne.symm e]
theorem findIdx_sD : ∀ (ps : List (List Nat)) (w : List Nat), w ∈ ps → (ps.map sD).findIdx? (fun z => PyData.eqv z (sD w)) = some (ps.idxOf w)
  | [], w, h => by cases h
  | p :: r, w, h => by
    rw [List.map_cons, List.findIdx?_cons, eqv_str, List.idxOf_cons]
    by_cases e : p = w
    · subst e; simp
    · have e1 : (p == w) = false := by simpa using e
      rw [e1]
      have hr : w ∈ r := (List.mem_cons.mp h).resolve_left (Ne.symm e)
      rw [findIdx_sD r w hr]; rfl
end PL
namespace PL
open PySem PySem.Spec PyProof.Rows L2 TL
theorem eqvAll_refl : ∀ {ds : List PyData}, (∀ d ∈ ds, PyData.eqv d d = true) → PyData.eqvAll ds ds = true
  | [], _ => rfl
  | d :: ds, h => by
    show (PyData.eqv d d && PyData.eqvAll ds ds) = true
    rw [h d (List.mem_cons_self ..), eqvAll_refl fun x hx => h x (List.mem_cons_of_mem _ hx)]; rfl
theorem eqv_self_tup {ds : List PyData} (h : ∀ d ∈ ds, PyData.eqv d d = true) : PyData.eqv (.tuple ds) (.tuple ds) = true := eqvAll_refl h
theorem eqv_self_lst {ds : List PyData} (h : ∀ d ∈ ds, PyData.eqv d d = true) : PyData.eqv (.list ds) (.list ds) = true := eqvAll_refl h
theorem eqv_self_int (i : Int) : PyData.eqv (.int i) (.int i) = true := by rw [eqv_int]; simp
theorem eqv_self_str (l : List Nat) : PyData.eqv (.str (S l)) (.str (S l)) = true := by rw [eqv_str]; simp
theorem bools_mapF {α : Type} (f : α → Bool) : ∀ xs : List α, bools (xs.map fun x => .bool (f x)) = some (xs.map f)
  | [] => rfl
  | x :: r => by
    show (bools (r.map fun x => .bool (f x))).map (f x :: ·) = _
    rw [bools_mapF f r]; rfl
end PL

namespace PL
open PySem PySem.Spec PyProof.Rows L2 TL
/-! ### exceptions of the program's own classes -/
abbrev Tb := Str → Option Addr
def ExcOk (tb : Tb) (e : Exn) (cls : Value) (d : Option Addr) (H : Hp) : Prop :=
  ∃ Ca, tb e.1 = some Ca ∧ cls = .ref Ca ∧ ((e.2 = [] ∧ d = none) ∨ ∃ (dd : Addr) (l : List Nat), e.2 = [(("word" : Str), PyData.str (S l))] ∧ d = some dd ∧ H dd = some (.xd [("word", .str (S l))]))
/-- the wish of a context's outer air -/
def wx (tb : Tb) (xw : XW) : WX := fun cls d σ H => ∃ e B, ExcOk tb e cls d H ∧ xw e B σ H
abbrev TakesP (tb : Tb) (X : Cx) (xw : XW) : Prop := Takes X (wx tb xw)
abbrev SemX := List Rv → (Rv → Prop) → (Exn → Prop) → Prop
def spPX (tb : Tb) (K : PySem.W.Frag) (sem : SemX) : Sp := fun vs H Q E => ∃ B as mu k kx, Ext B H ∧ ArgsOk K B H vs as mu ∧ sem as k kx ∧
  (∀ r v H' B', Fr ⟨H, B, mu⟩ B' H' → RetOk K ⟨H, B, mu⟩ B' H' v r → k r → Q v H') ∧ (∀ e cls d H' B', Fr ⟨H, B, mu⟩ B' H' → ExcOk tb e cls d H' → kx e → E cls d H')
def endsX (k : Rv → Prop) (kx : Exn → Prop) : EndsP := { nx := fun _ => k (.val .none), rt := fun r _ => r.good ∧ k r, bk := fun _ => False, ct := fun _ => False, ex := fun e _ => kx e }
section
variable {P : Program} {w : World} {K : PySem.W.Frag} {mg : Str → Option Value} {base : Heap}
/-- A DEF that may raise -/
theorem def_okX {tb : Tb} {x qual : Str} {st : Stmt} {f : Addr} {fd : FuncData} {N ps : List Str} {k : Nat} {sem : SemX} {b : WS} (F : Fun K x qual st f fd) (sc : FnScope N ps (defScope st)) (len : ∀ as q qx, sem as q qx → as.length = ps.length)
    (hb : ∀ X : Cx, X.prog = P → X.w = w → X.K = K → X.mg = mg → X.base = base → X.N = N → X.env.scope = defScope st → X.calm = true → X.fn = (fun _ => true) → Room k X.A → PassesOwn (model X.prog X.w) X.A X.env X.xe → ∀ xw, TakesP tb X xw → PPSs X xw (defBody st) b)
    (hs : ∀ as q qx, sem as q qx → b (envOf N as) (endsX q qx)) : FnOk P w K mg base (L2.CX P w) (k + 1) f fd ps (spPX tb K sem) := by
  refine F.okX sc (fun vs H Q E h => ?_) (fun cdv A outer s H vs Q E hr h => ?_)
  · obtain ⟨B, as, mu, q, qx, e, ha, hq, _⟩ := h
    rw [ha.length]; exact len as q qx hq
  · obtain ⟨B, as, mu, q, qx, e, ha, hq, kq, kx⟩ := h
    let xw : XW := fun e B' σ H' => Fr ⟨H, B, mu⟩ B' H' ∧ qx e
    have tk : TakesP tb (cxOf (L2.CX P w) P w K mg base N qual (defScope st) f cdv A outer s H E) xw :=
      Takes.imp (takes_of rfl rfl rfl rfl) fun cls d σ H' ⟨e, B', x, fr, hx⟩ => kx e cls d H' B' fr x hx
    refine ⟨liftS K xw ⟨H, B, mu⟩ b, hb _ rfl rfl rfl rfl rfl rfl rfl rfl rfl hr (passes_of rfl) xw tk ⟨H, B, mu⟩, ?_⟩
    refine ⟨B, envOf N as, endsX q qx, abs_start e ha, hs as q qx hq, fun σ e env B H A h => ⟨A.fr, h⟩, fun env' σ' H' B' x A h => ?_, fun r env' v σ' H' B' x A R h => ?_, fun _ _ _ _ _ _ h => h.elim, fun _ _ _ _ _ _ h => h.elim⟩
    · exact kq (.val .none) .non H' B' A.fr .non h
    · obtain ⟨hg, h⟩ := h
      refine kq r v H' B' A.fr ?_ h
      cases r with
      | val d => exact R
      | own d => obtain ⟨p, h1, h2, h3, h4, _⟩ := R; exact ⟨p, h1, h2, h3, h4⟩
      | ndr => obtain ⟨p, h1, h2, h3, h4, _⟩ := R; exact ⟨p, h1, h2, h3, h4⟩
      | dr => exact hg.elim
      | drv i => exact hg.elim
end
/-- a call that may raise -/
def wCallX (sem : SemX) (f : WA) : WE := fun env ex k => f env ex fun rs e => argsOf rs e fun as => sem as (fun r => k r e) fun x => ex x e
section
variable {X : Cx} {xw : XW} {pos : Pos}
theorem wCallX_imp {tb : Tb} {C : PC} {sem : SemX} {f : WA} : ∀ σ H Q, lift X.K xw C (wCallX sem f) σ H Q → tCallS (spPX tb X.K sem) (L2.WE (wx tb xw)) (liftA X.K xw C f) σ H Q := fun σ H Q ⟨B, env, ex, k, A, hk, xo, kq⟩ => by
  refine ⟨B, env, ex, _, A, hk, xo, fun rs e1 vs H1 B1 x1 A1 R1 h1 => ?_⟩
  obtain ⟨as, mu, ha, hs, hm⟩ := R1.args A1 h1
  exact ⟨B1, as, mu, _, _, A1.fr.sub, ha, hs, fun r v H2 B2 F2 R2 k2 => kq r e1 v H2 B2 (x1.trans F2.b0) (A1.called hm F2) (R2.rv A1) k2,
    fun e cls d H2 B2 F2 E2 k2 => ⟨e, B2, E2, xo e e1 B2 H2 (A1.called hm F2) k2⟩⟩
theorem pp_callX {tb : Tb} {f : Addr} {fd : FuncData} {ps : List Str} {k : Nat} {sem : SemX} {x : Str} {p : Pos} {e : Expr} {es : List Expr} {fa : WA} (tk : TakesP tb X xw) (F : FnOk X.prog X.w X.K X.mg X.base (L2.CX X.prog X.w) k f fd ps (spPX tb X.K sem)) (hr : Room k X.A) (hg : Gl X x) (hm : X.mg x = some (.ref f)) (hk : PySem.W.keepIn X.K (.ref f) = true) (hb : Binds X.K fd ps [])
    (ha : PPA X xw (e :: es) fa) (hdb : (x == ("__debug__" : Str)) = false := by decide) (he : starEach (e :: es) X.env = (false, eval e X.env) :: starEach es X.env := by rfl) (hpl : (backTo pos (starEach es X.env)).any (·.1) = false := by rfl) :
    PPE X xw (.Call (.Name x p) (e :: es) [] pos) (wCallX sem fa) := fun C => pe_imp (pe_callS F hr hg hm hk hb (fun σ => passAt tk σ) (ha C) hdb he hpl) wCallX_imp
end
/-! ### the class with a word -/
def spInit (K : PySem.W.Frag) : Sp := fun vs H Q _ => ∃ (a C : Addr) (w : Str), vs = [.ref a, .str w] ∧ OexC K C ∧ PySem.W.findIn K (.ref C) "word" = some none ∧ H a = some (exo a C none) ∧
  ∀ dx, H dx = none → dx ≠ a → Q .non (upd (upd H dx (exd dx [("word", .str w)])) a (exo a C (some dx)))
section
variable {X : Cx} {xw : XW} {pos : Pos}
/-- W.__init__(self, ..), W an own class over ValueError without an own __init__ -/
theorem pe_ownInit {CW : Addr} {x : Str} {e : Expr} {es : List Expr} {ta : TA} {p1 p2 : Pos} {pl : _root_.PySem.Sem Bool} (hg : Gl X x) (hm : X.mg x = some (.ref CW))
    (hgc : PySem.W.specialIn X.K (.ref CW) "__getattribute__" = some (some (.builtin "type.__getattribute__"))) (hrd : PySem.W.readsIn X.K CW (.type "type") = true)
    (vV : PySem.W.findCls X.K (.ref CW) (.type "type") "__init__" = some (.val (.builtin "ValueError.__init__"))) (ha : PA X (e :: es) ta) (hdb : (x == ("__debug__" : Str)) = false := by decide)
    (hc : eval (.Call (.Attribute (.Name x p1) "__init__" p2) (e :: es) [] pos) X.env = (do
      let ov ← eval (.Name x p1) X.env
      standAt p2.atName
      let (f, first) ← holding [ov] (getMethod ov "__init__" pl)
      callWith pos f first (backTo pos (starEach (e :: es) X.env)) (backToKw pos (keywordEach [] X.env))) := by rfl)
    (he : starEach (e :: es) X.env = (false, eval e X.env) :: starEach es X.env := by rfl) (hpl : (backTo pos (starEach es X.env)).any (·.1) = false := by rfl) :
    PE X (.Call (.Attribute (.Name x p1) "__init__" p2) (e :: es) [] pos) (tVeI X.K ta) := by
  refine ⟨fun pins s σ H Q I h => ?_⟩
  refine PySem.W.methodCall_KW (ld_glob I hg hm ?_ hdb) hc
  refine PySem.W.method_cls I.kIn hgc (PySem.W.cls_value I.kIn hrd vV (by decide +kernel) ?_)
  show wpAny _ _ (callWith pos (Value.builtin "ValueError.__init__") [] (backTo pos (starEach (e :: es) X.env)) []) _ _ _
  refine PyProof.Rows.callWith_method1 (thn (ha.run pos pins _ σ H _ (I.tok _) h) fun us s1 ⟨vs, H1, I1, r1, a, C, ws, ev, hl, T, ea, q⟩ => ?_) he hpl
  subst ev
  cases r1 with
  | @cons _ u0 _ ur ra rw' =>
    obtain rfl : u0 = Value.ref a := ra
    have hlen : ur.length ≤ sizeLine := by
      rw [← Paired.length rw', sizeLine_eq]
      omega
    exact oinit_ok T I1 ea hlen fun s' J => ⟨.non, H1, J, rfl, q⟩
/-- raise X(e), X with a word -/
def wRaiseW (x : Str) (f : WE) : WS := fun env E => f env E.ex fun r e => match r with
  | .val (.str s) => E.ex (x, [("word", .str s)]) e
  | _ => False
theorem s_raiseW {tb : Tb} {C0 fI : Addr} {x : Str} {k : Nat} {fd : FuncData} {a : Expr} {f : WE} {p pos1 : Pos} (tk : TakesP tb X xw) (ht : tb x = some C0) (T : OexC X.K C0) (nw : PySem.W.findIn X.K (.ref C0) "word" = some none)
    (iC : PySem.W.findIn X.K (.ref C0) "__init__" = some (some (.ref fI))) (tI : PySem.W.typeIn X.K (.ref fI) = some (.type "function")) (F1 : FnOk X.prog X.w X.K X.mg X.base CX0 k fI fd ["self", "word"] (spInit X.K)) (hr : Room (k + 1) X.A) (hb : Binds X.K fd ["self", "word"] [])
    (hc : X.calm = true) (hg : Gl X x) (hm : X.mg x = some (.ref C0)) (ha : PPE X xw a f) (hdb : (x == ("__debug__" : Str)) = false := by decide) (he : starEach (a :: []) X.env = (false, eval a X.env) :: starEach [] X.env := by rfl) (hpl : (backTo pos1 (starEach [] X.env)).any (·.1) = false := by rfl) :
    PPS X xw (.Raise (some (.Call (.Name x p) [a] [] pos1)) none pos) (wRaiseW x f) := fun C =>
  ps_imp (ps_raise hc tk (pmk_oex T iC tI F1 hr hb .nil pass0 hg hm (pa_cons (ha C) pa_nil he) hdb he hpl)) fun D σ H ⟨B, env, E, A, h, xo, k1, k2, k3, k4⟩ => by
    refine ⟨B, env, E.ex, _, A, h, xo σ, fun r e1 v H1 B1 x1 A1 R1 h1 => ⟨by show 1 ≤ 1000; decide, fun ad had => ?_⟩⟩
    cases r with
    | val d =>
      cases d with
      | str s =>
        cases R1
        refine ⟨ad, C0, s, rfl, T, nw, upd_same, fun dx hdx hne => ⟨rfl, dx, [(("word" : Str), V.str s)], upd_same, ?_, ?_, ?_⟩⟩
        · rw [upd_ne hne]; exact upd_same
        · rw [upd_ne hne] at hdx; exact hdx
        · have hdx' : H1 dx = none := by rw [upd_ne hne] at hdx; exact hdx
          have eq : upd (del (upd (upd (upd H1 ad (exo ad C0 none)) dx (exd dx [("word", .str s)])) ad (exo ad C0 (some dx))) ad) dx (.xd [("word", .str s)]) = upd H1 dx (.xd [("word", .str s)]) := by
            funext z
            by_cases hz : z = dx
            · subst hz; rw [upd_same, upd_same]
            · rw [upd_ne hz, upd_ne hz]
              by_cases hz2 : z = ad
              · subst hz2; rw [del_same, had]
              · rw [del_ne hz2, upd_ne hz2, upd_ne hz, upd_ne hz2]
          rw [eq]
          obtain ⟨l, rfl⟩ : ∃ l, s = S l := ⟨s.cps.toList, (S_tl s).symm⟩
          exact ⟨(x, [("word", .str (S l))]), B1, ⟨C0, ht, rfl, .inr ⟨dx, l, rfl, rfl, upd_same⟩⟩, xo σ _ e1 B1 _ (A1.more hdx') h1⟩
      | _ => exact h1.elim
    | _ => exact h1.elim
end
end PL

namespace PL
open PySem PySem.Spec PyProof.Rows L2 TL
section
variable {P : Program} {w : World} {K : PySem.W.Frag} {mg : Str → Option Value} {base : Heap}
theorem init_ok {x qual : Str} {st : Stmt} {f : Addr} {fd : FuncData} {k : Nat} (F : Fun K x qual st f fd) (sc : FnScope ["self", "word"] ["self", "word"] (defScope st))
    (hb : BodyX P w K mg base ["self", "word"] st k fun X => PSs X (defBody st) (tSeq (tDrop (tVeI K (tCons (tVar 0) (tCons (tVar 1) tNil)))) (tOst K "word" (tVar 0) (tVar 1)))) : FnOk P w K mg base CX0 (k + 1) f fd ["self", "word"] (spInit K) := by
  refine F.ok sc (fun vs H Q E h => ?_) (fun cdv A outer s H vs Q E hr h => ⟨_, hb _ rfl rfl rfl rfl rfl rfl rfl rfl rfl hr PassesOwn.never, ?_⟩)
  · obtain ⟨a, C, u, rfl, _⟩ := h
    rfl
  · obtain ⟨a, C, u, rfl, T, nw, ha, kq⟩ := h
    refine ⟨.ref a, rfl, .str u, rfl, a, C, [.str u], rfl, by show 1 ≤ 1000; decide, T, ha, ?_⟩
    exact ⟨.str u, rfl, .ref a, rfl, a, C, rfl, T, nw, .inl ⟨ha, fun dx hdx hne => kq dx hdx hne⟩⟩
end
/-! ### inside an except suite -/
/-- what the class D of an exception must say -/
structure ExC (K : PySem.W.Frag) (D : Addr) : Prop where
  c : L2.ExcC K D
  cl : (PySem.W.clsIn K D).isSome = true
  nw : PySem.W.findIn K (.ref D) "word" = some none
/-- isinstance(e, c) -/
def rIsX (K : PySem.W.Frag) (cls : Value) (d : Option Addr) (a : Addr) : List V → Hp → VK → Prop := fun xs H Q => ∃ (D : Addr) (c : V) (cv : Value) (b : Bool), cls = .ref D ∧ ExC K D ∧ (d = none ∨ ∃ dd fs, d = some dd ∧ H dd = some (.xd fs)) ∧
  xs = [.ref a, c] ∧ (∀ u, RelV c u → u = cv) ∧ PySem.W.kitOne K (.ref D) cv = some b ∧ Q (.bl b) H
section
variable {X : Cx} {a : Addr} {oe : Obj} {cls : Value} {d : Option Addr} {pn : List (Addr × Obj)}
theorem call_isX (hz : Zc cls d oe) (hf : ∃ vs, oe.data = .fields vs) : CallR (X.suite a ((a, oe) :: pn)) (.builtin "isinstance") (rIsX X.K cls d a) := by
  intro pins s σ H xs us Q I r h
  obtain ⟨D, c, cv, b, rfl, T, hd, rfl, hcv, e, q⟩ := h
  cases r with
  | cons rx rr =>
    cases rr with
    | cons rt rr =>
      cases rr
      cases rx
      have ec := hcv _ rt
      subst ec
      obtain ⟨hget, _⟩ := I.pin (a, oe) (List.mem_append.mpr (.inl List.mem_cons_self))
      obtain ⟨vs, hv⟩ := hf
      have J : ∃ od, PySem.W.InstAt s.heap a oe D od := by
        obtain ⟨oc, odd, oda, osl⟩ := oe
        obtain ⟨h1, h2⟩ := hz
        dsimp only at h1 h2 hv
        subst h1 h2 hv
        rcases hd with rfl | ⟨dd, fs, rfl, hdd⟩
        · exact ⟨none, hget, rfl, rfl, trivial⟩
        · have hx : ObjOk X.prog X.w H s.heap dd (.xd fs) := I.hok dd _ hdd
          obtain ⟨mA, hns, _⟩ := hx
          obtain ⟨od, ho, _⟩ := lookIn_ns hns
          exact ⟨some od, hget, rfl, rfl, ho⟩
      obtain ⟨od, J⟩ := J
      exact PySem.W.kia_one (PySem.W.kitx_exc (gt := none) T.cl T.c.hg T.c.hk T.c.hs T.c.ha T.c.hn T.c.ht T.c.hm) I.kIn J e (fun z => nomatch z) fun tk => ⟨.bl b, H, I.kept (t' := tk) fun _ _ z => z, rfl, q⟩
/-- e.word -/
def tWordE (K : PySem.W.Frag) (a : Addr) (cls : Value) (d : Option Addr) (te : TE) : TE := fun σ H Q => te σ H fun x H1 => x = .ref a ∧ ∃ (D dd : Addr) (v : V), cls = .ref D ∧ ExC K D ∧ d = some dd ∧ H1 dd = some (.xd [(("word" : Str), v)]) ∧ Q v H1
theorem pe_wordE {e : Expr} {te : TE} {pos : Pos} (hz : Zc cls d oe) (hf : ∃ vs, oe.data = .fields vs) (he : PE (X.suite a ((a, oe) :: pn)) e te)
    (hb : attributeBase e "word" X.env (eval e X.env) = eval e X.env := by rfl) : PE (X.suite a ((a, oe) :: pn)) (.Attribute e "word" pos) (tWordE X.K a cls d te) := by
  refine ⟨fun pins s σ H Q I h => ?_⟩
  refine attr_of hb (thn (he.run pins s σ H _ I h) fun u s1 hh => ?_)
  obtain ⟨x, H1, I1, rx, rfl, D, dd, v, rfl, T, rfl, ea, q⟩ := hh
  obtain rfl : u = Value.ref a := rx
  obtain ⟨ha, _⟩ := I1.pin (a, oe) (List.mem_append_left _ List.mem_cons_self)
  obtain ⟨vs, hd⟩ := hf
  have hx : ObjOk X.prog X.w H1 s1.heap dd (.xd [(("word" : Str), v)]) := I1.hok dd _ ea
  obtain ⟨mA, hns, hr⟩ := hx
  obtain ⟨od, ho, hl⟩ := lookIn_ns hns
  have l : List.lookup ("word" : Str) [(("word" : Str), v)] = some v := by simp [List.lookup]
  obtain ⟨u, hu, ru⟩ := RelO.some_of (v := v) (o := mA "word") (by rw [← l]; exact hr "word")
  have J : PySem.W.InstAt s1.heap a oe D (some od) := ⟨ha, hz.1, by unfold PySem.W.notCls; rw [hd] <;> rfl, by rw [hz.2]; exact ho⟩
  exact PySem.HandSPX.exc_get I1.kIn J T.c.hg T.c.hk T.c.hs (PySem.W.findObj_own T.c.hd T.nw rfl (by rw [hl, hu])) (handed_of ru) ⟨v, H1, I1.tok _, ru, q⟩
end
/-! ### try -/
theorem Abs.put {K : PySem.W.Frag} {C : PC} {B H : Hp} {σ : L2.St} {env : EnvP} (A : Abs K C B σ H env) (i : Nat) (x : Option V) : Abs K C B (σ.set i x) H (env.set i none) := by
  have back : ∀ {j : Nat} {r : Rv}, (env.set i none)[j]? = some (some r) → j ≠ i ∧ env[j]? = some (some r) ∧ (σ.set i x)[j]? = σ[j]? := fun {j r} h => by
    rcases set_get h with ⟨_, z⟩ | ⟨n, z⟩
    · cases z
    · exact ⟨n, z, List.getElem?_set_ne (Ne.symm n)⟩
  refine ⟨A.fr, by rw [List.length_set, List.length_set]; exact A.len, fun j r h => ?_, fun j k p hj hk => ?_⟩
  · obtain ⟨n, h1, h2⟩ := back h
    rw [h2]; exact A.sl j r h1
  · obtain ⟨r, e1, o1, s1⟩ := hj
    obtain ⟨r2, e2, o2, s2⟩ := hk
    obtain ⟨_, h1, h2⟩ := back e1
    obtain ⟨_, h3, h4⟩ := back e2
    rw [h2] at s1; rw [h4] at s2
    exact A.ap j k p ⟨r, h1, o1, s1⟩ ⟨r2, h3, o2, s2⟩
theorem Abs.base {K : PySem.W.Frag} {C : PC} {B H : Hp} {σ : L2.St} {env : EnvP} (A : Abs K C B σ H env) : Abs K { C with B0 := B } B σ H env :=
  ⟨⟨A.fr.sub, Ext.refl B, fun a o h => .inl h, A.fr.keep, A.fr.mt⟩, A.len, A.sl, A.ap⟩
theorem Abs.unbase {K : PySem.W.Frag} {C : PC} {B B1 H H1 : Hp} {σ σ1 : L2.St} {env env1 : EnvP} (A : Abs K C B σ H env) (A1 : Abs K { C with B0 := B } B1 σ1 H1 env1) : Abs K C B1 σ1 H1 env1 :=
  ⟨⟨A1.fr.sub, A.fr.b0.trans A1.fr.b0, fun a o h => (A1.fr.new a o h).elim (fun q => A.fr.new a o q) .inr, A1.fr.keep, A1.fr.mt⟩, A1.len, A1.sl, A1.ap⟩
def wTry (b : WS) (i : Nat) (ws : Exn → WS) : WS := fun env E => b env { E with ex := fun e env1 => i < env1.length ∧ ws e (env1.set i none) { nx := fun e2 => E.nx (e2.set i none), rt := E.rt, bk := fun e2 => E.bk (e2.set i none), ct := fun e2 => E.ct (e2.set i none), ex := fun _ _ => False } }
section
variable {X : Cx} {xw : XW} {x n : Str} {c : Value} {i : Nat} {body suite : List Stmt} {b₀ : Stmt} {np pos pos' : Pos} {ts : Addr → Value → Option Addr → TS}
theorem s_try {tb : Tb} {b : WS} {ws : Exn → WS} (hs : X.stack = X.env :: X.outer) (hf : X.env.frame = some X.env.locals) (hN : X.N.Nodup) (hi : X.N[i]? = some n) (hln : X.env.kindOf n = some .local) (hc : Names X x c)
    (hm : ∀ y Ca, tb y = some Ca → PySem.W.exmOne X.K (.ref Ca) c = some true)
    (hb : ∀ (pn : List (Addr × Obj)) (xe : Value → Shared → Prop) (xw' : XW), TakesP tb (X.tr pn xe) xw' → PassesOwn (model X.prog X.w) X.A X.env xe → PPSs (X.tr pn xe) xw' body b)
    (hsu : ∀ (a : Addr) (oe : Obj) (cls : Value) (d : Option Addr) (pn : List (Addr × Obj)), Zc cls d oe → (∃ vs, oe.data = .fields vs) → PSs (X.suite a ((a, oe) :: pn)) (b₀ :: suite) (ts a cls d))
    (hw : ∀ C e cls d a D σ H, σ[i]? = some (some (.ref a)) → ExcOk tb e cls d H → liftS X.K XW0 C (ws e) D σ H → ts a cls d D σ H) :
    PPS X xw (.Try body [.ExceptHandler (some (.Name x np)) (some n) (b₀ :: suite) pos'] [] [] pos) (wTry b i ws) := fun C =>
  ps_imp (ps_try_as (tb := fun W => fun D σ H => ∃ xw', (∀ cls d σ H, wx tb xw' cls d σ H → W cls d σ H) ∧ ∃ C, liftS X.K xw' C b D σ H) (ts := ts) (Wout := fun _ _ _ _ => False) hs hf hN hi hln hc takes0
    (fun W pn xe tk po => ⟨fun pins s σ H D I ⟨xw', hw', C', h⟩ => (hb pn xe xw' (Takes.imp tk hw') po C').run pins s σ H D I h⟩) hsu) fun D σ H ⟨B, env, E, A, h, xo, k1, k2, k3, k4⟩ => by
    refine ⟨fun e B1 σ1 H1 => ∃ env1, Abs X.K { C with B0 := B } B1 σ1 H1 env1 ∧ i < env1.length ∧ ws e (env1.set i none) { nx := fun e2 => E.nx (e2.set i none), rt := E.rt, bk := fun e2 => E.bk (e2.set i none), ct := fun e2 => E.ct (e2.set i none), ex := fun _ _ => False },
      fun cls d σ1 H1 ⟨e, B1, hx, env1, A1, hlt, hws⟩ => ?_, { C with B0 := B }, ?_⟩
    · have hx' := hx
      obtain ⟨Ca, ht, rfl, _⟩ := hx'
      refine ⟨true, hm _ _ ht, fun _ a ha => ?_, fun z => by cases z⟩
      have hl : i < σ1.length := by rw [A1.len]; exact hlt
      have x1 := A1.fr.b0
      refine hw C e _ d a _ (σ1.set i (some (.ref a))) H1 (List.getElem?_set_self hl) hx ⟨B1, _, _, (A.unbase A1).put i _, hws, fun σ e env B H _ h => h, ?_, ?_, ?_, ?_⟩
      · exact fun e2 σ2 H2 B2 x2 A2 h2 => k1 (e2.set i none) (σ2.set i none) H2 B2 (Ext.trans x1 x2) (A2.put i none) h2
      · exact fun r e2 v σ2 H2 B2 x2 A2 R2 h2 => k2 r e2 v σ2 H2 B2 (Ext.trans x1 x2) A2 R2 h2
      · exact fun e2 σ2 H2 B2 x2 A2 h2 => k3 (e2.set i none) (σ2.set i none) H2 B2 (Ext.trans x1 x2) (A2.put i none) h2
      · exact fun e2 σ2 H2 B2 x2 A2 h2 => k4 (e2.set i none) (σ2.set i none) H2 B2 (Ext.trans x1 x2) (A2.put i none) h2
    · refine ⟨B, env, _, A.base, h, fun σ1 e env1 B1 H1 A1 h1 => ⟨env1, A1, h1.1, h1.2⟩, ?_, ?_, ?_, ?_⟩
      · exact fun e2 σ2 H2 B2 x2 A2 h2 => k1 e2 σ2 H2 B2 x2 (A.unbase A2) h2
      · exact fun r e2 v σ2 H2 B2 x2 A2 R2 h2 => k2 r e2 v σ2 H2 B2 x2 (A.unbase A2) (by cases r <;> exact R2) h2
      · exact fun e2 σ2 H2 B2 x2 A2 h2 => k3 e2 σ2 H2 B2 x2 (A.unbase A2) h2
      · exact fun e2 σ2 H2 B2 x2 A2 h2 => k4 e2 σ2 H2 B2 x2 (A.unbase A2) h2
end
end PL

namespace PL
open PySem PySem.Spec PyProof.Rows L2 TL
/-- code that the proof never comes to -/
def wNever : WS := fun _ _ => False
section
variable {X : Cx} {xw : XW}
theorem s_never {st : Stmt} : PPS X xw st wNever := fun C => ps_imp ps_never fun D σ H ⟨B, env, E, A, h, _⟩ => h
/-- x.find(y), x.find(y, i), x.count(y) -/
def opFind : PyData → OpN
  | .str x, [.str y], k => k (.val (.int (Txt.find x y)))
  | _, _, _ => False
def opFind3 : PyData → OpN
  | .str x, [.str y, .int i], k => k (.val (.int (Txt.find3 x y i)))
  | _, _, _ => False
def opCount : PyData → OpN
  | .str x, [.str y], k => k (.val (.int (Txt.count x y)))
  | _, _, _ => False
theorem mt_findS : MtS X "str.find" opFind := by
  refine ⟨_, mt_find, fun B H x a vs ds k Q e hx hv h q => ?_⟩
  unfold opFind at h
  split at h
  · obtain rfl := hx.str
    obtain ⟨v, rfl, hp⟩ := hv.one
    obtain rfl := hp.str
    exact ⟨_, _, rfl, rfl, q _ _ (outVal (.int _) h)⟩
  · exact h.elim
theorem mt_find3S : MtS X "str.find" opFind3 := by
  refine ⟨_, mt_find3, fun B H x a vs ds k Q e hx hv h q => ?_⟩
  unfold opFind3 at h
  split at h
  · obtain rfl := hx.str
    obtain ⟨v, w, rfl, hp, hp2⟩ := hv.two
    obtain rfl := hp.str
    obtain rfl := hp2.int
    exact ⟨_, _, _, rfl, rfl, q _ _ (outVal (.int _) h)⟩
  · exact h.elim
theorem mt_countS : MtS X "str.count" opCount := by
  refine ⟨_, mt_count, fun B H x a vs ds k Q e hx hv h q => ?_⟩
  unfold opCount at h
  split at h
  · obtain rfl := hx.str
    obtain ⟨v, rfl, hp⟩ := hv.one
    obtain rfl := hp.str
    exact ⟨_, _, rfl, rfl, q _ _ (outVal (.int _) h)⟩
  · exact h.elim
def opAbs : OpN
  | [.int i], k => k (.val (.int (if i < 0 then -i else i)))
  | _, _ => False
theorem ca_abs : CaS X (.builtin "abs") opAbs := by
  refine ⟨_, call_abs, fun B H vs ds k Q e hv h q => ?_⟩
  unfold opAbs at h
  split at h
  · obtain ⟨v, rfl, hp⟩ := hv.one
    obtain rfl := hp.int
    exact ⟨_, rfl, q _ _ (outVal (.int _) h)⟩
  · exact h.elim
def intsD : List PyData → Option (List Int)
  | [] => some []
  | .int i :: ds => (intsD ds).map (i :: ·)
  | _ :: _ => none
theorem RpA.intsV {K : PySem.W.Frag} {B : Hp} : ∀ {vs : List V} {ds : List PyData} {is : List Int}, RpA K B vs ds → intsD ds = some is → vs = is.map V.int
  | _, _, is, .nil, h => by cases h; rfl
  | _, _, is, .cons (d := d) (ds := ds) q r, h => by
    cases d <;> first | (cases h; done) | skip
    cases q
    have h' : (intsD ds).map _ = some is := h
    cases z : intsD ds with
    | none => rw [z] at h'; cases h'
    | some bs' => rw [z] at h'; cases h'; rw [RpA.intsV r z]; rfl
theorem intsD_map {α : Type} (f : α → Int) : ∀ xs : List α, intsD (xs.map fun x => .int (f x)) = some (xs.map f)
  | [] => rfl
  | x :: r => by
    show (intsD (r.map fun x => .int (f x))).map (f x :: ·) = _
    rw [intsD_map f r]; rfl
def opSum : OpN
  | [.list ds], k => ∃ is, intsD ds = some is ∧ k (.val (.int is.sum))
  | _, _ => False
theorem ca_sum (hc : X.calm = true) : CaS X (.builtin "sum") opSum := by
  refine ⟨_, cr_sum hc, fun B H vs ds k Q e hv h q => ?_⟩
  unfold opSum at h
  split at h
  · obtain ⟨is, hi, h⟩ := h
    obtain ⟨v, rfl, hp⟩ := hv.one
    obtain ⟨p, xs, rfl, h1, h2⟩ := hp.list e
    have := h2.intsV hi
    subst this
    exact ⟨p, is, rfl, SqL.of h1, q _ _ (outVal (.int _) h)⟩
  · exact h.elim
def opMaxL : OpN
  | [.list ds], k => ∃ is, intsD ds = some is ∧ 0 < is.length ∧ ∀ m, m ∈ is → (∀ y, y ∈ is → y ≤ m) → k (.val (.int m))
  | _, _ => False
theorem ca_maxL (hc : X.calm = true) : CaS X (.builtin "max") opMaxL := by
  refine ⟨_, cr_max hc, fun B H vs ds k Q e hv h q => ?_⟩
  unfold opMaxL at h
  split at h
  · obtain ⟨is, hi, hn, h⟩ := h
    obtain ⟨v, rfl, hp⟩ := hv.one
    obtain ⟨p, xs, rfl, h1, h2⟩ := hp.list e
    have := h2.intsV hi
    subst this
    exact ⟨p, is, rfl, SqL.of h1, hn, fun m hm hy => q _ _ (outVal (.int _) (h m hm hy))⟩
  · exact h.elim
def opMinL : OpN
  | [.list ds], k => ∃ is, intsD ds = some is ∧ 0 < is.length ∧ ∀ m, m ∈ is → (∀ y, y ∈ is → m ≤ y) → k (.val (.int m))
  | _, _ => False
theorem ca_minL (hc : X.calm = true) : CaS X (.builtin "min") opMinL := by
  refine ⟨_, cr_min hc, fun B H vs ds k Q e hv h q => ?_⟩
  unfold opMinL at h
  split at h
  · obtain ⟨is, hi, hn, h⟩ := h
    obtain ⟨v, rfl, hp⟩ := hv.one
    obtain ⟨p, xs, rfl, h1, h2⟩ := hp.list e
    have := h2.intsV hi
    subst this
    exact ⟨p, is, rfl, SqL.of h1, hn, fun m hm hy => q _ _ (outVal (.int _) (h m hm hy))⟩
  · exact h.elim
end
/-! ### places of a text in a text -/
def AtL (l m : List Nat) (i : Nat) : Prop := i + m.length ≤ l.length ∧ (l.drop i).take m.length = m
theorem at_S (l m : List Nat) (i : Nat) : StrLaws.At (S l) (S m) (S l).length i ↔ AtL l m i := by
  unfold StrLaws.At AtL
  rw [S_len, S_len]
  refine and_congr_right fun h => ?_
  unfold Builtin.Str.subAt
  rw [S_len, beq_iff_eq]
  show l.toArray.extract i (i + m.length) = m.toArray ↔ _
  rw [← Array.toList_inj]
  simp [List.extract_eq_take_drop]
theorem find_S (l m : List Nat) : (Txt.find (S l) (S m) = -1 ∧ ∀ i, ¬ AtL l m i) ∨ ∃ i : Nat, Txt.find (S l) (S m) = (i : Int) ∧ AtL l m i ∧ ∀ k, k < i → ¬ AtL l m k := by
  rcases find_whole (S l) (S m) with ⟨h1, h2⟩ | ⟨i, h1, h2, h3⟩
  · exact .inl ⟨h1, fun i h => h2 i ((at_S l m i).mpr h)⟩
  · exact .inr ⟨i, h1, (at_S l m i).mp h2, fun k hk h => h3 k hk ((at_S l m k).mpr h)⟩
end PL

namespace PL
open PySem PySem.Spec PyProof.Rows L2 TL
section
variable {P : Program} {w : World} {K : PySem.W.Frag} {mg : Str → Option Value} {base : Heap}
abbrev BodyY (P : Program) (w : World) (K : PySem.W.Frag) (mg : Str → Option Value) (base : Heap) (N : List Str) (st : Stmt) (k : Nat) (Φ : Cx → Prop) : Prop :=
  ∀ X : Cx, X.prog = P → X.w = w → X.K = K → X.mg = mg → X.base = base → X.N = N → X.env.scope = defScope st → X.calm = true → X.fn = (fun _ => true) → Room k X.A → PassesOwn (model X.prog X.w) X.A X.env X.xe → X.stack = X.env :: X.outer → X.env.frame = some X.env.locals → Φ X
/-- a def with a try in it, from which nothing comes out -/
theorem def_okY {x qual : Str} {st : Stmt} {f : Addr} {fd : FuncData} {N ps : List Str} {k : Nat} {sem : Sem} {b : WS} (F : Fun K x qual st f fd) (sc : FnScope N ps (defScope st)) (len : ∀ as q, sem as q → as.length = ps.length)
    (hb : BodyY P w K mg base N st k fun X => PPSs X XW0 (defBody st) b)
    (hs : ∀ as q, sem as q → b (envOf N as) (endsOf q)) : FnOk P w K mg base CX0 (k + 1) f fd ps (spP K sem) := by
  refine F.ok sc (fun vs H Q E h => ?_) (fun cdv A outer s H vs Q E hr h => ?_)
  · obtain ⟨B, as, mu, q, e, ha, hq, _⟩ := h
    rw [ha.length]; exact len as q hq
  · obtain ⟨B, as, mu, q, e, ha, hq, kq⟩ := h
    refine ⟨liftS K XW0 ⟨H, B, mu⟩ b, hb _ rfl rfl rfl rfl rfl rfl rfl rfl rfl hr PassesOwn.never rfl rfl ⟨H, B, mu⟩, ?_⟩
    refine ⟨B, envOf N as, endsOf q, abs_start e ha, hs as q hq, fun σ e env B H A h => h, fun env' σ' H' B' x A h => ?_, fun r env' v σ' H' B' x A R h => ?_, fun _ _ _ _ _ _ h => h.elim, fun _ _ _ _ _ _ h => h.elim⟩
    · exact kq (.val .none) .non H' B' A.fr .non h
    · obtain ⟨hg, h⟩ := h
      refine kq r v H' B' A.fr ?_ h
      cases r with
      | val d => exact R
      | own d => obtain ⟨p, h1, h2, h3, h4, _⟩ := R; exact ⟨p, h1, h2, h3, h4⟩
      | ndr => obtain ⟨p, h1, h2, h3, h4, _⟩ := R; exact ⟨p, h1, h2, h3, h4⟩
      | dr => exact hg.elim
      | drv i => exact hg.elim
end
/-- the only exception: with a word -/
def tbR (c : Addr) : Tb := fun y => if y = ("Refused" : Str) then some c else none
theorem tbR_get {c Ca : Addr} {y : Str} (h : tbR c y = some Ca) : Ca = c := by
  unfold tbR at h
  split at h
  · exact (Option.some.inj h).symm
  · cases h
/-- return v1 if isinstance(e, R) and e.word == s else v2 -/
def tsWord (K : PySem.W.Frag) (i : Nat) (CR : Addr) (s : Str) (v1 v2 : V) : Addr → Value → Option Addr → TS := fun a cls d =>
  tRet (tIf (tAnd (tB (tCB (rIsX K cls d a) (tCons (tVar i) (tCons (tC (.ref CR)) tNil)))) (tTest (tOp rEq (tWordE K a cls d (tVar i)) (tC (.str s))))) (tC v1) (tC v2))
def wsWord (s : Str) (d1 d2 : PyData) : Exn → WS := fun e env E => match e.2 with
  | [(_, .str u)] => E.rt (.val (if u = s then d1 else d2)) env
  | _ => False
theorem suWord {K : PySem.W.Frag} {tb : Tb} {i : Nat} {CR : Addr} {s : Str} {v1 v2 : V} {d1 d2 : PyData} (hT : ∀ y Ca, tb y = some Ca → ExC K Ca ∧ PySem.W.kitOne K (.ref Ca) (.ref CR) = some true) (r1 : ∀ B, Rp K B v1 d1) (r2 : ∀ B, Rp K B v2 d2) :
    ∀ C e cls d a D σ H, σ[i]? = some (some (.ref a)) → ExcOk tb e cls d H → liftS K XW0 C (wsWord s d1 d2 e) D σ H → tsWord K i CR s v1 v2 a cls d D σ H := fun C e cls d a D σ H hσ hx ⟨B, env, E, A, h, xo, k1, k2, k3, k4⟩ => by
  obtain ⟨Ca, ht, rfl, hx⟩ := hx
  obtain ⟨T, hk⟩ := hT _ _ ht
  unfold wsWord at h
  rcases hx with ⟨h0, _⟩ | ⟨dd, l, h0, rfl, hd⟩
  · rw [h0] at h; exact h.elim
  · rw [h0] at h
    refine ⟨.ref a, hσ, Ca, .ref CR, .ref CR, true, rfl, T, .inr ⟨dd, _, rfl, hd⟩, rfl, fun u hu => hu, hk, true, rfl, .ref a, hσ, rfl, Ca, dd, .str (S l), rfl, T, rfl, hd, rfl, _, rfl, ?_⟩
    refine ite2 (fun h1 => ?_) (fun h1 => ?_)
    · have e1 : S l = s := V.str.inj (of_decide_eq_true h1)
      have h : E.rt (.val (if S l = s then d1 else d2)) env := h
      rw [if_pos e1] at h
      exact k2 (.val d1) env _ σ H B (Ext.refl B) A (r1 B) h
    · have e1 : S l ≠ s := fun z => h1 (decide_eq_true (by rw [z]))
      have h : E.rt (.val (if S l = s then d1 else d2)) env := h
      rw [if_neg e1] at h
      exact k2 (.val d2) env _ σ H B (Ext.refl B) A (r2 B) h
end PL

namespace PL
open PySem PySem.Spec PyProof.Rows L2 TL
/-! ### range with a step upwards -/
def rangeC (lo c : Int) (n : Nat) : List PyData := (List.range n).map fun i => .int (lo + (i : Nat) * c)
theorem itOk_rangeC {K : PySem.W.Frag} {B : Hp} {lo c : Int} {n : Nat} : ItOk K B (Itc lo c n) (rangeC lo c n) := fun i H e => by
  refine ⟨fun h => ?_, fun d hd => ?_⟩
  · show n ≤ i
    rw [← h]; simp [rangeC]
  · unfold rangeC at hd
    rw [List.getElem?_map] at hd
    cases hc : (List.range n)[i]? with
    | none => rw [hc] at hd; cases hd
    | some c' =>
      rw [hc] at hd
      obtain ⟨hi, hc'⟩ := List.getElem?_eq_some_iff.mp hc
      rw [List.getElem_range] at hc'
      subst hc'
      have hd' : some (PyData.int (lo + (i : Nat) * c)) = some d := hd
      cases hd'
      have hi' : i < n := by simpa using hi
      refine ⟨hi', fun x H' y => ?_⟩
      obtain ⟨rfl, rfl⟩ := y
      exact outVal (.int _) rfl
theorem small_up {a b c : Int} (hc : 1 ≤ c) (hc' : c < 1000000) (ha : -(2 ^ 61) ≤ a) (ha' : a < 2 ^ 61) (hb : -(2 ^ 61) ≤ b) (hb' : b < 2 ^ 61) : Builtin.Range.small a b c = true := by
  unfold Builtin.Range.small Builtin.Range.rangeSize
  have hcp : c > 0 := by omega
  simp only [Builtin.Range.rangeFitsLong, Bool.and_eq_true, Bool.or_eq_true, decide_eq_true_eq, beq_iff_eq, hcp, if_true]
  have hq1 : a < b → 0 ≤ (b - a - 1) / c := fun h => Int.ediv_nonneg (by omega) (by omega)
  have hq2 : a < b → (b - a - 1) / c ≤ b - a - 1 := fun h => Int.ediv_le_self _ (by omega)
  have hq3 : c * ((b - a - 1) / c) ≤ b - a - 1 := Int.mul_ediv_self_le (by omega)
  generalize (b - a - 1) / c = q at hq1 hq2 hq3
  split <;> omega
theorem size_nonneg {i j c : Int} (hc : 1 ≤ c) : 0 ≤ Builtin.Range.rangeSize i j c := by
  unfold Builtin.Range.rangeSize
  rw [if_pos (by omega)]
  split
  · have : 0 ≤ (j - i - 1) / c := Int.ediv_nonneg (by omega) (by omega)
    omega
  · exact Int.le_refl 0
def opRangeS : List PyData → (List PyData → Prop) → Prop
  | [.int i, .int j, .int c], k => (1 ≤ c ∧ c < 1000000 ∧ (-(2 ^ 61) ≤ i ∧ i < 2 ^ 61) ∧ -(2 ^ 61) ≤ j ∧ j < 2 ^ 61) ∧ k (rangeC i c (Builtin.Range.rangeSize i j c).toNat)
  | _, _ => False
section
variable {X : Cx} {xw : XW} {pos : Pos} {tg a b c : Expr} {p : Pos}
theorem ppi_rangeS {f : WAO} (hg : Gl X "range") (hm : X.mg "range" = none) (ha : PPAO X xw [a, b, c] f)
    (hs : starEach [a, b, c] X.env = (false, eval a X.env) :: starEach [b, c] X.env := by rfl) (hpl : (backTo pos (starEach [b, c] X.env)).any (·.1) = false := by rfl) :
    PPI X xw tg (.Call (.Name "range" p) [a, b, c] [] pos) (wRg opRangeS f) := fun C =>
  pi_imp (pi_range3 hg hm (ha C) hs hpl) fun σ H R ⟨B, env, ex, k, A, hk, xo, kq⟩ => by
    refine ⟨B, env, ex, _, A, hk, xo, fun rds e1 vs H1 B1 x1 A1 R1 h1 => ?_⟩
    obtain ⟨ds, ps, h2⟩ := R1.reads (Ext.refl B1) A1 h1
    unfold opRangeS at h2
    split at h2
    · cases ps with
      | cons hp ps =>
        obtain ⟨v, v', rfl, hp', hp''⟩ := ps.two
        obtain rfl := hp.int
        obtain rfl := hp'.int
        obtain rfl := hp''.int
        obtain ⟨⟨h1, h2, ⟨h3, h4⟩, h5, h6⟩, h7⟩ := h2
        exact ⟨_, _, _, _, rfl, ⟨by omega, by omega, small_up h1 h2 h3 h4 h5 h6, (Int.toNat_of_nonneg (size_nonneg h1)).symm⟩, kq _ e1 H1 B1 _ x1 A1 itOk_rangeC h7⟩
    · exact h2.elim
end
end PL
namespace PL
open PySem PySem.Spec PyProof.Rows L2 TL
theorem rangeN_succ (lo : Int) (n : Nat) : rangeN lo (n + 1) = .int lo :: rangeN (lo - 1) n := by
  unfold rangeN
  rw [List.range_succ_eq_map, List.map_cons, List.map_map]
  congr 1
  · simp
  · apply List.map_congr_left; intro i _
    show PyData.int (lo - ((i + 1 : Nat) : Int)) = .int (lo - 1 - (i : Int))
    congr 1; omega
theorem for_rngN {g : WG} {b : WS} {E : EndsP} {lo : Int} {n : Nat} (I : Nat → EnvP → Prop) (h0 : ∀ env, I n env → E.nx env)
    (hs : ∀ i env, i < n → I i env → ∀ nx : EnvP → Prop, (∀ e, I (i + 1) e → nx e) → g (.int (lo - (i : Nat))) env fun e1 => b e1 { E with nx := nx, ct := nx, bk := E.nx }) (env : EnvP) (h : I 0 env) : forW g b E (rangeN lo n) env := by
  have key : ∀ m i env, i + m = n → I i env → forW g b E (rangeN (lo - (i : Nat)) m) env := by
    intro m
    induction m with
    | zero => intro i env e h; rw [Nat.add_zero] at e; subst e; exact h0 env h
    | succ m ih =>
      intro i env e h
      rw [rangeN_succ]
      refine hs i env (by omega) h _ fun e2 he => ?_
      have := ih (i + 1) e2 (by omega) he
      rw [show lo - ((i + 1 : Nat) : Int) = lo - (i : Nat) - 1 by omega] at this
      exact this
  have := key n 0 env (by omega) h
  rw [show lo - ((0 : Nat) : Int) = lo by omega] at this
  exact this
theorem take_eq_iff {l : List Nat} {a b L : Nat} (ha : a + L ≤ l.length) (hb : b + L ≤ l.length) : (l.drop a).take L = (l.drop b).take L ↔ ∀ j, j < L → l[a + j]? = l[b + j]? := by
  constructor
  · intro h j hj
    have := congrArg (fun x : List Nat => x[j]?) h
    simpa [List.getElem?_take, hj, List.getElem?_drop] using this
  · intro h
    apply List.ext_getElem?
    intro j
    rw [List.getElem?_take, List.getElem?_take, List.getElem?_drop, List.getElem?_drop]
    by_cases hj : j < L
    · rw [if_pos hj, if_pos hj, h j hj]
    · rw [if_neg hj, if_neg hj]
end PL
namespace PL
open PySem PySem.Spec PyProof.Rows L2 TL
theorem lc_pureM {α : Type} {g : WG} {t : WT} {f : WE} {vs : List Nat} {k : List PyData → EnvP → Prop} (R : α → Prop) (h : α → PyData) (p : α → Bool) (y : α → PyData) (I : EnvP → Prop)
    (hs : ∀ x env, R x → I env → ∀ (c : Prop) (nY : PyData → EnvP → Prop) (nN : EnvP → Prop), c → (p x = true → ∀ e, I e → nY (y x) e) → (p x = false → ∀ e, I e → nN e) →
      g (h x) env fun e1 => t e1 (fun _ _ => False) fun b e2 => if b = true then f e2 (fun _ _ => False) fun r e3 => r.vv fun z => c ∧ nY z (wipeP e3 vs) else nN (wipeP e2 vs)) :
    ∀ (xs : List α) (acc : List PyData) env, (∀ x ∈ xs, R x) → acc.length + xs.length ≤ sizeLine → I env → (∀ e, I e → k (acc ++ (xs.filter p).map y) e) → lcW g t f vs k (xs.map h) acc env
  | [], acc, env, _, _, i, q => by
    have := q env i
    rw [List.filter_nil, List.map_nil, List.append_nil] at this
    exact this
  | x :: xs, acc, env, hR, hl, i, q => by
    rw [List.length_cons] at hl
    have hR' : ∀ x ∈ xs, R x := fun z hz => hR z (List.mem_cons_of_mem _ hz)
    refine hs x env (hR x (List.mem_cons_self ..)) i _ _ _ (by omega) (fun hp e ie => ?_) (fun hp e ie => ?_)
    · refine lc_pureM R h p y I hs xs (acc ++ [y x]) e hR' (by rw [List.length_append]; show acc.length + 1 + _ ≤ _; omega) ie fun e ie => ?_
      have := q e ie
      rw [List.filter_cons_of_pos hp, List.map_cons] at this
      rw [List.append_assoc]; exact this
    · refine lc_pureM R h p y I hs xs acc e hR' (by omega) ie fun e ie => ?_
      have := q e ie
      rw [List.filter_cons_of_neg (by rw [hp]; decide)] at this
      exact this
end PL

namespace K46
open PySem PySem.Spec PyProof.Rows L2 TL PL
def W (l : List Nat) : Prop := ∀ c ∈ l, 97 ≤ c ∧ c ≤ 122
def placeB (d : PyData) (lo hi : Int) : Bool := match d with
  | .int i => decide (lo ≤ i) && decide (i ≤ hi)
  | _ => false
def semIsPlace : Sem := fun as k => ∃ (d : PyData) (lo hi : Int), as = [.val d, .val (.int lo), .val (.int hi)] ∧ tyName d ≠ "dict" ∧ k (.val (.bool (placeB d lo hi)))
def letB (s : List Nat) : Bool := match s with
  | [c] => decide (97 ≤ c) && decide (c ≤ 122)
  | _ => false
def letterB (d : PyData) : Bool := match d with
  | .str s => letB s.cps.toList
  | _ => false
def semIsLetter : Sem := fun as k => ∃ d : PyData, as = [.val d] ∧ tyName d ≠ "dict" ∧ (∀ s, d = .str s → s.length ≤ sizeLine) ∧ k (.val (.bool (letterB d)))
/-! ### copies -/
def Copy (l : List Nat) (at_ : Nat) (ap : Bool) (p L : Nat) : Prop := p < at_ ∧ at_ + L ≤ l.length ∧ (ap = true → p + L ≤ at_) ∧ ∀ j, j < L → l[p + j]? = l[at_ + j]?
def IsCopy (l : List Nat) (at_ : Nat) (ap : Bool) (p L : Nat) : Prop :=
  (L = 0 ∧ p = 0 ∧ ∀ p', ¬ Copy l at_ ap p' 1) ∨ (0 < L ∧ Copy l at_ ap p L ∧ (∀ p' L', L < L' → ¬ Copy l at_ ap p' L') ∧ ∀ p', p' < p → ¬ Copy l at_ ap p' L)
def semLongestCopy : Sem := fun as k => ∃ (l : List Nat) (n : Nat) (ap : Bool), as = [.val (.str (S l)), .val (.int n), .val (.bool ap)] ∧ n < l.length ∧ l.length ≤ 1000 ∧ ∀ p L : Nat, IsCopy l n ap p L → k (.val (.tuple [.int p, .int L]))
def semLCopy : Sem := fun as k => ∃ (l : List Nat) (n : Nat) (ap : Bool), as = [.val (.str (S l)), .val (.int n), .val (.bool ap)] ∧ n < l.length ∧ l.length ≤ 1000 ∧ ∀ p L : Nat, IsCopy l n ap p L → k (.own (.list [.int L, .int p]))
inductive Ph
  | lt (c : Nat)
  | cp (p L : Nat)
abbrev sLetter : List Nat := [108, 101, 116, 116, 101, 114]
abbrev sCopy : List Nat := [99, 111, 112, 121]
abbrev sPlace : List Nat := [112, 108, 97, 99, 101]
def phD : Ph → PyData
  | .lt c => .tuple [sD sLetter, sD [c]]
  | .cp p L => .tuple [sD sCopy, .int p, .int L]
def IsPhr (l : List Nat) (ap : Bool) : List Ph → Nat → Prop
  | [], n => n = l.length
  | x :: r, n => n < l.length ∧ ∃ p L, IsCopy l n ap p L ∧ x = (if L = 0 then .lt (l.getD n 0) else .cp p L) ∧ IsPhr l ap r (n + max 1 L)
def semShortened : Sem := fun as k => ∃ (l : List Nat) (ap : Bool), as = [.val (.str (S l)), .val (.bool ap)] ∧ l.length ≤ 400 ∧ ∀ ps, IsPhr l ap ps 0 → k (.val (.tuple (ps.map phD)))
def semLPhrases : Sem := semShortened
def semLFewest : Sem := fun as k => ∃ (l : List Nat) (ap : Bool), as = [.val (.str (S l)), .val (.bool ap)] ∧ l.length ≤ 400 ∧ ∀ ps, IsPhr l ap ps 0 → k (.val (.int (ps.length : Nat)))
/-! ### spread -/
def ext (f : List Nat) (p : Nat) : Nat → List Nat
  | 0 => f
  | L + 1 => ext f p L ++ [(ext f p L).getD (p + L) 0]
def phOk (n : Nat) (ap : Bool) : PyData → Option Ph
  | .tuple [.str x, .str s] => if x.cps.toList = sLetter ∧ letB s.cps.toList = true then some (.lt (s.cps.toList.getD 0 0)) else none
  | .tuple [.str x, .int p, .int L] => if x.cps.toList = sCopy ∧ 0 ≤ p ∧ p ≤ (n : Int) - 1 ∧ 1 ≤ L ∧ L ≤ (if ap = true then (n : Int) - p else 400) then some (.cp p.toNat L.toNat) else none
  | _ => none
def fineP : PyData → Prop
  | .tuple xs => ∀ x ∈ xs, isSc x = true ∧ ∀ s, x = .str s → s.length ≤ 10
  | d => tyName d ≠ "dict"
def semIsPhrase : Sem := fun as k => ∃ (d : PyData) (n : Nat) (ap : Bool), as = [.val d, .val (.int n), .val (.bool ap)] ∧ fineP d ∧ k (.val (.bool (phOk n ap d).isSome))
def spGo (ap : Bool) (f : List Nat) : List PyData → Option (List Nat)
  | [] => some f
  | d :: r => if 400 < f.length then none else match phOk f.length ap d with
    | some (.lt c) => spGo ap (f ++ [c]) r
    | some (.cp p L) => spGo ap (ext f p L) r
    | none => none
def spD (ap : Bool) : PyData → PyData
  | .tuple ps => match spGo ap [] ps with
    | some w => if w.length ≤ 400 then sD w else .none
    | none => .none
  | _ => .none
def semSpread : Sem := fun as k => ∃ (d : PyData) (ap : Bool), as = [.val d, .val (.bool ap)] ∧ tyName d ≠ "dict" ∧ (∀ ps, d = .tuple ps → ∀ p ∈ ps, fineP p) ∧ k (.val (spD ap d))
def lsGo (ap : Bool) (f : List Nat) : List Ph → Option (List Nat)
  | [] => some f
  | .lt c :: r => if 400 < f.length + 1 then none else lsGo ap (f ++ [c]) r
  | .cp p L :: r => if f.length ≤ p ∨ (ap = true ∧ f.length < p + L) ∨ 400 < L then none else if 400 < f.length + L then none else lsGo ap (ext f p L) r
/-- what drawn phrases are -/
def Drawn (ps : List Ph) : Prop := ps.length ≤ 9 ∧ ∀ x ∈ ps, match x with
  | .lt c => 97 ≤ c ∧ c ≤ 99
  | .cp p L => 1 ≤ L ∧ L ≤ 1000000 ∧ p ≤ 1000000
def lsD (ap : Bool) (ps : List Ph) : PyData := match lsGo ap [] ps with
  | some w => sD w
  | none => .none
def semLSpread : Sem := fun as k => ∃ (ps : List Ph) (ap : Bool), as = [.val (.list (ps.map phD)), .val (.bool ap)] ∧ Drawn ps ∧ k (.val (lsD ap ps))
def semLDrawn : Sem := fun as k => as = [.dr] ∧ ∀ ps, Drawn ps → k (.own (.list (ps.map phD)))
def odds : List PyData := [.tuple [sD sLetter, sD [97, 98]], .tuple [sD sLetter, sD []], .tuple [sD sLetter, sD [65]], .tuple [sD sLetter], .tuple [sD sCopy, .int 0], .tuple [sD sCopy, .int (-1), .int 1], .tuple [sD sCopy, .bool true, .int 1], .tuple [sD sCopy, .int 0, .int 0], .tuple [sD sCopy, .int 0, .bool true],
  .tuple [sD [99, 111, 112, 105, 101, 100], .int 0, .int 1], .none, .int 7, .list [], .tuple [sD sCopy, .int 0, .int 1, .int 1], sD [97], .tuple [sD sCopy, sD [48], .int 1], .tuple [sD sLetter, .int 1], .tuple [], .tuple [sD sCopy, .int 0, .int (-3)]]
def semLWrong : Sem := fun as k => ∃ ps : List PyData, as = [.dr, .val (.list ps)] ∧ ps.length ≤ 100 ∧ ∀ (i : Nat) (d : PyData), i ≤ ps.length → d ∈ odds → k (.val (.tuple (ps.take i ++ [d] ++ ps.drop i)))
/-! ### letters -/
def Ph.len : Ph → Nat
  | .lt _ => 1
  | .cp _ L => L
def starts : Nat → List Ph → List Nat
  | s, [] => [s]
  | s, x :: r => s :: starts (s + x.len) r
def semStartsOf : Sem := fun as k => ∃ ps : List Ph, as = [.val (.tuple (ps.map phD))] ∧ ps.length ≤ 1000 ∧ k (.own (.list ((starts 0 ps).map fun n => .int (n : Nat))))
/-- the phrases from s on make the word w -/
def Good (ap : Bool) (w : List Nat) : Nat → List Ph → Prop
  | s, [] => s = w.length
  | s, .lt c :: r => w[s]? = some c ∧ letB [c] = true ∧ Good ap w (s + 1) r
  | s, .cp p L :: r => p < s ∧ 1 ≤ L ∧ L ≤ 400 ∧ s + L ≤ w.length ∧ (ap = true → p + L ≤ s) ∧ (∀ j, j < L → w[s + j]? = w[p + j]?) ∧ Good ap w (s + L) r
def semLetterAt : SemX := fun as k kx => ∃ (ps : List Ph) (w : List Nat) (ap : Bool) (d : PyData), as = [.val (.tuple (ps.map phD)), .val d] ∧ ps.length ≤ 1000 ∧ Good ap w 0 ps ∧ w.length ≤ 400 ∧ tyName d ≠ "dict" ∧
  (∀ i : Nat, d = .int i → i < w.length → k (.val (sD [w.getD i 0]))) ∧ (placeB d 0 ((w.length : Int) - 1) = false → kx ("Refused", [("word", sD sPlace)]))
def semLLetter : Sem := fun as k => ∃ (ps : List Ph) (w : List Nat) (ap : Bool) (d : PyData), as = [.val (.tuple (ps.map phD)), .val d] ∧ ps.length ≤ 1000 ∧ Good ap w 0 ps ∧ w.length ≤ 400 ∧ tyName d ≠ "dict" ∧
  (∀ i : Nat, d = .int i → i < w.length → k (.val (sD [w.getD i 0]))) ∧ (placeB d 0 ((w.length : Int) - 1) = false → k (.val (.int 7)))
def semLWord : Sem := fun as k => ∃ n : Int, as = [.dr, .val (.int n)] ∧ 3 ≤ n ∧ n ≤ 100000 ∧ ∀ l : List Nat, W l → l.length ≤ n.toNat → k (.val (.str (S l)))
def semLHolds : Sem := fun as k => ∃ (l : List Nat) (ap : Bool), as = [.dr, .val (.str (S l)), .val (.bool ap)] ∧ W l ∧ l.length ≤ 60 ∧ k (.val (.bool true))
theorem lenIsPlace : ∀ as q, semIsPlace as q → as.length = 3 := fun _ _ ⟨_, _, _, h, _⟩ => by rw [h]; rfl
theorem lenIsLetter : ∀ as q, semIsLetter as q → as.length = 1 := fun _ _ ⟨_, h, _⟩ => by rw [h]; rfl
theorem lenLongestCopy : ∀ as q, semLongestCopy as q → as.length = 3 := fun _ _ ⟨_, _, _, h, _⟩ => by rw [h]; rfl
theorem lenLCopy : ∀ as q, semLCopy as q → as.length = 3 := fun _ _ ⟨_, _, _, h, _⟩ => by rw [h]; rfl
theorem lenShortened : ∀ as q, semShortened as q → as.length = 2 := fun _ _ ⟨_, _, h, _⟩ => by rw [h]; rfl
theorem lenLPhrases : ∀ as q, semLPhrases as q → as.length = 2 := lenShortened
theorem lenLFewest : ∀ as q, semLFewest as q → as.length = 2 := fun _ _ ⟨_, _, h, _⟩ => by rw [h]; rfl
theorem lenIsPhrase : ∀ as q, semIsPhrase as q → as.length = 3 := fun _ _ ⟨_, _, _, h, _⟩ => by rw [h]; rfl
theorem lenSpread : ∀ as q, semSpread as q → as.length = 2 := fun _ _ ⟨_, _, h, _⟩ => by rw [h]; rfl
theorem lenLSpread : ∀ as q, semLSpread as q → as.length = 2 := fun _ _ ⟨_, _, h, _⟩ => by rw [h]; rfl
theorem lenLDrawn : ∀ as q, semLDrawn as q → as.length = 1 := fun _ _ ⟨h, _⟩ => by rw [h]; rfl
theorem lenLWrong : ∀ as q, semLWrong as q → as.length = 2 := fun _ _ ⟨_, h, _⟩ => by rw [h]; rfl
theorem lenStartsOf : ∀ as q, semStartsOf as q → as.length = 1 := fun _ _ ⟨_, h, _⟩ => by rw [h]; rfl
theorem lenLetterAt : ∀ as q qx, semLetterAt as q qx → as.length = 2 := fun _ _ _ ⟨_, _, _, _, h, _⟩ => by rw [h]; rfl
theorem lenLLetter : ∀ as q, semLLetter as q → as.length = 2 := fun _ _ ⟨_, _, _, _, h, _⟩ => by rw [h]; rfl
theorem lenLWord : ∀ as q, semLWord as q → as.length = 2 := fun _ _ ⟨_, h, _⟩ => by rw [h]; rfl
theorem lenLHolds : ∀ as q, semLHolds as q → as.length = 3 := fun _ _ ⟨_, _, h, _⟩ => by rw [h]; rfl
end K46

namespace K46
open PySem PySem.Spec PyProof.Rows L2 TL PL
abbrev NLongestCopy : List Str := ["word", "at", "apart", "best", "place", "length", "most"]
abbrev bLongestCopy : WS := (wSeq (wSet 3 (wTup (wCons (wC (.int 0)) (wCons (wC (.int 0)) wNil))))
    (wSeq (wFor (wRg opRange1 (wConsO (wL 1) wNilO)) (wGn 4) (wSeq (wSet 5 (wC (.int 0)))
    (wSeq (wSet 6 (wCa opMin2 (wConsO (wO (wB opSub (wO (wCa opLen (wConsO (wL 0) wNilO))) (wL 1))) (wConsO (wO (wIf (wTe (wN 2)) (wB opSub (wL 1) (wL 4)) (wCa opLen (wConsO (wL 0) wNilO)))) wNilO))))
    (wSeq (wWhile (wTAnd (wTe (wB opLt (wL 5) (wL 6))) (wTe (wB opEq (wO (wB opIx (wL 0) (wO (wB opAdd (wL 4) (wL 5))))) (wO (wB opIx (wL 0) (wO (wB opAdd (wL 1) (wL 5)))))))) (wAug 5 opAddI (wO (wC (.int 1)))))
    (wIfS (wTe (wB opGt (wL 5) (wO (wB opIx (wL 3) (wO (wC (.int 1))))))) (wSet 3 (wTup (wCons (wN 4) (wCons (wN 5) wNil)))) wNext)))))
    (wRetN 3)))
abbrev NShortened : List Str := ["word", "apart", "found", "at", "place", "length"]
abbrev bShortened : WS := (wSeq (wSet 2 (wLst wNil))
    (wSeq (wSet 3 (wC (.int 0)))
    (wSeq (wWhile (wTe (wB opLt (wL 3) (wO (wCa opLen (wConsO (wL 0) wNilO))))) (wSeq (wAsg (wCall semLongestCopy (wCons (wN 0) (wCons (wN 3) (wCons (wN 1) wNil)))) (wGt 2 (wGcons (wGn 4) (wGcons (wGn 5) wGnil))))
    (wSeq (wDrop (wApp 2 (wIf (wTe (wB opGt (wL 5) (wO (wC (.int 0))))) (wTup (wCons (wC (.str (S [99, 111, 112, 121]))) (wCons (wN 4) (wCons (wN 5) wNil)))) (wTup (wCons (wC (.str (S [108, 101, 116, 116, 101, 114]))) (wCons (wB opIx (wL 0) (wL 3)) wNil))))))
    (wAug 3 opAddI (wO (wCa opMax2 (wConsO (wO (wC (.int 1))) (wConsO (wL 5) wNilO))))))))
    (wRet (wCa opTuple (wConsO (wL 2) wNilO))))))
abbrev NIsPlace : List Str := ["value", "least", "most"]
abbrev bIsPlace : WS := (wRet (wAnd (wIsi "int" (wL 0)) (wAnd (wNot (wIsi "bool" (wL 0))) (wCh opLe opLe (wL 1) (wL 0) (wL 2)))))
abbrev NIsLetter : List Str := ["value"]
abbrev bIsLetter : WS := (wRet (wAnd (wIsi "str" (wL 0)) (wAnd (wB opEq (wO (wCa opLen (wConsO (wL 0) wNilO))) (wO (wC (.int 1)))) (wB opIn (wL 0) (wO (wC (.str (S [97, 98, 99, 100, 101, 102, 103, 104, 105, 106, 107, 108, 109, 110, 111, 112, 113, 114, 115, 116, 117, 118, 119, 120, 121, 122]))))))))
abbrev NIsPhrase : List Str := ["value", "at", "apart"]
abbrev bIsPhrase : WS := (wSeq (wIfS (wTOr (wTNot (wTe (wIsi "tuple" (wL 0)))) (wTOr (wTe (wB opEq (wO (wCa opLen (wConsO (wL 0) wNilO))) (wO (wC (.int 0))))) (wTNot (wTe (wIsi "str" (wO (wB opIx (wL 0) (wO (wC (.int 0)))))))))) (wRet (wC (.bool false))) wNext)
    (wSeq (wIfS (wTe (wB opEq (wO (wB opIx (wL 0) (wO (wC (.int 0))))) (wO (wC (.str (S [108, 101, 116, 116, 101, 114])))))) (wRet (wAnd (wB opEq (wO (wCa opLen (wConsO (wL 0) wNilO))) (wO (wC (.int 2)))) (wCall semIsLetter (wCons (wB opIx (wL 0) (wO (wC (.int 1)))) wNil)))) wNext)
    (wSeq (wIfS (wTOr (wTe (wB opNe (wO (wB opIx (wL 0) (wO (wC (.int 0))))) (wO (wC (.str (S [99, 111, 112, 121])))))) (wTOr (wTe (wB opNe (wO (wCa opLen (wConsO (wL 0) wNilO))) (wO (wC (.int 3))))) (wTNot (wTe (wCall semIsPlace (wCons (wB opIx (wL 0) (wO (wC (.int 1)))) (wCons (wC (.int 0)) (wCons (wB opSub (wL 1) (wO (wC (.int 1)))) wNil)))))))) (wRet (wC (.bool false))) wNext)
    (wRet (wCall semIsPlace (wCons (wB opIx (wL 0) (wO (wC (.int 2)))) (wCons (wC (.int 1)) (wCons (wIf (wTe (wN 2)) (wB opSub (wL 1) (wO (wB opIx (wL 0) (wO (wC (.int 1)))))) (wC (.int 400))) wNil))))))))
abbrev NSpread : List Str := ["phrases", "apart", "found", "phrase", "k"]
abbrev bSpread : WS := (wSeq (wIfS (wTNot (wTe (wIsi "tuple" (wL 0)))) (wRet (wC .none)) wNext)
    (wSeq (wSet 2 (wC (.str (S []))))
    (wSeq (wFor (wIt (wN 0)) (wGn 3) (wSeq (wIfS (wTOr (wTNot (wTe (wCall semIsPhrase (wCons (wN 3) (wCons (wCa opLen (wConsO (wL 2) wNilO)) (wCons (wN 1) wNil)))))) (wTe (wB opGt (wO (wCa opLen (wConsO (wL 2) wNilO))) (wO (wC (.int 400)))))) (wRet (wC .none)) wNext)
    (wIfS (wTe (wB opEq (wO (wB opIx (wL 3) (wO (wC (.int 0))))) (wO (wC (.str (S [108, 101, 116, 116, 101, 114])))))) (wSet 2 (wB opAdd (wL 2) (wO (wB opIx (wL 3) (wO (wC (.int 1))))))) (wFor (wRg opRange1 (wConsO (wO (wB opIx (wL 3) (wO (wC (.int 2))))) wNilO)) (wGn 4) (wSet 2 (wB opAdd (wL 2) (wO (wB opIx (wL 2) (wO (wB opAdd (wO (wB opIx (wL 3) (wO (wC (.int 1))))) (wL 4)))))))))))
    (wRet (wIf (wTe (wB opLe (wO (wCa opLen (wConsO (wL 2) wNilO))) (wO (wC (.int 400))))) (wN 2) (wC .none))))))
abbrev NDraws : List Str := ["script"]
abbrev NDraw : List Str := ["draws", "limit", "cell", "value"]
abbrev NLWord : List Str := ["draws", "most", "many", "pool", "found", "k", "kind", "part", "one", "at"]
abbrev bLWord : WS := (wSeq (wSet 2 (wB opIx (wO (wLst (wCons (wCall semDraw (wCons (wN 0) (wCons (wC (.int 4)) wNil))) (wCons (wCall semDraw (wCons (wN 0) (wCons (wB opAdd (wL 1) (wO (wC (.int 1)))) wNil))) (wCons (wN 1) wNil))))) (wO (wCa opMin2 (wConsO (wO (wC (.int 2))) (wConsO (wO (wB opDiv (wO (wCall semDraw (wCons (wN 0) (wCons (wC (.int 10)) wNil)))) (wO (wC (.int 4))))) wNilO))))))
    (wSeq (wSet 3 (wB opIx (wO (wLst (wCons (wC (.str (S [97, 98]))) (wCons (wC (.str (S [97]))) (wCons (wC (.str (S [97, 98, 99]))) (wCons (wC (.str (S [97, 98, 99, 100, 101, 102, 103, 104, 105, 106, 107, 108, 109, 110, 111, 112, 113, 114, 115, 116, 117, 118, 119, 120, 121, 122]))) wNil)))))) (wO (wB opMul (wO (wCall semDraw (wCons (wN 0) (wCons (wC (.int 4)) wNil)))) (wO (wCa opInt (wConsO (wO (wB opGt (wO (wCall semDraw (wCons (wN 0) (wCons (wC (.int 3)) wNil)))) (wO (wC (.int 0))))) wNilO)))))))
    (wSeq (wSet 4 (wC (.str (S []))))
    (wSeq (wFor (wRg opRange1 (wConsO (wL 2) wNilO)) (wGn 5) (wSet 4 (wB opAdd (wL 4) (wO (wB opIx (wL 3) (wO (wCall semDraw (wCons (wN 0) (wCons (wCa opLen (wConsO (wL 3) wNilO)) wNil)))))))))
    (wSeq (wSet 6 (wCall semDraw (wCons (wN 0) (wCons (wC (.int 5)) wNil))))
    (wSeq (wIfS (wTe (wB opEq (wL 6) (wO (wC (.int 1))))) (wSeq (wSet 7 (wSl (wL 4) wPn (wPs (wO (wB opAdd (wO (wC (.int 1))) (wO (wCall semDraw (wCons (wN 0) (wCons (wC (.int 6)) wNil)))))))))
    (wSet 4 (wSl (wO (wB opMul (wL 7) (wO (wB opAdd (wO (wC (.int 1))) (wO (wB opDiv (wL 2) (wO (wCa opMax2 (wConsO (wO (wC (.int 1))) (wConsO (wO (wCa opLen (wConsO (wL 7) wNilO))) wNilO)))))))))) wPn (wPs (wL 2))))) (wIfS (wTe (wB opEq (wL 6) (wO (wC (.int 2))))) (wSet 4 (wSl (wO (wB opAdd (wO (wSl (wL 4) wPn (wPs (wO (wB opDiv (wL 2) (wO (wC (.int 2)))))))) (wO (wRev (wO (wSl (wL 4) wPn (wPs (wO (wB opDiv (wL 2) (wO (wC (.int 2)))))))))))) wPn (wPs (wL 2)))) (wIfS (wTe (wB opEq (wL 6) (wO (wC (.int 3))))) (wSeq (wSet 8 (wSl (wL 4) wPn (wPs (wO (wB opDiv (wL 2) (wO (wC (.int 4))))))))
    (wSet 4 (wSl (wO (wB opAdd (wO (wB opAdd (wO (wB opAdd (wL 8) (wO (wRev (wL 8))))) (wO (wSl (wL 4) wPn (wPs (wO (wB opDiv (wL 2) (wO (wC (.int 6)))))))))) (wL 8))) wPn (wPs (wL 2))))) wNext)))
    (wSeq (wIfS (wTAnd (wTe (wB opGt (wL 6) (wO (wC (.int 0))))) (wTAnd (wTe (wB opGt (wO (wCa opLen (wConsO (wL 4) wNilO))) (wO (wC (.int 0))))) (wTe (wB opEq (wO (wCall semDraw (wCons (wN 0) (wCons (wC (.int 2)) wNil)))) (wO (wC (.int 1))))))) (wSeq (wSet 9 (wCall semDraw (wCons (wN 0) (wCons (wCa opLen (wConsO (wL 4) wNilO)) wNil))))
    (wSet 4 (wB opAdd (wO (wB opAdd (wO (wSl (wL 4) wPn (wPs (wL 9)))) (wO (wB opIx (wL 3) (wO (wCall semDraw (wCons (wN 0) (wCons (wCa opLen (wConsO (wL 3) wNilO)) wNil)))))))) (wO (wSl (wL 4) (wPs (wO (wB opAdd (wL 9) (wO (wC (.int 1)))))) wPn))))) wNext)
    (wRetN 4))))))))
abbrev NLSpread : List Str := ["phrases", "apart", "found", "phrase", "k"]
abbrev bLSpread : WS := (wSeq (wSet 2 (wC (.str (S []))))
    (wSeq (wFor (wIt (wN 0)) (wGn 3) (wSeq (wIfS (wTe (wB opEq (wO (wB opIx (wL 3) (wO (wC (.int 0))))) (wO (wC (.str (S [108, 101, 116, 116, 101, 114])))))) (wSet 2 (wB opAdd (wL 2) (wO (wB opIx (wL 3) (wO (wC (.int 1))))))) (wSeq (wIfS (wTOr (wTe (wB opGe (wO (wB opIx (wL 3) (wO (wC (.int 1))))) (wO (wCa opLen (wConsO (wL 2) wNilO))))) (wTOr (wTAnd (wTe (wN 1)) (wTe (wB opGt (wO (wB opAdd (wO (wB opIx (wL 3) (wO (wC (.int 1))))) (wO (wB opIx (wL 3) (wO (wC (.int 2))))))) (wO (wCa opLen (wConsO (wL 2) wNilO)))))) (wTe (wB opGt (wO (wB opIx (wL 3) (wO (wC (.int 2))))) (wO (wC (.int 400))))))) (wRet (wC .none)) wNext)
    (wFor (wRg opRange1 (wConsO (wO (wB opIx (wL 3) (wO (wC (.int 2))))) wNilO)) (wGn 4) (wSet 2 (wB opAdd (wL 2) (wO (wB opIx (wL 2) (wO (wB opAdd (wO (wB opIx (wL 3) (wO (wC (.int 1))))) (wL 4))))))))))
    (wIfS (wTe (wB opGt (wO (wCa opLen (wConsO (wL 2) wNilO))) (wO (wC (.int 400))))) (wRet (wC .none)) wNext)))
    (wRetN 2)))
abbrev NLDrawn : List Str := ["draws", "found", "size", "k", "place", "length"]
abbrev bLDrawn : WS := (wSeq (wSet 1 (wLst (wCons (wTup (wCons (wC (.str (S [108, 101, 116, 116, 101, 114]))) (wCons (wB opIx (wO (wC (.str (S [97, 98, 99])))) (wO (wCall semDraw (wCons (wN 0) (wCons (wC (.int 3)) wNil))))) wNil))) wNil)))
    (wSeq (wSet 2 (wC (.int 1)))
    (wSeq (wFor (wRg opRange1 (wConsO (wO (wCall semDraw (wCons (wN 0) (wCons (wC (.int 9)) wNil)))) wNilO)) (wGn 3) (wIfS (wTe (wB opEq (wO (wCall semDraw (wCons (wN 0) (wCons (wC (.int 3)) wNil)))) (wO (wC (.int 0))))) (wSeq (wDrop (wApp 1 (wTup (wCons (wC (.str (S [108, 101, 116, 116, 101, 114]))) (wCons (wB opIx (wO (wC (.str (S [97, 98, 99])))) (wO (wCall semDraw (wCons (wN 0) (wCons (wC (.int 3)) wNil))))) wNil)))))
    (wSet 2 (wB opAdd (wL 2) (wO (wC (.int 1)))))) (wSeq (wSet 4 (wCall semDraw (wCons (wN 0) (wCons (wB opAdd (wL 2) (wO (wCa opInt (wConsO (wO (wB opEq (wO (wCall semDraw (wCons (wN 0) (wCons (wC (.int 20)) wNil)))) (wO (wC (.int 1))))) wNilO)))) wNil))))
    (wSeq (wSet 5 (wB opAdd (wO (wC (.int 1))) (wO (wB opIx (wO (wLst (wCons (wCall semDraw (wCons (wN 0) (wCons (wIf (wTe (wB opLt (wL 4) (wL 2))) (wB opSub (wL 2) (wL 4)) (wC (.int 1))) wNil))) (wCons (wCall semDraw (wCons (wN 0) (wCons (wC (.int 150)) wNil))) wNil)))) (wO (wCa opInt (wConsO (wO (wB opEq (wO (wCall semDraw (wCons (wN 0) (wCons (wC (.int 5)) wNil)))) (wO (wC (.int 1))))) wNilO)))))))
    (wSeq (wDrop (wApp 1 (wTup (wCons (wC (.str (S [99, 111, 112, 121]))) (wCons (wN 4) (wCons (wN 5) wNil))))))
    (wSet 2 (wB opAdd (wL 2) (wL 5))))))))
    (wRetN 1))))
abbrev NLWrong : List Str := ["draws", "phrases", "odd", "at"]
abbrev bLWrong : WS := (wSeq (wSet 2 (wLst (wCons (wTup (wCons (wC (.str (S [108, 101, 116, 116, 101, 114]))) (wCons (wC (.str (S [97, 98]))) wNil))) (wCons (wTup (wCons (wC (.str (S [108, 101, 116, 116, 101, 114]))) (wCons (wC (.str (S []))) wNil))) (wCons (wTup (wCons (wC (.str (S [108, 101, 116, 116, 101, 114]))) (wCons (wC (.str (S [65]))) wNil))) (wCons (wTup (wCons (wC (.str (S [108, 101, 116, 116, 101, 114]))) wNil)) (wCons (wTup (wCons (wC (.str (S [99, 111, 112, 121]))) (wCons (wC (.int 0)) wNil))) (wCons (wTup (wCons (wC (.str (S [99, 111, 112, 121]))) (wCons (wNeg (wO (wC (.int 1)))) (wCons (wC (.int 1)) wNil)))) (wCons (wTup (wCons (wC (.str (S [99, 111, 112, 121]))) (wCons (wC (.bool true)) (wCons (wC (.int 1)) wNil)))) (wCons (wTup (wCons (wC (.str (S [99, 111, 112, 121]))) (wCons (wC (.int 0)) (wCons (wC (.int 0)) wNil)))) (wCons (wTup (wCons (wC (.str (S [99, 111, 112, 121]))) (wCons (wC (.int 0)) (wCons (wC (.bool true)) wNil)))) wNil)))))))))))
    (wSeq (wSet 2 (wB opAdd (wL 2) (wO (wLst (wCons (wTup (wCons (wC (.str (S [99, 111, 112, 105, 101, 100]))) (wCons (wC (.int 0)) (wCons (wC (.int 1)) wNil)))) (wCons (wC .none) (wCons (wC (.int 7)) (wCons (wLst wNil) (wCons (wTup (wCons (wC (.str (S [99, 111, 112, 121]))) (wCons (wC (.int 0)) (wCons (wC (.int 1)) (wCons (wC (.int 1)) wNil))))) (wCons (wC (.str (S [97]))) (wCons (wTup (wCons (wC (.str (S [99, 111, 112, 121]))) (wCons (wC (.str (S [48]))) (wCons (wC (.int 1)) wNil)))) (wCons (wTup (wCons (wC (.str (S [108, 101, 116, 116, 101, 114]))) (wCons (wC (.int 1)) wNil))) (wCons (wTup wNil) (wCons (wTup (wCons (wC (.str (S [99, 111, 112, 121]))) (wCons (wC (.int 0)) (wCons (wNeg (wO (wC (.int 3)))) wNil)))) wNil))))))))))))))
    (wSeq (wSet 3 (wCall semDraw (wCons (wN 0) (wCons (wB opAdd (wO (wCa opLen (wConsO (wL 1) wNilO))) (wO (wC (.int 1)))) wNil))))
    (wRet (wCa opTuple (wConsO (wO (wB opAdd (wO (wB opAdd (wO (wSl (wL 1) wPn (wPs (wL 3)))) (wO (wLst (wCons (wB opIx (wL 2) (wO (wCall semDraw (wCons (wN 0) (wCons (wCa opLen (wConsO (wL 2) wNilO)) wNil))))) wNil))))) (wO (wSl (wL 1) (wPs (wL 3)) wPn)))) wNilO))))))
abbrev NStartsOf : List Str := ["phrases", "found", "phrase"]
abbrev bStartsOf : WS := (wSeq (wSet 1 (wLst (wCons (wC (.int 0)) wNil)))
    (wSeq (wFor (wIt (wN 0)) (wGn 2) (wDrop (wApp 1 (wB opAdd (wO (wB opIx (wL 1) (wO (wNeg (wO (wC (.int 1))))))) (wO (wIf (wTe (wB opEq (wO (wB opIx (wL 2) (wO (wC (.int 0))))) (wO (wC (.str (S [108, 101, 116, 116, 101, 114])))))) (wC (.int 1)) (wB opIx (wL 2) (wO (wC (.int 2))))))))))
    (wRetN 1)))
abbrev NLetterAt : List Str := ["phrases", "place", "starts", "at"]
abbrev bLetterAt : WS := (wSeq (wSet 2 (wCall semStartsOf (wCons (wN 0) wNil)))
    (wSeq (wIfS (wTNot (wTe (wCall semIsPlace (wCons (wN 1) (wCons (wC (.int 0)) (wCons (wB opSub (wO (wB opIx (wL 2) (wO (wNeg (wO (wC (.int 1))))))) (wO (wC (.int 1)))) wNil)))))) (wRaiseW "Refused" (wC (.str (S [112, 108, 97, 99, 101])))) wNext)
    (wSeq (wSet 3 (wB opSub (wO (wCa opLen (wConsO (wL 0) wNilO))) (wO (wC (.int 1)))))
    (wWhile (wTe (wC (.bool true))) (wSeq (wWhile (wTe (wB opGt (wO (wB opIx (wL 2) (wL 3))) (wL 1))) (wAug 3 opSub (wO (wC (.int 1)))))
    (wSeq (wIfS (wTe (wB opEq (wO (wB opIx (wO (wB opIx (wL 0) (wL 3))) (wO (wC (.int 0))))) (wO (wC (.str (S [108, 101, 116, 116, 101, 114])))))) (wRet (wB opIx (wO (wB opIx (wL 0) (wL 3))) (wO (wC (.int 1))))) wNext)
    (wSet 1 (wB opAdd (wO (wB opIx (wO (wB opIx (wL 0) (wL 3))) (wO (wC (.int 1))))) (wO (wB opSub (wL 1) (wO (wB opIx (wL 2) (wL 3)))))))))))))
abbrev NLLetter : List Str := ["phrases", "place", "e"]
abbrev bLLetter : WS := (wTry (wRet (wCallX semLetterAt (wCons (wN 0) (wCons (wN 1) wNil)))) 2 (wsWord (S [112, 108, 97, 99, 101]) (.int 7) .none))
abbrev NLCopy : List Str := ["word", "at", "apart", "best", "length", "text", "place"]
abbrev bLCopy : WS := (wSeq (wSet 3 (wLst (wCons (wC (.int 0)) (wCons (wC (.int 0)) wNil))))
    (wSeq (wFor (wRg opRange3 (wConsO (wO (wB opSub (wO (wCa opLen (wConsO (wL 0) wNilO))) (wL 1))) (wConsO (wO (wC (.int 0))) (wConsO (wO (wNeg (wO (wC (.int 1))))) wNilO)))) (wGn 4) (wSeq (wSet 5 (wSl (wL 0) wPn (wPs (wO (wB opSub (wO (wB opAdd (wL 1) (wL 4))) (wO (wC (.int 1))))))))
    (wSeq (wIfS (wTe (wN 2)) (wSet 5 (wSl (wL 0) wPn (wPs (wL 1)))) wNext)
    (wSeq (wSet 6 (wMt "str" opFind (wL 5) (wConsO (wO (wSl (wL 0) (wPs (wL 1)) (wPs (wO (wB opAdd (wL 1) (wL 4)))))) wNilO)))
    (wIfS (wTAnd (wTe (wB opGe (wL 6) (wO (wC (.int 0))))) (wTe (wB opEq (wO (wB opIx (wL 3) (wO (wC (.int 0))))) (wO (wC (.int 0)))))) (wSet 3 (wLst (wCons (wN 4) (wCons (wN 6) wNil)))) wNext)))))
    (wRetN 3)))
abbrev NLPhrases : List Str := ["word", "apart", "found", "at", "turn", "length", "place"]
abbrev bLPhrases : WS := (wSeq (wSet 2 (wLst wNil))
    (wSeq (wSet 3 (wC (.int 0)))
    (wSeq (wFor (wRg opRange1 (wConsO (wO (wCa opLen (wConsO (wL 0) wNilO))) wNilO)) (wGn 4) (wIfS (wTe (wB opLt (wL 3) (wO (wCa opLen (wConsO (wL 0) wNilO))))) (wSeq (wAsg (wCall semLCopy (wCons (wN 0) (wCons (wN 3) (wCons (wN 1) wNil)))) (wGl 2 (wGcons (wGn 5) (wGcons (wGn 6) wGnil))))
    (wSeq (wIfS (wTe (wB opEq (wL 5) (wO (wC (.int 0))))) (wDrop (wApp 2 (wTup (wCons (wC (.str (S [108, 101, 116, 116, 101, 114]))) (wCons (wB opIx (wL 0) (wL 3)) wNil))))) (wDrop (wApp 2 (wTup (wCons (wC (.str (S [99, 111, 112, 121]))) (wCons (wN 6) (wCons (wN 5) wNil)))))))
    (wSet 3 (wB opAdd (wL 3) (wO (wCa opMax2 (wConsO (wO (wC (.int 1))) (wConsO (wL 5) wNilO)))))))) wNext))
    (wRet (wCa opTuple (wConsO (wL 2) wNilO))))))
abbrev NLFewest : List Str := ["word", "apart", "best", "at", "most", "size"]
abbrev bLFewest : WS := (wSeq (wSet 2 (wB opMul (wO (wLst (wCons (wC (.int 0)) wNil))) (wO (wB opAdd (wO (wCa opLen (wConsO (wL 0) wNilO))) (wO (wC (.int 1)))))))
    (wSeq (wFor (wRg opRange3 (wConsO (wO (wB opSub (wO (wCa opLen (wConsO (wL 0) wNilO))) (wO (wC (.int 1))))) (wConsO (wO (wNeg (wO (wC (.int 1))))) (wConsO (wO (wNeg (wO (wC (.int 1))))) wNilO)))) (wGn 3) (wSeq (wSet 4 (wCa opMax2 (wConsO (wO (wC (.int 1))) (wConsO (wO (wB opIx (wO (wCall semLCopy (wCons (wN 0) (wCons (wN 3) (wCons (wN 1) wNil))))) (wO (wC (.int 0))))) wNilO))))
    (wSetIx 2 (wB opAdd (wO (wC (.int 1))) (wO (wCa opMinL (wConsO (wO (wLc (wRg opRange2 (wConsO (wO (wC (.int 1))) (wConsO (wO (wB opAdd (wL 4) (wO (wC (.int 1))))) wNilO))) (wGn 5) wYes (wB opIx (wL 2) (wO (wB opAdd (wL 3) (wL 5)))) [5])) wNilO)))) (wL 3))))
    (wRet (wB opIx (wL 2) (wO (wC (.int 0)))))))
abbrev NLHolds : List Str := ["draws", "word", "apart", "due", "turn", "told", "k", "place", "phrase"]
abbrev bLHolds : WS := (wSeq (wSet 3 (wCall semLPhrases (wCons (wN 1) (wCons (wN 2) wNil))))
    (wSeq (wFor (wRg opRange1 (wConsO (wO (wC (.int 2))) wNilO)) (wGn 4) (wSeq (wSet 5 (wCall semShortened (wCons (wN 1) (wCons (wN 2) wNil))))
    (wSeq (wIfS (wTOr (wTNot (wTe (wIsi "tuple" (wL 5)))) (wTOr (wTe (wB opNe (wL 5) (wL 3))) (wTe (wCa opAny (wConsO (wO (wLc (wIt (wN 5)) (wGn 8) wYes (wIsi "bool" (wO (wB opIx (wL 8) (wO (wC (.int 1)))))) [8])) wNilO))))) (wRet (wC (.bool false))) wNext)
    (wIfS (wTOr (wTe (wB opNe (wO (wCall semSpread (wCons (wN 3) (wCons (wN 2) wNil)))) (wL 1))) (wTe (wB opNe (wO (wCa opLen (wConsO (wL 3) wNilO))) (wO (wCall semLFewest (wCons (wN 1) (wCons (wN 2) wNil))))))) (wRet (wC (.bool false))) wNext))))
    (wSeq (wFor (wRg opRange1 (wConsO (wO (wC (.int 8))) wNilO)) (wGn 6) (wSeq (wSet 7 (wCall semDraw (wCons (wN 0) (wCons (wB opAdd (wO (wCa opLen (wConsO (wL 1) wNilO))) (wO (wC (.int 1)))) wNil))))
    (wIfS (wTAnd (wTe (wB opLt (wL 7) (wO (wCa opLen (wConsO (wL 1) wNilO))))) (wTe (wB opNe (wO (wCall semLLetter (wCons (wN 3) (wCons (wN 7) wNil)))) (wO (wB opIx (wL 1) (wL 7)))))) (wRet (wC (.bool false))) wNext)))
    (wRet (wCa opAll (wConsO (wO (wLc (wIt (wLst (wCons (wCa opLen (wConsO (wL 1) wNilO)) (wCons (wNeg (wO (wC (.int 1)))) (wCons (wC (.str (S [48]))) (wCons (wC .none) wNil)))))) (wGn 7) wYes (wB opEq (wO (wCall semLLetter (wCons (wN 3) (wCons (wN 7) wNil)))) (wO (wC (.int 7)))) [7])) wNilO))))))
abbrev NLaw : List Str := ["script", "draws", "turn", "word", "phrases", "apart", "due", "k"]
abbrev bLaw : WS := (wSeq (wFor (wRg opRange1 (wConsO (wO (wC (.int 3))) wNilO)) (wGn 2) (wSeq (wSet 3 (wCall semLWord (wCons (wN 1) (wCons (wC (.int 60)) wNil))))
    (wSeq (wIfS (wTOr (wTNot (wTe (wCall semLHolds (wCons (wN 1) (wCons (wN 3) (wCons (wC (.bool true)) wNil)))))) (wTNot (wTe (wCall semLHolds (wCons (wN 1) (wCons (wN 3) (wCons (wC (.bool false)) wNil))))))) (wRet (wC (.bool false))) wNext)
    (wSeq (wSet 4 (wCall semLDrawn (wCons (wN 1) wNil)))
    (wFor (wIt (wLst (wCons (wC (.bool true)) (wCons (wC (.bool false)) wNil)))) (wGn 5) (wSeq (wSet 6 (wCall semLSpread (wCons (wN 4) (wCons (wN 5) wNil))))
    (wSeq (wIfS (wTOr (wTe (wB opNe (wO (wCall semSpread (wCons (wCa opTuple (wConsO (wL 4) wNilO)) (wCons (wN 5) wNil)))) (wL 6))) (wTOr (wTe (wB opIsNot (wO (wCall semSpread (wCons (wCall semLWrong (wCons (wN 1) (wCons (wN 4) wNil))) (wCons (wN 5) wNil)))) (wO (wC .none)))) (wTe (wB opIsNot (wO (wCall semSpread (wCons (wN 4) (wCons (wN 5) wNil)))) (wO (wC .none)))))) (wRet (wC (.bool false))) wNext)
    (wIfS (wTAnd (wTe (wB opIsNot (wL 6) (wO (wC .none)))) (wTNot (wTe (wCa opAll (wConsO (wO (wLc (wRg opRangeS (wConsO (wO (wC (.int 0))) (wConsO (wO (wCa opLen (wConsO (wL 6) wNilO))) (wConsO (wO (wC (.int 7))) wNilO)))) (wGn 7) wYes (wB opEq (wO (wCall semLLetter (wCons (wCa opTuple (wConsO (wL 4) wNilO)) (wCons (wN 7) wNil)))) (wO (wB opIx (wL 6) (wL 7)))) [7])) wNilO))))) (wRet (wC (.bool false))) wNext))))))))
    (wRet (wAnd (wB opEq (wO (wCall semSpread (wCons (wTup wNil) (wCons (wC (.bool true)) wNil)))) (wO (wC (.str (S []))))) (wAnd (wB opIs (wO (wCall semSpread (wCons (wC .none) (wCons (wC (.bool false)) wNil)))) (wO (wC .none))) (wB opEq (wO (wCall semShortened (wCons (wC (.str (S []))) (wCons (wC (.bool false)) wNil)))) (wO (wTup wNil)))))))
end K46

namespace K46
open PySem PySem.Spec PyProof.Rows L2 TL PL
theorem W.nil : W [] := fun _ h => by cases h
theorem W.lt {a : List Nat} (h : W a) : ∀ c ∈ a, c < 1114112 := fun c hc => by have := h c hc; omega
theorem W.app {a b : List Nat} (h : W a) (h' : W b) : W (a ++ b) := fun c hc => (List.mem_append.mp hc).elim (h c) (h' c)
theorem W.cut {a : List Nat} {lo hi : Option Int} (h : W a) : W (cutL a lo hi) := fun c hc => h c (mem_cutL hc)
theorem W.rev {a : List Nat} (h : W a) : W a.reverse := fun c hc => h c (List.mem_reverse.mp hc)
theorem W.rep {a : List Nat} (h : W a) (n : Nat) : W (List.replicate n a).flatten := fun c hc => by
  obtain ⟨x, hx, hc⟩ := List.mem_flatten.mp hc
  rw [List.eq_of_mem_replicate hx] at hc
  exact h c hc
theorem W.one {c : Nat} {a : List Nat} (h : W a) (hc : c ∈ a) : W [c] := fun d hd => by
  rw [List.mem_singleton.mp hd]; exact h c hc
theorem lawLWord : ∀ as q, semLWord as q → bLWord (envOf NLWord as) (endsOf q) := by
  rintro _ q ⟨n, rfl, hn3, hn, hq⟩
  refine ⟨4, rfl, by decide, by decide, fun v1 a1 b1 => ?_⟩
  refine ⟨trivial, n + 1, rfl, by omega, by omega, fun v2 a2 b2 => ?_⟩
  refine ⟨by show 3 ≤ sizeLine; decide, 10, rfl, by decide, by decide, fun v3 a3 b3 => ⟨by decide, ?_⟩⟩
  have hm : ∃ m : Int, atI [PyData.int v1, .int v2, .int n] (if v3 / 4 < 2 then v3 / 4 else 2) = some (.int m) ∧ 0 ≤ m ∧ m ≤ n := by
    have : v3 / 4 = 0 ∨ v3 / 4 = 1 ∨ v3 / 4 = 2 := by omega
    rcases this with e | e | e <;> rw [e]
    · exact ⟨v1, rfl, a1, by omega⟩
    · exact ⟨v2, rfl, a2, by omega⟩
    · exact ⟨n, rfl, by omega, Int.le_refl n⟩
  obtain ⟨m, hm, hm0, hmn⟩ := hm
  refine ⟨.int m, hm, ?_⟩
  refine ⟨by show 4 ≤ sizeLine; decide, 4, rfl, by decide, by decide, fun v4 a4 b4 => ?_⟩
  refine ⟨3, rfl, by decide, by decide, fun v5 a5 b5 => ?_⟩
  have hp : ∃ p : List Nat, atI [sD [97, 98], sD [97], sD [97, 98, 99], sD [97, 98, 99, 100, 101, 102, 103, 104, 105, 106, 107, 108, 109, 110, 111, 112, 113, 114, 115, 116, 117, 118, 119, 120, 121, 122]] (v4 * (if decide (0 < v5) = true then 1 else 0)) = some (sD p) ∧ W p ∧ 0 < p.length ∧ p.length ≤ 26 := by
    have hw : ∀ p : List Nat, p.all (fun c => decide (97 ≤ c ∧ c ≤ 122)) = true → W p := fun p h c hc => of_decide_eq_true (List.all_eq_true.mp h c hc)
    have e0 : atI [sD [97, 98], sD [97], sD [97, 98, 99], sD [97, 98, 99, 100, 101, 102, 103, 104, 105, 106, 107, 108, 109, 110, 111, 112, 113, 114, 115, 116, 117, 118, 119, 120, 121, 122]] 0 = some (sD [97, 98]) := rfl
    by_cases h : 0 < v5
    · rw [decide_eq_true h, if_pos rfl, Int.mul_one]
      have : v4 = 0 ∨ v4 = 1 ∨ v4 = 2 ∨ v4 = 3 := by omega
      rcases this with e | e | e | e <;> subst e <;> exact ⟨_, rfl, hw _ (by decide), by decide, by decide⟩
    · rw [decide_eq_false h, if_neg (by decide), Int.mul_zero]
      exact ⟨_, rfl, hw _ (by decide), by decide, by decide⟩
  obtain ⟨p, hp, hpw, hp0, hp26⟩ := hp
  refine ⟨.inl ⟨by omega, by omega⟩, sD p, hp, ?_⟩
  have hmm : m < 2 ^ 62 := by omega
  refine ⟨trivial, ⟨by omega, hmm⟩, ?_⟩
  refine for_rng (fun i env => ∃ (f : List Nat) (x : Option Rv), env = [some .dr, some (.val (.int n)), some (.val (.int m)), some (.val (sD p)), some (.val (sD f)), x, none, none, none, none] ∧ W f ∧ f.length = i) (fun env h => ?_) (fun i env hi h nx hnx => ?_) _ ⟨[], none, rfl, W.nil, rfl⟩
  rotate_left
  · obtain ⟨f, x, rfl, hf, hl⟩ := h
    have e1 : (S p).length = p.length := S_len p
    refine ⟨trivial, trivial, trivial, small 26 (by rw [e1]; exact hp26), _, rfl, by rw [e1]; omega, by rw [e1]; omega, fun v v1 v2 => ?_⟩
    rw [e1] at v2
    have hv : v.toNat < p.length := by omega
    refine ⟨small 26 (by rw [e1]; exact hp26), p[v.toNat], atI_ok v1 (List.getElem?_eq_getElem hv), ?_⟩
    refine ⟨small 100001 (by rw [S_len, S_len, hl]; show i + 1 ≤ 100001; omega), ?_⟩
    rw [S_app]
    refine hnx _ ⟨f ++ [p[v.toNat]], _, rfl, hf.app (hpw.one (List.getElem_mem hv)), by rw [List.length_append, hl]; rfl⟩
  · obtain ⟨f, x, rfl, hf, hl⟩ := h
    refine ⟨5, rfl, by decide, by decide, fun kd k1 k2 => ?_⟩
    have hfn : f.length ≤ n.toNat := by omega
    have hfs : (S f).length ≤ sizeLine := small 100000 (by rw [S_len]; omega)
    have ht : ∀ {a : List Nat}, (a.take m.toNat).length ≤ n.toNat := fun {a} => by rw [List.length_take]; omega
    have hc : ∀ {j : Int}, 0 ≤ j → (cutL f none (some j)).length ≤ 100000 := fun {j} hj => by rw [cutL_to f hj, List.length_take]; omega
    dsimp only [Rv.sl]
    refine seq_mid (fun env => ∃ (f : List Nat) (x5 x7 x8 : Option Rv), env = [some .dr, some (.val (.int n)), some (.val (.int m)), some (.val (sD p)), some (.val (sD f)), x5, some (.val (.int kd)), x7, x8, none] ∧ W f ∧ f.length ≤ n.toNat) (fun nx hnx => ?_) (fun env h => ?_)
    · refine ⟨trivial, .inl ⟨rfl, rfl⟩, ?_⟩
      refine ite2 (fun _ => ?_) (fun _ => ?_)
      · refine ⟨trivial, 6, rfl, by decide, by decide, fun v v1 v2 => ?_⟩
        refine ⟨hfs, ?_⟩
        rw [S_cps]
        have hp6 : (cutL f none (some (1 + v))).length ≤ 6 := by rw [cutL_to f (by omega), List.length_take]; omega
        generalize hpa : cutL f none (some (1 + v)) = pa at hp6
        have hpaw : W pa := by rw [← hpa]; exact hf.cut
        refine ⟨trivial, trivial, trivial, small 6 (by rw [S_len]; exact hp6), ?_⟩
        refine ⟨by rw [S_len]; split <;> omega, ?_⟩
        rw [S_len]
        have hd0 : 0 ≤ m / (if (pa.length : Int) > 1 then (pa.length : Int) else 1) := Int.ediv_nonneg hm0 (by split <;> omega)
        have hd : m / (if (pa.length : Int) > 1 then (pa.length : Int) else 1) ≤ m := Int.ediv_le_self _ hm0
        refine ⟨⟨by omega, ?_, by omega⟩, trivial, ?_, ?_⟩
        · rw [S_len]
          exact Nat.le_trans (Nat.mul_le_mul hp6 (show _ ≤ 100001 by omega)) (by decide)
        · rw [S_len, List.length_flatten, List.map_replicate, List.sum_replicate_nat, S_cps]
          exact small 600006 (Nat.le_trans (Nat.mul_le_mul (show _ ≤ 100001 by omega) hp6) (by decide))
        · rw [S_cps, S_cps, cutL_to _ hm0]
          exact hnx _ ⟨_, _, _, _, rfl, fun c hc => hpaw.rep _ c (List.mem_of_mem_take hc), ht⟩
      refine ⟨trivial, .inl ⟨rfl, rfl⟩, ?_⟩
      refine ite2 (fun _ => ?_) (fun _ => ?_)
      · have h2 : 0 ≤ m / 2 := by omega
        refine ⟨trivial, trivial, by decide, hfs, trivial, trivial, by decide, hfs, by rw [S_len]; exact small 100000 (hc h2), ?_⟩
        rw [S_cps, S_cps]
        refine ⟨by rw [S_len, S_len, List.length_reverse]; exact small 200000 (by have := hc h2; omega), trivial, ?_⟩
        rw [S_app]
        refine ⟨by rw [S_len, List.length_append, List.length_reverse]; exact small 200000 (by have := hc h2; omega), ?_⟩
        rw [S_cps, cutL_to _ hm0]
        exact hnx _ ⟨_, _, _, _, rfl, fun c hc => (hf.cut.app hf.cut.rev) c (List.mem_of_mem_take hc), ht⟩
      refine ⟨trivial, .inl ⟨rfl, rfl⟩, ?_⟩
      refine ite2 (fun _ => ?_) (fun _ => ?_)
      · have h4 : 0 ≤ m / 4 := by omega
        have h6 : 0 ≤ m / 6 := by omega
        refine ⟨trivial, trivial, by decide, hfs, ?_⟩
        rw [S_cps]
        have ho := hc h4
        have how : W (cutL f none (some (m / 4))) := hf.cut
        generalize cutL f none (some (m / 4)) = one at ho how
        refine ⟨trivial, trivial, by rw [S_len]; exact small 100000 ho, by rw [S_len, S_len, List.length_reverse]; exact small 200000 (by rw [S_cps]; omega), ?_⟩
        rw [S_app, S_cps]
        have h6l := hc h6
        have h6w : W (cutL f none (some (m / 6))) := hf.cut
        refine ⟨trivial, trivial, by decide, hfs, ?_⟩
        rw [S_cps]
        generalize cutL f none (some (m / 6)) = sx at h6l h6w
        refine ⟨by rw [S_len, S_len, List.length_append, List.length_reverse]; exact small 300000 (by omega), trivial, ?_⟩
        rw [S_app]
        refine ⟨by rw [S_len, S_len, List.length_append, List.length_append, List.length_reverse]; exact small 400000 (by omega), trivial, ?_⟩
        rw [S_app]
        refine ⟨by rw [S_len, List.length_append, List.length_append, List.length_append, List.length_reverse]; exact small 400000 (by omega), ?_⟩
        rw [S_cps, cutL_to _ hm0]
        exact hnx _ ⟨_, _, _, _, rfl, fun c hc => (((how.app how.rev).app h6w).app how) c (List.mem_of_mem_take hc), ht⟩
      · exact hnx _ ⟨f, _, _, _, rfl, hf, hfn⟩
    · obtain ⟨f, x5, x7, x8, rfl, hf, hfn⟩ := h
      have e1 : (S p).length = p.length := S_len p
      have hfs : (S f).length ≤ sizeLine := small 100000 (by rw [S_len]; omega)
      refine ⟨trivial, ?_⟩
      refine ite2 (fun _ => ?_) (fun _ => ⟨trivial, hq f hf hfn⟩)
      refine ⟨trivial, hfs, ?_⟩
      refine ite2 (fun h => ?_) (fun _ => ⟨trivial, hq f hf hfn⟩)
      have hf0 : 0 < (((S f).length : Nat) : Int) := of_decide_eq_true h
      refine ⟨2, rfl, by decide, by decide, fun w w1 w2 => ⟨.inl ⟨rfl, rfl⟩, ?_⟩⟩
      refine ite2 (fun _ => ?_) (fun _ => ⟨trivial, hq f hf hfn⟩)
      refine ⟨trivial, hfs, _, rfl, hf0, by rw [S_len]; omega, fun a a1 a2 => ?_⟩
      rw [S_len] at a2
      have ha : a.toNat < f.length := by omega
      refine ⟨trivial, trivial, hfs, trivial, trivial, small 26 (by rw [e1]; exact hp26), _, rfl, by rw [e1]; omega, by rw [e1]; omega, fun v v1 v2 => ?_⟩
      rw [e1] at v2
      have hv : v.toNat < p.length := by omega
      have l1 : (cutL f none (some a)).length = a.toNat := by rw [cutL_to f a1, List.length_take]; omega
      have l2 : (cutL f (some (a + 1)) none).length = f.length - (a.toNat + 1) := by rw [cutL_from f (by omega), List.length_drop]; omega
      refine ⟨small 26 (by rw [e1]; exact hp26), p[v.toNat], atI_ok v1 (List.getElem?_eq_getElem hv), ?_⟩
      refine ⟨by rw [S_len, S_len, S_cps, l1]; exact small 100001 (by show a.toNat + 1 ≤ 100001; omega), trivial, trivial, hfs, ?_⟩
      rw [S_app, S_cps]
      refine ⟨by rw [S_len, S_len, List.length_append, l1, l2]; exact small 200001 (by show a.toNat + 1 + _ ≤ 200001; omega), ?_⟩
      rw [S_app]
      refine ⟨trivial, hq _ ((hf.cut.app (hpw.one (List.getElem_mem hv))).app hf.cut) ?_⟩
      rw [List.length_append, List.length_append, l1, l2]
      show a.toNat + 1 + _ ≤ n.toNat
      omega
end K46

namespace K46
open PySem PySem.Spec PyProof.Rows L2 TL PL
theorem lawIsPlace : ∀ as q, semIsPlace as q → bIsPlace (envOf NIsPlace as) (endsOf q) := by
  rintro _ q ⟨d, lo, hi, rfl, hd, hq⟩
  refine ⟨trivial, hd, ?_⟩
  rw [isTy_int]
  cases d with
  | int i =>
    refine ⟨trivial, hd, ?_⟩
    rw [isTy_bool]
    refine ⟨trivial, trivial, ?_⟩
    refine ite2 (fun h => ?_) (fun h => ?_)
    · refine ⟨trivial, trivial, ?_⟩
      have hq : q (.val (.bool (decide (lo ≤ i) && decide (i ≤ hi)))) := hq
      rw [show decide (lo ≤ i) = true from h, Bool.true_and] at hq
      exact hq
    · refine ⟨trivial, ?_⟩
      have hq : q (.val (.bool (decide (lo ≤ i) && decide (i ≤ hi)))) := hq
      rw [show decide (lo ≤ i) = false from Bool.not_eq_true _ ▸ h, Bool.false_and] at hq
      exact hq
  | bool b =>
    refine ⟨trivial, hd, ?_⟩
    rw [isTy_bool]
    exact ⟨trivial, hq⟩
  | _ => exact ⟨trivial, hq⟩
theorem letters_mem (c : Nat) : (c ∈ [97, 98, 99, 100, 101, 102, 103, 104, 105, 106, 107, 108, 109, 110, 111, 112, 113, 114, 115, 116, 117, 118, 119, 120, 121, 122]) ↔ 97 ≤ c ∧ c ≤ 122 := by
  simp only [List.mem_cons, List.not_mem_nil, or_false]; omega
theorem lawIsLetter : ∀ as q, semIsLetter as q → bIsLetter (envOf NIsLetter as) (endsOf q) := by
  rintro _ q ⟨d, rfl, hd, hs, hq⟩
  refine ⟨trivial, hd, ?_⟩
  rw [isTy_str]
  cases d with
  | str s =>
    refine ⟨trivial, hs s rfl, .inl ⟨rfl, rfl⟩, ?_⟩
    obtain ⟨l, rfl⟩ : ∃ l, s = S l := ⟨s.cps.toList, (S_tl s).symm⟩
    rw [S_len]
    refine ite2 (fun h => ?_) (fun h => ?_)
    · have h1 : l.length = 1 := by
        have : ((l.length : Int) == 1) = true := h
        have := eq_of_beq this
        omega
      obtain ⟨c, rfl⟩ := List.length_eq_one_iff.mp h1
      refine ⟨trivial, c, rfl, trivial, ?_⟩
      have e : decide (c ∈ (S [97, 98, 99, 100, 101, 102, 103, 104, 105, 106, 107, 108, 109, 110, 111, 112, 113, 114, 115, 116, 117, 118, 119, 120, 121, 122]).cps.toList) = letB [c] := by
        rw [S_cps]; unfold letB
        rw [decide_eq_decide.mpr (letters_mem c), Bool.decide_and]
      show q _
      rw [e]; exact hq
    · refine ⟨trivial, ?_⟩
      have h1 : l.length ≠ 1 := fun e => h (by rw [e]; rfl)
      have e : letB l = false := by
        match l, h1 with
        | [], _ => rfl
        | [_], h => exact absurd rfl h
        | _ :: _ :: _, _ => rfl
      have hq : q (.val (.bool (letB l))) := hq
      rw [e] at hq
      exact hq
  | _ => exact ⟨trivial, hq⟩
end K46

namespace K46
open PySem PySem.Spec PyProof.Rows L2 TL PL
theorem Copy.le {l : List Nat} {n p L L' : Nat} {ap : Bool} (h : Copy l n ap p L) (hl : L' ≤ L) : Copy l n ap p L' :=
  ⟨h.1, by have := h.2.1; omega, fun z => by have := h.2.2.1 z; omega, fun j hj => h.2.2.2 j (by omega)⟩
theorem IsCopy.uniq {l : List Nat} {n p L p' L' : Nat} {ap : Bool} (h : IsCopy l n ap p L) (h' : IsCopy l n ap p' L') : p = p' ∧ L = L' := by
  rcases h with ⟨rfl, rfl, h⟩ | ⟨h1, h2, h3, h4⟩ <;> rcases h' with ⟨rfl, rfl, h'⟩ | ⟨g1, g2, g3, g4⟩
  · exact ⟨rfl, rfl⟩
  · exact absurd (g2.le (by omega)) (h p')
  · exact absurd (h2.le (by omega)) (h' p)
  · have e : L = L' := by
      rcases Nat.lt_trichotomy L L' with q | q | q
      · exact absurd g2 (h3 p' L' q)
      · exact q
      · exact absurd h2 (g3 p L q)
    subst e
    refine ⟨?_, rfl⟩
    rcases Nat.lt_trichotomy p p' with q | q | q
    · exact absurd h2 (g4 p q)
    · exact q
    · exact absurd g2 (h4 p' q)
/-- the best of the places below i -/
def Best (l : List Nat) (n : Nat) (ap : Bool) (i p L : Nat) : Prop :=
  (L = 0 ∧ p = 0 ∧ ∀ p', p' < i → ¬ Copy l n ap p' 1) ∨ (0 < L ∧ Copy l n ap p L ∧ p < i ∧ (∀ p' L', p' < i → L < L' → ¬ Copy l n ap p' L') ∧ ∀ p', p' < p → ¬ Copy l n ap p' L)
theorem Best.done {l : List Nat} {n p L : Nat} {ap : Bool} (h : Best l n ap n p L) : IsCopy l n ap p L := by
  rcases h with ⟨h1, h2, h3⟩ | ⟨h1, h2, h3, h4, h5⟩
  · exact .inl ⟨h1, h2, fun p' c => h3 p' c.1 c⟩
  · exact .inr ⟨h1, h2, fun p' L' hl c => h4 p' L' c.1 hl c, h5⟩
theorem Best.step {l : List Nat} {n i p L M : Nat} {ap : Bool} (h : Best l n ap i p L) (hc : Copy l n ap i M) (hm : ∀ L', Copy l n ap i L' → L' ≤ M) : if L < M then Best l n ap (i + 1) i M else Best l n ap (i + 1) p L := by
  split
  · rename_i hlt
    refine .inr ⟨by omega, hc, by omega, fun p' L' hp hl c => ?_, fun p' hp c => ?_⟩
    · rcases Nat.lt_or_ge p' i with q | q
      · rcases h with ⟨h1, h2, h3⟩ | ⟨h1, h2, h3, h4, h5⟩
        · exact h3 p' q (c.le (by omega))
        · exact h4 p' L' q (by omega) c
      · have : p' = i := by omega
        subst this
        have := hm L' c; omega
    · rcases h with ⟨h1, h2, h3⟩ | ⟨h1, h2, h3, h4, h5⟩
      · exact h3 p' hp (c.le (by omega))
      · exact h4 p' M hp hlt c
  · rename_i hlt
    rcases h with ⟨h1, h2, h3⟩ | ⟨h1, h2, h3, h4, h5⟩
    · refine .inl ⟨h1, h2, fun p' hp c => ?_⟩
      rcases Nat.lt_or_ge p' i with q | q
      · exact h3 p' q c
      · have : p' = i := by omega
        subst this
        have := hm 1 c; omega
    · refine .inr ⟨h1, h2, by omega, fun p' L' hp hl c => ?_, h5⟩
      rcases Nat.lt_or_ge p' i with q | q
      · exact h4 p' L' q hl c
      · have : p' = i := by omega
        subst this
        have := hm L' c; omega
abbrev bLC1 : WS := (wSeq (wWhile (wTAnd (wTe (wB opLt (wL 5) (wL 6))) (wTe (wB opEq (wO (wB opIx (wL 0) (wO (wB opAdd (wL 4) (wL 5))))) (wO (wB opIx (wL 0) (wO (wB opAdd (wL 1) (wL 5)))))))) (wAug 5 opAddI (wO (wC (.int 1)))))
    (wIfS (wTe (wB opGt (wL 5) (wO (wB opIx (wL 3) (wO (wC (.int 1))))))) (wSet 3 (wTup (wCons (wN 4) (wCons (wN 5) wNil)))) wNext))
theorem lc_rest {l : List Nat} {n i p L M : Nat} {ap : Bool} {mv iv : Int} {E : EndsP} (hn : n < l.length) (hl : l.length ≤ 1000) (hi : i < n) (hb : Best l n ap i p L) (hmv : mv = (M : Nat)) (hiv : iv = (i : Nat)) (hM : M = min (l.length - n) (if ap = true then n - i else l.length))
    (k : ∀ (p' L' : Nat) (v : PyData) (x5 x6 : Option Rv), v = .tuple [.int (p' : Nat), .int (L' : Nat)] → Best l n ap (i + 1) p' L' → E.nx [some (.val (.str (S l))), some (.val (.int (n : Nat))), some (.val (.bool ap)), some (.val v), some (.val (.int iv)), x5, x6]) :
    bLC1 [some (.val (.str (S l))), some (.val (.int (n : Nat))), some (.val (.bool ap)), some (.val (.tuple [.int (p : Nat), .int (L : Nat)])), some (.val (.int iv)), some (.val (.int 0)), some (.val (.int mv))] E := by
  subst hmv hiv
  have hls : (S l).length ≤ sizeLine := small 1000 (by rw [S_len]; exact hl)
  have hMn : M ≤ l.length - n := by rw [hM]; exact Nat.min_le_left _ _
  refine ⟨fun m e => ∃ (T : Nat) (tv : Int), e = [some (.val (.str (S l))), some (.val (.int (n : Nat))), some (.val (.bool ap)), some (.val (.tuple [.int (p : Nat), .int (L : Nat)])), some (.val (.int (i : Nat))), some (.val (.int tv)), some (.val (.int (M : Nat)))] ∧ tv = (T : Nat) ∧ T + m = M ∧ ∀ j, j < T → l[i + j]? = l[n + j]?,
    ⟨M, 0, 0, rfl, rfl, by omega, fun j hj => by omega⟩, fun m e hI => ?_⟩
  obtain ⟨T, tv, rfl, rfl, hm, hT⟩ := hI
  -- at the end
  have fin : (T < M → l[i + T]? ≠ l[n + T]?) → wIfS (wTe (wB opGt (wL 5) (wO (wB opIx (wL 3) (wO (wC (.int 1))))))) (wSet 3 (wTup (wCons (wN 4) (wCons (wN 5) wNil)))) wNext [some (.val (.str (S l))), some (.val (.int (n : Nat))), some (.val (.bool ap)), some (.val (.tuple [.int (p : Nat), .int (L : Nat)])), some (.val (.int (i : Nat))), some (.val (.int (T : Nat))), some (.val (.int (M : Nat)))] E := fun hne => by
    have hc : Copy l n ap i T := ⟨hi, by omega, fun z => by rw [if_pos z] at hM; omega, hT⟩
    have hmx : ∀ L', Copy l n ap i L' → L' ≤ T := fun L' c => by
      rcases Nat.lt_or_ge T L' with q | q
      · have h1 := c.2.1
        have hTM : T < M := by
          rw [hM]
          refine Nat.lt_min.mpr ⟨by omega, ?_⟩
          by_cases z : ap = true
          · rw [if_pos z]; have := c.2.2.1 z; omega
          · rw [if_neg z]; omega
        exact absurd (c.2.2.2 T q) (hne hTM)
      · exact q
    have st := hb.step hc hmx
    refine ⟨trivial, trivial, .int (L : Nat), rfl, ?_⟩
    refine ite2 (fun h => ?_) (fun h => ?_)
    · have hlt : L < T := by have h : decide ((L : Int) < (T : Nat)) = true := h; have := of_decide_eq_true h; omega
      rw [if_pos hlt] at st
      exact ⟨by show 2 ≤ sizeLine; decide, k i T _ _ _ rfl st⟩
    · have hlt : ¬ L < T := fun z => h (decide_eq_true (show (L : Int) < (T : Nat) by omega))
      rw [if_neg hlt] at st
      exact k p L _ _ _ rfl st
  refine ⟨trivial, trivial, ?_⟩
  refine ite2 (fun h => ?_) (fun h => ?_)
  · have h : T < M := by have := of_decide_eq_true h; omega
    have h1 : i + T < l.length := by omega
    have h2 : n + T < l.length := by omega
    refine ⟨trivial, trivial, trivial, hls, l[i + T], atI_ok (by omega) (by rw [S_cps, show (((i : Int) + (T : Nat))).toNat = i + T by omega, List.getElem?_eq_getElem h1]),
      trivial, trivial, trivial, hls, l[n + T], atI_ok (by omega) (by rw [S_cps, show (((n : Int) + (T : Nat))).toNat = n + T by omega, List.getElem?_eq_getElem h2]), .inl ⟨rfl, rfl⟩, ?_⟩
    rw [eqv_str]
    refine ite2 (fun h3 => ?_) (fun h3 => ?_)
    · have e3 : l[i + T] = l[n + T] := by simpa using h3
      refine ⟨m - 1, by omega, T + 1, _, rfl, by omega, by omega, fun j hj => ?_⟩
      rcases Nat.lt_or_ge j T with q | q
      · exact hT j q
      · have : j = T := by omega
        subst this
        rw [List.getElem?_eq_getElem h1, List.getElem?_eq_getElem h2, e3]
    · refine fin fun _ z => h3 ?_
      rw [List.getElem?_eq_getElem h1, List.getElem?_eq_getElem h2] at z
      have := Option.some.inj z
      simp [this]
  · refine fin fun z => absurd (decide_eq_true (show (T : Int) < (M : Nat) by omega)) h
theorem lawLongestCopy : ∀ as q, semLongestCopy as q → bLongestCopy (envOf NLongestCopy as) (endsOf q) := by
  rintro _ q ⟨l, n, ap, rfl, hn, hl, hq⟩
  have el : (S l).length = l.length := S_len l
  have hls : (S l).length ≤ sizeLine := small 1000 (by rw [el]; exact hl)
  refine ⟨by show 2 ≤ sizeLine; decide, trivial, ⟨by omega, by omega⟩, ?_⟩
  refine for_rng (fun i env => ∃ (p L : Nat) (v : PyData) (x4 x5 x6 : Option Rv), env = [some (.val (.str (S l))), some (.val (.int (n : Nat))), some (.val (.bool ap)), some (.val v), x4, x5, x6] ∧ v = .tuple [.int (p : Nat), .int (L : Nat)] ∧ Best l n ap i p L)
    (fun env h => ?_) (fun i env hi h nx hnx => ?_) _ ⟨0, 0, _, none, none, none, rfl, rfl, .inl ⟨rfl, rfl, fun p' h => by omega⟩⟩
  · obtain ⟨p, L, v, x4, x5, x6, rfl, rfl, hb⟩ := h
    exact ⟨trivial, hq p L hb.done⟩
  · obtain ⟨p, L, v, x4, x5, x6, rfl, rfl, hb⟩ := h
    have hi : i < n := by omega
    refine ⟨trivial, hls, trivial, ?_⟩
    cases ap with
    | true =>
      refine ⟨trivial, trivial, ?_⟩
      refine lc_rest (M := min (l.length - n) (n - i)) hn hl hi hb ?_ (by omega) rfl fun p' L' v x5 x6 hv hb' => hnx _ ⟨p', L', v, _, x5, x6, rfl, hv, hb'⟩
      rw [el]; split <;> omega
    | false =>
      refine ⟨trivial, hls, ?_⟩
      refine lc_rest (M := min (l.length - n) l.length) hn hl hi hb ?_ (by omega) rfl fun p' L' v x5 x6 hv hb' => hnx _ ⟨p', L', v, _, x5, x6, rfl, hv, hb'⟩
      rw [el]; split <;> omega
end K46

namespace K46
open PySem PySem.Spec PyProof.Rows L2 TL PL
theorem at_copy {l : List Nat} {n p L : Nat} {ap : Bool} (hL : 0 < L) (hn : n + L ≤ l.length) : AtL (if ap = true then l.take n else l.take (n + L - 1)) ((l.drop n).take L) p ↔ Copy l n ap p L := by
  have hm : ((l.drop n).take L).length = L := by rw [List.length_take, List.length_drop]; omega
  unfold AtL Copy
  rw [hm]
  have key : ∀ N, N ≤ l.length → p + L ≤ N → (((l.take N).drop p).take L = (l.drop n).take L ↔ ∀ j, j < L → l[p + j]? = l[n + j]?) := fun N hN hp => by
    rw [← take_eq_iff (by omega) hn, List.drop_take, List.take_take, Nat.min_eq_left (by omega)]
  cases ap with
  | true =>
    rw [if_pos rfl, List.length_take, Nat.min_eq_left (by omega)]
    constructor
    · rintro ⟨h1, h2⟩
      exact ⟨by omega, hn, fun _ => h1, (key n (by omega) h1).mp h2⟩
    · rintro ⟨h1, h2, h3, h4⟩
      exact ⟨h3 rfl, (key n (by omega) (h3 rfl)).mpr h4⟩
  | false =>
    rw [if_neg Bool.false_ne_true, List.length_take, Nat.min_eq_left (by omega)]
    constructor
    · rintro ⟨h1, h2⟩
      exact ⟨by omega, hn, fun z => (by cases z), (key (n + L - 1) (by omega) h1).mp h2⟩
    · rintro ⟨h1, h2, h3, h4⟩
      exact ⟨by omega, (key (n + L - 1) (by omega) (by omega)).mpr h4⟩
def LBest (l : List Nat) (n : Nat) (ap : Bool) (i p L : Nat) : Prop :=
  (L = 0 ∧ p = 0 ∧ ∀ p' L', l.length - n - i < L' → ¬ Copy l n ap p' L') ∨ (0 < L ∧ Copy l n ap p L ∧ (∀ p' L', L < L' → ¬ Copy l n ap p' L') ∧ ∀ p', p' < p → ¬ Copy l n ap p' L)
theorem lawLCopy : ∀ as q, semLCopy as q → bLCopy (envOf NLCopy as) (endsOf q) := by
  rintro _ q ⟨l, n, ap, rfl, hn, hl, hq⟩
  have el : (S l).length = l.length := S_len l
  have hls : (S l).length ≤ sizeLine := small 1000 (by rw [el]; exact hl)
  have two : ∀ {a b : PyData}, [a, b].length ≤ sizeLine := fun {a b} => by show 2 ≤ sizeLine; decide
  refine ⟨two, trivial, hls, trivial, ⟨rfl, ⟨by omega, by omega⟩, ⟨by decide, by decide⟩⟩, ?_⟩
  rw [el, show ((l.length : Int) - (n : Nat) - 0).toNat = l.length - n by omega]
  refine for_rngN (fun i env => ∃ (p L : Nat) (v : PyData) (x4 x5 x6 : Option Rv), env = [some (.val (.str (S l))), some (.val (.int (n : Nat))), some (.val (.bool ap)), some (.own v), x4, x5, x6] ∧ v = .list [.int (L : Nat), .int (p : Nat)] ∧ LBest l n ap i p L)
    (fun env h => ?_) (fun i env hi h nx hnx => ?_) _ ⟨0, 0, _, none, none, none, rfl, rfl, .inl ⟨rfl, rfl, fun p' L' h c => by have := c.2.1; omega⟩⟩
  · obtain ⟨p, L, v, x4, x5, x6, rfl, rfl, hb⟩ := h
    refine ⟨trivial, hq p L ?_⟩
    rcases hb with ⟨h1, h2, h3⟩ | h
    · exact .inl ⟨h1, h2, fun p' => h3 p' 1 (by omega)⟩
    · exact .inr h
  · obtain ⟨p, L, v, x4, x5, x6, rfl, rfl, hb⟩ := h
    -- the length of this turn
    obtain ⟨m, hm⟩ : ∃ m : Nat, m = l.length - n - i := ⟨_, rfl⟩
    have em : (l.length : Int) - (n : Nat) - (i : Nat) = (m : Nat) := by omega
    rw [em]
    have hm0 : 0 < m := by omega
    have hnm : n + m ≤ l.length := by omega
    refine ⟨trivial, trivial, trivial, hls, ?_⟩
    rw [S_cps, cutL_to _ (by omega), show ((n : Int) + (m : Nat) - 1).toNat = n + m - 1 by omega]
    dsimp only [Rv.sl]
    refine seq_mid (fun env => env = [some (.val (.str (S l))), some (.val (.int (n : Nat))), some (.val (.bool ap)), some (.own (.list [.int (L : Nat), .int (p : Nat)])), some (.val (.int (m : Nat))), some (.val (.str (S (if ap = true then l.take n else l.take (n + m - 1))))), x6]) (fun nx hnx => ?_) (fun env h => ?_)
    · cases ap with
      | true =>
        refine ⟨trivial, trivial, hls, ?_⟩
        rw [S_cps, cutL_to _ (by omega), Int.toNat_natCast]
        exact hnx _ rfl
      | false => exact hnx _ rfl
    · subst h
      refine ⟨trivial, rfl, trivial, trivial, trivial, trivial, hls, ?_⟩
      rw [S_cps, cutL_mid _ (by omega) (by omega), show ((n : Int) + (m : Nat)).toNat - ((n : Nat) : Int).toNat = m by omega, Int.toNat_natCast]
      have keep : (∀ p', ¬ Copy l n ap p' m) → nx [some (.val (.str (S l))), some (.val (.int (n : Nat))), some (.val (.bool ap)), some (.own (.list [.int (L : Nat), .int (p : Nat)])), some (.val (.int (m : Nat))), some (.val (.str (S (if ap = true then l.take n else l.take (n + m - 1))))), some (.val (.int (Txt.find (S (if ap = true then l.take n else l.take (n + m - 1))) (S ((l.drop n).take m)))))] := fun hno => by
        refine hnx _ ⟨p, L, _, _, _, _, rfl, rfl, ?_⟩
        rcases hb with ⟨h1, h2, h3⟩ | h
        · refine .inl ⟨h1, h2, fun p' L' hL c => ?_⟩
          rcases Nat.lt_or_ge (l.length - n - i) L' with q | q
          · exact h3 p' L' q c
          · have : L' = m := by omega
            subst this
            exact hno p' c
        · exact .inr h
      rcases find_S (if ap = true then l.take n else l.take (n + m - 1)) ((l.drop n).take m) with ⟨f1, f2⟩ | ⟨f, f1, f2, f3⟩
      · have := keep fun p' c => f2 p' ((at_copy hm0 hnm).mpr c)
        conv => whnf
        rw [f1] at this ⊢
        exact ⟨trivial, this⟩
      · have c1 := (at_copy hm0 hnm).mp f2
        conv => whnf
        rw [f1]
        refine ⟨trivial, trivial, _, rfl, .inl ⟨rfl, rfl⟩, ?_⟩
        refine ite2 (fun h => ?_) (fun h => ?_)
        · have h : ((L : Int) == 0) = true := h
          have hL : L = 0 := by have := eq_of_beq h; omega
          refine ⟨two, hnx _ ⟨f, m, _, _, _, _, rfl, rfl, .inr ⟨hm0, c1, fun p' L' hl c => ?_, fun p' hp c => f3 p' hp ((at_copy hm0 hnm).mpr c)⟩⟩⟩
          rcases hb with ⟨h1, h2, h3⟩ | h
          · exact h3 p' L' (by omega) c
          · omega
        · have hL : L ≠ 0 := fun z => h (by subst z; rfl)
          refine hnx _ ⟨p, L, _, _, _, _, rfl, rfl, ?_⟩
          rcases hb with ⟨h1, h2, h3⟩ | h
          · exact absurd h1 hL
          · exact .inr h
end K46

namespace K46
open PySem PySem.Spec PyProof.Rows L2 TL PL
def Pre (l : List Nat) (ap : Bool) (acc : List Ph) (n : Nat) : Prop := ∀ ps, IsPhr l ap ps n → IsPhr l ap (acc ++ ps) 0
theorem Pre.step {l : List Nat} {ap : Bool} {acc : List Ph} {n p L : Nat} (h : Pre l ap acc n) (hn : n < l.length) (hc : IsCopy l n ap p L) : Pre l ap (acc ++ [if L = 0 then .lt (l.getD n 0) else .cp p L]) (n + max 1 L) := fun ps hp => by
  rw [List.append_assoc]
  exact h _ ⟨hn, p, L, hc, rfl, hp⟩
theorem IsCopy.le {l : List Nat} {ap : Bool} {n p L : Nat} (hn : n < l.length) (hc : IsCopy l n ap p L) : n + max 1 L ≤ l.length := by
  rcases hc with ⟨rfl, _⟩ | ⟨h1, h2, _⟩
  · simp; omega
  · have := h2.2.1; omega
theorem three : ∀ {a b c : PyData}, [a, b, c].length ≤ sizeLine := fun {a b c} => by show 3 ≤ sizeLine; decide
theorem two : ∀ {a b : PyData}, [a, b].length ≤ sizeLine := fun {a b} => by show 2 ≤ sizeLine; decide
theorem max_cast (L : Nat) : (if (L : Int) > 1 then (L : Int) else 1) = ((max 1 L : Nat) : Int) := by split <;> omega
theorem lawShortened : ∀ as q, semShortened as q → bShortened (envOf NShortened as) (endsOf q) := by
  rintro _ q ⟨l, ap, rfl, hl, hq⟩
  have el : (S l).length = l.length := S_len l
  have hls : (S l).length ≤ sizeLine := small 1000 (by rw [el]; omega)
  refine ⟨Nat.zero_le _, ?_⟩
  refine ⟨fun m e => ∃ (acc : List Ph) (A : List PyData) (n : Nat) (v : Int) (x4 x5 : Option Rv), e = [some (.val (.str (S l))), some (.val (.bool ap)), some (.own (.list A)), some (.val (.int v)), x4, x5] ∧ A = acc.map phD ∧ v = (n : Nat) ∧ n + m = l.length ∧ acc.length ≤ n ∧ Pre l ap acc n,
    ⟨l.length, [], _, 0, _, none, none, rfl, rfl, rfl, by omega, by simp, fun ps h => h⟩, fun m e hI => ?_⟩
  obtain ⟨acc, A, n, v, x4, x5, rfl, rfl, rfl, hm, hal, hp⟩ := hI
  refine ⟨trivial, trivial, hls, ?_⟩
  rw [el]
  refine ite2 (fun h => ?_) (fun h => ?_)
  · have hn : n < l.length := by have := of_decide_eq_true h; omega
    refine ⟨l, n, ap, rfl, hn, by omega, fun p L hc => ?_⟩
    have hle := hc.le hn
    refine ⟨rfl, rfl, trivial, trivial, ?_⟩
    have hst := hp.step hn hc
    have hA : (acc.map phD).length < sizeLine := by rw [List.length_map]; exact small' 400 (by omega)
    refine ite2 (fun h => ?_) (fun h => ?_)
    · have hL : L ≠ 0 := by have h : decide ((0 : Int) < (L : Nat)) = true := h; have := of_decide_eq_true h; omega
      rw [if_neg hL] at hst
      refine ⟨three, hA, trivial, ?_⟩
      refine ⟨l.length - (n + max 1 L), by omega, acc ++ [.cp p L], _, n + max 1 L, _, _, _, rfl, by rw [List.map_append]; rfl, by rw [max_cast]; omega, by omega, by rw [List.length_append]; simp; omega, hst⟩
    · have hL : L = 0 := by
        rcases Nat.eq_zero_or_pos L with z | z
        · exact z
        · exact absurd (decide_eq_true (show (0 : Int) < (L : Nat) by omega)) h
      rw [if_pos hL] at hst
      refine ⟨trivial, trivial, hls, l[n], atI_nat (List.getElem?_eq_getElem hn), two, hA, trivial, ?_⟩
      refine ⟨l.length - (n + max 1 L), by omega, acc ++ [.lt (l.getD n 0)], _, n + max 1 L, _, _, _, rfl, ?_, by rw [max_cast]; omega, by omega, by rw [List.length_append]; simp; omega, hst⟩
      rw [List.map_append, List.getD_eq_getElem?_getD, List.getElem?_eq_getElem hn]; rfl
  · have hn : n = l.length := by
      have : ¬ ((n : Int) < (l.length : Nat)) := fun z => h (decide_eq_true z)
      omega
    exact ⟨trivial, trivial, hq acc (by have := hp [] hn; rwa [List.append_nil] at this)⟩
theorem lawLPhrases : ∀ as q, semLPhrases as q → bLPhrases (envOf NLPhrases as) (endsOf q) := by
  rintro _ q ⟨l, ap, rfl, hl, hq⟩
  have el : (S l).length = l.length := S_len l
  have hls : (S l).length ≤ sizeLine := small 1000 (by rw [el]; omega)
  refine ⟨Nat.zero_le _, trivial, hls, ⟨by omega, by rw [el]; omega⟩, ?_⟩
  rw [el]
  refine for_rng (fun i e => ∃ (acc : List Ph) (A : List PyData) (n : Nat) (v : Int) (x4 x5 x6 : Option Rv), e = [some (.val (.str (S l))), some (.val (.bool ap)), some (.own (.list A)), some (.val (.int v)), x4, x5, x6] ∧ A = acc.map phD ∧ v = (n : Nat) ∧ i ≤ n ∧ n ≤ l.length ∧ acc.length ≤ i ∧ Pre l ap acc n)
    (fun env h => ?_) (fun i env hi h nx hnx => ?_) _ ⟨[], _, 0, _, none, none, none, rfl, rfl, rfl, by omega, by omega, by simp, fun ps h => h⟩
  · obtain ⟨acc, A, n, v, x4, x5, x6, rfl, rfl, rfl, h1, h2, hal, hp⟩ := h
    have hn : n = l.length := by omega
    exact ⟨trivial, trivial, hq acc (by have := hp [] hn; rwa [List.append_nil] at this)⟩
  · obtain ⟨acc, A, n, v, x4, x5, x6, rfl, rfl, rfl, h1, h2, hal, hp⟩ := h
    have hi : i < l.length := by omega
    refine ⟨trivial, trivial, hls, ?_⟩
    rw [el]
    refine ite2 (fun h => ?_) (fun h => ?_)
    · have hn : n < l.length := by have := of_decide_eq_true h; omega
      refine ⟨l, n, ap, rfl, hn, by omega, fun p L hc => ?_⟩
      have hle := hc.le hn
      refine ⟨rfl, rfl, trivial, .inl ⟨rfl, rfl⟩, ?_⟩
      have hst := hp.step hn hc
      have hA : (acc.map phD).length < sizeLine := by rw [List.length_map]; exact small' 400 (by omega)
      refine ite2 (fun h => ?_) (fun h => ?_)
      · have h : ((L : Int) == 0) = true := h
        have hL : L = 0 := by have := eq_of_beq h; omega
        rw [if_pos hL] at hst
        refine ⟨trivial, trivial, trivial, hls, l[n], atI_nat (List.getElem?_eq_getElem hn), two, hA, trivial, trivial, ?_⟩
        refine hnx _ ⟨acc ++ [.lt (l.getD n 0)], _, n + max 1 L, _, _, _, _, rfl, ?_, by rw [max_cast]; omega, by omega, hle, by rw [List.length_append]; simp; omega, hst⟩
        rw [List.map_append, List.getD_eq_getElem?_getD, List.getElem?_eq_getElem hn]; rfl
      · have hL : L ≠ 0 := fun z => h (by subst z; rfl)
        rw [if_neg hL] at hst
        refine ⟨trivial, three, hA, trivial, trivial, ?_⟩
        exact hnx _ ⟨acc ++ [.cp p L], _, n + max 1 L, _, _, _, _, rfl, by rw [List.map_append]; rfl, by rw [max_cast]; omega, by omega, hle, by rw [List.length_append]; simp; omega, hst⟩
    · have hn : n = l.length := by
        have : ¬ ((n : Int) < (l.length : Nat)) := fun z => h (decide_eq_true z)
        omega
      exact hnx _ ⟨acc, _, n, _, _, x5, x6, rfl, rfl, rfl, by omega, h2, by omega, hp⟩
end K46

namespace K46
open PySem PySem.Spec PyProof.Rows L2 TL PL
theorem IsPhr.uniq {l : List Nat} {ap : Bool} : ∀ {ps ps' : List Ph} {n : Nat}, IsPhr l ap ps n → IsPhr l ap ps' n → ps = ps'
  | [], [], _, _, _ => rfl
  | [], _ :: _, n, h, h' => by have h : n = l.length := h; have := h'.1; omega
  | _ :: _, [], n, h, h' => by have h' : n = l.length := h'; have := h.1; omega
  | x :: r, x' :: r', n, h, h' => by
    obtain ⟨h1, p, L, h2, rfl, h3⟩ := h
    obtain ⟨g1, p', L', g2, rfl, g3⟩ := h'
    obtain ⟨rfl, rfl⟩ := h2.uniq g2
    rw [IsPhr.uniq h3 g3]
theorem IsCopy.reach {l : List Nat} {ap : Bool} {a b p L p' L' : Nat} (h : IsCopy l a ap p L) (h' : IsCopy l b ap p' L') (hab : a ≤ b) (hb : b < a + max 1 L) : a + max 1 L ≤ b + max 1 L' := by
  rcases h with ⟨rfl, _, _⟩ | ⟨h1, h2, h3, h4⟩
  · simp at hb ⊢; omega
  · have hm : max 1 L = L := by omega
    rw [hm] at hb ⊢
    have c : Copy l b ap (p + (b - a)) (L - (b - a)) := by
      obtain ⟨c1, c2, c3, c4⟩ := h2
      refine ⟨by omega, by omega, fun z => by have := c3 z; omega, fun j hj => ?_⟩
      have := c4 (b - a + j) (by omega)
      rw [show p + (b - a) + j = p + (b - a + j) by omega, show b + j = a + (b - a + j) by omega]
      exact this
    rcases h' with ⟨rfl, _, g⟩ | ⟨g1, g2, g3, g4⟩
    · exact absurd (c.le (by omega)) (g _)
    · rcases Nat.lt_or_ge L' (L - (b - a)) with q | q
      · exact absurd c (g3 _ _ q)
      · omega
theorem IsPhr.mono {l : List Nat} {ap : Bool} : ∀ (ps ps' : List Ph) {a b : Nat}, IsPhr l ap ps a → IsPhr l ap ps' b → a ≤ b → ps'.length ≤ ps.length
  | _, [], a, b, _, _, _ => by simp
  | [], x' :: r', a, b, h, h', hab => by have h : a = l.length := h; have := h'.1; omega
  | x :: r, x' :: r', a, b, h, h', hab => by
    obtain ⟨h1, p, L, h2, _, h3⟩ := h
    obtain ⟨g1, p', L', g2, _, g3⟩ := h'
    rcases Nat.lt_or_ge b (a + max 1 L) with q | q
    · have := IsPhr.mono r r' h3 g3 (h2.reach g2 hab q)
      rw [List.length_cons, List.length_cons]; omega
    · have := IsPhr.mono r (x' :: r') h3 ⟨g1, p', L', g2, by assumption, g3⟩ q
      rw [List.length_cons (as := r)]; omega
theorem ixN_ok {n j : Nat} (hj : j < n) : ixN n (j : Int) = some j := by
  unfold ixN
  rw [if_pos (by omega), if_pos (by omega)]; rfl
theorem flat_one (n : Nat) (d : PyData) : (List.replicate n [d]).flatten = List.replicate n d := by
  induction n with
  | zero => rfl
  | succ n ih => rw [List.replicate_succ, List.flatten_cons, ih]; rfl
theorem lawLFewest : ∀ as q, semLFewest as q → bLFewest (envOf NLFewest as) (endsOf q) := by
  rintro _ q ⟨l, ap, rfl, hl, hq⟩
  have el : (S l).length = l.length := S_len l
  have hls : (S l).length ≤ sizeLine := small 1000 (by rw [el]; omega)
  refine ⟨by show 1 ≤ sizeLine; decide, trivial, hls, ?_⟩
  rw [el]
  refine ⟨⟨by omega, by omega, by rw [List.length_singleton]; exact small 401 (by omega)⟩, trivial, hls, ?_⟩
  rw [el, show ((l.length : Int) + 1).toNat = l.length + 1 by omega, flat_one]
  refine ⟨⟨rfl, ⟨by omega, by omega⟩, ⟨by decide, by decide⟩⟩, ?_⟩
  rw [show ((l.length : Int) - 1 - -1).toNat = l.length by omega]
  refine for_rngN (fun i e => ∃ (B : List PyData) (x3 x4 : Option Rv), e = [some (.val (.str (S l))), some (.val (.bool ap)), some (.own (.list B)), x3, x4, none] ∧ B.length = l.length + 1 ∧ ∀ j, l.length - i ≤ j → j ≤ l.length → ∃ ps, IsPhr l ap ps j ∧ B[j]? = some (.int (ps.length : Nat)))
    (fun env h => ?_) (fun i env hi h nx hnx => ?_) _ ⟨_, none, none, rfl, by simp, fun j h1 h2 => ⟨[], by show j = l.length; omega, by rw [List.getElem?_replicate, if_pos (by omega)]; rfl⟩⟩
  · obtain ⟨B, x3, x4, rfl, hB, hj⟩ := h
    obtain ⟨ps, hps, hv⟩ := hj 0 (by omega) (by omega)
    exact ⟨trivial, _, atI_ok (Int.le_refl 0) hv, trivial, hq ps hps⟩
  · obtain ⟨B, x3, x4, rfl, hB, hj⟩ := h
    obtain ⟨n, hn⟩ : ∃ n : Nat, n = l.length - 1 - i := ⟨_, rfl⟩
    have en : (l.length : Int) - 1 - (i : Nat) = (n : Nat) := by omega
    rw [en]
    have hnl : n < l.length := by omega
    refine ⟨l, n, ap, rfl, hnl, by omega, fun p L hc => ⟨_, rfl, ?_⟩⟩
    have hle := hc.le hnl
    -- the values behind
    obtain ⟨ps0, hp0, hv0⟩ := hj (n + max 1 L) (by omega) hle
    have hval : ∀ j, j < max 1 L → ∃ ps, IsPhr l ap ps (n + (1 + j)) ∧ B[n + (1 + j)]? = some (.int (ps.length : Nat)) := fun j hjm => hj (n + (1 + j)) (by omega) (by omega)
    have hM : 0 < max 1 L := by omega
    have hM4 : max 1 L ≤ 400 := by omega
    conv => whnf
    rw [max_cast]
    generalize hMe : max 1 L = M at hp0 hv0 hval hM hM4 hle
    refine ⟨trivial, ⟨⟨by decide, by decide⟩, by omega, by omega⟩, ?_⟩
    rw [show ((M : Int) + 1 - 1).toNat = M by omega]
    let val : Nat → Int := fun j => match B[n + (1 + j)]? with | some (.int v) => v | _ => 0
    have hv1 : ∀ j, j < M → B[n + (1 + j)]? = some (.int (val j)) := fun j hjm => by
      obtain ⟨ps, _, h⟩ := hval j hjm
      have : val j = (ps.length : Nat) := by show (match B[n + (1 + j)]? with | some (.int v) => v | _ => 0) = _; rw [h]
      rw [h, this]
    refine lc_pureM (fun j => j < M) (fun j : Nat => .int (1 + (j : Nat))) (fun _ => true) (fun j => .int (val j))
      (fun e => e = [some (.val (.str (S l))), some (.val (.bool ap)), some (.own (.list B)), some (.val (.int (n : Nat))), some (.val (.int (M : Nat))), none])
      (fun j env hjm he c nY nN hc h1 h2 => ?_) (List.range M) [] _ (fun j hj => List.mem_range.mp hj) (by rw [List.length_range]; exact small 400 (by simpa using hM4)) rfl (fun e he => ?_)
    · subst he
      refine ⟨trivial, trivial, trivial, _, atI_ok (by omega) ?_, hc, h1 rfl _ rfl⟩
      rw [show ((n : Int) + (1 + (j : Nat))).toNat = n + (1 + j) by omega]
      exact hv1 j hjm
    · subst he
      rw [List.nil_append, List.filter_eq_self.mpr fun _ _ => rfl]
      refine ⟨_, intsD_map val _, by simp; omega, fun m hm hmin => ?_⟩
      -- the least is the last
      have em : m = (ps0.length : Nat) := by
        have h0 : val (M - 1) = (ps0.length : Nat) := by
          have := hv1 (M - 1) (by omega)
          rw [show n + (1 + (M - 1)) = n + M by omega, hv0] at this
          exact (PyData.int.inj (Option.some.inj this)).symm
        have h1 : m ≤ val (M - 1) := hmin _ (List.mem_map.mpr ⟨M - 1, List.mem_range.mpr (by omega), rfl⟩)
        obtain ⟨j, hjm, rfl⟩ := List.mem_map.mp hm
        have hjm := List.mem_range.mp hjm
        obtain ⟨ps, hps, hb⟩ := hval j hjm
        have h2 := hv1 j hjm
        rw [hb] at h2
        have h3 : val j = (ps.length : Nat) := (PyData.int.inj (Option.some.inj h2)).symm
        have := IsPhr.mono ps ps0 hps hp0 (by omega)
        omega
      subst em
      refine ⟨trivial, trivial, n, ixN_ok (by rw [hB]; omega), ?_⟩
      refine hnx _ ⟨B.set n (.int (1 + (ps0.length : Nat))), _, _, rfl, by rw [List.length_set]; exact hB, fun j h1 h2 => ?_⟩
      by_cases e : j = n
      · subst e
        refine ⟨(if L = 0 then .lt (l.getD j 0) else .cp p L) :: ps0, ⟨hnl, p, L, hc, rfl, ?_⟩, ?_⟩
        · rw [hMe]; exact hp0
        · rw [List.getElem?_set_self (by omega), List.length_cons]
          congr 2; omega
      · obtain ⟨ps, g1, g2⟩ := hj j (by omega) h2
        exact ⟨ps, g1, by rw [List.getElem?_set_ne (Ne.symm e)]; exact g2⟩
end K46

namespace K46
open PySem PySem.Spec PyProof.Rows L2 TL PL
theorem sc_ty {d : PyData} (h : isSc d = true) : tyName d ≠ "dict" := by
  cases d <;> simp [tyName, isSc] at *
theorem fineP_ty {d : PyData} (h : fineP d) : tyName d ≠ "dict" := by
  cases d <;> first | exact h | simp [tyName]
theorem phOk_let (n : Nat) (ap : Bool) (t : List Nat) (b : PyData) (ht : t = sLetter) : (phOk n ap (.tuple [.str (S t), b])).isSome = letterB b := by
  subst ht
  cases b with
  | str s =>
    show (if (S sLetter).cps.toList = sLetter ∧ letB s.cps.toList = true then some (Ph.lt (s.cps.toList.getD 0 0)) else none).isSome = letB s.cps.toList
    cases h : letB s.cps.toList
    · rw [if_neg (by rintro ⟨_, z⟩; cases z)]; rfl
    · rw [if_pos ⟨rfl, rfl⟩]; rfl
  | _ => rfl
theorem phOk_bad (n : Nat) (ap : Bool) (t : List Nat) (r : List PyData) (h1 : t = sLetter → r.length ≠ 1) (h2 : t = sCopy → r.length ≠ 2) : phOk n ap (.tuple (.str (S t) :: r)) = none := by
  unfold phOk
  split
  · rename_i x s heq
    cases heq
    rw [if_neg]; rintro ⟨z, _⟩; exact h1 z rfl
  · rename_i x p L heq
    cases heq
    rw [if_neg]; rintro ⟨z, _⟩; exact h2 z rfl
  · rfl
theorem phOk_copy (n : Nat) (ap : Bool) (t : List Nat) (b c : PyData) (ht : t = sCopy) : (phOk n ap (.tuple [.str (S t), b, c])).isSome = (placeB b 0 ((n : Int) - 1) && placeB c 1 (match b with | .int p => if ap = true then (n : Int) - p else 400 | _ => 0)) := by
  subst ht
  cases b with
  | int p =>
    cases c with
    | int L =>
      show (if (S sCopy).cps.toList = sCopy ∧ 0 ≤ p ∧ p ≤ (n : Int) - 1 ∧ 1 ≤ L ∧ L ≤ (if ap = true then (n : Int) - p else 400) then some (Ph.cp p.toNat L.toNat) else none).isSome = ((decide (0 ≤ p) && decide (p ≤ (n : Int) - 1)) && (decide (1 ≤ L) && decide (L ≤ (if ap = true then (n : Int) - p else 400))))
      generalize (if ap = true then (n : Int) - p else 400) = u
      by_cases h : 0 ≤ p ∧ p ≤ (n : Int) - 1 ∧ 1 ≤ L ∧ L ≤ u
      · rw [if_pos ⟨rfl, h⟩, decide_eq_true h.1, decide_eq_true h.2.1, decide_eq_true h.2.2.1, decide_eq_true h.2.2.2]; rfl
      · rw [if_neg (fun z => h z.2)]
        symm
        simp only [Option.isSome_none, Bool.and_eq_false_iff, decide_eq_false_iff_not]
        omega
    | _ =>
      show false = (_ && false)
      rw [Bool.and_false]
  | _ => rfl
theorem lawIsPhrase : ∀ as q, semIsPhrase as q → bIsPhrase (envOf NIsPhrase as) (endsOf q) := by
  rintro _ q ⟨d, n, ap, rfl, hf, hq⟩
  refine ⟨trivial, fineP_ty hf, ?_⟩
  rw [isTy_tuple]
  cases d with
  | tuple xs =>
    refine ⟨trivial, .inl ⟨rfl, rfl⟩, ?_⟩
    cases xs with
    | nil => exact ⟨trivial, hq⟩
    | cons x r =>
      have hx := hf x (List.mem_cons_self ..)
      have e0 : PyData.eqv (.int (((x :: r).length : Nat) : Int)) (.int 0) = false := by rw [eqv_int, List.length_cons]; simp; omega
      rw [e0]
      refine ⟨trivial, x, atI_ok (Int.le_refl 0) rfl, sc_ty hx.1, ?_⟩
      rw [isTy_str]
      cases x with
      | str s =>
        obtain ⟨t, rfl⟩ : ∃ l, s = S l := ⟨s.cps.toList, (S_tl s).symm⟩
        refine ⟨trivial, sD t, atI_ok (Int.le_refl 0) rfl, .inl ⟨rfl, rfl⟩, ?_⟩
        rw [eqv_str]
        refine ite2 (fun h => ?_) (fun h => ?_)
        · have ht : t = sLetter := eq_of_beq h
          refine ⟨trivial, .inl ⟨rfl, rfl⟩, ?_⟩
          refine ite2 (fun h => ?_) (fun h => ?_)
          · have h : (((r.length + 1 : Nat) : Int) == 2) = true := h
            have hr : r.length = 1 := by have := eq_of_beq h; omega
            obtain ⟨b, rfl⟩ := List.length_eq_one_iff.mp hr
            have hb := hf b (by simp)
            refine ⟨trivial, b, rfl, b, rfl, sc_ty hb.1, fun s e => small 10 (hb.2 s e), trivial, ?_⟩
            rw [phOk_let n ap t b ht] at hq
            exact hq
          · have hr : r.length ≠ 1 := fun z => h (by rw [List.length_cons, z]; rfl)
            rw [phOk_bad n ap t r (fun _ => hr) (fun z => by rw [ht] at z; cases z)] at hq
            exact ⟨trivial, hq⟩
        · have ht : t ≠ sLetter := fun z => h (by subst z; rfl)
          refine ⟨trivial, sD t, atI_ok (Int.le_refl 0) rfl, .inl ⟨rfl, rfl⟩, ?_⟩
          rw [eqv_str]
          refine ite2 (fun h => ?_) (fun h => ?_)
          · have ht2 : t ≠ sCopy := fun z => by subst z; cases h
            rw [phOk_bad n ap t r (fun z => absurd z ht) (fun z => absurd z ht2)] at hq
            exact ⟨trivial, hq⟩
          · have ht2 : t = sCopy := by
              by_cases z : t = sCopy
              · exact z
              · exact absurd (by rw [beq_eq_false_iff_ne.mpr z]; rfl) h
            refine ⟨trivial, .inl ⟨rfl, rfl⟩, ?_⟩
            refine ite2 (fun h => ?_) (fun h => ?_)
            · have hr : r.length ≠ 2 := fun z => by
                rw [List.length_cons, z] at h; cases h
              rw [phOk_bad n ap t r (fun z => absurd z ht) (fun _ => hr)] at hq
              exact ⟨trivial, hq⟩
            · have hr : r.length = 2 := by
                have h : ¬ (!(((r.length + 1 : Nat) : Int) == 3)) = true := h
                rw [Bool.not_eq_true, Bool.not_eq_false'] at h
                have := eq_of_beq h; omega
              obtain ⟨b, c, rfl⟩ : ∃ b c, r = [b, c] := by
                match r, hr with
                | [b, c], _ => exact ⟨b, c, rfl⟩
              have hb := hf b (by simp)
              have hc := hf c (by simp)
              rw [phOk_copy n ap t b c ht2] at hq
              refine ⟨trivial, b, rfl, trivial, b, 0, _, rfl, sc_ty hb.1, ?_⟩
              refine ite2 (fun h => ?_) (fun h => ?_)
              · have h : placeB b 0 ((n : Int) - 1) = false := (Bool.not_eq_true' _).mp h
                rw [h] at hq
                exact ⟨trivial, hq⟩
              · have h : placeB b 0 ((n : Int) - 1) = true := by simpa using h
                rw [h] at hq
                cases b with
                | int p =>
                  refine ⟨trivial, c, rfl, ?_⟩
                  cases ap with
                  | true => exact ⟨trivial, trivial, .int p, rfl, c, 1, _, rfl, sc_ty hc.1, trivial, hq⟩
                  | false => exact ⟨c, 1, _, rfl, sc_ty hc.1, trivial, hq⟩
                | _ => cases h
      | _ => exact ⟨trivial, hq⟩
  | _ => exact ⟨trivial, hq⟩
end K46

namespace K46
open PySem PySem.Spec PyProof.Rows L2 TL PL
theorem ext_len (f : List Nat) (p : Nat) : ∀ L, (ext f p L).length = f.length + L
  | 0 => rfl
  | L + 1 => by show (ext f p L ++ [_]).length = _; rw [List.length_append, ext_len f p L, List.length_singleton]; omega
theorem letB_inv {s : List Nat} (h : letB s = true) : ∃ c, s = [c] := by
  match s, h with
  | [c], _ => exact ⟨c, rfl⟩
theorem ite_some {α : Type} {c : Prop} [Decidable c] {a b : α} (h : (if c then some a else none) = some b) : c ∧ a = b := by
  by_cases hc : c
  · rw [if_pos hc] at h; exact ⟨hc, Option.some.inj h⟩
  · rw [if_neg hc] at h; cases h
theorem phOk_lt {n c : Nat} {ap : Bool} {d : PyData} (h : phOk n ap d = some (.lt c)) : d = phD (.lt c) ∧ letB [c] = true := by
  unfold phOk at h
  split at h
  · rename_i x s
    obtain ⟨hc, h⟩ := ite_some h
    obtain ⟨c', hs⟩ := letB_inv hc.2
    have h2 := hc.2
    rw [hs] at h h2
    cases h
    refine ⟨?_, h2⟩
    rw [← S_tl x, ← S_tl s, hc.1, hs]; rfl
  · obtain ⟨_, h⟩ := ite_some h; cases h
  · cases h
theorem phOk_cp {n p L : Nat} {ap : Bool} {d : PyData} (h : phOk n ap d = some (.cp p L)) : d = phD (.cp p L) ∧ p < n ∧ 1 ≤ L ∧ (ap = true → p + L ≤ n) ∧ (ap = false → L ≤ 400) := by
  unfold phOk at h
  split at h
  · obtain ⟨_, h⟩ := ite_some h; cases h
  · rename_i x p' L'
    obtain ⟨⟨h1, h2, h3, h4, h5⟩, h⟩ := ite_some h
    cases h
    refine ⟨?_, by omega, by omega, fun z => by rw [if_pos z] at h5; omega, fun z => by rw [z, if_neg Bool.false_ne_true] at h5; omega⟩
    show _ = PyData.tuple [sD sCopy, .int ((p'.toNat : Nat) : Int), .int ((L'.toNat : Nat) : Int)]
    rw [← S_tl x, h1, Int.toNat_of_nonneg h2, Int.toNat_of_nonneg (show 0 ≤ L' by omega)]
  · cases h
abbrev bCopyLoop : WS := wFor (wRg opRange1 (wConsO (wO (wB opIx (wL 3) (wO (wC (.int 2))))) wNilO)) (wGn 4) (wSet 2 (wB opAdd (wL 2) (wO (wB opIx (wL 2) (wO (wB opAdd (wO (wB opIx (wL 3) (wO (wC (.int 1))))) (wL 4)))))))
theorem copy_loop {e0 e1 : Option Rv} {f : List Nat} {p L : Nat} {x4 : Option Rv} {E : EndsP} (hp : p < f.length) (hf : f.length + L ≤ 100000)
    (k : ∀ x4, E.nx [e0, e1, some (.val (sD (ext f p L))), some (.val (phD (.cp p L))), x4]) : bCopyLoop [e0, e1, some (.val (sD f)), some (.val (phD (.cp p L))), x4] E := by
  refine ⟨trivial, .int (L : Nat), rfl, ⟨by omega, by omega⟩, ?_⟩
  refine for_rng (fun i e => ∃ (g : List Nat) (x4 : Option Rv), e = [e0, e1, some (.val (sD g)), some (.val (phD (.cp p L))), x4] ∧ g = ext f p i) (fun env h => ?_) (fun i env hi h nx hnx => ?_) _ ⟨f, x4, rfl, rfl⟩
  · obtain ⟨g, x4, rfl, rfl⟩ := h
    exact k x4
  · obtain ⟨g, x4, rfl, rfl⟩ := h
    have hi : i < L := by omega
    have hl := ext_len f p i
    have hs : (S (ext f p i)).length ≤ sizeLine := small 100000 (by rw [S_len, hl]; omega)
    have hlt : p + i < (ext f p i).length := by rw [hl]; omega
    refine ⟨trivial, trivial, trivial, .int (p : Nat), rfl, trivial, hs, (ext f p i).getD (p + i) 0, atI_ok (by omega) ?_, ?_, ?_⟩
    · rw [S_cps, show ((p : Int) + (0 + (i : Nat))).toNat = p + i by omega, List.getD_eq_getElem?_getD, List.getElem?_eq_getElem hlt]; rfl
    · rw [S_len, S_len, hl]; exact small 100001 (by show _ + 1 ≤ _; omega)
    · rw [S_app]
      exact hnx _ ⟨_, _, rfl, rfl⟩
theorem lawSpread : ∀ as q, semSpread as q → bSpread (envOf NSpread as) (endsOf q) := by
  rintro _ q ⟨d, ap, rfl, hd, hf, hq⟩
  refine ⟨trivial, hd, ?_⟩
  rw [isTy_tuple]
  cases d with
  | tuple ps =>
    have hf := hf ps rfl
    conv => whnf
    refine for_inv (fun r e => ∃ (f : List Nat) (x3 x4 : Option Rv), e = [some (.val (.tuple ps)), some (.val (.bool ap)), some (.val (sD f)), x3, x4] ∧ spGo ap [] ps = spGo ap f r ∧ f.length ≤ 800 ∧ ∀ p ∈ r, fineP p)
      (fun env h => ?_) (fun d r env h nx hnx => ?_) _ _ ⟨[], none, none, rfl, rfl, by simp, hf⟩
    · obtain ⟨f, x3, x4, rfl, hg, hl, _⟩ := h
      have e3 : spD ap (.tuple ps) = if f.length ≤ 400 then sD f else .none := by unfold spD; simp only [hg, spGo]
      rw [e3] at hq
      refine ⟨trivial, small 800 (by rw [S_len]; exact hl), ?_⟩
      rw [S_len]
      refine ite2 (fun h => ?_) (fun h => ?_)
      · have h1 : f.length ≤ 400 := by have := of_decide_eq_true h; omega
        rw [if_pos h1] at hq
        exact ⟨trivial, hq⟩
      · have h1 : ¬ f.length ≤ 400 := fun z => h (decide_eq_true (by omega))
        rw [if_neg h1] at hq
        exact ⟨trivial, hq⟩
    · obtain ⟨f, x3, x4, rfl, hg, hl, hfr⟩ := h
      have hs : (S f).length ≤ sizeLine := small 800 (by rw [S_len]; exact hl)
      have hfd := hfr d (List.mem_cons_self ..)
      have hfr' : ∀ p ∈ r, fineP p := fun p hp => hfr p (List.mem_cons_of_mem _ hp)
      have none_of : spGo ap f (d :: r) = none → q (.val .none) := fun z => by
        have e3 : spD ap (.tuple ps) = .none := by unfold spD; simp only [hg, z]
        rw [e3] at hq; exact hq
      rw [spGo] at none_of hg
      refine ⟨trivial, hs, d, (S f).length, ap, rfl, hfd, ?_⟩
      rw [S_len]
      cases hk : phOk f.length ap d with
      | none => exact ⟨trivial, none_of (by rw [hk]; split <;> rfl)⟩
      | some x =>
        refine ⟨trivial, hs, ?_⟩
        rw [S_len]
        refine ite2 (fun h => ?_) (fun h => ?_)
        · have h1 : 400 < f.length := by have := of_decide_eq_true h; omega
          exact ⟨trivial, none_of (by rw [if_pos h1])⟩
        · have h1 : ¬ 400 < f.length := fun z => h (decide_eq_true (by omega))
          rw [if_neg h1, hk] at hg
          cases x with
          | lt c =>
            obtain ⟨rfl, hc⟩ := phOk_lt hk
            refine ⟨trivial, sD sLetter, rfl, .inl ⟨rfl, rfl⟩, ?_⟩
            rw [eqv_self_str]
            refine ⟨trivial, trivial, sD [c], rfl, small 801 (by rw [S_len, S_len]; show f.length + 1 ≤ 801; omega), ?_⟩
            rw [S_app]
            exact hnx _ ⟨f ++ [c], _, _, rfl, hg, by rw [List.length_append]; show f.length + 1 ≤ 800; omega, hfr'⟩
          | cp p L =>
            obtain ⟨rfl, c1, c2, c3, c4⟩ := phOk_cp hk
            have hL : L ≤ 400 := by
              cases ap
              · exact c4 rfl
              · have := c3 rfl; omega
            refine ⟨trivial, sD sCopy, rfl, .inl ⟨rfl, rfl⟩, ?_⟩
            refine copy_loop (E := _) c1 (by omega) fun x4 => ?_
            exact hnx _ ⟨ext f p L, _, _, rfl, hg, by rw [ext_len]; omega, hfr'⟩
  | _ => exact ⟨trivial, hq⟩
end K46

namespace K46
open PySem PySem.Spec PyProof.Rows L2 TL PL
theorem lawLSpread : ∀ as q, semLSpread as q → bLSpread (envOf NLSpread as) (endsOf q) := by
  rintro _ q ⟨ps, ap, rfl, hd, hq⟩
  conv => whnf
  refine for_map phD (fun r e => ∃ (f : List Nat) (x3 x4 : Option Rv), e = [some (.val (.list (ps.map phD))), some (.val (.bool ap)), some (.val (sD f)), x3, x4] ∧ lsGo ap [] ps = lsGo ap f r ∧ f.length ≤ 400 ∧ ∀ x ∈ r, x ∈ ps)
    (fun env h => ?_) (fun x r env h nx hnx => ?_) ps _ ⟨[], none, none, rfl, rfl, by simp, fun x h => h⟩
  · obtain ⟨f, x3, x4, rfl, hg, hl, _⟩ := h
    have e3 : lsD ap ps = sD f := by unfold lsD; simp only [hg, lsGo]
    rw [e3] at hq
    exact ⟨trivial, hq⟩
  · obtain ⟨f, x3, x4, rfl, hg, hl, hr⟩ := h
    have hs : (S f).length ≤ sizeLine := small 800 (by rw [S_len]; omega)
    have hr' : ∀ y ∈ r, y ∈ ps := fun y hy => hr y (List.mem_cons_of_mem _ hy)
    have none_of : lsGo ap f (x :: r) = none → q (.val .none) := fun z => by
      have e3 : lsD ap ps = .none := by unfold lsD; simp only [hg, z]
      rw [e3] at hq; exact hq
    -- the end of a turn
    have tail : ∀ (g : List Nat) (x4 : Option Rv), g.length ≤ 100000 → (400 < g.length → lsGo ap f (x :: r) = none) → (¬ 400 < g.length → lsGo ap f (x :: r) = lsGo ap g r) →
        wIfS (wTe (wB opGt (wO (wCa opLen (wConsO (wL 2) wNilO))) (wO (wC (.int 400))))) (wRet (wC .none)) wNext [some (.val (.list (ps.map phD))), some (.val (.bool ap)), some (.val (sD g)), some (.val (phD x)), x4] { nx := nx, rt := (endsOf q).rt, bk := fun e => wRetN 2 e (endsOf q), ct := nx, ex := (endsOf q).ex } := fun g x4 hb h1 h2 => by
      refine ⟨trivial, small 100000 (by rw [S_len]; exact hb), ?_⟩
      rw [S_len]
      refine ite2 (fun h => ?_) (fun h => ?_)
      · exact ⟨trivial, none_of (h1 (by have := of_decide_eq_true h; omega))⟩
      · have h3 : ¬ 400 < g.length := fun z => h (decide_eq_true (by omega))
        exact hnx _ ⟨g, _, _, rfl, by rw [hg, h2 h3], by omega, hr'⟩
    cases x with
    | lt c =>
      refine ⟨trivial, sD sLetter, rfl, .inl ⟨rfl, rfl⟩, ?_⟩
      rw [eqv_self_str]
      refine ⟨trivial, trivial, sD [c], rfl, small 801 (by rw [S_len, S_len]; show f.length + 1 ≤ 801; omega), ?_⟩
      rw [S_app]
      refine tail (f ++ [c]) x4 (by rw [List.length_append]; show f.length + 1 ≤ _; omega) (fun h => ?_) (fun h => ?_)
      · rw [List.length_append, List.length_singleton] at h; rw [lsGo, if_pos h]
      · rw [List.length_append, List.length_singleton] at h; rw [lsGo, if_neg h]
    | cp p L =>
      obtain ⟨d1, d2, d3⟩ := hd.2 (.cp p L) (hr _ (List.mem_cons_self ..))
      refine ⟨trivial, sD sCopy, rfl, .inl ⟨rfl, rfl⟩, ?_⟩
      refine ⟨trivial, .int (p : Nat), rfl, trivial, hs, ?_⟩
      rw [S_len]
      have bad : (f.length ≤ p ∨ (ap = true ∧ f.length < p + L) ∨ 400 < L) → q (.val .none) := fun z => none_of (by rw [lsGo, if_pos z])
      refine ite2 (fun h => ?_) (fun h => ?_)
      · exact ⟨trivial, bad (.inl (by have h : decide ((f.length : Int) ≤ (p : Nat)) = true := h; have := of_decide_eq_true h; omega))⟩
      · have hp : ¬ f.length ≤ p := fun z => h (decide_eq_true (show (f.length : Int) ≤ (p : Nat) by omega))
        have last : (ap = true → ¬ f.length < p + L) → wIfS (wTe (wB opGt (wO (wB opIx (wL 3) (wO (wC (.int 2))))) (wO (wC (.int 400))))) (wRet (wC .none)) wNext [some (.val (.list (ps.map phD))), some (.val (.bool ap)), some (.val (sD f)), some (.val (phD (.cp p L))), x4]
            { nx := fun e => bCopyLoop e { nx := fun e => wIfS (wTe (wB opGt (wO (wCa opLen (wConsO (wL 2) wNilO))) (wO (wC (.int 400))))) (wRet (wC .none)) wNext e { nx := nx, rt := (endsOf q).rt, bk := fun e => wRetN 2 e (endsOf q), ct := nx, ex := (endsOf q).ex }, rt := (endsOf q).rt, bk := fun e => wRetN 2 e (endsOf q), ct := nx, ex := (endsOf q).ex }, rt := (endsOf q).rt, bk := fun e => wRetN 2 e (endsOf q), ct := nx, ex := (endsOf q).ex } := fun hap => by
          refine ⟨trivial, .int (L : Nat), rfl, ?_⟩
          refine ite2 (fun h => ?_) (fun h => ?_)
          · exact ⟨trivial, bad (.inr (.inr (by have h : decide ((400 : Int) < (L : Nat)) = true := h; have := of_decide_eq_true h; omega)))⟩
          · have hL : ¬ 400 < L := fun z => h (decide_eq_true (show (400 : Int) < (L : Nat) by omega))
            refine copy_loop (by omega) (by omega) fun x4 => ?_
            have hno : ¬ (f.length ≤ p ∨ (ap = true ∧ f.length < p + L) ∨ 400 < L) := by
              rintro (z | ⟨z1, z2⟩ | z)
              · exact hp z
              · exact hap z1 z2
              · exact hL z
            refine tail (ext f p L) x4 (by rw [ext_len]; omega) (fun h => ?_) (fun h => ?_)
            · rw [ext_len] at h; rw [lsGo, if_neg hno, if_pos h]
            · rw [ext_len] at h; rw [lsGo, if_neg hno, if_neg h]
        cases ap with
        | true =>
          refine ⟨trivial, .int (p : Nat), rfl, trivial, .int (L : Nat), rfl, trivial, hs, ?_⟩
          rw [S_len]
          refine ite2 (fun h => ?_) (fun h => ?_)
          · exact ⟨trivial, bad (.inr (.inl ⟨rfl, by have h : decide ((f.length : Int) < (p : Nat) + (L : Nat)) = true := h; have := of_decide_eq_true h; omega⟩))⟩
          · exact last fun _ z => h (decide_eq_true (show (f.length : Int) < (p : Nat) + (L : Nat) by omega))
        | false => exact last fun z => by cases z
theorem lawLWrong : ∀ as q, semLWrong as q → bLWrong (envOf NLWrong as) (endsOf q) := by
  rintro _ q ⟨ps, rfl, hl, hq⟩
  have one : ∀ {a : PyData}, [a].length ≤ sizeLine := fun {a} => by show 1 ≤ sizeLine; decide
  have four : ∀ {a b c d : PyData}, [a, b, c, d].length ≤ sizeLine := fun {a b c d} => by show 4 ≤ sizeLine; decide
  refine ⟨two, two, two, one, two, three, three, three, three, by show 9 ≤ sizeLine; decide, trivial, three, Nat.zero_le _, four, three, two, Nat.zero_le _, three, by show 10 ≤ sizeLine; decide, by show 19 ≤ sizeLine; decide, trivial, ((ps.length : Nat) : Int) + 1, rfl, by omega, by omega, fun v v1 v2 => ?_⟩
  refine ⟨trivial, trivial, trivial, trivial, 19, rfl, by decide, by decide, fun u u1 u2 => ?_⟩
  have hu : u.toNat < odds.length := by show u.toNat < 19; omega
  refine ⟨odds[u.toNat], atI_ok u1 (List.getElem?_eq_getElem hu), one, ?_⟩
  have l1 : (cutL ps none (some v)).length ≤ 100 := by rw [cutL_to ps v1, List.length_take]; omega
  have l2 : (cutL ps (some v) none).length ≤ 100 := by rw [cutL_from ps v1, List.length_drop]; omega
  refine ⟨small 101 (by show _ + 1 ≤ 101; omega), trivial, trivial, small 201 (by rw [List.length_append]; show _ + 1 + _ ≤ 201; omega), trivial, ?_⟩
  have := hq v.toNat _ (by omega) (List.getElem_mem hu)
  rw [cutL_to ps v1, cutL_from ps v1]
  exact this
end K46

namespace K46
open PySem PySem.Spec PyProof.Rows L2 TL PL
theorem lawLDrawn : ∀ as q, semLDrawn as q → bLDrawn (envOf NLDrawn as) (endsOf q) := by
  rintro _ q ⟨rfl, hq⟩
  have abc : ∀ v : Int, 0 ≤ v → v < 3 → ∃ c : Nat, atI (S [97, 98, 99]).cps.toList v = some c ∧ 97 ≤ c ∧ c ≤ 99 := fun v h1 h2 => by
    have : v = 0 ∨ v = 1 ∨ v = 2 := by omega
    rcases this with rfl | rfl | rfl
    · exact ⟨97, rfl, by decide, by decide⟩
    · exact ⟨98, rfl, by decide, by decide⟩
    · exact ⟨99, rfl, by decide, by decide⟩
  refine ⟨3, rfl, by decide, by decide, fun v v1 v2 => ⟨by decide, ?_⟩⟩
  obtain ⟨c0, hc0, hc1, hc2⟩ := abc v v1 v2
  refine ⟨c0, hc0, two, by show 1 ≤ sizeLine; decide, 9, rfl, by decide, by decide, fun m m1 m2 => ⟨⟨by omega, by omega⟩, ?_⟩⟩
  refine for_rng (fun i e => ∃ (ps : List Ph) (A : List PyData) (s : Nat) (sv : Int) (x3 x4 x5 : Option Rv), e = [some .dr, some (.own (.list A)), some (.val (.int sv)), x3, x4, x5] ∧ A = ps.map phD ∧ sv = (s : Nat) ∧ 1 ≤ s ∧ s + 200 ≤ 2 ^ i * 201 ∧ ps.length = i + 1 ∧ ∀ x ∈ ps, match x with | .lt c => 97 ≤ c ∧ c ≤ 99 | .cp p L => 1 ≤ L ∧ L ≤ 1000000 ∧ p ≤ 1000000)
    (fun env h => ?_) (fun i env hi h nx hnx => ?_) _ ⟨[.lt c0], _, 1, 1, none, none, none, rfl, rfl, rfl, by decide, by decide, rfl, fun x hx => by rw [List.mem_singleton.mp hx]; exact ⟨hc1, hc2⟩⟩
  · obtain ⟨ps, A, s, sv, x3, x4, x5, rfl, rfl, rfl, _, _, hl, hx⟩ := h
    exact ⟨trivial, hq ps ⟨by omega, hx⟩⟩
  · obtain ⟨ps, A, s, sv, x3, x4, x5, rfl, rfl, rfl, hs1, hs2, hl, hx⟩ := h
    have hi8 : i ≤ 7 := by omega
    have hp8 : 2 ^ i * 201 ≤ 2 ^ 7 * 201 := Nat.mul_le_mul (Nat.pow_le_pow_right (by decide) hi8) (Nat.le_refl _)
    have hs : s ≤ 30000 := by omega
    have hpow : 2 ^ (i + 1) * 201 = 2 * (2 ^ i * 201) := by rw [Nat.pow_succ]; omega
    have hA : (ps.map phD).length < sizeLine := by rw [List.length_map]; exact small' 100 (by omega)
    have snoc : ∀ x : Ph, (match x with | .lt c => 97 ≤ c ∧ c ≤ 99 | .cp p L => 1 ≤ L ∧ L ≤ 1000000 ∧ p ≤ 1000000) → ∀ y ∈ ps ++ [x], match y with | .lt c => 97 ≤ c ∧ c ≤ 99 | .cp p L => 1 ≤ L ∧ L ≤ 1000000 ∧ p ≤ 1000000 := fun x h y hy => by
      rcases List.mem_append.mp hy with hy | hy
      · exact hx y hy
      · rw [List.mem_singleton.mp hy]; exact h
    refine ⟨3, rfl, by decide, by decide, fun a a1 a2 => ⟨.inl ⟨rfl, rfl⟩, ?_⟩⟩
    refine ite2 (fun _ => ?_) (fun _ => ?_)
    · refine ⟨trivial, 3, rfl, by decide, by decide, fun b b1 b2 => ⟨by decide, ?_⟩⟩
      obtain ⟨c, hc, hc3, hc4⟩ := abc b b1 b2
      refine ⟨c, hc, two, hA, trivial, ?_⟩
      exact hnx _ ⟨ps ++ [.lt c], _, s + 1, _, _, _, _, rfl, by rw [List.map_append]; rfl, by omega, by omega, by omega, by rw [List.length_append]; simp; omega, snoc (.lt c) ⟨hc3, hc4⟩⟩
    · refine ⟨trivial, 20, rfl, by decide, by decide, fun b b1 b2 => ⟨.inl ⟨rfl, rfl⟩, ?_⟩⟩
      have hbit : ∀ t : Bool, 0 ≤ (if t = true then (1 : Int) else 0) ∧ (if t = true then (1 : Int) else 0) ≤ 1 := fun t => by cases t <;> decide
      have hb2 := hbit (PyData.eqv (.int b) (.int 1))
      refine ⟨(s : Int) + (if PyData.eqv (.int b) (.int 1) = true then 1 else 0), rfl, by omega, by omega, fun p p1 p2 => ?_⟩
      obtain ⟨pn, rfl⟩ : ∃ pn : Nat, p = (pn : Nat) := ⟨p.toNat, (Int.toNat_of_nonneg p1).symm⟩
      refine ⟨trivial, trivial, ?_⟩
      refine ite2 (fun h => ?_) (fun h => ?_)
      · have h : (pn : Int) < (s : Nat) := of_decide_eq_true h
        refine ⟨trivial, trivial, (s : Int) - (pn : Nat), rfl, by omega, by omega, fun x x1 x2 => ?_⟩
        refine ⟨150, rfl, by decide, by decide, fun y y1 y2 => ⟨two, 5, rfl, by decide, by decide, fun z z1 z2 => ⟨.inl ⟨rfl, rfl⟩, ?_⟩⟩⟩
        obtain ⟨w, hw, hw0, hw1⟩ : ∃ w : Nat, atI [PyData.int x, .int y] (if PyData.eqv (.int z) (.int 1) = true then 1 else 0) = some (.int (w : Nat)) ∧ w ≤ 30000 ∧ (w : Int) ≤ s + 149 := by
          cases PyData.eqv (.int z) (.int 1)
          · exact ⟨x.toNat, by rw [Int.toNat_of_nonneg x1]; rfl, by omega, by omega⟩
          · exact ⟨y.toNat, by rw [Int.toNat_of_nonneg y1]; rfl, by omega, by omega⟩
        refine ⟨.int (w : Nat), hw, trivial, three, hA, trivial, trivial, ?_⟩
        exact hnx _ ⟨ps ++ [.cp pn (1 + w)], _, s + (1 + w), _, _, _, _, rfl, by rw [List.map_append]; rfl, by omega, by omega, by omega, by rw [List.length_append]; simp; omega, snoc (.cp pn (1 + w)) ⟨by omega, by omega, by omega⟩⟩
      · refine ⟨1, rfl, by decide, by decide, fun x x1 x2 => ?_⟩
        refine ⟨150, rfl, by decide, by decide, fun y y1 y2 => ⟨two, 5, rfl, by decide, by decide, fun z z1 z2 => ⟨.inl ⟨rfl, rfl⟩, ?_⟩⟩⟩
        obtain ⟨w, hw, hw0, hw1⟩ : ∃ w : Nat, atI [PyData.int x, .int y] (if PyData.eqv (.int z) (.int 1) = true then 1 else 0) = some (.int (w : Nat)) ∧ w ≤ 30000 ∧ (w : Int) ≤ s + 149 := by
          cases PyData.eqv (.int z) (.int 1)
          · exact ⟨x.toNat, by rw [Int.toNat_of_nonneg x1]; rfl, by omega, by omega⟩
          · exact ⟨y.toNat, by rw [Int.toNat_of_nonneg y1]; rfl, by omega, by omega⟩
        refine ⟨.int (w : Nat), hw, trivial, three, hA, trivial, trivial, ?_⟩
        exact hnx _ ⟨ps ++ [.cp pn (1 + w)], _, s + (1 + w), _, _, _, _, rfl, by rw [List.map_append]; rfl, by omega, by omega, by omega, by rw [List.length_append]; simp; omega, snoc (.cp pn (1 + w)) ⟨by omega, by omega, by omega⟩⟩
end K46

namespace K46
open PySem PySem.Spec PyProof.Rows L2 TL PL
abbrev nD (n : Nat) : PyData := .int (n : Nat)
theorem lawStartsOf : ∀ as q, semStartsOf as q → bStartsOf (envOf NStartsOf as) (endsOf q) := by
  rintro _ q ⟨ps, rfl, hl, hq⟩
  refine ⟨by show 1 ≤ sizeLine; decide, ?_⟩
  conv => whnf
  refine for_map phD (fun r e => ∃ (pre : List Nat) (s : Nat) (A : List PyData) (x2 : Option Rv), e = [some (.val (.tuple (ps.map phD))), some (.own (.list A)), x2] ∧ A = pre.map nD ++ [nD s] ∧ starts 0 ps = pre ++ starts s r ∧ pre.length + r.length = ps.length)
    (fun env h => ?_) (fun x r env h nx hnx => ?_) ps _ ⟨[], 0, _, none, rfl, rfl, rfl, by simp⟩
  · obtain ⟨pre, s, A, x2, rfl, rfl, hs, _⟩ := h
    rw [hs, starts, List.map_append] at hq
    exact ⟨trivial, hq⟩
  · obtain ⟨pre, s, A, x2, rfl, rfl, hs, hp⟩ := h
    rw [List.length_cons] at hp
    have hA : (pre.map nD ++ [nD s]).length < sizeLine := by rw [List.length_append, List.length_map]; exact small' 1001 (by show pre.length + 1 ≤ 1001; omega)
    cases x with
    | lt c =>
      refine ⟨trivial, trivial, nD s, atI_last _ _, trivial, sD sLetter, rfl, .inl ⟨rfl, rfl⟩, ?_⟩
      rw [eqv_self_str]
      refine ⟨hA, ?_⟩
      exact hnx _ ⟨pre ++ [s], s + 1, _, _, rfl, by rw [List.map_append]; rfl, by rw [hs, starts, List.append_assoc]; rfl, by rw [List.length_append]; show pre.length + 1 + _ = _; omega⟩
    | cp p L =>
      refine ⟨trivial, trivial, nD s, atI_last _ _, trivial, sD sCopy, rfl, .inl ⟨rfl, rfl⟩, trivial, nD L, rfl, hA, ?_⟩
      exact hnx _ ⟨pre ++ [s], s + L, _, _, rfl, by rw [List.map_append]; rfl, by rw [hs, starts, List.append_assoc]; rfl, by rw [List.length_append]; show pre.length + 1 + _ = _; omega⟩
theorem starts_len : ∀ (ps : List Ph) (s : Nat), (starts s ps).length = ps.length + 1
  | [], s => rfl
  | x :: r, s => by rw [starts, List.length_cons, starts_len r, List.length_cons]
theorem good_last {ap : Bool} {w : List Nat} : ∀ (ps : List Ph) (s : Nat), Good ap w s ps → ∃ init, starts s ps = init ++ [w.length]
  | [], s, h => ⟨[], by have h : s = w.length := h; rw [h]; rfl⟩
  | .lt c :: r, s, h => by
    obtain ⟨i, hi⟩ := good_last r (s + 1) h.2.2
    exact ⟨s :: i, by show s :: starts (s + 1) r = _; rw [hi]; rfl⟩
  | .cp p L :: r, s, h => by
    obtain ⟨i, hi⟩ := good_last r (s + L) h.2.2.2.2.2.2
    exact ⟨s :: i, by show s :: starts (s + L) r = _; rw [hi]; rfl⟩
def Has (w : List Nat) (s : Nat) : Ph → Prop
  | .lt c => w[s]? = some c
  | .cp p L => p < s ∧ 1 ≤ L ∧ ∀ j, j < L → w[s + j]? = w[p + j]?
theorem good_at {ap : Bool} {w : List Nat} : ∀ (ps : List Ph) (s j : Nat) (x : Ph), Good ap w s ps → ps[j]? = some x → ∃ sj, (starts s ps)[j]? = some sj ∧ (starts s ps)[j + 1]? = some (sj + x.len) ∧ Has w sj x
  | [], s, j, x, _, hj => by simp at hj
  | y :: r, s, 0, x, h, hj => by
    have e : y = x := Option.some.inj hj
    subst e
    refine ⟨s, rfl, ?_, ?_⟩
    · show (starts (s + y.len) r)[0]? = _
      cases r <;> rfl
    · cases y with
      | lt c => exact h.1
      | cp p L => exact ⟨h.1, h.2.1, h.2.2.2.2.2.1⟩
  | .lt c :: r, s, j + 1, x, h, hj => good_at r (s + 1) j x h.2.2 hj
  | .cp p L :: r, s, j + 1, x, h, hj => good_at r (s + L) j x h.2.2.2.2.2.2 hj
theorem starts_zero (ps : List Ph) : (starts 0 ps)[0]? = some 0 := by cases ps <;> rfl
theorem lawLetterAt : ∀ as q qx, semLetterAt as q qx → bLetterAt (envOf NLetterAt as) (endsX q qx) := by
  rintro _ q qx ⟨ps, w, ap, d, rfl, hl, hg, hw, hd, hk, hx⟩
  obtain ⟨init, hinit⟩ := good_last ps 0 hg
  have hlen := starts_len ps 0
  have lastE : atI ((starts 0 ps).map nD) (-1) = some (nD w.length) := by rw [hinit, List.map_append]; exact atI_last _ _
  refine ⟨ps, rfl, hl, trivial, nD w.length, lastE, d, 0, _, rfl, hd, ?_⟩
  refine ite2 (fun h => ?_) (fun h => ?_)
  · exact hx ((Bool.not_eq_true' _).mp h)
  · have h : placeB d 0 ((w.length : Int) - 1) = true := by simpa using h
    obtain ⟨i, rfl, hi⟩ : ∃ i : Nat, d = .int i ∧ i < w.length := by
      cases d with
      | int v =>
        have h : (decide (0 ≤ v) && decide (v ≤ (w.length : Int) - 1)) = true := h
        rw [Bool.and_eq_true] at h
        have h1 := of_decide_eq_true h.1
        have h2 := of_decide_eq_true h.2
        exact ⟨v.toNat, by rw [Int.toNat_of_nonneg h1], by omega⟩
      | _ => cases h
    have hq := hk i rfl hi
    have hne : ps ≠ [] := fun z => by subst z; have : 0 = w.length := hg; omega
    have hpos : 0 < ps.length := List.length_pos_iff.mpr hne
    have ix : ∀ j s, (starts 0 ps)[j]? = some s → atI ((starts 0 ps).map nD) ((j : Nat) : Int) = some (nD s) := fun j s h => atI_nat (by rw [List.getElem?_map, h]; rfl)
    have px : ∀ j x, ps[j]? = some x → atI (ps.map phD) ((j : Nat) : Int) = some (phD x) := fun j x h => atI_nat (by rw [List.getElem?_map, h]; rfl)
    have len2 : ∃ k : Nat, k + 1 = ps.length := ⟨ps.length - 1, by omega⟩
    obtain ⟨k, hk2⟩ := len2
    refine ⟨trivial, fun m e => ∃ (pl a : Nat) (pv av : Int), e = [some (.val (.tuple (ps.map phD))), some (.val (.int pv)), some (.own (.list ((starts 0 ps).map nD))), some (.val (.int av))] ∧ pv = (pl : Nat) ∧ av = (a : Nat) ∧ a < ps.length ∧ pl < w.length ∧ w[pl]? = w[i]? ∧ (∃ s, (starts 0 ps)[a + 1]? = some s ∧ pl < s) ∧ pl = m,
      ⟨i, i, k, _, _, rfl, rfl, by rw [List.length_map]; omega, by omega, hi, rfl, ⟨w.length, ?_, hi⟩, rfl⟩, fun m e hI => ?_⟩
    · rw [hinit, show k + 1 = init.length by have := congrArg List.length hinit; rw [hlen, List.length_append, List.length_singleton] at this; omega]; simp
    · obtain ⟨pl, a, pv, av, rfl, rfl, rfl, ha, hpl, hwp, hs, rfl⟩ := hI
      refine ⟨fun m e => ∃ (a : Nat) (av : Int), e = [some (.val (.tuple (ps.map phD))), some (.val (.int (pl : Nat))), some (.own (.list ((starts 0 ps).map nD))), some (.val (.int av))] ∧ av = (a : Nat) ∧ a < ps.length ∧ (∃ s, (starts 0 ps)[a + 1]? = some s ∧ pl < s) ∧ a = m,
        ⟨a, a, _, rfl, rfl, ha, hs, rfl⟩, fun m e hI => ?_⟩
      obtain ⟨a, av, rfl, rfl, ha, ⟨s1, hs1, hlt⟩, rfl⟩ := hI
      obtain ⟨x, hxp⟩ : ∃ x, ps[a]? = some x := ⟨_, List.getElem?_eq_getElem ha⟩
      obtain ⟨s, h1, h2, h3⟩ := good_at ps 0 a x hg hxp
      rw [hs1] at h2
      have h2 := Option.some.inj h2
      refine ⟨trivial, trivial, nD s, ix a s h1, trivial, ?_⟩
      refine ite2 (fun h => ?_) (fun h => ?_)
      · have h : (pl : Int) < (s : Nat) := of_decide_eq_true h
        have ha0 : a ≠ 0 := fun z => by subst z; rw [starts_zero] at h1; have := Option.some.inj h1; omega
        obtain ⟨b, rfl⟩ : ∃ b, a = b + 1 := ⟨a - 1, by omega⟩
        exact ⟨b, by omega, b, _, rfl, by omega, by omega, ⟨s, h1, by omega⟩, rfl⟩
      · have hle : s ≤ pl := by
          rcases Nat.lt_or_ge pl s with z | z
          · exact absurd (decide_eq_true (show (pl : Int) < (s : Nat) by omega)) h
          · exact z
        cases x with
        | lt c =>
          have h2 : s1 = s + 1 := h2
          have e : pl = s := by omega
          subst e
          refine ⟨trivial, trivial, phD (.lt c), px a _ hxp, sD sLetter, rfl, .inl ⟨rfl, rfl⟩, ?_⟩
          rw [eqv_self_str]
          refine ⟨trivial, trivial, phD (.lt c), px a _ hxp, sD [c], rfl, trivial, ?_⟩
          have h3 : w[pl]? = some c := h3
          rw [h3] at hwp
          have : w.getD i 0 = c := by rw [List.getD_eq_getElem?_getD, ← hwp]; rfl
          rw [this] at hq
          exact hq
        | cp p L =>
          obtain ⟨h4, h5, h6⟩ := h3
          have h2 : s1 = s + L := h2
          refine ⟨trivial, trivial, phD (.cp p L), px a _ hxp, sD sCopy, rfl, .inl ⟨rfl, rfl⟩, ?_⟩
          refine ⟨trivial, trivial, phD (.cp p L), px a _ hxp, nD p, rfl, trivial, trivial, trivial, nD s, ix a s h1, ?_⟩
          have h7 := h6 (pl - s) (by omega)
          rw [show s + (pl - s) = pl by omega] at h7
          exact ⟨p + (pl - s), by omega, p + (pl - s), a, _, _, rfl, by omega, rfl, ha, by omega, by rw [← h7]; exact hwp, ⟨s1, hs1, by omega⟩, rfl⟩
theorem lawLLetter : ∀ as q, semLLetter as q → bLLetter (envOf NLLetter as) (endsOf q) := by
  rintro _ q ⟨ps, w, ap, d, rfl, hl, hg, hw, hd, hk, hx⟩
  refine ⟨ps, w, ap, d, rfl, hl, hg, hw, hd, fun i hi hlt => ⟨trivial, hk i hi hlt⟩, fun h => ⟨by show 2 < 3; decide, trivial, ?_⟩⟩
  show q (.val (if S sPlace = S sPlace then .int 7 else .none))
  rw [if_pos rfl]
  exact hx h
end K46

namespace K46
open PySem PySem.Spec PyProof.Rows L2 TL PL
theorem phr_good {l : List Nat} {ap : Bool} (hw : W l) (hl : l.length ≤ 400) : ∀ (ps : List Ph) (n : Nat), IsPhr l ap ps n → Good ap l n ps
  | [], n, h => h
  | x :: r, n, h => by
    obtain ⟨h1, p, L, hc, rfl, h2⟩ := h
    have ih := phr_good hw hl r _ h2
    rcases hc with ⟨rfl, rfl, _⟩ | ⟨g1, g2, _⟩
    · rw [if_pos rfl]
      have e : l.getD n 0 = l[n] := by rw [List.getD_eq_getElem?_getD, List.getElem?_eq_getElem h1]; rfl
      refine ⟨by rw [e, List.getElem?_eq_getElem h1], ?_, by simpa using ih⟩
      have := hw l[n] (List.getElem_mem h1)
      rw [e]
      show (decide (97 ≤ l[n]) && decide (l[n] ≤ 122)) = true
      rw [decide_eq_true this.1, decide_eq_true this.2]; rfl
    · rw [if_neg (by omega)]
      have hm : max 1 L = L := by omega
      rw [hm] at ih
      exact ⟨g2.1, by omega, by have := g2.2.1; omega, g2.2.1, g2.2.2.1, fun j hj => (g2.2.2.2 j hj).symm, ih⟩
theorem ext_take {w : List Nat} {s p : Nat} (hp : p < s) : ∀ L, s + L ≤ w.length → (∀ j, j < L → w[s + j]? = w[p + j]?) → ext (w.take s) p L = w.take (s + L)
  | 0, _, _ => rfl
  | L + 1, hl, h => by
    rw [ext, ext_take hp L (by omega) fun j hj => h j (by omega)]
    have h1 : (w.take (s + L)).getD (p + L) 0 = w[s + L] := by
      have := h L (by omega)
      rw [List.getElem?_eq_getElem (by omega : s + L < w.length)] at this
      rw [List.getD_eq_getElem?_getD, List.getElem?_take, if_pos (by omega), ← this]; rfl
    rw [h1, show s + (L + 1) = s + L + 1 by omega, List.take_succ_eq_append_getElem (by omega : s + L < w.length)]
theorem phOk_ltI {n c : Nat} {ap : Bool} (h : letB [c] = true) : phOk n ap (phD (.lt c)) = some (.lt c) := by
  show (if (S sLetter).cps.toList = sLetter ∧ letB (S [c]).cps.toList = true then some (Ph.lt ((S [c]).cps.toList.getD 0 0)) else none) = _
  rw [if_pos ⟨rfl, h⟩]; rfl
theorem phOk_cpE (n p L : Nat) (ap : Bool) : phOk n ap (phD (.cp p L)) = if p < n ∧ 1 ≤ L ∧ (ap = true → p + L ≤ n) ∧ (ap = false → L ≤ 400) then some (.cp p L) else none := by
  show (if (S sCopy).cps.toList = sCopy ∧ 0 ≤ ((p : Nat) : Int) ∧ ((p : Nat) : Int) ≤ (n : Int) - 1 ∧ 1 ≤ ((L : Nat) : Int) ∧ ((L : Nat) : Int) ≤ (if ap = true then (n : Int) - (p : Nat) else 400) then some (Ph.cp ((p : Nat) : Int).toNat ((L : Nat) : Int).toNat) else none) = _
  rw [Int.toNat_natCast, Int.toNat_natCast]
  by_cases h : p < n ∧ 1 ≤ L ∧ (ap = true → p + L ≤ n) ∧ (ap = false → L ≤ 400)
  · rw [if_pos h, if_pos]
    refine ⟨rfl, by omega, by omega, by omega, ?_⟩
    cases ap
    · rw [if_neg Bool.false_ne_true]; have := h.2.2.2 rfl; omega
    · rw [if_pos rfl]; have := h.2.2.1 rfl; omega
  · rw [if_neg h, if_neg]
    rintro ⟨_, h1, h2, h3, h4⟩
    refine h ⟨by omega, by omega, fun z => ?_, fun z => ?_⟩
    · rw [if_pos z] at h4; omega
    · rw [z, if_neg Bool.false_ne_true] at h4; omega
theorem good_sp {w : List Nat} {ap : Bool} (hw : w.length ≤ 400) : ∀ (ps : List Ph) (s : Nat), Good ap w s ps → spGo ap (w.take s) (ps.map phD) = some w
  | [], s, h => by have h : s = w.length := h; rw [h, List.take_length]; rfl
  | .lt c :: r, s, h => by
    obtain ⟨h1, h2, h3⟩ := h
    have hs : s < w.length := by
      rcases Nat.lt_or_ge s w.length with q | q
      · exact q
      · rw [List.getElem?_eq_none q] at h1; cases h1
    have ht : (w.take s).length = s := by rw [List.length_take]; omega
    have e : w.take s ++ [c] = w.take (s + 1) := by
      rw [List.take_succ_eq_append_getElem hs]
      rw [List.getElem?_eq_getElem hs] at h1
      rw [Option.some.inj h1]
    rw [List.map_cons, spGo, if_neg (by omega), phOk_ltI h2]
    show spGo ap (w.take s ++ [c]) (r.map phD) = some w
    rw [e]
    exact good_sp hw r (s + 1) h3
  | .cp p L :: r, s, h => by
    obtain ⟨h1, h2, h3, h4, h5, h6, h7⟩ := h
    have ht : (w.take s).length = s := by rw [List.length_take]; omega
    rw [List.map_cons, spGo, if_neg (by omega), ht, phOk_cpE, if_pos ⟨h1, h2, h5, fun _ => h3⟩]
    show spGo ap (ext (w.take s) p L) (r.map phD) = some w
    rw [ext_take h1 L h4 h6]
    exact good_sp hw r (s + L) h7
theorem spD_good {w : List Nat} {ap : Bool} {ps : List Ph} (hw : w.length ≤ 400) (h : Good ap w 0 ps) : spD ap (.tuple (ps.map phD)) = sD w := by
  have := good_sp hw ps 0 h
  rw [List.take_zero] at this
  unfold spD
  simp only [this]
  rw [if_pos hw]
theorem ext_get {f : List Nat} {p : Nat} (hp : p < f.length) : ∀ L j, j < L → (ext f p L)[f.length + j]? = (ext f p L)[p + j]?
  | L + 1, j, hj => by
    have hl := ext_len f p L
    rw [ext]
    rcases Nat.lt_or_ge j L with q | q
    · rw [List.getElem?_append_left (by omega), List.getElem?_append_left (by omega)]
      exact ext_get hp L j q
    · have : j = L := by omega
      subst this
      rw [List.getElem?_append_right (by omega), List.getElem?_append_left (by omega), hl, Nat.sub_self, List.getD_eq_getElem?_getD, List.getElem?_eq_getElem (by omega : p + j < (ext f p j).length)]; rfl
theorem ext_pre (f : List Nat) (p : Nat) : ∀ L, (ext f p L).take f.length = f
  | 0 => List.take_length
  | L + 1 => by rw [ext, List.take_append_of_le_length (by rw [ext_len]; omega)]; exact ext_pre f p L
def okPh : Ph → Prop
  | .lt c => letB [c] = true
  | .cp _ L => 1 ≤ L
theorem ls_good {w : List Nat} {ap : Bool} : ∀ (ps : List Ph) (f : List Nat), (∀ x ∈ ps, okPh x) → f.length ≤ 400 → lsGo ap f ps = some w → Good ap w f.length ps ∧ w.take f.length = f ∧ w.length ≤ 400
  | [], f, _, hf, h => by
    have e : f = w := Option.some.inj h
    subst e
    exact ⟨rfl, List.take_length, hf⟩
  | .lt c :: r, f, hx, hf, h => by
    rw [lsGo] at h
    by_cases hc : 400 < f.length + 1
    · rw [if_pos hc] at h; cases h
    · rw [if_neg hc] at h
      obtain ⟨h1, h2, h3⟩ := ls_good r (f ++ [c]) (fun x hm => hx x (List.mem_cons_of_mem _ hm)) (by rw [List.length_append]; show f.length + 1 ≤ 400; omega) h
      rw [List.length_append, List.length_singleton] at h1 h2
      refine ⟨⟨?_, hx _ (List.mem_cons_self ..), h1⟩, ?_, h3⟩
      · have := congrArg (fun l : List Nat => l[f.length]?) h2
        simpa [List.getElem?_take] using this
      · have := congrArg (List.take f.length) h2
        rw [List.take_take, Nat.min_eq_left (by omega), List.take_append_of_le_length (Nat.le_refl _), List.take_length] at this
        exact this
  | .cp p L :: r, f, hx, hf, h => by
    rw [lsGo] at h
    by_cases hb : f.length ≤ p ∨ (ap = true ∧ f.length < p + L) ∨ 400 < L
    · rw [if_pos hb] at h; cases h
    · rw [if_neg hb] at h
      by_cases hc : 400 < f.length + L
      · rw [if_pos hc] at h; cases h
      · rw [if_neg hc] at h
        obtain ⟨h1, h2, h3⟩ := ls_good r (ext f p L) (fun x hm => hx x (List.mem_cons_of_mem _ hm)) (by rw [ext_len]; omega) h
        rw [ext_len] at h1 h2
        have hlen : f.length + L ≤ w.length := by
          have := congrArg List.length h2
          rw [List.length_take, ext_len] at this; omega
        have hp : p < f.length := by
          rcases Nat.lt_or_ge p f.length with q | q
          · exact q
          · exact absurd (.inl q) hb
        have hL : 1 ≤ L := hx _ (List.mem_cons_self ..)
        have at_ : ∀ k, k < f.length + L → w[k]? = (ext f p L)[k]? := fun k hk => by rw [← h2, List.getElem?_take, if_pos hk]
        refine ⟨⟨hp, hL, by omega, hlen, fun z => ?_, fun j hj => ?_, h1⟩, ?_, h3⟩
        · rcases Nat.lt_or_ge f.length (p + L) with q | q
          · exact absurd (.inr (.inl ⟨z, q⟩)) hb
          · exact q
        · rw [at_ _ (by omega), at_ _ (by omega)]
          exact ext_get hp L j hj
        · have := congrArg (List.take f.length) h2
          rw [List.take_take, Nat.min_eq_left (by omega), ext_pre] at this
          exact this
theorem sp_big {ap : Bool} {g : List Nat} (h : 400 < g.length) (ds : List PyData) : spGo ap g ds = none ∨ spGo ap g ds = some g := by
  cases ds with
  | nil => exact .inr rfl
  | cons d r => exact .inl (by rw [spGo, if_pos h])
theorem ls_none {ap : Bool} : ∀ (ps : List Ph) (f : List Nat), (∀ x ∈ ps, okPh x) → f.length ≤ 400 → lsGo ap f ps = none → spGo ap f (ps.map phD) = none ∨ ∃ g, spGo ap f (ps.map phD) = some g ∧ 400 < g.length
  | [], f, _, _, h => by cases h
  | .lt c :: r, f, hx, hf, h => by
    rw [lsGo] at h
    rw [List.map_cons, spGo, if_neg (by omega), phOk_ltI (hx _ (List.mem_cons_self ..))]
    show spGo ap (f ++ [c]) (r.map phD) = none ∨ ∃ g, spGo ap (f ++ [c]) (r.map phD) = some g ∧ 400 < g.length
    have hl : (f ++ [c]).length = f.length + 1 := by rw [List.length_append]; rfl
    by_cases hc : 400 < f.length + 1
    · rcases sp_big (ap := ap) (g := f ++ [c]) (by omega) (r.map phD) with z | z
      · exact .inl z
      · exact .inr ⟨_, z, by omega⟩
    · rw [if_neg hc] at h
      exact ls_none r _ (fun x hm => hx x (List.mem_cons_of_mem _ hm)) (by omega) h
  | .cp p L :: r, f, hx, hf, h => by
    rw [lsGo] at h
    have hL : 1 ≤ L := hx _ (List.mem_cons_self ..)
    rw [List.map_cons, spGo, if_neg (by omega), phOk_cpE]
    by_cases hb : f.length ≤ p ∨ (ap = true ∧ f.length < p + L) ∨ 400 < L
    · left
      rw [if_neg]
      rintro ⟨h1, h2, h3, h4⟩
      rcases hb with z | ⟨z1, z2⟩ | z
      · omega
      · have := h3 z1; omega
      · cases ap
        · have := h4 rfl; omega
        · have := h3 rfl; omega
    · rw [if_neg hb] at h
      have hgood : p < f.length ∧ 1 ≤ L ∧ (ap = true → p + L ≤ f.length) ∧ (ap = false → L ≤ 400) := by
        refine ⟨?_, hL, fun z => ?_, fun _ => ?_⟩
        · rcases Nat.lt_or_ge p f.length with q | q
          · exact q
          · exact absurd (.inl q) hb
        · rcases Nat.lt_or_ge f.length (p + L) with q | q
          · exact absurd (.inr (.inl ⟨z, q⟩)) hb
          · exact q
        · rcases Nat.lt_or_ge 400 L with q | q
          · exact absurd (.inr (.inr q)) hb
          · exact q
      rw [if_pos hgood]
      show spGo ap (ext f p L) (r.map phD) = none ∨ ∃ g, spGo ap (ext f p L) (r.map phD) = some g ∧ 400 < g.length
      have hl := ext_len f p L
      by_cases hc : 400 < f.length + L
      · rcases sp_big (ap := ap) (g := ext f p L) (by omega) (r.map phD) with z | z
        · exact .inl z
        · exact .inr ⟨_, z, by omega⟩
      · rw [if_neg hc] at h
        exact ls_none r _ (fun x hm => hx x (List.mem_cons_of_mem _ hm)) (by omega) h
theorem spD_ls {ap : Bool} {ps : List Ph} (hx : ∀ x ∈ ps, okPh x) : spD ap (.tuple (ps.map phD)) = lsD ap ps := by
  unfold lsD
  cases h : lsGo ap [] ps with
  | some w =>
    obtain ⟨h1, _, h3⟩ := ls_good ps [] hx (by simp) h
    exact spD_good h3 h1
  | none =>
    unfold spD
    rcases ls_none ps [] hx (by simp) h with z | ⟨g, z, hg⟩
    · simp only [z]
    · simp only [z]; rw [if_neg (by omega)]
theorem Drawn.ok {ps : List Ph} (h : Drawn ps) : ∀ x ∈ ps, okPh x := fun x hx => by
  have := h.2 x hx
  cases x with
  | lt c =>
    have this : 97 ≤ c ∧ c ≤ 99 := this
    show (decide (97 ≤ c) && decide (c ≤ 122)) = true
    rw [decide_eq_true this.1, decide_eq_true (by omega : c ≤ 122)]; rfl
  | cp p L => exact this.1
theorem sp_wrong {ap : Bool} {d : PyData} {t : List PyData} (hd : ∀ n, phOk n ap d = none) : ∀ (pre : List PyData) (f : List Nat), spGo ap f (pre ++ d :: t) = none
  | [], f => by
    rw [List.nil_append, spGo, hd]
    split <;> rfl
  | x :: r, f => by
    rw [List.cons_append, spGo]
    split
    · rfl
    · cases phOk f.length ap x with
      | none => rfl
      | some y => cases y <;> exact sp_wrong hd r _
theorem odd_bad {d : PyData} (hd : d ∈ odds) (ap : Bool) (n : Nat) : phOk n ap d = none := by
  unfold odds at hd
  simp only [List.mem_cons, List.not_mem_nil, or_false] at hd
  have cc : ∀ p L : Int, p < 0 ∨ L < 1 → phOk n ap (.tuple [sD sCopy, .int p, .int L]) = none := fun p L h => by
    show (if (S sCopy).cps.toList = sCopy ∧ 0 ≤ p ∧ p ≤ (n : Int) - 1 ∧ 1 ≤ L ∧ L ≤ (if ap = true then (n : Int) - p else 400) then some (Ph.cp p.toNat L.toNat) else none) = none
    rw [if_neg]; rintro ⟨_, h1, _, h2, _⟩; omega
  have cd : ∀ p L : Int, phOk n ap (.tuple [sD [99, 111, 112, 105, 101, 100], .int p, .int L]) = none := fun p L => by
    show (if (S [99, 111, 112, 105, 101, 100]).cps.toList = sCopy ∧ 0 ≤ p ∧ p ≤ (n : Int) - 1 ∧ 1 ≤ L ∧ L ≤ (if ap = true then (n : Int) - p else 400) then some (Ph.cp p.toNat L.toNat) else none) = none
    rw [if_neg]; rintro ⟨h, _⟩; cases h
  rcases hd with rfl | rfl | rfl | rfl | rfl | rfl | rfl | rfl | rfl | rfl | rfl | rfl | rfl | rfl | rfl | rfl | rfl | rfl | rfl <;> first | rfl | exact cc _ _ (by decide) | exact cd _ _
theorem phD_fine (x : Ph) : fineP (phD x) := by
  cases x with
  | lt c =>
    intro y hy
    rcases List.mem_cons.mp hy with rfl | hy
    · exact ⟨rfl, fun s e => by cases e; rw [S_len]; decide⟩
    · rw [List.mem_singleton.mp hy]; exact ⟨rfl, fun s e => by cases e; rw [S_len]; show 1 ≤ 10; decide⟩
  | cp p L =>
    intro y hy
    rcases List.mem_cons.mp hy with rfl | hy
    · exact ⟨rfl, fun s e => by cases e; rw [S_len]; decide⟩
    · rcases List.mem_cons.mp hy with rfl | hy
      · exact ⟨rfl, fun s e => by cases e⟩
      · rw [List.mem_singleton.mp hy]; exact ⟨rfl, fun s e => by cases e⟩
theorem odd_fine {d : PyData} (hd : d ∈ odds) : fineP d := by
  unfold odds at hd
  simp only [List.mem_cons, List.not_mem_nil, or_false] at hd
  rcases hd with rfl | rfl | rfl | rfl | rfl | rfl | rfl | rfl | rfl | rfl | rfl | rfl | rfl | rfl | rfl | rfl | rfl | rfl | rfl
  all_goals first
    | (show tyName _ ≠ "dict"; simp [tyName]; done)
    | (intro y hy
       simp only [List.mem_cons, List.not_mem_nil, or_false] at hy
       rcases hy with rfl | rfl | rfl | rfl | rfl <;> exact ⟨rfl, fun s e => by cases e <;> (rw [S_len]; decide)⟩)
    | (intro y hy
       simp only [List.mem_cons, List.not_mem_nil, or_false] at hy
       rcases hy with rfl | rfl | rfl | rfl <;> exact ⟨rfl, fun s e => by cases e <;> (rw [S_len]; decide)⟩)
    | (intro y hy
       simp only [List.mem_cons, List.not_mem_nil, or_false] at hy
       rcases hy with rfl | rfl | rfl <;> exact ⟨rfl, fun s e => by cases e <;> (rw [S_len]; decide)⟩)
    | (intro y hy
       simp only [List.mem_cons, List.not_mem_nil, or_false] at hy
       rcases hy with rfl | rfl <;> exact ⟨rfl, fun s e => by cases e <;> (rw [S_len]; decide)⟩)
    | (intro y hy
       simp only [List.mem_cons, List.not_mem_nil, or_false] at hy
       rcases hy with rfl <;> exact ⟨rfl, fun s e => by cases e <;> (rw [S_len]; decide)⟩)
    | (intro y hy; cases hy; done)
end K46

namespace K46
open PySem PySem.Spec PyProof.Rows L2 TL PL
theorem phD_sh {x : Ph} (h : ∀ c, x = .lt c → c < 1114112) : Sh 1 (phD x) := by
  have hl : ∀ c ∈ sLetter, c < 1114112 := by decide
  have hc : ∀ c ∈ sCopy, c < 1114112 := by decide
  cases x with
  | lt c =>
    exact Sh.tuple fun d hd => by
      rcases List.mem_cons.mp hd with rfl | hd
      · exact Sh.str 0 hl
      · rw [List.mem_singleton.mp hd]; exact Sh.str 0 fun z hz => by rw [List.mem_singleton.mp hz]; exact h c rfl
  | cp p L =>
    exact Sh.tuple fun d hd => by
      rcases List.mem_cons.mp hd with rfl | hd
      · exact Sh.str 0 hc
      · rcases List.mem_cons.mp hd with rfl | hd
        · exact Sh.int _ _
        · rw [List.mem_singleton.mp hd]; exact Sh.int _ _
theorem phs_eq (ps : List Ph) : PyData.eqv (.tuple (ps.map phD)) (.tuple (ps.map phD)) = true := eqv_self_tup fun d hd => by
  obtain ⟨x, _, rfl⟩ := List.mem_map.mp hd
  cases x with
  | lt c =>
    exact eqv_self_tup fun d hd => by
      rcases List.mem_cons.mp hd with rfl | hd
      · exact eqv_self_str _
      · rw [List.mem_singleton.mp hd]; exact eqv_self_str _
  | cp p L =>
    exact eqv_self_tup fun d hd => by
      rcases List.mem_cons.mp hd with rfl | hd
      · exact eqv_self_str _
      · rcases List.mem_cons.mp hd with rfl | hd
        · exact eqv_self_int _
        · rw [List.mem_singleton.mp hd]; exact eqv_self_int _
theorem phr_len {l : List Nat} {ap : Bool} : ∀ (ps : List Ph) (n : Nat), IsPhr l ap ps n → ps.length + n ≤ l.length
  | [], n, h => by have h : n = l.length := h; simp; omega
  | x :: r, n, h => by
    obtain ⟨h1, p, L, _, _, h2⟩ := h
    have := phr_len r _ h2
    rw [List.length_cons]; omega
theorem good_lt {ap : Bool} {w : List Nat} : ∀ (ps : List Ph) (s : Nat), Good ap w s ps → ∀ c, Ph.lt c ∈ ps → letB [c] = true
  | .lt c :: r, s, h, c', hm => by
    rcases List.mem_cons.mp hm with e | hm
    · cases e; exact h.2.1
    · exact good_lt r _ h.2.2 c' hm
  | .cp p L :: r, s, h, c', hm => by
    rcases List.mem_cons.mp hm with e | hm
    · cases e
    · exact good_lt r _ h.2.2.2.2.2.2 c' hm
theorem letB_lt {c : Nat} (h : letB [c] = true) : c < 1114112 := by
  have h : (decide (97 ≤ c) && decide (c ≤ 122)) = true := h
  rw [Bool.and_eq_true] at h
  have := of_decide_eq_true h.2; omega
theorem lawLHolds : ∀ as q, semLHolds as q → bLHolds (envOf NLHolds as) (endsOf q) := by
  rintro _ q ⟨l, ap, rfl, hw, hl, hq⟩
  have el : (S l).length = l.length := S_len l
  have hls : (S l).length ≤ sizeLine := small 1000 (by rw [el]; omega)
  refine ⟨l, ap, rfl, by omega, fun ps hps => ?_⟩
  have hg := phr_good hw (by omega) ps 0 hps
  have hlen : ps.length ≤ 60 := by have := phr_len ps 0 hps; omega
  have hsp := spD_good (by omega) hg
  have hsh : SeqAt.shaped (.tuple (ps.map phD)) = true := (Sh.tuple (n := 1) fun d hd => by
    obtain ⟨x, hx, rfl⟩ := List.mem_map.mp hd
    exact phD_sh fun c e => letB_lt (good_lt ps 0 hg c (e ▸ hx))).ok
  have hfine : ∀ p ∈ ps.map phD, fineP p := fun d hd => by
    obtain ⟨x, _, rfl⟩ := List.mem_map.mp hd
    exact phD_fine x
  dsimp only [Rv.sl]
  refine seq_mid (fun env => ∃ x4 x5 : Option Rv, env = [some .dr, some (.val (sD l)), some (.val (.bool ap)), some (.val (.tuple (ps.map phD))), x4, x5, none, none, none]) (fun nx hnx => ?_) (fun env h => ?_)
  · refine ⟨⟨by decide, by decide⟩, ?_⟩
    refine for_rng (fun i env => ∃ x4 x5 : Option Rv, env = [some .dr, some (.val (sD l)), some (.val (.bool ap)), some (.val (.tuple (ps.map phD))), x4, x5, none, none, none]) (fun env h => hnx env h) (fun i env hi h nx hnx => ?_) _ ⟨none, none, rfl⟩
    obtain ⟨x4, x5, rfl⟩ := h
    refine ⟨l, ap, rfl, by omega, fun ps2 h2 => ?_⟩
    have e2 := h2.uniq hps
    subst e2
    refine ⟨trivial, by simp [tyName], ?_⟩
    rw [isTy_tuple]
    refine ⟨trivial, trivial, .inr ⟨hsh, hsh⟩, ?_⟩
    rw [phs_eq]
    refine lc_pure phD (fun _ => true) (fun _ => .bool false) (fun e => e = [some .dr, some (.val (sD l)), some (.val (.bool ap)), some (.val (.tuple (ps2.map phD))), some (.val (.int (0 + (i : Nat)))), some (.val (.tuple (ps2.map phD))), none, none, none])
      (fun x env he c nY nN hc h1 h2 => ?_) ps2 [] _ (small 60 (by simpa using hlen)) rfl (fun e he => ?_)
    · subst he
      cases x with
      | lt c =>
        refine ⟨trivial, sD [c], rfl, by simp [tyName], ?_⟩
        rw [isTy_bool]
        exact ⟨hc, h1 rfl _ rfl⟩
      | cp p L =>
        refine ⟨trivial, .int (p : Nat), rfl, by simp [tyName], ?_⟩
        rw [isTy_bool]
        exact ⟨hc, h1 rfl _ rfl⟩
    · subst he
      refine ⟨_, bools_mapF (fun _ => false) _, ?_⟩
      have e0 : (((ps2.filter fun _ => true).map fun _ => false).any id) = false := by simp
      rw [e0]
      refine ⟨_, ap, rfl, by simp [tyName], fun ps e => (by cases e; exact hfine), trivial, .inl ⟨by rw [hsp]; rfl, rfl⟩, ?_⟩
      rw [hsp, eqv_self_str]
      refine ⟨trivial, l, ap, rfl, by omega, fun ps3 h3 => ?_⟩
      have e3 := h3.uniq hps
      subst e3
      refine ⟨.inl ⟨rfl, rfl⟩, ?_⟩
      rw [List.length_map, eqv_self_int]
      exact hnx _ ⟨_, _, rfl⟩
  · obtain ⟨x4, x5, rfl⟩ := h
    refine ⟨⟨by decide, by decide⟩, ?_⟩
    refine for_rng (fun i env => ∃ x6 x7 : Option Rv, env = [some .dr, some (.val (sD l)), some (.val (.bool ap)), some (.val (.tuple (ps.map phD))), x4, x5, x6, x7, none] ∧ ∀ r, x7 = some r → ∃ d, r = .val d) (fun env h => ?_) (fun i env hi h nx hnx => ?_) _ ⟨none, none, rfl, fun r e => by cases e⟩
    · obtain ⟨x6, x7, rfl, h7⟩ := h
      refine ⟨trivial, hls, by show 4 ≤ sizeLine; decide, ?_⟩
      dsimp only [Rv.vv, itemsOf]
      refine lc_pureM (fun d => placeB d 0 ((l.length : Int) - 1) = false ∧ tyName d ≠ "dict") (fun d => d) (fun _ => true) (fun _ => .bool true) (fun e => e = [some .dr, some (.val (sD l)), some (.val (.bool ap)), some (.val (.tuple (ps.map phD))), x4, x5, x6, none, none])
        (fun d env hd he c nY nN hc h1 h2 => ?_) [.int ((S l).length : Nat), .int (-1), sD [48], .none] [] _ (fun d hd => ?_) (by show 4 ≤ sizeLine; decide) rfl (fun e he => ?_)
      · subst he
        refine ⟨ps, l, ap, d, rfl, by omega, hg, by omega, hd.2, fun i e hi => ?_, fun _ => ⟨.inl ⟨rfl, rfl⟩, ?_⟩⟩
        · have h3 := hd.1
          rw [e] at h3
          have h3 : (decide ((0 : Int) ≤ (i : Nat)) && decide (((i : Nat) : Int) ≤ (l.length : Int) - 1)) = false := h3
          rw [decide_eq_true (by omega), decide_eq_true (by omega)] at h3
          cases h3
        · exact ⟨hc, h1 rfl _ rfl⟩
      · simp only [List.mem_cons, List.not_mem_nil, or_false] at hd
        rcases hd with rfl | rfl | rfl | rfl
        · refine ⟨?_, by simp [tyName]⟩
          rw [el]
          show (decide ((0 : Int) ≤ (l.length : Nat)) && decide (((l.length : Nat) : Int) ≤ (l.length : Int) - 1)) = false
          rw [decide_eq_false (by omega : ¬ ((l.length : Nat) : Int) ≤ (l.length : Int) - 1), Bool.and_false]
        · exact ⟨rfl, by simp [tyName]⟩
        · exact ⟨rfl, by simp [tyName]⟩
        · exact ⟨rfl, by simp [tyName]⟩
      · subst he
        exact ⟨[true, true, true, true], rfl, trivial, hq⟩
    · obtain ⟨x6, x7, rfl, h7⟩ := h
      refine ⟨trivial, hls, _, rfl, by omega, by rw [el]; omega, fun v v1 v2 => ?_⟩
      rw [el] at v2
      obtain ⟨n, rfl⟩ : ∃ n : Nat, v = (n : Nat) := ⟨v.toNat, (Int.toNat_of_nonneg v1).symm⟩
      refine ⟨trivial, trivial, hls, ?_⟩
      rw [el]
      refine ite2 (fun h => ?_) (fun h => hnx _ ⟨_, _, rfl, fun r e => ⟨_, (Option.some.inj e).symm⟩⟩)
      have hn : n < l.length := by have := of_decide_eq_true h; omega
      have e1 : l.getD n 0 = l[n] := by rw [List.getD_eq_getElem?_getD, List.getElem?_eq_getElem hn]; rfl
      refine ⟨ps, l, ap, _, rfl, by omega, hg, by omega, by simp [tyName], fun i e hi => ?_, fun h => ?_⟩
      · have e' : n = i := by have := PyData.int.inj e; omega
        subst e'
        refine ⟨trivial, trivial, hls, l[n], atI_nat (List.getElem?_eq_getElem hn), .inl ⟨rfl, rfl⟩, ?_⟩
        rw [e1, eqv_self_str]
        exact hnx _ ⟨_, _, rfl, fun r e => ⟨_, (Option.some.inj e).symm⟩⟩
      · have h : (decide ((0 : Int) ≤ (n : Nat)) && decide (((n : Nat) : Int) ≤ (l.length : Int) - 1)) = false := h
        rw [decide_eq_true (by omega), decide_eq_true (by omega)] at h
        cases h
end K46

namespace K46
open PySem PySem.Spec PyProof.Rows L2 TL PL
theorem lsD_sc (ap : Bool) (ps : List Ph) : isSc (lsD ap ps) = true := by
  unfold lsD; cases lsGo ap [] ps <;> rfl
theorem lsD_eq (ap : Bool) (ps : List Ph) : PyData.eqv (lsD ap ps) (lsD ap ps) = true := by
  unfold lsD
  cases lsGo ap [] ps with
  | none => rfl
  | some w => exact eqv_self_str w
theorem size7 {n j : Nat} (h : j < (Builtin.Range.rangeSize 0 (n : Int) 7).toNat) : j * 7 < n := by
  unfold Builtin.Range.rangeSize at h
  rw [if_pos (by decide)] at h
  split at h
  · have := Int.ediv_mul_le ((n : Int) - 0 - 1) (show (7 : Int) ≠ 0 by decide)
    omega
  · simp at h
theorem lawLaw : bLaw (none :: some .dr :: List.replicate (NLaw.length - 2) none) (endsOf fun r => r = .val (.bool true)) := by
  show bLaw [none, some .dr, none, none, none, none, none, none] _
  refine ⟨⟨by decide, by decide⟩, ?_⟩
  refine for_rng (fun i env => ∃ x2 x3 x4 x5 x6 : Option Rv, env = [none, some .dr, x2, x3, x4, x5, x6, none]) (fun env h => ?_) (fun i env hi h nx hnx' => ?_) _ ⟨_, _, _, _, _, rfl⟩
  · obtain ⟨x2, x3, x4, x5, x6, rfl⟩ := h
    refine ⟨Nat.zero_le _, .tuple [], true, rfl, by simp [tyName], fun ps e => (by cases e; exact fun p hp => by cases hp), .inl ⟨rfl, rfl⟩, ?_⟩
    refine ⟨.none, false, rfl, by simp [tyName], fun ps e => (by cases e), ?_⟩
    refine ⟨[], false, rfl, by decide, fun ps hps => ?_⟩
    have e : ps = [] := by
      cases ps with
      | nil => rfl
      | cons x r => have := hps.1; simp at this
    subst e
    exact ⟨Nat.zero_le _, .inr ⟨rfl, rfl⟩, trivial, rfl⟩
  · obtain ⟨x2, x3, x4, x5, x6, rfl⟩ := h
    refine ⟨60, rfl, by decide, by decide, fun l hw hl => ?_⟩
    have hl : l.length ≤ 60 := hl
    refine ⟨l, true, rfl, hw, hl, l, false, rfl, hw, hl, ?_⟩
    refine ⟨rfl, fun ps hd => ?_⟩
    have hok := hd.ok
    have hlen := hd.1
    have hfine : ∀ p ∈ ps.map phD, fineP p := fun d hd => by
      obtain ⟨x, _, rfl⟩ := List.mem_map.mp hd
      exact phD_fine x
    refine ⟨two, ?_⟩
    dsimp only [Rv.vv, itemsOf]
    refine for_map PyData.bool (fun r e => ∃ (p : Rv) (x5 x6 : Option Rv), e = [none, some .dr, some (.val (.int (0 + (i : Nat)))), some (.val (sD l)), some p, x5, x6, none] ∧ (p = .own (.list (ps.map phD)) ∨ p = .val (.list (ps.map phD))))
      (fun env h => ?_) (fun ap r env h nx hnx => ?_) [true, false] _ ⟨_, x5, x6, rfl, .inl rfl⟩
    · obtain ⟨p, x5, x6, rfl, _⟩ := h
      exact hnx' _ ⟨_, _, _, _, _, rfl⟩
    · obtain ⟨p, x5, x6, rfl, hp⟩ := h
      have fin : ∀ x6, nx [none, some .dr, some (.val (.int (0 + (i : Nat)))), some (.val (sD l)), some (.val (.list (ps.map phD))), some (.val (.bool ap)), x6, none] := fun x6 => hnx _ ⟨_, _, _, rfl, .inr rfl⟩
      rcases hp with rfl | rfl
      all_goals
        refine ⟨ps, ap, rfl, hd, ?_⟩
        dsimp only [Rv.sl]
        refine seq_mid (fun env => env = [none, some .dr, some (.val (.int (0 + (i : Nat)))), some (.val (sD l)), some (.val (.list (ps.map phD))), some (.val (.bool ap)), some (.val (lsD ap ps)), none]) (fun nx hnx => ?_) (fun env h => ?_)
        · refine ⟨trivial, _, ap, rfl, by simp [tyName], fun ps e => (by cases e; exact hfine), trivial, .inl ⟨by rw [spD_ls hok]; exact lsD_sc ap ps, lsD_sc ap ps⟩, ?_⟩
          rw [spD_ls hok, lsD_eq]
          refine ⟨ps.map phD, rfl, by rw [List.length_map]; omega, fun j d hj hdo => ?_⟩
          have eb : spD ap (.tuple ((ps.map phD).take j ++ [d] ++ (ps.map phD).drop j)) = .none := by
            unfold spD
            rw [List.append_assoc]
            simp only [List.cons_append, List.nil_append, sp_wrong (fun n => odd_bad hdo ap n)]
          refine ⟨_, ap, rfl, by simp [tyName], fun ps' e => (by
            cases e
            intro p hp
            rcases List.mem_append.mp hp with hp | hp
            · rcases List.mem_append.mp hp with hp | hp
              · exact hfine p (List.mem_of_mem_take hp)
              · rw [List.mem_singleton.mp hp]; exact odd_fine hdo
            · exact hfine p (List.mem_of_mem_drop hp)), ?_⟩
          rw [eb]
          refine ⟨_, ap, rfl, by simp [tyName], fun ps' e => (by cases e), ?_⟩
          exact hnx _ rfl
        · subst h
          refine ⟨trivial, ?_⟩
          cases hls : lsGo ap [] ps with
          | none =>
            have e : lsD ap ps = .none := by unfold lsD; rw [hls]
            rw [e]
            exact fin _
          | some w =>
            obtain ⟨hg, _, hw4⟩ := ls_good ps [] hok (by simp) hls
            have e : lsD ap ps = sD w := by unfold lsD; rw [hls]
            rw [e]
            have hws : (S w).length ≤ sizeLine := small 400 (by rw [S_len]; exact hw4)
            refine ⟨trivial, hws, ⟨⟨by decide, by decide, ⟨by decide, by decide⟩, by omega, by rw [S_len]; omega⟩, ?_⟩⟩
            rw [S_len]
            refine lc_pureM (fun j : Nat => j * 7 < w.length) (fun j : Nat => .int (0 + (j : Nat) * 7)) (fun _ => true) (fun _ => .bool true) (fun e => e = [none, some .dr, some (.val (.int (0 + (i : Nat)))), some (.val (sD l)), some (.val (.list (ps.map phD))), some (.val (.bool ap)), some (.val (sD w)), none])
              (fun j env hj he c nY nN hc h1 h2 => ?_) (List.range (Builtin.Range.rangeSize 0 (w.length : Int) 7).toNat) [] _ (fun j hj => size7 (List.mem_range.mp hj)) ?_ rfl (fun e he => ?_)
            · subst he
              refine ⟨trivial, ps, w, ap, _, rfl, by omega, hg, hw4, by simp [tyName], fun m e hm => ?_, fun h => ?_⟩
              · have em : m = j * 7 := by have := PyData.int.inj e; omega
                subst em
                refine ⟨trivial, trivial, hws, w[j * 7], atI_ok (by omega) (by rw [S_cps, show ((0 : Int) + (j : Nat) * 7).toNat = j * 7 by omega, List.getElem?_eq_getElem hm]), .inl ⟨rfl, rfl⟩, ?_⟩
                rw [List.getD_eq_getElem?_getD, List.getElem?_eq_getElem hm]
                refine ⟨hc, ?_⟩
                have := h1 rfl _ rfl
                rw [show PyData.eqv (sD [(some w[j * 7]).getD 0]) (.str (S [w[j * 7]])) = true from eqv_self_str _]
                exact this
              · have h : (decide ((0 : Int) ≤ 0 + (j : Nat) * 7) && decide ((0 + (j : Nat) * 7 : Int) ≤ (w.length : Int) - 1)) = false := h
                rw [decide_eq_true (by omega), decide_eq_true (by omega)] at h
                cases h
            · rw [List.length_range]
              have : (Builtin.Range.rangeSize 0 (w.length : Int) 7).toNat ≤ 400 := by
                unfold Builtin.Range.rangeSize
                rw [if_pos (by decide)]
                split
                · have := Int.ediv_le_self (7 : Int) (show 0 ≤ (w.length : Int) - 0 - 1 by omega)
                  omega
                · simp
              exact small 400 (by simpa using this)
            · subst he
              refine ⟨_, bools_mapF (fun _ => true) _, ?_⟩
              have e0 : ((((List.range (Builtin.Range.rangeSize 0 (w.length : Int) 7).toNat).filter fun _ => true).map fun _ => true).all id) = true := by simp
              rw [e0]
              exact fin _
end K46

namespace K46
open PySem PySem.Spec PyProof.Rows L2 TL PL
def topS (i : Nat) : Stmt := PySem.Challenge.pw_wordsalike_k46_words_by_copies.main.body.getD i (.Pass ⟨0, 0, 0, 0⟩)
def clsS (i : Nat) : Stmt := match topS i with | .ClassDef _ _ _ body .. => body.getD 0 (.Pass ⟨0, 0, 0, 0⟩) | s => s
abbrev sLongestCopy : Stmt := topS 8
theorem sc_LongestCopy : FnScope NLongestCopy ["word", "at", "apart"] (defScope sLongestCopy) := ⟨rfl, rfl, rfl, by decide +kernel, rfl, by decide +kernel, by decide +kernel⟩
abbrev sShortened : Stmt := topS 9
theorem sc_Shortened : FnScope NShortened ["word", "apart"] (defScope sShortened) := ⟨rfl, rfl, rfl, by decide +kernel, rfl, by decide +kernel, by decide +kernel⟩
abbrev sIsPlace : Stmt := topS 6
theorem sc_IsPlace : FnScope NIsPlace ["value", "least", "most"] (defScope sIsPlace) := ⟨rfl, rfl, rfl, by decide +kernel, rfl, by decide +kernel, by decide +kernel⟩
abbrev sIsLetter : Stmt := topS 7
theorem sc_IsLetter : FnScope NIsLetter ["value"] (defScope sIsLetter) := ⟨rfl, rfl, rfl, by decide +kernel, rfl, by decide +kernel, by decide +kernel⟩
abbrev sIsPhrase : Stmt := topS 10
theorem sc_IsPhrase : FnScope NIsPhrase ["value", "at", "apart"] (defScope sIsPhrase) := ⟨rfl, rfl, rfl, by decide +kernel, rfl, by decide +kernel, by decide +kernel⟩
abbrev sSpread : Stmt := topS 11
theorem sc_Spread : FnScope NSpread ["phrases", "apart"] (defScope sSpread) := ⟨rfl, rfl, rfl, by decide +kernel, rfl, by decide +kernel, by decide +kernel⟩
abbrev sDraws : Stmt := topS 15
theorem sc_Draws : FnScope NDraws ["script"] (defScope sDraws) := ⟨rfl, rfl, rfl, by decide +kernel, rfl, by decide +kernel, by decide +kernel⟩
abbrev sDraw : Stmt := topS 16
theorem sc_Draw : FnScope NDraw ["draws", "limit"] (defScope sDraw) := ⟨rfl, rfl, rfl, by decide +kernel, rfl, by decide +kernel, by decide +kernel⟩
abbrev sLWord : Stmt := topS 17
theorem sc_LWord : FnScope NLWord ["draws", "most"] (defScope sLWord) := ⟨rfl, rfl, rfl, by decide +kernel, rfl, by decide +kernel, by decide +kernel⟩
abbrev sLSpread : Stmt := topS 21
theorem sc_LSpread : FnScope NLSpread ["phrases", "apart"] (defScope sLSpread) := ⟨rfl, rfl, rfl, by decide +kernel, rfl, by decide +kernel, by decide +kernel⟩
abbrev sLDrawn : Stmt := topS 22
theorem sc_LDrawn : FnScope NLDrawn ["draws"] (defScope sLDrawn) := ⟨rfl, rfl, rfl, by decide +kernel, rfl, by decide +kernel, by decide +kernel⟩
abbrev sLWrong : Stmt := topS 23
theorem sc_LWrong : FnScope NLWrong ["draws", "phrases"] (defScope sLWrong) := ⟨rfl, rfl, rfl, by decide +kernel, rfl, by decide +kernel, by decide +kernel⟩
abbrev sStartsOf : Stmt := topS 12
theorem sc_StartsOf : FnScope NStartsOf ["phrases"] (defScope sStartsOf) := ⟨rfl, rfl, rfl, by decide +kernel, rfl, by decide +kernel, by decide +kernel⟩
abbrev sLetterAt : Stmt := topS 13
theorem sc_LetterAt : FnScope NLetterAt ["phrases", "place"] (defScope sLetterAt) := ⟨rfl, rfl, rfl, by decide +kernel, rfl, by decide +kernel, by decide +kernel⟩
abbrev sLLetter : Stmt := topS 24
theorem sc_LLetter : FnScope NLLetter ["phrases", "place"] (defScope sLLetter) := ⟨rfl, rfl, rfl, by decide +kernel, rfl, by decide +kernel, by decide +kernel⟩
abbrev sLCopy : Stmt := topS 18
theorem sc_LCopy : FnScope NLCopy ["word", "at", "apart"] (defScope sLCopy) := ⟨rfl, rfl, rfl, by decide +kernel, rfl, by decide +kernel, by decide +kernel⟩
abbrev sLPhrases : Stmt := topS 19
theorem sc_LPhrases : FnScope NLPhrases ["word", "apart"] (defScope sLPhrases) := ⟨rfl, rfl, rfl, by decide +kernel, rfl, by decide +kernel, by decide +kernel⟩
abbrev sLFewest : Stmt := topS 20
theorem sc_LFewest : FnScope NLFewest ["word", "apart"] (defScope sLFewest) := ⟨rfl, rfl, rfl, by decide +kernel, rfl, by decide +kernel, by decide +kernel⟩
abbrev sLHolds : Stmt := topS 25
theorem sc_LHolds : FnScope NLHolds ["draws", "word", "apart"] (defScope sLHolds) := ⟨rfl, rfl, rfl, by decide +kernel, rfl, by decide +kernel, by decide +kernel⟩
abbrev sLaw : Stmt := topS 26
theorem sc_Law : FnScope NLaw ["script"] (defScope sLaw) := ⟨rfl, rfl, rfl, by decide +kernel, rfl, by decide +kernel, by decide +kernel⟩
abbrev sInit : Stmt := clsS 2
theorem sc_Init : FnScope ["self", "word"] ["self", "word"] (defScope sInit) := ⟨rfl, rfl, rfl, by decide +kernel, rfl, by decide +kernel, by decide +kernel⟩
structure Top (K : PySem.W.Frag) (mg : Str → Option Value) where
  f_longest_copy : Addr
  d_longest_copy : FuncData
  F_longest_copy : Fun K "longest_copy" "longest_copy" sLongestCopy f_longest_copy d_longest_copy
  b_longest_copy : Binds K d_longest_copy ["word", "at", "apart"] []
  g_longest_copy : mg "longest_copy" = some (.ref f_longest_copy)
  f_shortened : Addr
  d_shortened : FuncData
  F_shortened : Fun K "shortened" "shortened" sShortened f_shortened d_shortened
  b_shortened : Binds K d_shortened ["word", "apart"] []
  g_shortened : mg "shortened" = some (.ref f_shortened)
  f_is_place : Addr
  d_is_place : FuncData
  F_is_place : Fun K "is_place" "is_place" sIsPlace f_is_place d_is_place
  b_is_place : Binds K d_is_place ["value", "least", "most"] []
  g_is_place : mg "is_place" = some (.ref f_is_place)
  f_is_letter : Addr
  d_is_letter : FuncData
  F_is_letter : Fun K "is_letter" "is_letter" sIsLetter f_is_letter d_is_letter
  b_is_letter : Binds K d_is_letter ["value"] []
  g_is_letter : mg "is_letter" = some (.ref f_is_letter)
  f_is_phrase : Addr
  d_is_phrase : FuncData
  F_is_phrase : Fun K "is_phrase" "is_phrase" sIsPhrase f_is_phrase d_is_phrase
  b_is_phrase : Binds K d_is_phrase ["value", "at", "apart"] []
  g_is_phrase : mg "is_phrase" = some (.ref f_is_phrase)
  f_spread : Addr
  d_spread : FuncData
  F_spread : Fun K "spread" "spread" sSpread f_spread d_spread
  b_spread : Binds K d_spread ["phrases", "apart"] []
  g_spread : mg "spread" = some (.ref f_spread)
  f__law_draws : Addr
  d__law_draws : FuncData
  F__law_draws : Fun K "_law_draws" "_law_draws" sDraws f__law_draws d__law_draws
  b__law_draws : Binds K d__law_draws ["script"] []
  g__law_draws : mg "_law_draws" = some (.ref f__law_draws)
  f__law_draw : Addr
  d__law_draw : FuncData
  F__law_draw : Fun K "_law_draw" "_law_draw" sDraw f__law_draw d__law_draw
  b__law_draw : Binds K d__law_draw ["draws", "limit"] []
  g__law_draw : mg "_law_draw" = some (.ref f__law_draw)
  f__law_word : Addr
  d__law_word : FuncData
  F__law_word : Fun K "_law_word" "_law_word" sLWord f__law_word d__law_word
  b__law_word : Binds K d__law_word ["draws", "most"] []
  g__law_word : mg "_law_word" = some (.ref f__law_word)
  f__law_spread : Addr
  d__law_spread : FuncData
  F__law_spread : Fun K "_law_spread" "_law_spread" sLSpread f__law_spread d__law_spread
  b__law_spread : Binds K d__law_spread ["phrases", "apart"] []
  g__law_spread : mg "_law_spread" = some (.ref f__law_spread)
  f__law_drawn : Addr
  d__law_drawn : FuncData
  F__law_drawn : Fun K "_law_drawn" "_law_drawn" sLDrawn f__law_drawn d__law_drawn
  b__law_drawn : Binds K d__law_drawn ["draws"] []
  g__law_drawn : mg "_law_drawn" = some (.ref f__law_drawn)
  f__law_wrong : Addr
  d__law_wrong : FuncData
  F__law_wrong : Fun K "_law_wrong" "_law_wrong" sLWrong f__law_wrong d__law_wrong
  b__law_wrong : Binds K d__law_wrong ["draws", "phrases"] []
  g__law_wrong : mg "_law_wrong" = some (.ref f__law_wrong)
  f_starts_of : Addr
  d_starts_of : FuncData
  F_starts_of : Fun K "starts_of" "starts_of" sStartsOf f_starts_of d_starts_of
  b_starts_of : Binds K d_starts_of ["phrases"] []
  g_starts_of : mg "starts_of" = some (.ref f_starts_of)
  f_letter_at : Addr
  d_letter_at : FuncData
  F_letter_at : Fun K "letter_at" "letter_at" sLetterAt f_letter_at d_letter_at
  b_letter_at : Binds K d_letter_at ["phrases", "place"] []
  g_letter_at : mg "letter_at" = some (.ref f_letter_at)
  f__law_letter : Addr
  d__law_letter : FuncData
  F__law_letter : Fun K "_law_letter" "_law_letter" sLLetter f__law_letter d__law_letter
  b__law_letter : Binds K d__law_letter ["phrases", "place"] []
  g__law_letter : mg "_law_letter" = some (.ref f__law_letter)
  f__law_copy : Addr
  d__law_copy : FuncData
  F__law_copy : Fun K "_law_copy" "_law_copy" sLCopy f__law_copy d__law_copy
  b__law_copy : Binds K d__law_copy ["word", "at", "apart"] []
  g__law_copy : mg "_law_copy" = some (.ref f__law_copy)
  f__law_phrases : Addr
  d__law_phrases : FuncData
  F__law_phrases : Fun K "_law_phrases" "_law_phrases" sLPhrases f__law_phrases d__law_phrases
  b__law_phrases : Binds K d__law_phrases ["word", "apart"] []
  g__law_phrases : mg "_law_phrases" = some (.ref f__law_phrases)
  f__law_fewest : Addr
  d__law_fewest : FuncData
  F__law_fewest : Fun K "_law_fewest" "_law_fewest" sLFewest f__law_fewest d__law_fewest
  b__law_fewest : Binds K d__law_fewest ["word", "apart"] []
  g__law_fewest : mg "_law_fewest" = some (.ref f__law_fewest)
  f__law_holds : Addr
  d__law_holds : FuncData
  F__law_holds : Fun K "_law_holds" "_law_holds" sLHolds f__law_holds d__law_holds
  b__law_holds : Binds K d__law_holds ["draws", "word", "apart"] []
  g__law_holds : mg "_law_holds" = some (.ref f__law_holds)
  f_law : Addr
  d_law : FuncData
  F_law : Fun K "law" "law" sLaw f_law d_law
  b_law : Binds K d_law ["script"] []
  g_law : mg "law" = some (.ref f_law)
  m_all : mg "all" = none
  m_any : mg "any" = none
  m_bool : mg "bool" = none
  m_int : mg "int" = none
  m_isinstance : mg "isinstance" = none
  m_len : mg "len" = none
  m_list : mg "list" = none
  m_max : mg "max" = none
  m_min : mg "min" = none
  m_range : mg "range" = none
  m_str : mg "str" = none
  m_tuple : mg "tuple" = none
  C_WordError : Addr
  C_Refused : Addr
  fi : Addr
  di : FuncData
  g_WordError : mg "WordError" = some (.ref C_WordError)
  g_Refused : mg "Refused" = some (.ref C_Refused)
  gc_WordError : PySem.W.specialIn K (.ref C_WordError) "__getattribute__" = some (some (.builtin "type.__getattribute__"))
  rd_WordError : PySem.W.readsIn K C_WordError (.type "type") = true
  vV_WordError : PySem.W.findCls K (.ref C_WordError) (.type "type") "__init__" = some (.val (.builtin "ValueError.__init__"))
  x_Refused : OexC K C_Refused
  e_Refused : ExC K C_Refused
  i_Refused : PySem.W.findIn K (.ref C_Refused) "__init__" = some (some (.ref fi))
  ti_Refused : PySem.W.typeIn K (.ref fi) = some (.type "function")
  F_Refused : Fun K "__init__" "Refused.__init__" sInit fi di
  b_Refused : Binds K di ["self", "word"] []
  xm_WordError : PySem.W.exmOne K (.ref C_Refused) (.ref C_WordError) = some true
  xm_Refused : PySem.W.exmOne K (.ref C_Refused) (.ref C_Refused) = some true
  ko_Refused : PySem.W.kitOne K (.ref C_Refused) (.ref C_Refused) = some true
  t_LETTERS : Tok
  c_LETTERS : mg "LETTERS" = some (.str (S [97, 98, 99, 100, 101, 102, 103, 104, 105, 106, 107, 108, 109, 110, 111, 112, 113, 114, 115, 116, 117, 118, 119, 120, 121, 122]) t_LETTERS)
  t_MOST_LETTERS : Tok
  c_MOST_LETTERS : mg "MOST_LETTERS" = some (.int 400 t_MOST_LETTERS)
section
variable {K : PySem.W.Frag} {mg : Str → Option Value} (T : Top K mg)
theorem Top.tb_Refused : tbR T.C_Refused "Refused" = some T.C_Refused := if_pos rfl
theorem Top.k_Refused : ∀ y Ca, tbR T.C_Refused y = some Ca → ExC K Ca ∧ PySem.W.kitOne K (.ref Ca) (.ref T.C_Refused) = some true := fun y Ca h => by rw [tbR_get h]; exact ⟨T.e_Refused, T.ko_Refused⟩
theorem Top.m_WordError : ∀ y Ca, tbR T.C_Refused y = some Ca → PySem.W.exmOne K (.ref Ca) (.ref T.C_WordError) = some true := fun y Ca h => by rw [tbR_get h]; exact T.xm_WordError
theorem Top.m_Refused : ∀ y Ca, tbR T.C_Refused y = some Ca → PySem.W.exmOne K (.ref Ca) (.ref T.C_Refused) = some true := fun y Ca h => by rw [tbR_get h]; exact T.xm_Refused
end
variable {P : Program} {w : World} {K : PySem.W.Frag} {mg : Str → Option Value} {base : Heap}
theorem okInit (T : Top K mg) : FnOk P w K mg base CX0 1 T.fi T.di ["self", "word"] (spInit K) := by
  refine init_ok (k := 0) T.F_Refused sc_Init ?_
  · intro X hP hw hK hmg hbase hN hsc hc hf hr hp
    obtain ⟨prog, w_, K_, mg_, base_, A, N, s_0, H_0, env, outer, stack, ex, fn, calm, pn, xe⟩ := X
    obtain ⟨scope, loc, glob, cells, qual, func, code, frame, blts⟩ := env
    dsimp only at hP hw hK hmg hbase hN hsc hc hf
    subst hP hw hK hmg hbase hN hsc hf
    exact pss_cons (ps_expr (pe_ownInit (by rfl) T.g_WordError T.gc_WordError T.rd_WordError T.vV_WordError (pa_cons (pv 0) (pa_cons (pv 1) pa_nil)))) (pss_one (ps_ost (pv 0) (pv 1)))
theorem okLongestCopy (T : Top K mg) : FnOk P w K mg base CX0 1 T.f_longest_copy T.d_longest_copy ["word", "at", "apart"] (spP K semLongestCopy) := by
  refine def_ok (k := 0) (b := bLongestCopy) T.F_longest_copy sc_LongestCopy lenLongestCopy ?_ lawLongestCopy
  · intro X hP hw hK hmg hbase hN hsc hc hf hr hp
    obtain ⟨prog, w_, K_, mg_, base_, A, N, s_0, H_0, env, outer, stack, ex, fn, calm, pn, xe⟩ := X
    obtain ⟨scope, loc, glob, cells, qual, func, code, frame, blts⟩ := env
    dsimp only at hP hw hK hmg hbase hN hsc hc hf
    subst hP hw hK hmg hbase hN hsc hf
    exact (ss_cons (s_set (pp_tup (pa_consP pp_int (pa_consP pp_int pa_nilP))) (fun he => ps_set (i := 3) sc_LongestCopy.nd rfl (.inl rfl) he))
    (ss_cons (s_for hp hc (ppi_range1 (by rfl) T.m_range (pao_cons (po_n (pv 1)) pao_nil)) (ppg_name (pg_name (i := 4) sc_LongestCopy.nd rfl (.inl rfl))) (ss_cons (s_set pp_int (fun he => ps_set (i := 5) sc_LongestCopy.nd rfl (.inl rfl) he))
    (ss_cons (s_set (pp_callB (ca_min2 hc) (by rfl) T.m_min PyProof.Rows.boot_min (pao_cons (po_e (pp_bin os_sub (po_e (pp_callB ca_len (by rfl) T.m_len PySem.boot_len (pao_cons (po_n (pv 0)) pao_nil))) (po_n (pv 1)))) (pao_cons (po_e (pp_if (pt_e (pp_n (pv 2))) (pp_bin os_sub (po_n (pv 1)) (po_n (pv 4))) (pp_callB ca_len (by rfl) T.m_len PySem.boot_len (pao_cons (po_n (pv 0)) pao_nil)))) pao_nil))) (fun he => ps_set (i := 6) sc_LongestCopy.nd rfl (.inl rfl) he))
    (ss_cons (s_while hp (pt_w (pw_andP (pt_cmp os_lt (po_n (pv 5)) (po_n (pv 6)) (nomark _)) (pw_and1P (pt_cmp (os_eq hr.units) (po_e (pp_ix (is_ix (hu_of hr)) (po_n (pv 0)) (po_e (pp_bin os_add (po_n (pv 4)) (po_n (pv 5)))) (fun _ _ => rfl))) (po_e (pp_ix (is_ix (hu_of hr)) (po_n (pv 0)) (po_e (pp_bin os_add (po_n (pv 1)) (po_n (pv 5)))) (fun _ _ => rfl))) (nomark _))))) (ss_one (s_aug os_iadd (po_e pp_int) (fun he ho => ps_aug (i := 5) sc_LongestCopy.nd rfl (.inl rfl) he ho))))
    (ss_one (s_if (pt_cmp os_gt (po_n (pv 5)) (po_e (pp_ix (is_ix (hu_of hr)) (po_n (pv 3)) (po_e pp_int) (fun _ _ => rfl))) (nomark _)) (ss_one (s_set (pp_tup (pa_consP (pp_n (pv 4)) (pa_consP (pp_n (pv 5)) pa_nilP))) (fun he => ps_set (i := 3) sc_LongestCopy.nd rfl (.inl rfl) he))) ss_nil))))))
    (ss_one (s_retN (pv 3)))))
theorem okShortened (T : Top K mg) : FnOk P w K mg base CX0 2 T.f_shortened T.d_shortened ["word", "apart"] (spP K semShortened) := by
  refine def_ok (k := 1) (b := bShortened) T.F_shortened sc_Shortened lenShortened ?_ lawShortened
  · intro X hP hw hK hmg hbase hN hsc hc hf hr hp
    obtain ⟨prog, w_, K_, mg_, base_, A, N, s_0, H_0, env, outer, stack, ex, fn, calm, pn, xe⟩ := X
    obtain ⟨scope, loc, glob, cells, qual, func, code, frame, blts⟩ := env
    dsimp only at hP hw hK hmg hbase hN hsc hc hf
    subst hP hw hK hmg hbase hN hsc hf
    exact (ss_cons (s_set (pp_lst pa_nilP) (fun he => ps_set (i := 2) sc_Shortened.nd rfl (.inl rfl) he))
    (ss_cons (s_set pp_int (fun he => ps_set (i := 3) sc_Shortened.nd rfl (.inl rfl) he))
    (ss_cons (s_while hp (pt_cmp os_lt (po_n (pv 3)) (po_e (pp_callB ca_len (by rfl) T.m_len PySem.boot_len (pao_cons (po_n (pv 0)) pao_nil))) (nomark _)) (ss_cons (s_asg (pp_call ((okLongestCopy T).mono (by decide)) hr (by rfl) T.g_longest_copy T.F_longest_copy.kp T.b_longest_copy (pa_consP (pp_n (pv 0)) (pa_consP (pp_n (pv 3)) (pa_consP (pp_n (pv 1)) pa_nilP)))) (ppg_tup (ppgs_cons (ppg_name (pg_name (i := 4) sc_Shortened.nd rfl (.inl rfl))) (ppgs_cons (ppg_name (pg_name (i := 5) sc_Shortened.nd rfl (.inl rfl))) ppgs_nil (fun a b => pgs_cons a b)) (fun a b => pgs_cons a b)) (fun h => pg_tup hc h)))
    (ss_cons (s_expr (pp_app (pp_if (pt_cmp os_gt (po_n (pv 5)) (po_e pp_int) (nomark _)) (pp_tup (pa_consP (pp_str [99, 111, 112, 121] rfl) (pa_consP (pp_n (pv 4)) (pa_consP (pp_n (pv 5)) pa_nilP)))) (pp_tup (pa_consP (pp_str [108, 101, 116, 116, 101, 114] rfl) (pa_consP (pp_ix (is_ix (hu_of hr)) (po_n (pv 0)) (po_n (pv 3)) (fun _ _ => rfl)) pa_nilP)))) (pv 2) (fun ha => pe_bm PySem.F.plainAttrs_list PySem.F.slot_list_append PySem.F.type_list_append mt_append (pv 2) ha)))
    (ss_one (s_aug os_iadd (po_e (pp_callB (ca_max2 hc) (by rfl) T.m_max PyProof.Rows.boot_max (pao_cons (po_e pp_int) (pao_cons (po_n (pv 5)) pao_nil)))) (fun he ho => ps_aug (i := 3) sc_Shortened.nd rfl (.inl rfl) he ho))))))
    (ss_one (s_ret (pp_callTy ca_tuple (by rfl) T.m_tuple PyProof.Rows.boot_tuple (pao_cons (po_n (pv 2)) pao_nil)))))))
theorem okIsPlace (T : Top K mg) : FnOk P w K mg base CX0 1 T.f_is_place T.d_is_place ["value", "least", "most"] (spP K semIsPlace) := by
  refine def_ok (k := 0) (b := bIsPlace) T.F_is_place sc_IsPlace lenIsPlace ?_ lawIsPlace
  · intro X hP hw hK hmg hbase hN hsc hc hf hr hp
    obtain ⟨prog, w_, K_, mg_, base_, A, N, s_0, H_0, env, outer, stack, ex, fn, calm, pn, xe⟩ := X
    obtain ⟨scope, loc, glob, cells, qual, func, code, frame, blts⟩ := env
    dsimp only at hP hw hK hmg hbase hN hsc hc hf
    subst hP hw hK hmg hbase hN hsc hf
    exact (ss_one (s_ret (pp_and (pp_isi okT_int (po_n (pv 0)) (by rfl) T.m_isinstance (by rfl) T.m_int PyProof.Rows.boot_int) (pp_and (pp_not (pp_isi okT_bool (po_n (pv 0)) (by rfl) T.m_isinstance (by rfl) T.m_bool PyProof.Rows.boot_bool)) (pp_one (pp_chain os_le os_le (po_n (pv 1)) (po_n (pv 0)) (po_n (pv 2))))))))
theorem okIsLetter (T : Top K mg) : FnOk P w K mg base CX0 1 T.f_is_letter T.d_is_letter ["value"] (spP K semIsLetter) := by
  refine def_ok (k := 0) (b := bIsLetter) T.F_is_letter sc_IsLetter lenIsLetter ?_ lawIsLetter
  · intro X hP hw hK hmg hbase hN hsc hc hf hr hp
    obtain ⟨prog, w_, K_, mg_, base_, A, N, s_0, H_0, env, outer, stack, ex, fn, calm, pn, xe⟩ := X
    obtain ⟨scope, loc, glob, cells, qual, func, code, frame, blts⟩ := env
    dsimp only at hP hw hK hmg hbase hN hsc hc hf
    subst hP hw hK hmg hbase hN hsc hf
    exact (ss_one (s_ret (pp_and (pp_isi okT_str (po_n (pv 0)) (by rfl) T.m_isinstance (by rfl) T.m_str PyProof.Rows.boot_str) (pp_and (pp_cmp (os_eq hr.units) (po_e (pp_callB ca_len (by rfl) T.m_len PySem.boot_len (pao_cons (po_n (pv 0)) pao_nil))) (po_e pp_int) (nomark _)) (pp_one (pp_cmp (os_in (hu65_of hr)) (po_n (pv 0)) (po_e (pp_gl (v := (.str (S [97, 98, 99, 100, 101, 102, 103, 104, 105, 106, 107, 108, 109, 110, 111, 112, 113, 114, 115, 116, 117, 118, 119, 120, 121, 122]))) (by rfl) T.c_LETTERS ⟨_, rfl⟩ (fun _ => .str _))) rfl))))))
theorem okIsPhrase (T : Top K mg) : FnOk P w K mg base CX0 2 T.f_is_phrase T.d_is_phrase ["value", "at", "apart"] (spP K semIsPhrase) := by
  refine def_ok (k := 1) (b := bIsPhrase) T.F_is_phrase sc_IsPhrase lenIsPhrase ?_ lawIsPhrase
  · intro X hP hw hK hmg hbase hN hsc hc hf hr hp
    obtain ⟨prog, w_, K_, mg_, base_, A, N, s_0, H_0, env, outer, stack, ex, fn, calm, pn, xe⟩ := X
    obtain ⟨scope, loc, glob, cells, qual, func, code, frame, blts⟩ := env
    dsimp only at hP hw hK hmg hbase hN hsc hc hf
    subst hP hw hK hmg hbase hN hsc hf
    exact (ss_cons (s_if (pt_w (pw_orP (pt_notP (pt_e (pp_isi okT_tuple (po_n (pv 0)) (by rfl) T.m_isinstance (by rfl) T.m_tuple PyProof.Rows.boot_tuple))) (pw_orP (pt_cmp (os_eq hr.units) (po_e (pp_callB ca_len (by rfl) T.m_len PySem.boot_len (pao_cons (po_n (pv 0)) pao_nil))) (po_e pp_int) (nomark _)) (pw_or1P (pt_notP (pt_e (pp_isi okT_str (po_e (pp_ix (is_ix (hu_of hr)) (po_n (pv 0)) (po_e pp_int) (fun _ _ => rfl))) (by rfl) T.m_isinstance (by rfl) T.m_str PyProof.Rows.boot_str))))))) (ss_one (s_ret pp_bl)) ss_nil)
    (ss_cons (s_if (pt_cmp (os_eq hr.units) (po_e (pp_ix (is_ix (hu_of hr)) (po_n (pv 0)) (po_e pp_int) (fun _ _ => rfl))) (po_e (pp_str [108, 101, 116, 116, 101, 114] rfl)) (nomark _)) (ss_one (s_ret (pp_and (pp_cmp (os_eq hr.units) (po_e (pp_callB ca_len (by rfl) T.m_len PySem.boot_len (pao_cons (po_n (pv 0)) pao_nil))) (po_e pp_int) (nomark _)) (pp_one (pp_call ((okIsLetter T).mono (by decide)) hr (by rfl) T.g_is_letter T.F_is_letter.kp T.b_is_letter (pa_consP (pp_ix (is_ix (hu_of hr)) (po_n (pv 0)) (po_e pp_int) (fun _ _ => rfl)) pa_nilP)))))) ss_nil)
    (ss_cons (s_if (pt_w (pw_orP (pt_cmp (os_ne hr.units) (po_e (pp_ix (is_ix (hu_of hr)) (po_n (pv 0)) (po_e pp_int) (fun _ _ => rfl))) (po_e (pp_str [99, 111, 112, 121] rfl)) (nomark _)) (pw_orP (pt_cmp (os_ne hr.units) (po_e (pp_callB ca_len (by rfl) T.m_len PySem.boot_len (pao_cons (po_n (pv 0)) pao_nil))) (po_e pp_int) (nomark _)) (pw_or1P (pt_notP (pt_e (pp_call ((okIsPlace T).mono (by decide)) hr (by rfl) T.g_is_place T.F_is_place.kp T.b_is_place (pa_consP (pp_ix (is_ix (hu_of hr)) (po_n (pv 0)) (po_e pp_int) (fun _ _ => rfl)) (pa_consP pp_int (pa_consP (pp_bin os_sub (po_n (pv 1)) (po_e pp_int)) pa_nilP)))))))))) (ss_one (s_ret pp_bl)) ss_nil)
    (ss_one (s_ret (pp_call ((okIsPlace T).mono (by decide)) hr (by rfl) T.g_is_place T.F_is_place.kp T.b_is_place (pa_consP (pp_ix (is_ix (hu_of hr)) (po_n (pv 0)) (po_e pp_int) (fun _ _ => rfl)) (pa_consP pp_int (pa_consP (pp_if (pt_e (pp_n (pv 2))) (pp_bin os_sub (po_n (pv 1)) (po_e (pp_ix (is_ix (hu_of hr)) (po_n (pv 0)) (po_e pp_int) (fun _ _ => rfl)))) (pp_gl (v := (.int 400)) (by rfl) T.c_MOST_LETTERS ⟨_, rfl⟩ (fun _ => .int _))) pa_nilP)))))))))
theorem okSpread (T : Top K mg) : FnOk P w K mg base CX0 3 T.f_spread T.d_spread ["phrases", "apart"] (spP K semSpread) := by
  refine def_ok (k := 2) (b := bSpread) T.F_spread sc_Spread lenSpread ?_ lawSpread
  · intro X hP hw hK hmg hbase hN hsc hc hf hr hp
    obtain ⟨prog, w_, K_, mg_, base_, A, N, s_0, H_0, env, outer, stack, ex, fn, calm, pn, xe⟩ := X
    obtain ⟨scope, loc, glob, cells, qual, func, code, frame, blts⟩ := env
    dsimp only at hP hw hK hmg hbase hN hsc hc hf
    subst hP hw hK hmg hbase hN hsc hf
    exact (ss_cons (s_if (pt_notP (pt_e (pp_isi okT_tuple (po_n (pv 0)) (by rfl) T.m_isinstance (by rfl) T.m_tuple PyProof.Rows.boot_tuple))) (ss_one (s_ret pp_non)) ss_nil)
    (ss_cons (s_set (pp_str [] rfl) (fun he => ps_set (i := 2) sc_Spread.nd rfl (.inl rfl) he))
    (ss_cons (s_for hp hc (ppi_seq (pp_n (pv 0))) (ppg_name (pg_name (i := 3) sc_Spread.nd rfl (.inl rfl))) (ss_cons (s_if (pt_w (pw_orP (pt_notP (pt_e (pp_call ((okIsPhrase T).mono (by decide)) hr (by rfl) T.g_is_phrase T.F_is_phrase.kp T.b_is_phrase (pa_consP (pp_n (pv 3)) (pa_consP (pp_callB ca_len (by rfl) T.m_len PySem.boot_len (pao_cons (po_n (pv 2)) pao_nil)) (pa_consP (pp_n (pv 1)) pa_nilP)))))) (pw_or1P (pt_cmp os_gt (po_e (pp_callB ca_len (by rfl) T.m_len PySem.boot_len (pao_cons (po_n (pv 2)) pao_nil))) (po_e (pp_gl (v := (.int 400)) (by rfl) T.c_MOST_LETTERS ⟨_, rfl⟩ (fun _ => .int _))) (nomark _))))) (ss_one (s_ret pp_non)) ss_nil)
    (ss_one (s_if (pt_cmp (os_eq hr.units) (po_e (pp_ix (is_ix (hu_of hr)) (po_n (pv 3)) (po_e pp_int) (fun _ _ => rfl))) (po_e (pp_str [108, 101, 116, 116, 101, 114] rfl)) (nomark _)) (ss_one (s_set (pp_bin os_add (po_n (pv 2)) (po_e (pp_ix (is_ix (hu_of hr)) (po_n (pv 3)) (po_e pp_int) (fun _ _ => rfl)))) (fun he => ps_set (i := 2) sc_Spread.nd rfl (.inl rfl) he))) (ss_one (s_for hp hc (ppi_range1 (by rfl) T.m_range (pao_cons (po_e (pp_ix (is_ix (hu_of hr)) (po_n (pv 3)) (po_e pp_int) (fun _ _ => rfl))) pao_nil)) (ppg_name (pg_name (i := 4) sc_Spread.nd rfl (.inl rfl))) (ss_one (s_set (pp_bin os_add (po_n (pv 2)) (po_e (pp_ix (is_ix (hu_of hr)) (po_n (pv 2)) (po_e (pp_bin os_add (po_e (pp_ix (is_ix (hu_of hr)) (po_n (pv 3)) (po_e pp_int) (fun _ _ => rfl))) (po_n (pv 4)))) (fun _ _ => rfl)))) (fun he => ps_set (i := 2) sc_Spread.nd rfl (.inl rfl) he)))))))))
    (ss_one (s_ret (pp_if (pt_cmp os_le (po_e (pp_callB ca_len (by rfl) T.m_len PySem.boot_len (pao_cons (po_n (pv 2)) pao_nil))) (po_e (pp_gl (v := (.int 400)) (by rfl) T.c_MOST_LETTERS ⟨_, rfl⟩ (fun _ => .int _))) (nomark _)) (pp_n (pv 2)) pp_non))))))
theorem okDraws (T : Top K mg) : FnOk P w K mg base CX0 1 T.f__law_draws T.d__law_draws ["script"] (spDraws K) := by
  refine draws_ok (k := 0) T.F__law_draws sc_Draws rfl rfl ?_
  · intro X hP hw hK hmg hbase hN hsc hc hf hr hp
    obtain ⟨prog, w_, K_, mg_, base_, A, N, s_0, H_0, env, outer, stack, ex, fn, calm, pn, xe⟩ := X
    obtain ⟨scope, loc, glob, cells, qual, func, code, frame, blts⟩ := env
    dsimp only at hP hw hK hmg hbase hN hsc hc hf
    subst hP hw hK hmg hbase hN hsc hf
    exact pss_cons (ps_ret (pe_lst (pa_cons (pe_callTy call_list_of (by rfl) T.m_list PyProof.Rows.boot_list (pa_cons (pv 0) pa_nil)) (pa_cons pe_int (pa_cons pe_int (pa_cons pe_int pa_nil)))))) pss_nil
theorem okDraw (T : Top K mg) : FnOk P w K mg base CX0 1 T.f__law_draw T.d__law_draw ["draws", "limit"] (spP K semDraw) := by
  refine draw_ok (k := 0) T.F__law_draw sc_Draw rfl rfl ?_
  · intro X hP hw hK hmg hbase hN hsc hc hf hr hp
    obtain ⟨prog, w_, K_, mg_, base_, A, N, s_0, H_0, env, outer, stack, ex, fn, calm, pn, xe⟩ := X
    obtain ⟨scope, loc, glob, cells, qual, func, code, frame, blts⟩ := env
    dsimp only at hP hw hK hmg hbase hN hsc hc hf
    subst hP hw hK hmg hbase hN hsc hf
    exact pss_cons (ps_if (PW.pt (pw_and (pt_cmpR op_eq (pe_ix ix_seq (pv 0) pe_int (fun _ _ => rfl)) pe_int (nomark _)) (pw_and1 (pt_cmpR op_lt (pe_ix ix_seq (pv 0) pe_int (fun _ _ => rfl)) (pe_callB call_len_seq (by rfl) T.m_len PySem.boot_len (pa_cons (pe_ix ix_seq (pv 0) pe_int (fun _ _ => rfl)) pa_nil)) (nomark _)))))
      (pss_cons (ps_set (i := 2) sc_Draw.nd rfl (.inl rfl) (pe_ix ix_seq (pe_ix ix_seq (pv 0) pe_int (fun _ _ => rfl)) (pe_ix ix_seq (pv 0) pe_int (fun _ _ => rfl)) (fun _ _ => rfl))) (pss_cons (ps_asg (pe_op op_add (pe_ix ix_seq (pv 0) pe_int (fun _ _ => rfl)) pe_int) (pg_sub (pv 0) pe_int set_list)) (pss_cons (ps_if (pt_cmpR op_ge (pv 2) (pe_op op_pow pe_int pe_int) (nomark _)) (pss_one (ps_asg (pv 2) (pg_sub (pv 0) pe_int set_list))) pss_nil)
        (pss_one (ps_asg (pe_op op_mod (pe_callTy call_int1 (by rfl) T.m_int PyProof.Rows.boot_int (pa_cons (pe_op op_add (pe_op op_add (pe_op op_mul (pe_ix ix_seq (pv 0) pe_int (fun _ _ => rfl)) pe_int) (pv 2)) pe_int) pa_nil)) pe_int) (pg_sub (pv 0) pe_int set_list)))))) pss_nil) (pss_cons (ps_if (pt_cmpR op_gt (pe_ix ix_seq (pv 0) pe_int (fun _ _ => rfl)) pe_int (nomark _)) (pss_cons (ps_set (i := 3) sc_Draw.nd rfl (.inl rfl) (pe_op op_mod (pe_callTy call_int1 (by rfl) T.m_int PyProof.Rows.boot_int (pa_cons (pe_ix ix_seq (pv 0) pe_int (fun _ _ => rfl)) pa_nil)) (pv 1))) (pss_cons (ps_asg (pe_op op_fdivW (pe_ix ix_seq (pv 0) pe_int (fun _ _ => rfl)) (pv 1)) (pg_sub (pv 0) pe_int set_list)) (pss_one (ps_ret (pv 3))))) pss_nil) (pss_cons (ps_asg (pe_op op_mod (pe_callTy call_int1 (by rfl) T.m_int PyProof.Rows.boot_int (pa_cons (pe_op op_add (pe_op op_mul (pe_ix ix_seq (pv 0) pe_int (fun _ _ => rfl)) pe_int) pe_int) pa_nil)) pe_int) (pg_sub (pv 0) pe_int set_list)) (pss_one (ps_ret (pe_op op_mod (pe_callTy call_int1 (by rfl) T.m_int PyProof.Rows.boot_int (pa_cons (pe_op op_fdivW (pe_ix ix_seq (pv 0) pe_int (fun _ _ => rfl)) pe_int) pa_nil)) (pv 1))))))
theorem okLWord (T : Top K mg) : FnOk P w K mg base CX0 2 T.f__law_word T.d__law_word ["draws", "most"] (spP K semLWord) := by
  refine def_ok (k := 1) (b := bLWord) T.F__law_word sc_LWord lenLWord ?_ lawLWord
  · intro X hP hw hK hmg hbase hN hsc hc hf hr hp
    obtain ⟨prog, w_, K_, mg_, base_, A, N, s_0, H_0, env, outer, stack, ex, fn, calm, pn, xe⟩ := X
    obtain ⟨scope, loc, glob, cells, qual, func, code, frame, blts⟩ := env
    dsimp only at hP hw hK hmg hbase hN hsc hc hf
    subst hP hw hK hmg hbase hN hsc hf
    exact (ss_cons (s_set (pp_ix (is_ix (hu_of hr)) (po_e (pp_lst (pa_consP (pp_call ((okDraw T).mono (by decide)) hr (by rfl) T.g__law_draw T.F__law_draw.kp T.b__law_draw (pa_consP (pp_n (pv 0)) (pa_consP pp_int pa_nilP))) (pa_consP (pp_call ((okDraw T).mono (by decide)) hr (by rfl) T.g__law_draw T.F__law_draw.kp T.b__law_draw (pa_consP (pp_n (pv 0)) (pa_consP (pp_bin os_add (po_n (pv 1)) (po_e pp_int)) pa_nilP))) (pa_consP (pp_n (pv 1)) pa_nilP))))) (po_e (pp_callB (ca_min2 hc) (by rfl) T.m_min PyProof.Rows.boot_min (pao_cons (po_e pp_int) (pao_cons (po_e (pp_bin os_div (po_e (pp_call ((okDraw T).mono (by decide)) hr (by rfl) T.g__law_draw T.F__law_draw.kp T.b__law_draw (pa_consP (pp_n (pv 0)) (pa_consP pp_int pa_nilP)))) (po_e pp_int))) pao_nil)))) (fun _ _ => rfl)) (fun he => ps_set (i := 2) sc_LWord.nd rfl (.inl rfl) he))
    (ss_cons (s_set (pp_ix (is_ix (hu_of hr)) (po_e (pp_lst (pa_consP (pp_str [97, 98] rfl) (pa_consP (pp_str [97] rfl) (pa_consP (pp_str [97, 98, 99] rfl) (pa_consP (pp_str [97, 98, 99, 100, 101, 102, 103, 104, 105, 106, 107, 108, 109, 110, 111, 112, 113, 114, 115, 116, 117, 118, 119, 120, 121, 122] rfl) pa_nilP)))))) (po_e (pp_bin os_mul (po_e (pp_call ((okDraw T).mono (by decide)) hr (by rfl) T.g__law_draw T.F__law_draw.kp T.b__law_draw (pa_consP (pp_n (pv 0)) (pa_consP pp_int pa_nilP)))) (po_e (pp_callTy ca_int (by rfl) T.m_int PyProof.Rows.boot_int (pao_cons (po_e (pp_cmp os_gt (po_e (pp_call ((okDraw T).mono (by decide)) hr (by rfl) T.g__law_draw T.F__law_draw.kp T.b__law_draw (pa_consP (pp_n (pv 0)) (pa_consP pp_int pa_nilP)))) (po_e pp_int) (nomark _))) pao_nil))))) (fun _ _ => rfl)) (fun he => ps_set (i := 3) sc_LWord.nd rfl (.inl rfl) he))
    (ss_cons (s_set (pp_str [] rfl) (fun he => ps_set (i := 4) sc_LWord.nd rfl (.inl rfl) he))
    (ss_cons (s_for hp hc (ppi_range1 (by rfl) T.m_range (pao_cons (po_n (pv 2)) pao_nil)) (ppg_name (pg_name (i := 5) sc_LWord.nd rfl (.inl rfl))) (ss_one (s_set (pp_bin os_add (po_n (pv 4)) (po_e (pp_ix (is_ix (hu_of hr)) (po_n (pv 3)) (po_e (pp_call ((okDraw T).mono (by decide)) hr (by rfl) T.g__law_draw T.F__law_draw.kp T.b__law_draw (pa_consP (pp_n (pv 0)) (pa_consP (pp_callB ca_len (by rfl) T.m_len PySem.boot_len (pao_cons (po_n (pv 3)) pao_nil)) pa_nilP)))) (fun _ _ => rfl)))) (fun he => ps_set (i := 4) sc_LWord.nd rfl (.inl rfl) he))))
    (ss_cons (s_set (pp_call ((okDraw T).mono (by decide)) hr (by rfl) T.g__law_draw T.F__law_draw.kp T.b__law_draw (pa_consP (pp_n (pv 0)) (pa_consP pp_int pa_nilP))) (fun he => ps_set (i := 6) sc_LWord.nd rfl (.inl rfl) he))
    (ss_cons (s_if (pt_cmp (os_eq hr.units) (po_n (pv 6)) (po_e pp_int) (nomark _)) (ss_cons (s_set (pp_sl (po_n (pv 4)) ppp_none (ppp_some (po_e (pp_bin os_add (po_e pp_int) (po_e (pp_call ((okDraw T).mono (by decide)) hr (by rfl) T.g__law_draw T.F__law_draw.kp T.b__law_draw (pa_consP (pp_n (pv 0)) (pa_consP pp_int pa_nilP)))))))) (fun he => ps_set (i := 7) sc_LWord.nd rfl (.inl rfl) he))
    (ss_one (s_set (pp_sl (po_e (pp_bin os_mul (po_n (pv 7)) (po_e (pp_bin os_add (po_e pp_int) (po_e (pp_bin os_div (po_n (pv 2)) (po_e (pp_callB (ca_max2 hc) (by rfl) T.m_max PyProof.Rows.boot_max (pao_cons (po_e pp_int) (pao_cons (po_e (pp_callB ca_len (by rfl) T.m_len PySem.boot_len (pao_cons (po_n (pv 7)) pao_nil))) pao_nil)))))))))) ppp_none (ppp_some (po_n (pv 2)))) (fun he => ps_set (i := 4) sc_LWord.nd rfl (.inl rfl) he)))) (ss_one (s_if (pt_cmp (os_eq hr.units) (po_n (pv 6)) (po_e pp_int) (nomark _)) (ss_one (s_set (pp_sl (po_e (pp_bin os_add (po_e (pp_sl (po_n (pv 4)) ppp_none (ppp_some (po_e (pp_bin os_div (po_n (pv 2)) (po_e pp_int)))))) (po_e (pp_revS (po_e (pp_sl (po_n (pv 4)) ppp_none (ppp_some (po_e (pp_bin os_div (po_n (pv 2)) (po_e pp_int)))))))))) ppp_none (ppp_some (po_n (pv 2)))) (fun he => ps_set (i := 4) sc_LWord.nd rfl (.inl rfl) he))) (ss_one (s_if (pt_cmp (os_eq hr.units) (po_n (pv 6)) (po_e pp_int) (nomark _)) (ss_cons (s_set (pp_sl (po_n (pv 4)) ppp_none (ppp_some (po_e (pp_bin os_div (po_n (pv 2)) (po_e pp_int))))) (fun he => ps_set (i := 8) sc_LWord.nd rfl (.inl rfl) he))
    (ss_one (s_set (pp_sl (po_e (pp_bin os_add (po_e (pp_bin os_add (po_e (pp_bin os_add (po_n (pv 8)) (po_e (pp_revS (po_n (pv 8)))))) (po_e (pp_sl (po_n (pv 4)) ppp_none (ppp_some (po_e (pp_bin os_div (po_n (pv 2)) (po_e pp_int)))))))) (po_n (pv 8)))) ppp_none (ppp_some (po_n (pv 2)))) (fun he => ps_set (i := 4) sc_LWord.nd rfl (.inl rfl) he)))) ss_nil)))))
    (ss_cons (s_if (pt_w (pw_andP (pt_cmp os_gt (po_n (pv 6)) (po_e pp_int) (nomark _)) (pw_andP (pt_cmp os_gt (po_e (pp_callB ca_len (by rfl) T.m_len PySem.boot_len (pao_cons (po_n (pv 4)) pao_nil))) (po_e pp_int) (nomark _)) (pw_and1P (pt_cmp (os_eq hr.units) (po_e (pp_call ((okDraw T).mono (by decide)) hr (by rfl) T.g__law_draw T.F__law_draw.kp T.b__law_draw (pa_consP (pp_n (pv 0)) (pa_consP pp_int pa_nilP)))) (po_e pp_int) (nomark _)))))) (ss_cons (s_set (pp_call ((okDraw T).mono (by decide)) hr (by rfl) T.g__law_draw T.F__law_draw.kp T.b__law_draw (pa_consP (pp_n (pv 0)) (pa_consP (pp_callB ca_len (by rfl) T.m_len PySem.boot_len (pao_cons (po_n (pv 4)) pao_nil)) pa_nilP))) (fun he => ps_set (i := 9) sc_LWord.nd rfl (.inl rfl) he))
    (ss_one (s_set (pp_bin os_add (po_e (pp_bin os_add (po_e (pp_sl (po_n (pv 4)) ppp_none (ppp_some (po_n (pv 9))))) (po_e (pp_ix (is_ix (hu_of hr)) (po_n (pv 3)) (po_e (pp_call ((okDraw T).mono (by decide)) hr (by rfl) T.g__law_draw T.F__law_draw.kp T.b__law_draw (pa_consP (pp_n (pv 0)) (pa_consP (pp_callB ca_len (by rfl) T.m_len PySem.boot_len (pao_cons (po_n (pv 3)) pao_nil)) pa_nilP)))) (fun _ _ => rfl))))) (po_e (pp_sl (po_n (pv 4)) (ppp_some (po_e (pp_bin os_add (po_n (pv 9)) (po_e pp_int)))) ppp_none))) (fun he => ps_set (i := 4) sc_LWord.nd rfl (.inl rfl) he)))) ss_nil)
    (ss_one (s_retN (pv 4))))))))))
theorem okLSpread (T : Top K mg) : FnOk P w K mg base CX0 1 T.f__law_spread T.d__law_spread ["phrases", "apart"] (spP K semLSpread) := by
  refine def_ok (k := 0) (b := bLSpread) T.F__law_spread sc_LSpread lenLSpread ?_ lawLSpread
  · intro X hP hw hK hmg hbase hN hsc hc hf hr hp
    obtain ⟨prog, w_, K_, mg_, base_, A, N, s_0, H_0, env, outer, stack, ex, fn, calm, pn, xe⟩ := X
    obtain ⟨scope, loc, glob, cells, qual, func, code, frame, blts⟩ := env
    dsimp only at hP hw hK hmg hbase hN hsc hc hf
    subst hP hw hK hmg hbase hN hsc hf
    exact (ss_cons (s_set (pp_str [] rfl) (fun he => ps_set (i := 2) sc_LSpread.nd rfl (.inl rfl) he))
    (ss_cons (s_for hp hc (ppi_seq (pp_n (pv 0))) (ppg_name (pg_name (i := 3) sc_LSpread.nd rfl (.inl rfl))) (ss_cons (s_if (pt_cmp (os_eq hr.units) (po_e (pp_ix (is_ix (hu_of hr)) (po_n (pv 3)) (po_e pp_int) (fun _ _ => rfl))) (po_e (pp_str [108, 101, 116, 116, 101, 114] rfl)) (nomark _)) (ss_one (s_set (pp_bin os_add (po_n (pv 2)) (po_e (pp_ix (is_ix (hu_of hr)) (po_n (pv 3)) (po_e pp_int) (fun _ _ => rfl)))) (fun he => ps_set (i := 2) sc_LSpread.nd rfl (.inl rfl) he))) (ss_cons (s_if (pt_w (pw_orP (pt_cmp os_ge (po_e (pp_ix (is_ix (hu_of hr)) (po_n (pv 3)) (po_e pp_int) (fun _ _ => rfl))) (po_e (pp_callB ca_len (by rfl) T.m_len PySem.boot_len (pao_cons (po_n (pv 2)) pao_nil))) (nomark _)) (pw_orP (pt_w (pw_andP (pt_e (pp_n (pv 1))) (pw_and1P (pt_cmp os_gt (po_e (pp_bin os_add (po_e (pp_ix (is_ix (hu_of hr)) (po_n (pv 3)) (po_e pp_int) (fun _ _ => rfl))) (po_e (pp_ix (is_ix (hu_of hr)) (po_n (pv 3)) (po_e pp_int) (fun _ _ => rfl))))) (po_e (pp_callB ca_len (by rfl) T.m_len PySem.boot_len (pao_cons (po_n (pv 2)) pao_nil))) (nomark _))))) (pw_or1P (pt_cmp os_gt (po_e (pp_ix (is_ix (hu_of hr)) (po_n (pv 3)) (po_e pp_int) (fun _ _ => rfl))) (po_e pp_int) (nomark _)))))) (ss_one (s_ret pp_non)) ss_nil)
    (ss_one (s_for hp hc (ppi_range1 (by rfl) T.m_range (pao_cons (po_e (pp_ix (is_ix (hu_of hr)) (po_n (pv 3)) (po_e pp_int) (fun _ _ => rfl))) pao_nil)) (ppg_name (pg_name (i := 4) sc_LSpread.nd rfl (.inl rfl))) (ss_one (s_set (pp_bin os_add (po_n (pv 2)) (po_e (pp_ix (is_ix (hu_of hr)) (po_n (pv 2)) (po_e (pp_bin os_add (po_e (pp_ix (is_ix (hu_of hr)) (po_n (pv 3)) (po_e pp_int) (fun _ _ => rfl))) (po_n (pv 4)))) (fun _ _ => rfl)))) (fun he => ps_set (i := 2) sc_LSpread.nd rfl (.inl rfl) he)))))))
    (ss_one (s_if (pt_cmp os_gt (po_e (pp_callB ca_len (by rfl) T.m_len PySem.boot_len (pao_cons (po_n (pv 2)) pao_nil))) (po_e pp_int) (nomark _)) (ss_one (s_ret pp_non)) ss_nil))))
    (ss_one (s_retN (pv 2)))))
theorem okLDrawn (T : Top K mg) : FnOk P w K mg base CX0 2 T.f__law_drawn T.d__law_drawn ["draws"] (spP K semLDrawn) := by
  refine def_ok (k := 1) (b := bLDrawn) T.F__law_drawn sc_LDrawn lenLDrawn ?_ lawLDrawn
  · intro X hP hw hK hmg hbase hN hsc hc hf hr hp
    obtain ⟨prog, w_, K_, mg_, base_, A, N, s_0, H_0, env, outer, stack, ex, fn, calm, pn, xe⟩ := X
    obtain ⟨scope, loc, glob, cells, qual, func, code, frame, blts⟩ := env
    dsimp only at hP hw hK hmg hbase hN hsc hc hf
    subst hP hw hK hmg hbase hN hsc hf
    exact (ss_cons (s_set (pp_lst (pa_consP (pp_tup (pa_consP (pp_str [108, 101, 116, 116, 101, 114] rfl) (pa_consP (pp_ix (is_ix (hu_of hr)) (po_e (pp_str [97, 98, 99] rfl)) (po_e (pp_call ((okDraw T).mono (by decide)) hr (by rfl) T.g__law_draw T.F__law_draw.kp T.b__law_draw (pa_consP (pp_n (pv 0)) (pa_consP pp_int pa_nilP)))) (fun _ _ => rfl)) pa_nilP))) pa_nilP)) (fun he => ps_set (i := 1) sc_LDrawn.nd rfl (.inl rfl) he))
    (ss_cons (s_set pp_int (fun he => ps_set (i := 2) sc_LDrawn.nd rfl (.inl rfl) he))
    (ss_cons (s_for hp hc (ppi_range1 (by rfl) T.m_range (pao_cons (po_e (pp_call ((okDraw T).mono (by decide)) hr (by rfl) T.g__law_draw T.F__law_draw.kp T.b__law_draw (pa_consP (pp_n (pv 0)) (pa_consP pp_int pa_nilP)))) pao_nil)) (ppg_name (pg_name (i := 3) sc_LDrawn.nd rfl (.inl rfl))) (ss_one (s_if (pt_cmp (os_eq hr.units) (po_e (pp_call ((okDraw T).mono (by decide)) hr (by rfl) T.g__law_draw T.F__law_draw.kp T.b__law_draw (pa_consP (pp_n (pv 0)) (pa_consP pp_int pa_nilP)))) (po_e pp_int) (nomark _)) (ss_cons (s_expr (pp_app (pp_tup (pa_consP (pp_str [108, 101, 116, 116, 101, 114] rfl) (pa_consP (pp_ix (is_ix (hu_of hr)) (po_e (pp_str [97, 98, 99] rfl)) (po_e (pp_call ((okDraw T).mono (by decide)) hr (by rfl) T.g__law_draw T.F__law_draw.kp T.b__law_draw (pa_consP (pp_n (pv 0)) (pa_consP pp_int pa_nilP)))) (fun _ _ => rfl)) pa_nilP))) (pv 1) (fun ha => pe_bm PySem.F.plainAttrs_list PySem.F.slot_list_append PySem.F.type_list_append mt_append (pv 1) ha)))
    (ss_one (s_set (pp_bin os_add (po_n (pv 2)) (po_e pp_int)) (fun he => ps_set (i := 2) sc_LDrawn.nd rfl (.inl rfl) he)))) (ss_cons (s_set (pp_call ((okDraw T).mono (by decide)) hr (by rfl) T.g__law_draw T.F__law_draw.kp T.b__law_draw (pa_consP (pp_n (pv 0)) (pa_consP (pp_bin os_add (po_n (pv 2)) (po_e (pp_callTy ca_int (by rfl) T.m_int PyProof.Rows.boot_int (pao_cons (po_e (pp_cmp (os_eq hr.units) (po_e (pp_call ((okDraw T).mono (by decide)) hr (by rfl) T.g__law_draw T.F__law_draw.kp T.b__law_draw (pa_consP (pp_n (pv 0)) (pa_consP pp_int pa_nilP)))) (po_e pp_int) (nomark _))) pao_nil)))) pa_nilP))) (fun he => ps_set (i := 4) sc_LDrawn.nd rfl (.inl rfl) he))
    (ss_cons (s_set (pp_bin os_add (po_e pp_int) (po_e (pp_ix (is_ix (hu_of hr)) (po_e (pp_lst (pa_consP (pp_call ((okDraw T).mono (by decide)) hr (by rfl) T.g__law_draw T.F__law_draw.kp T.b__law_draw (pa_consP (pp_n (pv 0)) (pa_consP (pp_if (pt_cmp os_lt (po_n (pv 4)) (po_n (pv 2)) (nomark _)) (pp_bin os_sub (po_n (pv 2)) (po_n (pv 4))) pp_int) pa_nilP))) (pa_consP (pp_call ((okDraw T).mono (by decide)) hr (by rfl) T.g__law_draw T.F__law_draw.kp T.b__law_draw (pa_consP (pp_n (pv 0)) (pa_consP pp_int pa_nilP))) pa_nilP)))) (po_e (pp_callTy ca_int (by rfl) T.m_int PyProof.Rows.boot_int (pao_cons (po_e (pp_cmp (os_eq hr.units) (po_e (pp_call ((okDraw T).mono (by decide)) hr (by rfl) T.g__law_draw T.F__law_draw.kp T.b__law_draw (pa_consP (pp_n (pv 0)) (pa_consP pp_int pa_nilP)))) (po_e pp_int) (nomark _))) pao_nil))) (fun _ _ => rfl)))) (fun he => ps_set (i := 5) sc_LDrawn.nd rfl (.inl rfl) he))
    (ss_cons (s_expr (pp_app (pp_tup (pa_consP (pp_str [99, 111, 112, 121] rfl) (pa_consP (pp_n (pv 4)) (pa_consP (pp_n (pv 5)) pa_nilP)))) (pv 1) (fun ha => pe_bm PySem.F.plainAttrs_list PySem.F.slot_list_append PySem.F.type_list_append mt_append (pv 1) ha)))
    (ss_one (s_set (pp_bin os_add (po_n (pv 2)) (po_n (pv 5))) (fun he => ps_set (i := 2) sc_LDrawn.nd rfl (.inl rfl) he)))))))))
    (ss_one (s_retN (pv 1))))))
theorem okLWrong (T : Top K mg) : FnOk P w K mg base CX0 2 T.f__law_wrong T.d__law_wrong ["draws", "phrases"] (spP K semLWrong) := by
  refine def_ok (k := 1) (b := bLWrong) T.F__law_wrong sc_LWrong lenLWrong ?_ lawLWrong
  · intro X hP hw hK hmg hbase hN hsc hc hf hr hp
    obtain ⟨prog, w_, K_, mg_, base_, A, N, s_0, H_0, env, outer, stack, ex, fn, calm, pn, xe⟩ := X
    obtain ⟨scope, loc, glob, cells, qual, func, code, frame, blts⟩ := env
    dsimp only at hP hw hK hmg hbase hN hsc hc hf
    subst hP hw hK hmg hbase hN hsc hf
    exact (ss_cons (s_set (pp_lst (pa_consP (pp_tup (pa_consP (pp_str [108, 101, 116, 116, 101, 114] rfl) (pa_consP (pp_str [97, 98] rfl) pa_nilP))) (pa_consP (pp_tup (pa_consP (pp_str [108, 101, 116, 116, 101, 114] rfl) (pa_consP (pp_str [] rfl) pa_nilP))) (pa_consP (pp_tup (pa_consP (pp_str [108, 101, 116, 116, 101, 114] rfl) (pa_consP (pp_str [65] rfl) pa_nilP))) (pa_consP (pp_tup (pa_consP (pp_str [108, 101, 116, 116, 101, 114] rfl) pa_nilP)) (pa_consP (pp_tup (pa_consP (pp_str [99, 111, 112, 121] rfl) (pa_consP pp_int pa_nilP))) (pa_consP (pp_tup (pa_consP (pp_str [99, 111, 112, 121] rfl) (pa_consP (pp_neg (po_e pp_int)) (pa_consP pp_int pa_nilP)))) (pa_consP (pp_tup (pa_consP (pp_str [99, 111, 112, 121] rfl) (pa_consP pp_bl (pa_consP pp_int pa_nilP)))) (pa_consP (pp_tup (pa_consP (pp_str [99, 111, 112, 121] rfl) (pa_consP pp_int (pa_consP pp_int pa_nilP)))) (pa_consP (pp_tup (pa_consP (pp_str [99, 111, 112, 121] rfl) (pa_consP pp_int (pa_consP pp_bl pa_nilP)))) pa_nilP)))))))))) (fun he => ps_set (i := 2) sc_LWrong.nd rfl (.inl rfl) he))
    (ss_cons (s_set (pp_bin os_add (po_n (pv 2)) (po_e (pp_lst (pa_consP (pp_tup (pa_consP (pp_str [99, 111, 112, 105, 101, 100] rfl) (pa_consP pp_int (pa_consP pp_int pa_nilP)))) (pa_consP pp_non (pa_consP pp_int (pa_consP (pp_lst pa_nilP) (pa_consP (pp_tup (pa_consP (pp_str [99, 111, 112, 121] rfl) (pa_consP pp_int (pa_consP pp_int (pa_consP pp_int pa_nilP))))) (pa_consP (pp_str [97] rfl) (pa_consP (pp_tup (pa_consP (pp_str [99, 111, 112, 121] rfl) (pa_consP (pp_str [48] rfl) (pa_consP pp_int pa_nilP)))) (pa_consP (pp_tup (pa_consP (pp_str [108, 101, 116, 116, 101, 114] rfl) (pa_consP pp_int pa_nilP))) (pa_consP (pp_tup pa_nilP) (pa_consP (pp_tup (pa_consP (pp_str [99, 111, 112, 121] rfl) (pa_consP pp_int (pa_consP (pp_neg (po_e pp_int)) pa_nilP)))) pa_nilP))))))))))))) (fun he => ps_set (i := 2) sc_LWrong.nd rfl (.inl rfl) he))
    (ss_cons (s_set (pp_call ((okDraw T).mono (by decide)) hr (by rfl) T.g__law_draw T.F__law_draw.kp T.b__law_draw (pa_consP (pp_n (pv 0)) (pa_consP (pp_bin os_add (po_e (pp_callB ca_len (by rfl) T.m_len PySem.boot_len (pao_cons (po_n (pv 1)) pao_nil))) (po_e pp_int)) pa_nilP))) (fun he => ps_set (i := 3) sc_LWrong.nd rfl (.inl rfl) he))
    (ss_one (s_ret (pp_callTy ca_tuple (by rfl) T.m_tuple PyProof.Rows.boot_tuple (pao_cons (po_e (pp_bin os_add (po_e (pp_bin os_add (po_e (pp_sl (po_n (pv 1)) ppp_none (ppp_some (po_n (pv 3))))) (po_e (pp_lst (pa_consP (pp_ix (is_ix (hu_of hr)) (po_n (pv 2)) (po_e (pp_call ((okDraw T).mono (by decide)) hr (by rfl) T.g__law_draw T.F__law_draw.kp T.b__law_draw (pa_consP (pp_n (pv 0)) (pa_consP (pp_callB ca_len (by rfl) T.m_len PySem.boot_len (pao_cons (po_n (pv 2)) pao_nil)) pa_nilP)))) (fun _ _ => rfl)) pa_nilP))))) (po_e (pp_sl (po_n (pv 1)) (ppp_some (po_n (pv 3))) ppp_none)))) pao_nil)))))))
theorem okStartsOf (T : Top K mg) : FnOk P w K mg base CX0 1 T.f_starts_of T.d_starts_of ["phrases"] (spP K semStartsOf) := by
  refine def_ok (k := 0) (b := bStartsOf) T.F_starts_of sc_StartsOf lenStartsOf ?_ lawStartsOf
  · intro X hP hw hK hmg hbase hN hsc hc hf hr hp
    obtain ⟨prog, w_, K_, mg_, base_, A, N, s_0, H_0, env, outer, stack, ex, fn, calm, pn, xe⟩ := X
    obtain ⟨scope, loc, glob, cells, qual, func, code, frame, blts⟩ := env
    dsimp only at hP hw hK hmg hbase hN hsc hc hf
    subst hP hw hK hmg hbase hN hsc hf
    exact (ss_cons (s_set (pp_lst (pa_consP pp_int pa_nilP)) (fun he => ps_set (i := 1) sc_StartsOf.nd rfl (.inl rfl) he))
    (ss_cons (s_for hp hc (ppi_seq (pp_n (pv 0))) (ppg_name (pg_name (i := 2) sc_StartsOf.nd rfl (.inl rfl))) (ss_one (s_expr (pp_app (pp_bin os_add (po_e (pp_ix (is_ix (hu_of hr)) (po_n (pv 1)) (po_e (pp_neg (po_e pp_int))) (fun _ _ => rfl))) (po_e (pp_if (pt_cmp (os_eq hr.units) (po_e (pp_ix (is_ix (hu_of hr)) (po_n (pv 2)) (po_e pp_int) (fun _ _ => rfl))) (po_e (pp_str [108, 101, 116, 116, 101, 114] rfl)) (nomark _)) pp_int (pp_ix (is_ix (hu_of hr)) (po_n (pv 2)) (po_e pp_int) (fun _ _ => rfl))))) (pv 1) (fun ha => pe_bm PySem.F.plainAttrs_list PySem.F.slot_list_append PySem.F.type_list_append mt_append (pv 1) ha)))))
    (ss_one (s_retN (pv 1)))))
theorem okLetterAt (T : Top K mg) : FnOk P w K mg base (L2.CX P w) 3 T.f_letter_at T.d_letter_at ["phrases", "place"] (spPX (tbR T.C_Refused) K semLetterAt) := by
  refine def_okX (k := 2) (b := bLetterAt) T.F_letter_at sc_LetterAt lenLetterAt ?_ lawLetterAt
  · intro X hP hw hK hmg hbase hN hsc hc hf hr hp
    obtain ⟨prog, w_, K_, mg_, base_, A, N, s_0, H_0, env, outer, stack, ex, fn, calm, pn, xe⟩ := X
    obtain ⟨scope, loc, glob, cells, qual, func, code, frame, blts⟩ := env
    dsimp only at hP hw hK hmg hbase hN hsc hc hf
    subst hP hw hK hmg hbase hN hsc hf
    intro xw tk
    exact (ss_cons (s_set (pp_call ((okStartsOf T).mono (by decide)) hr (by rfl) T.g_starts_of T.F_starts_of.kp T.b_starts_of (pa_consP (pp_n (pv 0)) pa_nilP)) (fun he => ps_set (i := 2) sc_LetterAt.nd rfl (.inl rfl) he))
    (ss_cons (s_if (pt_notP (pt_e (pp_call ((okIsPlace T).mono (by decide)) hr (by rfl) T.g_is_place T.F_is_place.kp T.b_is_place (pa_consP (pp_n (pv 1)) (pa_consP pp_int (pa_consP (pp_bin os_sub (po_e (pp_ix (is_ix (hu_of hr)) (po_n (pv 2)) (po_e (pp_neg (po_e pp_int))) (fun _ _ => rfl))) (po_e pp_int)) pa_nilP)))))) (ss_one (s_raiseW (k := 1) tk T.tb_Refused T.x_Refused T.e_Refused.nw T.i_Refused T.ti_Refused (okInit T) (hr.mono (by decide)) T.b_Refused hc (by rfl) T.g_Refused (pp_str [112, 108, 97, 99, 101] rfl))) ss_nil)
    (ss_cons (s_set (pp_bin os_sub (po_e (pp_callB ca_len (by rfl) T.m_len PySem.boot_len (pao_cons (po_n (pv 0)) pao_nil))) (po_e pp_int)) (fun he => ps_set (i := 3) sc_LetterAt.nd rfl (.inl rfl) he))
    (ss_one (s_while hp (pt_e pp_bl) (ss_cons (s_while hp (pt_cmp os_gt (po_e (pp_ix (is_ix (hu_of hr)) (po_n (pv 2)) (po_n (pv 3)) (fun _ _ => rfl))) (po_n (pv 1)) (nomark _)) (ss_one (s_aug os_isub (po_e pp_int) (fun he ho => ps_aug (i := 3) sc_LetterAt.nd rfl (.inl rfl) he ho))))
    (ss_cons (s_if (pt_cmp (os_eq hr.units) (po_e (pp_ix (is_ix (hu_of hr)) (po_e (pp_ix (is_ix (hu_of hr)) (po_n (pv 0)) (po_n (pv 3)) (fun _ _ => rfl))) (po_e pp_int) (fun _ _ => rfl))) (po_e (pp_str [108, 101, 116, 116, 101, 114] rfl)) (nomark _)) (ss_one (s_ret (pp_ix (is_ix (hu_of hr)) (po_e (pp_ix (is_ix (hu_of hr)) (po_n (pv 0)) (po_n (pv 3)) (fun _ _ => rfl))) (po_e pp_int) (fun _ _ => rfl)))) ss_nil)
    (ss_one (s_set (pp_bin os_add (po_e (pp_ix (is_ix (hu_of hr)) (po_e (pp_ix (is_ix (hu_of hr)) (po_n (pv 0)) (po_n (pv 3)) (fun _ _ => rfl))) (po_e pp_int) (fun _ _ => rfl))) (po_e (pp_bin os_sub (po_n (pv 1)) (po_e (pp_ix (is_ix (hu_of hr)) (po_n (pv 2)) (po_n (pv 3)) (fun _ _ => rfl)))))) (fun he => ps_set (i := 1) sc_LetterAt.nd rfl (.inl rfl) he))))))))))
theorem okLLetter (T : Top K mg) : FnOk P w K mg base CX0 4 T.f__law_letter T.d__law_letter ["phrases", "place"] (spP K semLLetter) := by
  refine def_okY (k := 3) (b := bLLetter) T.F__law_letter sc_LLetter lenLLetter ?_ lawLLetter
  · intro X hP hw hK hmg hbase hN hsc hc hf hr hp hst hfr
    obtain ⟨prog, w_, K_, mg_, base_, A, N, s_0, H_0, env, outer, stack, ex, fn, calm, pn, xe⟩ := X
    obtain ⟨scope, loc, glob, cells, qual, func, code, frame, blts⟩ := env
    dsimp only at hP hw hK hmg hbase hN hsc hc hf hst hfr
    subst hP hw hK hmg hbase hN hsc hf
    exact (ss_one (s_try (i := 2) (ts := tsWord _ 2 T.C_Refused (S [112, 108, 97, 99, 101]) (.int 7) .non) hst hfr sc_LLetter.nd rfl rfl ⟨rfl, by decide, Or.inl T.g_WordError⟩ T.m_WordError (fun pn xe xw2 tk po => (ss_one (s_ret (pp_callX tk ((okLetterAt T).mono (by decide)) hr (by rfl) T.g_letter_at T.F_letter_at.kp T.b_letter_at (pa_consP (pp_n (pv 0)) (pa_consP (pp_n (pv 1)) pa_nilP)))))) (fun a oe cls d pn hz hf => pss_one (ps_ret (pe_ifExp (PW.pt (pw_and (pt_val (pe_callB (call_isX hz hf) (by rfl) T.m_isinstance PyProof.Rows.boot_isinstance (pa_cons (pv 2) (pa_cons (pe_glob (v := .ref T.C_Refused) (by rfl) T.g_Refused rfl) pa_nil)))) (pw_and1 (pt_cmpR op_eq (pe_wordE hz hf (pv 2)) pe_str (nomark _))))) pe_int pe_non))) (suWord T.k_Refused (fun _ => .int _) (fun _ => .non))))
theorem okLCopy (T : Top K mg) : FnOk P w K mg base CX0 1 T.f__law_copy T.d__law_copy ["word", "at", "apart"] (spP K semLCopy) := by
  refine def_ok (k := 0) (b := bLCopy) T.F__law_copy sc_LCopy lenLCopy ?_ lawLCopy
  · intro X hP hw hK hmg hbase hN hsc hc hf hr hp
    obtain ⟨prog, w_, K_, mg_, base_, A, N, s_0, H_0, env, outer, stack, ex, fn, calm, pn, xe⟩ := X
    obtain ⟨scope, loc, glob, cells, qual, func, code, frame, blts⟩ := env
    dsimp only at hP hw hK hmg hbase hN hsc hc hf
    subst hP hw hK hmg hbase hN hsc hf
    exact (ss_cons (s_set (pp_lst (pa_consP pp_int (pa_consP pp_int pa_nilP))) (fun he => ps_set (i := 3) sc_LCopy.nd rfl (.inl rfl) he))
    (ss_cons (s_for hp hc (ppi_range3 (by rfl) T.m_range (pao_cons (po_e (pp_bin os_sub (po_e (pp_callB ca_len (by rfl) T.m_len PySem.boot_len (pao_cons (po_n (pv 0)) pao_nil))) (po_n (pv 1)))) (pao_cons (po_e pp_int) (pao_cons (po_e (pp_neg (po_e pp_int))) pao_nil)))) (ppg_name (pg_name (i := 4) sc_LCopy.nd rfl (.inl rfl))) (ss_cons (s_set (pp_sl (po_n (pv 0)) ppp_none (ppp_some (po_e (pp_bin os_sub (po_e (pp_bin os_add (po_n (pv 1)) (po_n (pv 4)))) (po_e pp_int))))) (fun he => ps_set (i := 5) sc_LCopy.nd rfl (.inl rfl) he))
    (ss_cons (s_if (pt_e (pp_n (pv 2))) (ss_one (s_set (pp_sl (po_n (pv 0)) ppp_none (ppp_some (po_n (pv 1)))) (fun he => ps_set (i := 5) sc_LCopy.nd rfl (.inl rfl) he))) ss_nil)
    (ss_cons (s_set (pp_mt mt_findS (.inl rfl) PySem.F.plainAttrs_str PySem.F.slot_str_find PySem.F.type_str_find (po_n (pv 5)) (pao_cons (po_e (pp_sl (po_n (pv 0)) (ppp_some (po_n (pv 1))) (ppp_some (po_e (pp_bin os_add (po_n (pv 1)) (po_n (pv 4))))))) pao_nil)) (fun he => ps_set (i := 6) sc_LCopy.nd rfl (.inl rfl) he))
    (ss_one (s_if (pt_w (pw_andP (pt_cmp os_ge (po_n (pv 6)) (po_e pp_int) (nomark _)) (pw_and1P (pt_cmp (os_eq hr.units) (po_e (pp_ix (is_ix (hu_of hr)) (po_n (pv 3)) (po_e pp_int) (fun _ _ => rfl))) (po_e pp_int) (nomark _))))) (ss_one (s_set (pp_lst (pa_consP (pp_n (pv 4)) (pa_consP (pp_n (pv 6)) pa_nilP))) (fun he => ps_set (i := 3) sc_LCopy.nd rfl (.inl rfl) he))) ss_nil))))))
    (ss_one (s_retN (pv 3)))))
theorem okLPhrases (T : Top K mg) : FnOk P w K mg base CX0 2 T.f__law_phrases T.d__law_phrases ["word", "apart"] (spP K semLPhrases) := by
  refine def_ok (k := 1) (b := bLPhrases) T.F__law_phrases sc_LPhrases lenLPhrases ?_ lawLPhrases
  · intro X hP hw hK hmg hbase hN hsc hc hf hr hp
    obtain ⟨prog, w_, K_, mg_, base_, A, N, s_0, H_0, env, outer, stack, ex, fn, calm, pn, xe⟩ := X
    obtain ⟨scope, loc, glob, cells, qual, func, code, frame, blts⟩ := env
    dsimp only at hP hw hK hmg hbase hN hsc hc hf
    subst hP hw hK hmg hbase hN hsc hf
    exact (ss_cons (s_set (pp_lst pa_nilP) (fun he => ps_set (i := 2) sc_LPhrases.nd rfl (.inl rfl) he))
    (ss_cons (s_set pp_int (fun he => ps_set (i := 3) sc_LPhrases.nd rfl (.inl rfl) he))
    (ss_cons (s_for hp hc (ppi_range1 (by rfl) T.m_range (pao_cons (po_e (pp_callB ca_len (by rfl) T.m_len PySem.boot_len (pao_cons (po_n (pv 0)) pao_nil))) pao_nil)) (ppg_name (pg_name (i := 4) sc_LPhrases.nd rfl (.inl rfl))) (ss_one (s_if (pt_cmp os_lt (po_n (pv 3)) (po_e (pp_callB ca_len (by rfl) T.m_len PySem.boot_len (pao_cons (po_n (pv 0)) pao_nil))) (nomark _)) (ss_cons (s_asg (pp_call ((okLCopy T).mono (by decide)) hr (by rfl) T.g__law_copy T.F__law_copy.kp T.b__law_copy (pa_consP (pp_n (pv 0)) (pa_consP (pp_n (pv 3)) (pa_consP (pp_n (pv 1)) pa_nilP)))) (ppg_unl (ppgs_cons (ppg_name (pg_name (i := 5) sc_LPhrases.nd rfl (.inl rfl))) (ppgs_cons (ppg_name (pg_name (i := 6) sc_LPhrases.nd rfl (.inl rfl))) ppgs_nil (fun a b => pgs_cons a b)) (fun a b => pgs_cons a b)) (fun h => pg_unl hc h)))
    (ss_cons (s_if (pt_cmp (os_eq hr.units) (po_n (pv 5)) (po_e pp_int) (nomark _)) (ss_one (s_expr (pp_app (pp_tup (pa_consP (pp_str [108, 101, 116, 116, 101, 114] rfl) (pa_consP (pp_ix (is_ix (hu_of hr)) (po_n (pv 0)) (po_n (pv 3)) (fun _ _ => rfl)) pa_nilP))) (pv 2) (fun ha => pe_bm PySem.F.plainAttrs_list PySem.F.slot_list_append PySem.F.type_list_append mt_append (pv 2) ha)))) (ss_one (s_expr (pp_app (pp_tup (pa_consP (pp_str [99, 111, 112, 121] rfl) (pa_consP (pp_n (pv 6)) (pa_consP (pp_n (pv 5)) pa_nilP)))) (pv 2) (fun ha => pe_bm PySem.F.plainAttrs_list PySem.F.slot_list_append PySem.F.type_list_append mt_append (pv 2) ha)))))
    (ss_one (s_set (pp_bin os_add (po_n (pv 3)) (po_e (pp_callB (ca_max2 hc) (by rfl) T.m_max PyProof.Rows.boot_max (pao_cons (po_e pp_int) (pao_cons (po_n (pv 5)) pao_nil))))) (fun he => ps_set (i := 3) sc_LPhrases.nd rfl (.inl rfl) he))))) ss_nil)))
    (ss_one (s_ret (pp_callTy ca_tuple (by rfl) T.m_tuple PyProof.Rows.boot_tuple (pao_cons (po_n (pv 2)) pao_nil)))))))
theorem okLFewest (T : Top K mg) : FnOk P w K mg base CX0 2 T.f__law_fewest T.d__law_fewest ["word", "apart"] (spP K semLFewest) := by
  refine def_ok (k := 1) (b := bLFewest) T.F__law_fewest sc_LFewest lenLFewest ?_ lawLFewest
  · intro X hP hw hK hmg hbase hN hsc hc hf hr hp
    obtain ⟨prog, w_, K_, mg_, base_, A, N, s_0, H_0, env, outer, stack, ex, fn, calm, pn, xe⟩ := X
    obtain ⟨scope, loc, glob, cells, qual, func, code, frame, blts⟩ := env
    dsimp only at hP hw hK hmg hbase hN hsc hc hf
    subst hP hw hK hmg hbase hN hsc hf
    exact (ss_cons (s_set (pp_bin os_mul (po_e (pp_lst (pa_consP pp_int pa_nilP))) (po_e (pp_bin os_add (po_e (pp_callB ca_len (by rfl) T.m_len PySem.boot_len (pao_cons (po_n (pv 0)) pao_nil))) (po_e pp_int)))) (fun he => ps_set (i := 2) sc_LFewest.nd rfl (.inr rfl) he))
    (ss_cons (s_for hp hc (ppi_range3 (by rfl) T.m_range (pao_cons (po_e (pp_bin os_sub (po_e (pp_callB ca_len (by rfl) T.m_len PySem.boot_len (pao_cons (po_n (pv 0)) pao_nil))) (po_e pp_int))) (pao_cons (po_e (pp_neg (po_e pp_int))) (pao_cons (po_e (pp_neg (po_e pp_int))) pao_nil)))) (ppg_name (pg_name (i := 3) sc_LFewest.nd rfl (.inr rfl))) (ss_cons (s_set (pp_callB (ca_max2 hc) (by rfl) T.m_max PyProof.Rows.boot_max (pao_cons (po_e pp_int) (pao_cons (po_e (pp_ix (is_ix (hu_of hr)) (po_e (pp_call ((okLCopy T).mono (by decide)) hr (by rfl) T.g__law_copy T.F__law_copy.kp T.b__law_copy (pa_consP (pp_n (pv 0)) (pa_consP (pp_n (pv 3)) (pa_consP (pp_n (pv 1)) pa_nilP))))) (po_e pp_int) (fun _ _ => rfl))) pao_nil))) (fun he => ps_set (i := 4) sc_LFewest.nd rfl (.inl rfl) he))
    (ss_one (s_setIx (pp_bin os_add (po_e pp_int) (po_e (pp_callB (ca_minL hc) (by rfl) T.m_min PyProof.Rows.boot_min (pao_cons (po_e (pp_lc [("size", 5)] hc sc_LFewest.nd (ppi_range2 (by rfl) T.m_range (pao_cons (po_e pp_int) (pao_cons (po_e (pp_bin os_add (po_n (pv 4)) (po_e pp_int))) pao_nil))) (by exact (show BlkOk NLFewest (defScope sLFewest) _ _ from ⟨rfl, by decide +kernel, by decide +kernel, by decide +kernel, by decide +kernel⟩)) (by decide) (fun _ _ _ _ _ => (ppg_name (pg_name (i := 5) sc_LFewest.nd rfl (.inl rfl)))) (fun _ _ _ _ _ => ppts_nil) (fun _ _ _ _ _ => (pp_ix (is_ix (hu_of hr)) (po_n (pv 2)) (po_e (pp_bin os_add (po_n (pv 3)) (po_n (pv 5)))) (fun _ _ => rfl))))) pao_nil)))) (po_n (pv 3)) (pv 2) (fun hv hi => ps_asg hv (pg_sub (pv 2) hi set_list))))))
    (ss_one (s_ret (pp_ix (is_ix (hu_of hr)) (po_n (pv 2)) (po_e pp_int) (fun _ _ => rfl))))))
theorem okLHolds (T : Top K mg) : FnOk P w K mg base CX0 5 T.f__law_holds T.d__law_holds ["draws", "word", "apart"] (spP K semLHolds) := by
  refine def_ok (k := 4) (b := bLHolds) T.F__law_holds sc_LHolds lenLHolds ?_ lawLHolds
  · intro X hP hw hK hmg hbase hN hsc hc hf hr hp
    obtain ⟨prog, w_, K_, mg_, base_, A, N, s_0, H_0, env, outer, stack, ex, fn, calm, pn, xe⟩ := X
    obtain ⟨scope, loc, glob, cells, qual, func, code, frame, blts⟩ := env
    dsimp only at hP hw hK hmg hbase hN hsc hc hf
    subst hP hw hK hmg hbase hN hsc hf
    exact (ss_cons (s_set (pp_call ((okLPhrases T).mono (by decide)) hr (by rfl) T.g__law_phrases T.F__law_phrases.kp T.b__law_phrases (pa_consP (pp_n (pv 1)) (pa_consP (pp_n (pv 2)) pa_nilP))) (fun he => ps_set (i := 3) sc_LHolds.nd rfl (.inr rfl) he))
    (ss_cons (s_for hp hc (ppi_range1 (by rfl) T.m_range (pao_cons (po_e pp_int) pao_nil)) (ppg_name (pg_name (i := 4) sc_LHolds.nd rfl (.inl rfl))) (ss_cons (s_set (pp_call ((okShortened T).mono (by decide)) hr (by rfl) T.g_shortened T.F_shortened.kp T.b_shortened (pa_consP (pp_n (pv 1)) (pa_consP (pp_n (pv 2)) pa_nilP))) (fun he => ps_set (i := 5) sc_LHolds.nd rfl (.inl rfl) he))
    (ss_cons (s_if (pt_w (pw_orP (pt_notP (pt_e (pp_isi okT_tuple (po_n (pv 5)) (by rfl) T.m_isinstance (by rfl) T.m_tuple PyProof.Rows.boot_tuple))) (pw_orP (pt_cmp (os_ne hr.units) (po_n (pv 5)) (po_n (pv 3)) (nomark _)) (pw_or1P (pt_e (pp_callB (ca_any hc) (by rfl) T.m_any PyProof.Rows.boot_any (pao_cons (po_e (pp_lc [("phrase", 8)] hc sc_LHolds.nd (ppi_seq (pp_n (pv 5))) (by exact (show BlkOk NLHolds (defScope sLHolds) _ _ from ⟨rfl, by decide +kernel, by decide +kernel, by decide +kernel, by decide +kernel⟩)) (by decide) (fun _ _ _ _ _ => (ppg_name (pg_name (i := 8) sc_LHolds.nd rfl (.inl rfl)))) (fun _ _ _ _ _ => ppts_nil) (fun _ _ _ _ _ => (pp_isi okT_bool (po_e (pp_ix (is_ix (hu_of hr)) (po_n (pv 8)) (po_e pp_int) (fun _ _ => rfl))) (by rfl) T.m_isinstance (by rfl) T.m_bool PyProof.Rows.boot_bool)))) pao_nil))))))) (ss_one (s_ret pp_bl)) ss_nil)
    (ss_one (s_if (pt_w (pw_orP (pt_cmp (os_ne hr.units) (po_e (pp_call ((okSpread T).mono (by decide)) hr (by rfl) T.g_spread T.F_spread.kp T.b_spread (pa_consP (pp_n (pv 3)) (pa_consP (pp_n (pv 2)) pa_nilP)))) (po_n (pv 1)) (nomark _)) (pw_or1P (pt_cmp (os_ne hr.units) (po_e (pp_callB ca_len (by rfl) T.m_len PySem.boot_len (pao_cons (po_n (pv 3)) pao_nil))) (po_e (pp_call ((okLFewest T).mono (by decide)) hr (by rfl) T.g__law_fewest T.F__law_fewest.kp T.b__law_fewest (pa_consP (pp_n (pv 1)) (pa_consP (pp_n (pv 2)) pa_nilP)))) (nomark _))))) (ss_one (s_ret pp_bl)) ss_nil)))))
    (ss_cons (s_for hp hc (ppi_range1 (by rfl) T.m_range (pao_cons (po_e pp_int) pao_nil)) (ppg_name (pg_name (i := 6) sc_LHolds.nd rfl (.inl rfl))) (ss_cons (s_set (pp_call ((okDraw T).mono (by decide)) hr (by rfl) T.g__law_draw T.F__law_draw.kp T.b__law_draw (pa_consP (pp_n (pv 0)) (pa_consP (pp_bin os_add (po_e (pp_callB ca_len (by rfl) T.m_len PySem.boot_len (pao_cons (po_n (pv 1)) pao_nil))) (po_e pp_int)) pa_nilP))) (fun he => ps_set (i := 7) sc_LHolds.nd rfl (.inl rfl) he))
    (ss_one (s_if (pt_w (pw_andP (pt_cmp os_lt (po_n (pv 7)) (po_e (pp_callB ca_len (by rfl) T.m_len PySem.boot_len (pao_cons (po_n (pv 1)) pao_nil))) (nomark _)) (pw_and1P (pt_cmp (os_ne hr.units) (po_e (pp_call ((okLLetter T).mono (by decide)) hr (by rfl) T.g__law_letter T.F__law_letter.kp T.b__law_letter (pa_consP (pp_n (pv 3)) (pa_consP (pp_n (pv 7)) pa_nilP)))) (po_e (pp_ix (is_ix (hu_of hr)) (po_n (pv 1)) (po_n (pv 7)) (fun _ _ => rfl))) (nomark _))))) (ss_one (s_ret pp_bl)) ss_nil))))
    (ss_one (s_ret (pp_callB (ca_all hc) (by rfl) T.m_all PyProof.Rows.boot_all (pao_cons (po_e (pp_lc [("place", 7)] hc sc_LHolds.nd (ppi_seq (pp_lst (pa_consP (pp_callB ca_len (by rfl) T.m_len PySem.boot_len (pao_cons (po_n (pv 1)) pao_nil)) (pa_consP (pp_neg (po_e pp_int)) (pa_consP (pp_str [48] rfl) (pa_consP pp_non pa_nilP)))))) (by exact (show BlkOk NLHolds (defScope sLHolds) _ _ from ⟨rfl, by decide +kernel, by decide +kernel, by decide +kernel, by decide +kernel⟩)) (by decide) (fun _ _ _ _ _ => (ppg_name (pg_name (i := 7) sc_LHolds.nd rfl (.inl rfl)))) (fun _ _ _ _ _ => ppts_nil) (fun _ _ _ _ _ => (pp_cmp (os_eq hr.units) (po_e (pp_call ((okLLetter T).mono (by decide)) hr (by rfl) T.g__law_letter T.F__law_letter.kp T.b__law_letter (pa_consP (pp_n (pv 3)) (pa_consP (pp_n (pv 7)) pa_nilP)))) (po_e pp_int) (nomark _))))) pao_nil)))))))
theorem okLaw (T : Top K mg) : FnOk P w K mg base CX0 6 T.f_law T.d_law ["script"] (spLaw K) := by
  refine law_ok (k := 5) (b := bLaw) T.F_law sc_Law (by decide) rfl ?_ lawLaw
  · intro X hP hw hK hmg hbase hN hsc hc hf hr hp
    obtain ⟨prog, w_, K_, mg_, base_, A, N, s_0, H_0, env, outer, stack, ex, fn, calm, pn, xe⟩ := X
    obtain ⟨scope, loc, glob, cells, qual, func, code, frame, blts⟩ := env
    dsimp only at hP hw hK hmg hbase hN hsc hc hf
    subst hP hw hK hmg hbase hN hsc hf
    intro C
    refine pss_cons (ps_set (i := 1) sc_Law.nd rfl (.inl rfl) (pe_call ((okDraws T).mono (by decide)) hr (by rfl) T.g__law_draws T.F__law_draws.kp T.b__law_draws .nil pass0 (pa_cons (pv 0) pa_nil))) ((?_ : PPSs _ XW0 _ bLaw) C)
    exact (ss_cons (s_for hp hc (ppi_range1 (by rfl) T.m_range (pao_cons (po_e pp_int) pao_nil)) (ppg_name (pg_name (i := 2) sc_Law.nd rfl (.inl rfl))) (ss_cons (s_set (pp_call ((okLWord T).mono (by decide)) hr (by rfl) T.g__law_word T.F__law_word.kp T.b__law_word (pa_consP (pp_n (pv 1)) (pa_consP pp_int pa_nilP))) (fun he => ps_set (i := 3) sc_Law.nd rfl (.inl rfl) he))
    (ss_cons (s_if (pt_w (pw_orP (pt_notP (pt_e (pp_call ((okLHolds T).mono (by decide)) hr (by rfl) T.g__law_holds T.F__law_holds.kp T.b__law_holds (pa_consP (pp_n (pv 1)) (pa_consP (pp_n (pv 3)) (pa_consP pp_bl pa_nilP)))))) (pw_or1P (pt_notP (pt_e (pp_call ((okLHolds T).mono (by decide)) hr (by rfl) T.g__law_holds T.F__law_holds.kp T.b__law_holds (pa_consP (pp_n (pv 1)) (pa_consP (pp_n (pv 3)) (pa_consP pp_bl pa_nilP))))))))) (ss_one (s_ret pp_bl)) ss_nil)
    (ss_cons (s_set (pp_call ((okLDrawn T).mono (by decide)) hr (by rfl) T.g__law_drawn T.F__law_drawn.kp T.b__law_drawn (pa_consP (pp_n (pv 1)) pa_nilP)) (fun he => ps_set (i := 4) sc_Law.nd rfl (.inr rfl) he))
    (ss_one (s_for hp hc (ppi_seq (pp_lst (pa_consP pp_bl (pa_consP pp_bl pa_nilP)))) (ppg_name (pg_name (i := 5) sc_Law.nd rfl (.inl rfl))) (ss_cons (s_set (pp_call ((okLSpread T).mono (by decide)) hr (by rfl) T.g__law_spread T.F__law_spread.kp T.b__law_spread (pa_consP (pp_n (pv 4)) (pa_consP (pp_n (pv 5)) pa_nilP))) (fun he => ps_set (i := 6) sc_Law.nd rfl (.inr rfl) he))
    (ss_cons (s_if (pt_w (pw_orP (pt_cmp (os_ne hr.units) (po_e (pp_call ((okSpread T).mono (by decide)) hr (by rfl) T.g_spread T.F_spread.kp T.b_spread (pa_consP (pp_callTy ca_tuple (by rfl) T.m_tuple PyProof.Rows.boot_tuple (pao_cons (po_n (pv 4)) pao_nil)) (pa_consP (pp_n (pv 5)) pa_nilP)))) (po_n (pv 6)) (nomark _)) (pw_orP (pt_cmp os_isNot (po_e (pp_call ((okSpread T).mono (by decide)) hr (by rfl) T.g_spread T.F_spread.kp T.b_spread (pa_consP (pp_call ((okLWrong T).mono (by decide)) hr (by rfl) T.g__law_wrong T.F__law_wrong.kp T.b__law_wrong (pa_consP (pp_n (pv 1)) (pa_consP (pp_n (pv 4)) pa_nilP))) (pa_consP (pp_n (pv 5)) pa_nilP)))) (po_e pp_non) (nomark _)) (pw_or1P (pt_cmp os_isNot (po_e (pp_call ((okSpread T).mono (by decide)) hr (by rfl) T.g_spread T.F_spread.kp T.b_spread (pa_consP (pp_n (pv 4)) (pa_consP (pp_n (pv 5)) pa_nilP)))) (po_e pp_non) (nomark _)))))) (ss_one (s_ret pp_bl)) ss_nil)
    (ss_one (s_if (pt_w (pw_andP (pt_cmp os_isNot (po_n (pv 6)) (po_e pp_non) (nomark _)) (pw_and1P (pt_notP (pt_e (pp_callB (ca_all hc) (by rfl) T.m_all PyProof.Rows.boot_all (pao_cons (po_e (pp_lc [("k", 7)] hc sc_Law.nd (ppi_rangeS (by rfl) T.m_range (pao_cons (po_e pp_int) (pao_cons (po_e (pp_callB ca_len (by rfl) T.m_len PySem.boot_len (pao_cons (po_n (pv 6)) pao_nil))) (pao_cons (po_e pp_int) pao_nil)))) (by exact (show BlkOk NLaw (defScope sLaw) _ _ from ⟨rfl, by decide +kernel, by decide +kernel, by decide +kernel, by decide +kernel⟩)) (by decide) (fun _ _ _ _ _ => (ppg_name (pg_name (i := 7) sc_Law.nd rfl (.inl rfl)))) (fun _ _ _ _ _ => ppts_nil) (fun _ _ _ _ _ => (pp_cmp (os_eq hr.units) (po_e (pp_call ((okLLetter T).mono (by decide)) hr (by rfl) T.g__law_letter T.F__law_letter.kp T.b__law_letter (pa_consP (pp_callTy ca_tuple (by rfl) T.m_tuple PyProof.Rows.boot_tuple (pao_cons (po_n (pv 4)) pao_nil)) (pa_consP (pp_n (pv 7)) pa_nilP)))) (po_e (pp_ix (is_ix (hu_of hr)) (po_n (pv 6)) (po_n (pv 7)) (fun _ _ => rfl))) (nomark _))))) pao_nil))))))) (ss_one (s_ret pp_bl)) ss_nil))))))))))
    (ss_one (s_ret (pp_and (pp_cmp (os_eq hr.units) (po_e (pp_call ((okSpread T).mono (by decide)) hr (by rfl) T.g_spread T.F_spread.kp T.b_spread (pa_consP (pp_tup pa_nilP) (pa_consP pp_bl pa_nilP)))) (po_e (pp_str [] rfl)) (nomark _)) (pp_and (pp_cmp os_is (po_e (pp_call ((okSpread T).mono (by decide)) hr (by rfl) T.g_spread T.F_spread.kp T.b_spread (pa_consP pp_non (pa_consP pp_bl pa_nilP)))) (po_e pp_non) (nomark _)) (pp_one (pp_cmp (os_eq hr.units) (po_e (pp_call ((okShortened T).mono (by decide)) hr (by rfl) T.g_shortened T.F_shortened.kp T.b_shortened (pa_consP (pp_str [] rfl) (pa_consP pp_bl pa_nilP)))) (po_e (pp_tup pa_nilP)) (nomark _))))))))
theorem all_mk {l : PySem.W.OpenLaw} {w : World} {K : PySem.W.Frag} {h : Heap} {mg : Str → Option Value} {fa f0 f1 f2 f3 f4 f5 f6 f7 f8 f9 f10 f11 f12 f13 f14 f15 f16 f17 f18 f19 : Addr} (X : K.In h) (G : h.Ns mainGlobals mg) (hfa : mg "law" = some (.ref fa))
    {CW CR fI : Addr} {cnm cq : Str} {cN : Addr} {cbs csub : List Value} {csn : List Str} {cab : Bool} {ccol : Option Bool} {cdd : Option Addr} {cm0 cm1 cm2 cm3 cm5 : Option Value} {odI anI : Option Addr} {slI : Array (Option Value)} {ocI kVI dcI pmI cdI ctI : Value}
    {od0 an0 od1 an1 od2 an2 od3 an3 od4 an4 od5 an5 od6 an6 od7 an7 od8 an8 od9 an9 od10 an10 od11 an11 od12 an12 od13 an13 od14 an14 od15 an15 od16 an16 od17 an17 od18 an18 od19 an19 : Option Addr} {sl0 sl1 sl2 sl3 sl4 sl5 sl6 sl7 sl8 sl9 sl10 sl11 sl12 sl13 sl14 sl15 sl16 sl17 sl18 sl19 : Array (Option Value)} {oc0 kV0 dc0 pm0 cd0 ct0 oc1 kV1 dc1 pm1 cd1 ct1 oc2 kV2 dc2 pm2 cd2 ct2 oc3 kV3 dc3 pm3 cd3 ct3 oc4 kV4 dc4 pm4 cd4 ct4 oc5 kV5 dc5 pm5 cd5 ct5 oc6 kV6 dc6 pm6 cd6 ct6 oc7 kV7 dc7 pm7 cd7 ct7 oc8 kV8 dc8 pm8 cd8 ct8 oc9 kV9 dc9 pm9 cd9 ct9 oc10 kV10 dc10 pm10 cd10 ct10 oc11 kV11 dc11 pm11 cd11 ct11 oc12 kV12 dc12 pm12 cd12 ct12 oc13 kV13 dc13 pm13 cd13 ct13 oc14 kV14 dc14 pm14 cd14 ct14 oc15 kV15 dc15 pm15 cd15 ct15 oc16 kV16 dc16 pm16 cd16 ct16 oc17 kV17 dc17 pm17 cd17 ct17 oc18 kV18 dc18 pm18 cd18 ct18 oc19 kV19 dc19 pm19 cd19 ct19 : Value} {t_LETTERS t_MOST_LETTERS : Tok}
    (a0 : PySem.W.nsIn K mainGlobals "longest_copy" = some (some (.ref f0))) (l0 : K.lookup f0 = some ⟨oc0, od0, .func (PySem.W.fnOf "longest_copy" "longest_copy" (defArgs sLongestCopy) (defBody sLongestCopy) (defScope sLongestCopy) .none kV0 dc0 pm0 an0 cd0 ct0), sl0⟩) (c0 : PySem.W.codeIn K cd0 "longest_copy" = true) (k0 : PySem.W.keepIn K (.ref f0) = true)
    (a1 : PySem.W.nsIn K mainGlobals "shortened" = some (some (.ref f1))) (l1 : K.lookup f1 = some ⟨oc1, od1, .func (PySem.W.fnOf "shortened" "shortened" (defArgs sShortened) (defBody sShortened) (defScope sShortened) .none kV1 dc1 pm1 an1 cd1 ct1), sl1⟩) (c1 : PySem.W.codeIn K cd1 "shortened" = true) (k1 : PySem.W.keepIn K (.ref f1) = true)
    (a2 : PySem.W.nsIn K mainGlobals "is_place" = some (some (.ref f2))) (l2 : K.lookup f2 = some ⟨oc2, od2, .func (PySem.W.fnOf "is_place" "is_place" (defArgs sIsPlace) (defBody sIsPlace) (defScope sIsPlace) .none kV2 dc2 pm2 an2 cd2 ct2), sl2⟩) (c2 : PySem.W.codeIn K cd2 "is_place" = true) (k2 : PySem.W.keepIn K (.ref f2) = true)
    (a3 : PySem.W.nsIn K mainGlobals "is_letter" = some (some (.ref f3))) (l3 : K.lookup f3 = some ⟨oc3, od3, .func (PySem.W.fnOf "is_letter" "is_letter" (defArgs sIsLetter) (defBody sIsLetter) (defScope sIsLetter) .none kV3 dc3 pm3 an3 cd3 ct3), sl3⟩) (c3 : PySem.W.codeIn K cd3 "is_letter" = true) (k3 : PySem.W.keepIn K (.ref f3) = true)
    (a4 : PySem.W.nsIn K mainGlobals "is_phrase" = some (some (.ref f4))) (l4 : K.lookup f4 = some ⟨oc4, od4, .func (PySem.W.fnOf "is_phrase" "is_phrase" (defArgs sIsPhrase) (defBody sIsPhrase) (defScope sIsPhrase) .none kV4 dc4 pm4 an4 cd4 ct4), sl4⟩) (c4 : PySem.W.codeIn K cd4 "is_phrase" = true) (k4 : PySem.W.keepIn K (.ref f4) = true)
    (a5 : PySem.W.nsIn K mainGlobals "spread" = some (some (.ref f5))) (l5 : K.lookup f5 = some ⟨oc5, od5, .func (PySem.W.fnOf "spread" "spread" (defArgs sSpread) (defBody sSpread) (defScope sSpread) .none kV5 dc5 pm5 an5 cd5 ct5), sl5⟩) (c5 : PySem.W.codeIn K cd5 "spread" = true) (k5 : PySem.W.keepIn K (.ref f5) = true)
    (a6 : PySem.W.nsIn K mainGlobals "_law_draws" = some (some (.ref f6))) (l6 : K.lookup f6 = some ⟨oc6, od6, .func (PySem.W.fnOf "_law_draws" "_law_draws" (defArgs sDraws) (defBody sDraws) (defScope sDraws) .none kV6 dc6 pm6 an6 cd6 ct6), sl6⟩) (c6 : PySem.W.codeIn K cd6 "_law_draws" = true) (k6 : PySem.W.keepIn K (.ref f6) = true)
    (a7 : PySem.W.nsIn K mainGlobals "_law_draw" = some (some (.ref f7))) (l7 : K.lookup f7 = some ⟨oc7, od7, .func (PySem.W.fnOf "_law_draw" "_law_draw" (defArgs sDraw) (defBody sDraw) (defScope sDraw) .none kV7 dc7 pm7 an7 cd7 ct7), sl7⟩) (c7 : PySem.W.codeIn K cd7 "_law_draw" = true) (k7 : PySem.W.keepIn K (.ref f7) = true)
    (a8 : PySem.W.nsIn K mainGlobals "_law_word" = some (some (.ref f8))) (l8 : K.lookup f8 = some ⟨oc8, od8, .func (PySem.W.fnOf "_law_word" "_law_word" (defArgs sLWord) (defBody sLWord) (defScope sLWord) .none kV8 dc8 pm8 an8 cd8 ct8), sl8⟩) (c8 : PySem.W.codeIn K cd8 "_law_word" = true) (k8 : PySem.W.keepIn K (.ref f8) = true)
    (a9 : PySem.W.nsIn K mainGlobals "_law_spread" = some (some (.ref f9))) (l9 : K.lookup f9 = some ⟨oc9, od9, .func (PySem.W.fnOf "_law_spread" "_law_spread" (defArgs sLSpread) (defBody sLSpread) (defScope sLSpread) .none kV9 dc9 pm9 an9 cd9 ct9), sl9⟩) (c9 : PySem.W.codeIn K cd9 "_law_spread" = true) (k9 : PySem.W.keepIn K (.ref f9) = true)
    (a10 : PySem.W.nsIn K mainGlobals "_law_drawn" = some (some (.ref f10))) (l10 : K.lookup f10 = some ⟨oc10, od10, .func (PySem.W.fnOf "_law_drawn" "_law_drawn" (defArgs sLDrawn) (defBody sLDrawn) (defScope sLDrawn) .none kV10 dc10 pm10 an10 cd10 ct10), sl10⟩) (c10 : PySem.W.codeIn K cd10 "_law_drawn" = true) (k10 : PySem.W.keepIn K (.ref f10) = true)
    (a11 : PySem.W.nsIn K mainGlobals "_law_wrong" = some (some (.ref f11))) (l11 : K.lookup f11 = some ⟨oc11, od11, .func (PySem.W.fnOf "_law_wrong" "_law_wrong" (defArgs sLWrong) (defBody sLWrong) (defScope sLWrong) .none kV11 dc11 pm11 an11 cd11 ct11), sl11⟩) (c11 : PySem.W.codeIn K cd11 "_law_wrong" = true) (k11 : PySem.W.keepIn K (.ref f11) = true)
    (a12 : PySem.W.nsIn K mainGlobals "starts_of" = some (some (.ref f12))) (l12 : K.lookup f12 = some ⟨oc12, od12, .func (PySem.W.fnOf "starts_of" "starts_of" (defArgs sStartsOf) (defBody sStartsOf) (defScope sStartsOf) .none kV12 dc12 pm12 an12 cd12 ct12), sl12⟩) (c12 : PySem.W.codeIn K cd12 "starts_of" = true) (k12 : PySem.W.keepIn K (.ref f12) = true)
    (a13 : PySem.W.nsIn K mainGlobals "letter_at" = some (some (.ref f13))) (l13 : K.lookup f13 = some ⟨oc13, od13, .func (PySem.W.fnOf "letter_at" "letter_at" (defArgs sLetterAt) (defBody sLetterAt) (defScope sLetterAt) .none kV13 dc13 pm13 an13 cd13 ct13), sl13⟩) (c13 : PySem.W.codeIn K cd13 "letter_at" = true) (k13 : PySem.W.keepIn K (.ref f13) = true)
    (a14 : PySem.W.nsIn K mainGlobals "_law_letter" = some (some (.ref f14))) (l14 : K.lookup f14 = some ⟨oc14, od14, .func (PySem.W.fnOf "_law_letter" "_law_letter" (defArgs sLLetter) (defBody sLLetter) (defScope sLLetter) .none kV14 dc14 pm14 an14 cd14 ct14), sl14⟩) (c14 : PySem.W.codeIn K cd14 "_law_letter" = true) (k14 : PySem.W.keepIn K (.ref f14) = true)
    (a15 : PySem.W.nsIn K mainGlobals "_law_copy" = some (some (.ref f15))) (l15 : K.lookup f15 = some ⟨oc15, od15, .func (PySem.W.fnOf "_law_copy" "_law_copy" (defArgs sLCopy) (defBody sLCopy) (defScope sLCopy) .none kV15 dc15 pm15 an15 cd15 ct15), sl15⟩) (c15 : PySem.W.codeIn K cd15 "_law_copy" = true) (k15 : PySem.W.keepIn K (.ref f15) = true)
    (a16 : PySem.W.nsIn K mainGlobals "_law_phrases" = some (some (.ref f16))) (l16 : K.lookup f16 = some ⟨oc16, od16, .func (PySem.W.fnOf "_law_phrases" "_law_phrases" (defArgs sLPhrases) (defBody sLPhrases) (defScope sLPhrases) .none kV16 dc16 pm16 an16 cd16 ct16), sl16⟩) (c16 : PySem.W.codeIn K cd16 "_law_phrases" = true) (k16 : PySem.W.keepIn K (.ref f16) = true)
    (a17 : PySem.W.nsIn K mainGlobals "_law_fewest" = some (some (.ref f17))) (l17 : K.lookup f17 = some ⟨oc17, od17, .func (PySem.W.fnOf "_law_fewest" "_law_fewest" (defArgs sLFewest) (defBody sLFewest) (defScope sLFewest) .none kV17 dc17 pm17 an17 cd17 ct17), sl17⟩) (c17 : PySem.W.codeIn K cd17 "_law_fewest" = true) (k17 : PySem.W.keepIn K (.ref f17) = true)
    (a18 : PySem.W.nsIn K mainGlobals "_law_holds" = some (some (.ref f18))) (l18 : K.lookup f18 = some ⟨oc18, od18, .func (PySem.W.fnOf "_law_holds" "_law_holds" (defArgs sLHolds) (defBody sLHolds) (defScope sLHolds) .none kV18 dc18 pm18 an18 cd18 ct18), sl18⟩) (c18 : PySem.W.codeIn K cd18 "_law_holds" = true) (k18 : PySem.W.keepIn K (.ref f18) = true)
    (a19 : PySem.W.nsIn K mainGlobals "law" = some (some (.ref f19))) (l19 : K.lookup f19 = some ⟨oc19, od19, .func (PySem.W.fnOf "law" "law" (defArgs sLaw) (defBody sLaw) (defScope sLaw) .none kV19 dc19 pm19 an19 cd19 ct19), sl19⟩) (c19 : PySem.W.codeIn K cd19 "law" = true) (k19 : PySem.W.keepIn K (.ref f19) = true)
    (z_all : PySem.W.nsIn K mainGlobals "all" = some none)
    (z_any : PySem.W.nsIn K mainGlobals "any" = some none)
    (z_bool : PySem.W.nsIn K mainGlobals "bool" = some none)
    (z_int : PySem.W.nsIn K mainGlobals "int" = some none)
    (z_isinstance : PySem.W.nsIn K mainGlobals "isinstance" = some none)
    (z_len : PySem.W.nsIn K mainGlobals "len" = some none)
    (z_list : PySem.W.nsIn K mainGlobals "list" = some none)
    (z_max : PySem.W.nsIn K mainGlobals "max" = some none)
    (z_min : PySem.W.nsIn K mainGlobals "min" = some none)
    (z_range : PySem.W.nsIn K mainGlobals "range" = some none)
    (z_str : PySem.W.nsIn K mainGlobals "str" = some none)
    (z_tuple : PySem.W.nsIn K mainGlobals "tuple" = some none)
    (y_LETTERS : PySem.W.nsIn K mainGlobals "LETTERS" = some (some (.str (S [97, 98, 99, 100, 101, 102, 103, 104, 105, 106, 107, 108, 109, 110, 111, 112, 113, 114, 115, 116, 117, 118, 119, 120, 121, 122]) t_LETTERS)))
    (y_MOST_LETTERS : PySem.W.nsIn K mainGlobals "MOST_LETTERS" = some (some (.int 400 t_MOST_LETTERS)))
    (aW : PySem.W.nsIn K mainGlobals "WordError" = some (some (.ref CW)))
    (aR : PySem.W.nsIn K mainGlobals "Refused" = some (some (.ref CR)))
    (xR : K.lookup CR = some (excClassObj cnm cq CR cN cbs [.ref CW, .type "ValueError", .type "Exception", .type "BaseException", .type "object"] true csn csub cab ccol cdd cm0 cm1 cm2 cm3 cm5 "ValueError.__new__"))
    (saR : PySem.W.findIn K (.ref CR) "__setattr__" = some (some (.builtin "object.__setattr__")))
    (exR : PySem.W.subIn K (.ref CR) (.type "BaseException") = some true)
    (tyR : PySem.W.typeIn K (.ref CR) = some (.type "type"))
    (kpR : PySem.W.keepIn K (.ref CR) = true)
    (hgR : PySem.W.findIn K (.ref CR) "__getattribute__" = some (some (.builtin "BaseException.__getattribute__")))
    (hkR : PySem.W.findIn K (.ref CR) "__getattr__" = some none)
    (hdR : PySem.W.hasDictIn K CR = true)
    (haR : PySem.W.findIn K (.ref CR) "__class__" = some (some (.builtin "object.__class__")))
    (hnR : PySem.W.specialIn K (.builtin "object.__class__") "__get__" = some (some (.builtin "getset_descriptor.__get__")))
    (htR : PySem.W.takesIn K (.builtin "object.__class__") = some true)
    (hmR : PySem.W.mroIn K CR (.type "object") = some true)
    (clR : (PySem.W.clsIn K CR).isSome = true)
    (nwR : PySem.W.findIn K (.ref CR) "word" = some none)
    (iR : PySem.W.findIn K (.ref CR) "__init__" = some (some (.ref fI)))
    (tI : PySem.W.typeIn K (.ref fI) = some (.type "function"))
    (lI : K.lookup fI = some ⟨ocI, odI, .func (PySem.W.fnOf "__init__" "Refused.__init__" (defArgs sInit) (defBody sInit) (defScope sInit) .none kVI dcI pmI anI cdI ctI), slI⟩)
    (cI : PySem.W.codeIn K cdI "Refused.__init__" = true)
    (kI : PySem.W.keepIn K (.ref fI) = true)
    (gcW : PySem.W.specialIn K (.ref CW) "__getattribute__" = some (some (.builtin "type.__getattribute__")))
    (rdW : PySem.W.readsIn K CW (.type "type") = true)
    (vVW : PySem.W.findCls K (.ref CW) (.type "type") "__init__" = some (.val (.builtin "ValueError.__init__")))
    (xm1 : PySem.W.exmOne K (.ref CR) (.ref CW) = some true)
    (xm2 : PySem.W.exmOne K (.ref CR) (.ref CR) = some true)
    (ko : PySem.W.kitOne K (.ref CR) (.ref CR) = some true)
    : ∃ fd : FuncData, (∀ (s : Shared) (v : Value), BindsTo s fd ⟨[v], []⟩ [("script", v)]) ∧ ∀ base : Heap, K.In base → base.Ns mainGlobals mg → FnOk l.prog w K mg base CX0 6 fa fd ["script"] (spLaw K) := by
  have e := hfa.symm.trans (PySem.W.mg_of X G a19)
  cases e
  have F0 := fun_mk (st := sLongestCopy) l0 c0 k0
  have b0 := F0.binds (ps := ["word", "at", "apart"]) fun _ _ _ _ _ _ us hl => match us, hl with | [_, _, _], _ => rfl
  have F1 := fun_mk (st := sShortened) l1 c1 k1
  have b1 := F1.binds (ps := ["word", "apart"]) fun _ _ _ _ _ _ us hl => match us, hl with | [_, _], _ => rfl
  have F2 := fun_mk (st := sIsPlace) l2 c2 k2
  have b2 := F2.binds (ps := ["value", "least", "most"]) fun _ _ _ _ _ _ us hl => match us, hl with | [_, _, _], _ => rfl
  have F3 := fun_mk (st := sIsLetter) l3 c3 k3
  have b3 := F3.binds (ps := ["value"]) fun _ _ _ _ _ _ us hl => match us, hl with | [_], _ => rfl
  have F4 := fun_mk (st := sIsPhrase) l4 c4 k4
  have b4 := F4.binds (ps := ["value", "at", "apart"]) fun _ _ _ _ _ _ us hl => match us, hl with | [_, _, _], _ => rfl
  have F5 := fun_mk (st := sSpread) l5 c5 k5
  have b5 := F5.binds (ps := ["phrases", "apart"]) fun _ _ _ _ _ _ us hl => match us, hl with | [_, _], _ => rfl
  have F6 := fun_mk (st := sDraws) l6 c6 k6
  have b6 := F6.binds (ps := ["script"]) fun _ _ _ _ _ _ us hl => match us, hl with | [_], _ => rfl
  have F7 := fun_mk (st := sDraw) l7 c7 k7
  have b7 := F7.binds (ps := ["draws", "limit"]) fun _ _ _ _ _ _ us hl => match us, hl with | [_, _], _ => rfl
  have F8 := fun_mk (st := sLWord) l8 c8 k8
  have b8 := F8.binds (ps := ["draws", "most"]) fun _ _ _ _ _ _ us hl => match us, hl with | [_, _], _ => rfl
  have F9 := fun_mk (st := sLSpread) l9 c9 k9
  have b9 := F9.binds (ps := ["phrases", "apart"]) fun _ _ _ _ _ _ us hl => match us, hl with | [_, _], _ => rfl
  have F10 := fun_mk (st := sLDrawn) l10 c10 k10
  have b10 := F10.binds (ps := ["draws"]) fun _ _ _ _ _ _ us hl => match us, hl with | [_], _ => rfl
  have F11 := fun_mk (st := sLWrong) l11 c11 k11
  have b11 := F11.binds (ps := ["draws", "phrases"]) fun _ _ _ _ _ _ us hl => match us, hl with | [_, _], _ => rfl
  have F12 := fun_mk (st := sStartsOf) l12 c12 k12
  have b12 := F12.binds (ps := ["phrases"]) fun _ _ _ _ _ _ us hl => match us, hl with | [_], _ => rfl
  have F13 := fun_mk (st := sLetterAt) l13 c13 k13
  have b13 := F13.binds (ps := ["phrases", "place"]) fun _ _ _ _ _ _ us hl => match us, hl with | [_, _], _ => rfl
  have F14 := fun_mk (st := sLLetter) l14 c14 k14
  have b14 := F14.binds (ps := ["phrases", "place"]) fun _ _ _ _ _ _ us hl => match us, hl with | [_, _], _ => rfl
  have F15 := fun_mk (st := sLCopy) l15 c15 k15
  have b15 := F15.binds (ps := ["word", "at", "apart"]) fun _ _ _ _ _ _ us hl => match us, hl with | [_, _, _], _ => rfl
  have F16 := fun_mk (st := sLPhrases) l16 c16 k16
  have b16 := F16.binds (ps := ["word", "apart"]) fun _ _ _ _ _ _ us hl => match us, hl with | [_, _], _ => rfl
  have F17 := fun_mk (st := sLFewest) l17 c17 k17
  have b17 := F17.binds (ps := ["word", "apart"]) fun _ _ _ _ _ _ us hl => match us, hl with | [_, _], _ => rfl
  have F18 := fun_mk (st := sLHolds) l18 c18 k18
  have b18 := F18.binds (ps := ["draws", "word", "apart"]) fun _ _ _ _ _ _ us hl => match us, hl with | [_, _, _], _ => rfl
  have F19 := fun_mk (st := sLaw) l19 c19 k19
  have b19 := F19.binds (ps := ["script"]) fun _ _ _ _ _ _ us hl => match us, hl with | [_], _ => rfl
  have FI := fun_mk (st := sInit) lI cI kI
  have bI := FI.binds (ps := ["self", "word"]) fun _ _ _ _ _ _ us hl => match us, hl with | [_, _], _ => rfl

  exact ⟨PySem.W.fnOf "law" "law" (defArgs sLaw) (defBody sLaw) (defScope sLaw) .none kV19 dc19 pm19 an19 cd19 ct19, fun s v => .of_eq rfl, fun base _ _ => okLaw ⟨_, _, F0, b0, PySem.W.mg_of X G a0, _, _, F1, b1, PySem.W.mg_of X G a1, _, _, F2, b2, PySem.W.mg_of X G a2, _, _, F3, b3, PySem.W.mg_of X G a3, _, _, F4, b4, PySem.W.mg_of X G a4, _, _, F5, b5, PySem.W.mg_of X G a5, _, _, F6, b6, PySem.W.mg_of X G a6, _, _, F7, b7, PySem.W.mg_of X G a7, _, _, F8, b8, PySem.W.mg_of X G a8, _, _, F9, b9, PySem.W.mg_of X G a9, _, _, F10, b10, PySem.W.mg_of X G a10, _, _, F11, b11, PySem.W.mg_of X G a11, _, _, F12, b12, PySem.W.mg_of X G a12, _, _, F13, b13, PySem.W.mg_of X G a13, _, _, F14, b14, PySem.W.mg_of X G a14, _, _, F15, b15, PySem.W.mg_of X G a15, _, _, F16, b16, PySem.W.mg_of X G a16, _, _, F17, b17, PySem.W.mg_of X G a17, _, _, F18, b18, PySem.W.mg_of X G a18, _, _, F19, b19, PySem.W.mg_of X G a19, PySem.W.mg_none_of X G z_all, PySem.W.mg_none_of X G z_any, PySem.W.mg_none_of X G z_bool, PySem.W.mg_none_of X G z_int, PySem.W.mg_none_of X G z_isinstance, PySem.W.mg_none_of X G z_len, PySem.W.mg_none_of X G z_list, PySem.W.mg_none_of X G z_max, PySem.W.mg_none_of X G z_min, PySem.W.mg_none_of X G z_range, PySem.W.mg_none_of X G z_str, PySem.W.mg_none_of X G z_tuple, CW, CR, _, _, PySem.W.mg_of X G aW, PySem.W.mg_of X G aR, gcW, rdW, vVW, ⟨⟨cnm, cq, cN, cbs, _, csn, csub, cab, ccol, cdd, cm0, cm1, cm2, cm3, cm5, xR, (by show PySem.HandSPX.refsVE [.type "ValueError", .type "Exception", .type "BaseException", .type "object"] = true; decide +kernel)⟩, saR, exR, tyR, kpR⟩, ⟨⟨hgR, hkR, exR, hdR, haR, hnR, htR, hmR⟩, clR, nwR⟩, iR, tI, FI, bI, xm1, xm2, ko, _, PySem.W.mg_of X G y_LETTERS, _, PySem.W.mg_of X G y_MOST_LETTERS⟩⟩
end K46
open PySem PySem.W PyProof.Rows
set_option maxHeartbeats 0 in
theorem PySem.Challenge.cw_wordsalike_k46_words_by_copies_holds : PySem.Challenge.rw_wordsalike_k46_words_by_copies.Holds := by
  w_on; o_law; k_head; (case hw => w_witness2)
  k_fill
  refine L2.walk_of (l := PySem.Challenge.rw_wordsalike_k46_words_by_copies) (n := 63) (k := 6) (x := "script") (CX := fun _ => L2.CX0) (sp := fun w => PL.spLaw _) rfl (by decide) rfl ⟨rfl, by decide, by decide⟩ (fun w h Y => PySem.W.kIn_of Y) ?F (fun _ _ a ns hl _ hS => ⟨a, ns, rfl, hS, hl, fun _ => rfl⟩) (fun _ _ _ _ _ h => h)
  case F =>
    intro w mg fa h KX G hmg
    refine' K46.all_mk KX G hmg ?a0 ?l0 ?c0 ?k0 ?a1 ?l1 ?c1 ?k1 ?a2 ?l2 ?c2 ?k2 ?a3 ?l3 ?c3 ?k3 ?a4 ?l4 ?c4 ?k4 ?a5 ?l5 ?c5 ?k5 ?a6 ?l6 ?c6 ?k6 ?a7 ?l7 ?c7 ?k7 ?a8 ?l8 ?c8 ?k8 ?a9 ?l9 ?c9 ?k9 ?a10 ?l10 ?c10 ?k10 ?a11 ?l11 ?c11 ?k11 ?a12 ?l12 ?c12 ?k12 ?a13 ?l13 ?c13 ?k13 ?a14 ?l14 ?c14 ?k14 ?a15 ?l15 ?c15 ?k15 ?a16 ?l16 ?c16 ?k16 ?a17 ?l17 ?c17 ?k17 ?a18 ?l18 ?c18 ?k18 ?a19 ?l19 ?c19 ?k19 ?z_all ?z_any ?z_bool ?z_int ?z_isinstance ?z_len ?z_list ?z_max ?z_min ?z_range ?z_str ?z_tuple ?y_LETTERS ?y_MOST_LETTERS ?aW ?aR ?xR ?saR ?exR ?tyR ?kpR ?hgR ?hkR ?hdR ?haR ?hnR ?htR ?hmR ?clR ?nwR ?iR ?tI ?lI ?cI ?kI ?gcW ?rdW ?vVW ?xm1 ?xm2 ?ko
    (case a0 => k_is); (case l0 => k_is); (case c0 => k_is); (case k0 => k_is); (case a1 => k_is); (case l1 => k_is); (case c1 => k_is); (case k1 => k_is); (case a2 => k_is); (case l2 => k_is); (case c2 => k_is); (case k2 => k_is); (case a3 => k_is); (case l3 => k_is); (case c3 => k_is); (case k3 => k_is); (case a4 => k_is); (case l4 => k_is); (case c4 => k_is); (case k4 => k_is); (case a5 => k_is); (case l5 => k_is); (case c5 => k_is); (case k5 => k_is); (case a6 => k_is); (case l6 => k_is); (case c6 => k_is); (case k6 => k_is); (case a7 => k_is); (case l7 => k_is); (case c7 => k_is); (case k7 => k_is); (case a8 => k_is); (case l8 => k_is); (case c8 => k_is); (case k8 => k_is); (case a9 => k_is); (case l9 => k_is); (case c9 => k_is); (case k9 => k_is); (case a10 => k_is); (case l10 => k_is); (case c10 => k_is); (case k10 => k_is); (case a11 => k_is); (case l11 => k_is); (case c11 => k_is); (case k11 => k_is); (case a12 => k_is); (case l12 => k_is); (case c12 => k_is); (case k12 => k_is); (case a13 => k_is); (case l13 => k_is); (case c13 => k_is); (case k13 => k_is); (case a14 => k_is); (case l14 => k_is); (case c14 => k_is); (case k14 => k_is); (case a15 => k_is); (case l15 => k_is); (case c15 => k_is); (case k15 => k_is); (case a16 => k_is); (case l16 => k_is); (case c16 => k_is); (case k16 => k_is); (case a17 => k_is); (case l17 => k_is); (case c17 => k_is); (case k17 => k_is); (case a18 => k_is); (case l18 => k_is); (case c18 => k_is); (case k18 => k_is); (case a19 => k_is); (case l19 => k_is); (case c19 => k_is); (case k19 => k_is); (case z_all => k_is); (case z_any => k_is); (case z_bool => k_is); (case z_int => k_is); (case z_isinstance => k_is); (case z_len => k_is); (case z_list => k_is); (case z_max => k_is); (case z_min => k_is); (case z_range => k_is); (case z_str => k_is); (case z_tuple => k_is); (case y_LETTERS => k_is); (case y_MOST_LETTERS => k_is); (case aW => k_is); (case aR => k_is); (case xR => k_is); (case saR => k_is); (case exR => k_is); (case tyR => k_is); (case kpR => k_is); (case hgR => k_is); (case hkR => k_is); (case hdR => k_is); (case haR => k_is); (case hnR => k_is); (case htR => k_is); (case hmR => k_is); (case clR => first | k_is | rfl | decide +kernel); (case nwR => k_is); (case iR => k_is); (case tI => k_is); (case lI => k_is); (case cI => k_is); (case kI => k_is); (case gcW => first | k_is | rfl | decide +kernel); (case rdW => first | k_is | rfl | decide +kernel); (case vVW => first | k_is | rfl | decide +kernel); (case xm1 => first | k_is | rfl | decide +kernel); (case xm2 => first | k_is | rfl | decide +kernel); (case ko => first | k_is | rfl | decide +kernel)
