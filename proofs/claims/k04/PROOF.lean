import PyProof.Rows.All
import Wide.All
import OpenK.AllK
import Wide.FinOn
import HandS.ForMost
import HandS.Wide
import HandS.IsInst
import HandS.TupAny
import HandS.Exc
import HandS.ExcOwn
import HandS.TryOnly
import HandS.TryMany
import HandS.WordsExc
import HandS.ExcInit
import HandS.ExcField
import HandS.WideBits
import PySem.Challenge.RW_creasehall_k04_roots_of_fractions
set_option Elab.async false
set_option linter.all false
set_option autoImplicit false
set_option maxRecDepth 100000
set_option maxHeartbeats 8000000
/-! MP: a reading of bodies over plain data (D): tuples and shared lists are values, own lists stand in a store. -/
namespace MP
open PySem PySem.Spec PyProof.Rows L2

inductive D where
  | non | bl (b : Bool) | int (i : Int) | str (x : Str) | ty (n : String)
  | tup (xs : List D) | lst (xs : List D) | scr (ns : List Int) | dct (ks : List Key) (vs : List D)

/-- an own (unshared) object's contents -/
inductive Mu where
  | lst (xs : List D)

def Mu.toD : Mu → D
  | .lst xs => .lst xs

inductive Val where
  | un | d (x : D) | o (k : Nat)

/-- an exception: its class, its fields -/
structure Xc where
  cls : String
  fs : List (Str × D)
/-- what is wished of an exception: it, the slots, the store -/
abbrev Xw := Xc → List Val → List (Option Mu) → Prop
@[reducible] def noX : Xw := fun _ _ _ => False
structure Sm where
  ε : List Val
  κ : List (Option Mu)
  n : Nat
  x : Xw

/-- a tuple of the written part -/
def KT (K : PySem.W.Frag) (a : Addr) (xs : List V) : Prop :=
  ∃ (o : Obj) (its : Array Value) (n : Nat), K.lookup a = some o ∧ o.cls = .type "tuple" ∧ o.data = .seq its n ∧ its.size ≤ sizeLine ∧ Vals xs its.toList
def KL (K : PySem.W.Frag) (a : Addr) (xs : List V) : Prop :=
  ∃ (o : Obj) (its : Array Value) (n : Nat), K.lookup a = some o ∧ o.cls = .type "list" ∧ o.dict = none ∧ o.data = .seq its n ∧ its.size ≤ sizeLine ∧ Vals xs its.toList

section
variable (K : PySem.W.Frag) (H : Hp) (P : Addr → Prop)
mutual
inductive Rep : V → D → Prop
  | non : Rep .non .non
  | bl (b : Bool) : Rep (.bl b) (.bl b)
  | int (i : Int) : Rep (.int i) (.int i)
  | str (x : Str) : Rep (.str x) (.str x)
  | ty (n : String) : Rep (.ty n) (.ty n)
  | tup {a : Addr} {vs : List V} {ds : List D} : P a → H a = some (.tup vs) → RepL vs ds → Rep (.ref a) (.tup ds)
  | tupK {a : Addr} {vs : List V} {ds : List D} : KT K a vs → RepL vs ds → Rep (.ref a) (.tup ds)
  | lst {a : Addr} {vs : List V} {ds : List D} : P a → H a = some (.lst vs) → RepL vs ds → Rep (.ref a) (.lst ds)
  | scr {a : Addr} {ns : List Int} : P a → Rd H a (.lst (ns.map V.int)) → Rep (.ref a) (.scr ns)
  | scrK {a : Addr} {ns : List Int} : KL K a (ns.map V.int) → Rep (.ref a) (.scr ns)
  | dct {a : Addr} {ks : List Key} {vs : List V} {ds : List D} : P a → H a = some (.dK (ks.zip vs)) → ks.length = vs.length → RepL vs ds → Rep (.ref a) (.dct ks ds)
inductive RepL : List V → List D → Prop
  | nil : RepL [] []
  | cons {v : V} {vs : List V} {d : D} {ds : List D} : Rep v d → RepL vs ds → RepL (v :: vs) (d :: ds)
end
end

section
variable {K : PySem.W.Frag} {H H' : Hp} {P P' : Addr → Prop}
mutual
theorem Rep.mono (h : ∀ a o, P a → H a = some o → P' a ∧ H' a = some o) : ∀ {v : V} {d : D}, Rep K H P v d → Rep K H' P' v d
  | _, _, .non => .non
  | _, _, .bl b => .bl b
  | _, _, .int b => .int b
  | _, _, .str b => .str b
  | _, _, .ty b => .ty b
  | _, _, .tup p e r => .tup (h _ _ p e).1 (h _ _ p e).2 (RepL.mono h r)
  | _, _, .tupK e r => .tupK e (RepL.mono h r)
  | _, _, .lst p e r => .lst (h _ _ p e).1 (h _ _ p e).2 (RepL.mono h r)
  | _, _, .scr p e => by
    rcases e with e | ⟨o, e⟩
    · exact .scr (h _ _ p e).1 (.inl (h _ _ p e).2)
    · exact .scr (h _ _ p e).1 (.inr ⟨o, (h _ _ p e).2⟩)
  | _, _, .scrK e => .scrK e
  | _, _, .dct p e z r => .dct (h _ _ p e).1 (h _ _ p e).2 z (RepL.mono h r)
theorem RepL.mono (h : ∀ a o, P a → H a = some o → P' a ∧ H' a = some o) : ∀ {vs : List V} {ds : List D}, RepL K H P vs ds → RepL K H' P' vs ds
  | _, _, .nil => .nil
  | _, _, .cons r t => .cons (Rep.mono h r) (RepL.mono h t)
end
theorem RepL.length : ∀ {vs : List V} {ds : List D}, RepL K H P vs ds → vs.length = ds.length
  | _, _, .nil => rfl
  | _, _, .cons _ t => by rw [List.length_cons, List.length_cons, RepL.length t]
theorem RepL.get : ∀ {vs : List V} {ds : List D} {i : Nat} {d : D}, RepL K H P vs ds → ds[i]? = some d → ∃ v, vs[i]? = some v ∧ Rep K H P v d
  | _, _, _, _, .nil, e => by simp at e
  | _, _, 0, _, .cons r _, e => by simp at e; subst e; exact ⟨_, rfl, r⟩
  | _, _, i + 1, d, .cons _ t, e => by
    obtain ⟨u, h1, h2⟩ := RepL.get (i := i) (d := d) t (by simpa using e)
    exact ⟨u, by simpa using h1, h2⟩
theorem RepL.set {v : V} {d : D} (r : Rep K H P v d) : ∀ {vs : List V} {ds : List D} (i : Nat), RepL K H P vs ds → RepL K H P (vs.set i v) (ds.set i d)
  | _, _, _, .nil => .nil
  | _, _, 0, .cons _ t => .cons r t
  | _, _, i + 1, .cons q t => .cons q (RepL.set r i t)
theorem RepL.append : ∀ {xs ys : List V} {us ws : List D}, RepL K H P xs us → RepL K H P ys ws → RepL K H P (xs ++ ys) (us ++ ws)
  | _, _, _, _, .nil, s => s
  | _, _, _, _, .cons r t, s => .cons r (RepL.append t s)
theorem RepL.take : ∀ {xs : List V} {us : List D} (n : Nat), RepL K H P xs us → RepL K H P (xs.take n) (us.take n)
  | _, _, 0, _ => .nil
  | _, _, _ + 1, .nil => .nil
  | _, _, n + 1, .cons r t => .cons r (RepL.take n t)
theorem RepL.drop : ∀ {xs : List V} {us : List D} (n : Nat), RepL K H P xs us → RepL K H P (xs.drop n) (us.drop n)
  | _, _, 0, r => r
  | _, _, _ + 1, .nil => .nil
  | _, _, n + 1, .cons _ t => RepL.drop n t
theorem RepL.one {v : V} {d : D} (r : Rep K H P v d) : RepL K H P [v] [d] := .cons r .nil
theorem RepL.ints : ∀ (ns : List Int), RepL K H P (ns.map V.int) (ns.map D.int)
  | [] => .nil
  | n :: r => .cons (.int n) (RepL.ints r)
theorem RepL.reverse : ∀ {xs : List V} {us : List D}, RepL K H P xs us → RepL K H P xs.reverse us.reverse
  | _, _, .nil => .nil
  | _, _, .cons r t => by rw [List.reverse_cons, List.reverse_cons]; exact (RepL.reverse t).append (.one r)
theorem RepL.dropLast {xs : List V} {us : List D} (r : RepL K H P xs us) : RepL K H P xs.dropLast us.dropLast := by
  rw [List.dropLast_eq_take, List.dropLast_eq_take, r.length]
  exact r.take _
theorem RepL.eraseIdx : ∀ {xs : List V} {us : List D} (i : Nat), RepL K H P xs us → RepL K H P (xs.eraseIdx i) (us.eraseIdx i)
  | _, _, _, .nil => .nil
  | _, _, 0, .cons _ t => t
  | _, _, i + 1, .cons r t => .cons r (RepL.eraseIdx i t)
end

/-- what is fixed while a body runs: the written part, the hidden addresses, the heap at the entry, the borrowed objects -/
structure Cfg where
  K : PySem.W.Frag
  A : Addr → Prop
  H0 : Hp
  n : Nat
  x : Xw
  ad0 : Nat → Addr
  κ0 : List (Option Mu)
  Hb : Hp

def Pub (C : Cfg) (ad : Nat → Addr) (κ : List (Option Mu)) (a : Addr) : Prop := ¬ C.A a ∧ ∀ (k : Nat) (m : Mu), κ[k]? = some (some m) → ad k ≠ a

def MuRep (K : PySem.W.Frag) (H : Hp) (P : Addr → Prop) (a : Addr) : Mu → Prop
  | .lst xs => ∃ vs, H a = some (.lst vs) ∧ RepL K H P vs xs

def VR (C : Cfg) (ad : Nat → Addr) (κ : List (Option Mu)) (H : Hp) (u : V) : Val → Prop
  | .un => False
  | .d x => Rep C.K H (Pub C ad κ) u x
  | .o k => k < κ.length ∧ u = .ref (ad k)

structure Stp (C : Cfg) (ad : Nat → Addr) (κ : List (Option Mu)) (H : Hp) (ad' : Nat → Addr) (κ' : List (Option Mu)) (H' : Hp) : Prop where
  pub : ∀ a o, Pub C ad κ a → H a = some o → Pub C ad' κ' a ∧ H' a = some o
  len : κ.length ≤ κ'.length
  ads : ∀ k, k < κ.length → ad' k = ad k

structure SR (C : Cfg) (ad : Nat → Addr) (S : Sm) (σ : List (Option V)) (H : Hp) : Prop where
  len : σ.length = S.ε.length
  sl : ∀ (i : Nat) (v : Val), S.ε[i]? = some v → v ≠ .un → ∃ u, σ[i]? = some (some u) ∧ VR C ad S.κ H u v
  ow : ∀ (k : Nat) (m : Mu), S.κ[k]? = some (some m) → MuRep C.K H (Pub C ad S.κ) (ad k) m
  inj : ∀ j k, j < S.κ.length → k < S.κ.length → ad j = ad k → j = k
  nA : ∀ k, k < S.κ.length → ¬ C.A (ad k)
  hA : ∀ a, C.A a → ∃ o, C.H0 a = some o
  fr : ∀ a o, C.H0 a = some o → (∀ k, k < C.n → ad k ≠ a) → H a = some o
  nw : ∀ k, C.n ≤ k → k < S.κ.length → C.H0 (ad k) = none
  bn : C.n ≤ S.κ.length
  nn : S.n = C.n
  tr : ∀ k, k < S.κ.length → ∃ o, H (ad k) = some o
  xx : S.x = C.x
  sb : Stp C C.ad0 C.κ0 C.Hb ad S.κ H

section
variable {C : Cfg} {ad ad' ad'' : Nat → Addr} {S S' : Sm} {κ κ' κ'' : List (Option Mu)} {σ σ' : List (Option V)} {H H' H'' : Hp}
theorem Stp.refl : Stp C ad κ H ad κ H := ⟨fun _ _ p h => ⟨p, h⟩, Nat.le_refl _, fun _ _ => rfl⟩
theorem Stp.trans (a : Stp C ad κ H ad' κ' H') (b : Stp C ad' κ' H' ad'' κ'' H'') : Stp C ad κ H ad'' κ'' H'' :=
  ⟨fun c o p h => b.pub c o (a.pub c o p h).1 (a.pub c o p h).2, Nat.le_trans a.len b.len, fun k hk => (b.ads k (Nat.lt_of_lt_of_le hk a.len)).trans (a.ads k hk)⟩
theorem Stp.rep (a : Stp C ad κ H ad' κ' H') {v : V} {d : D} (r : Rep C.K H (Pub C ad κ) v d) : Rep C.K H' (Pub C ad' κ') v d := r.mono a.pub
theorem Stp.repL (a : Stp C ad κ H ad' κ' H') {v : List V} {d : List D} (r : RepL C.K H (Pub C ad κ) v d) : RepL C.K H' (Pub C ad' κ') v d := r.mono a.pub
theorem Stp.vr (a : Stp C ad κ H ad' κ' H') {u : V} : ∀ {v : Val}, VR C ad κ H u v → VR C ad' κ' H' u v
  | .un, h => h
  | .d _, h => a.rep h
  | .o k, ⟨h1, h2⟩ => ⟨Nat.lt_of_lt_of_le h1 a.len, by rw [a.ads k h1]; exact h2⟩

/-- the heap grows: every tracked object stays -/
theorem SR.grow (s : SR C ad S σ H) (h : Same H H') : SR C ad S σ H' ∧ Stp C ad S.κ H ad S.κ H' := by
  have st : Stp C ad S.κ H ad S.κ H' := ⟨fun a o p e => ⟨p, h a o e⟩, Nat.le_refl _, fun _ _ => rfl⟩
  refine ⟨⟨s.len, fun i v e nu => ?_, fun k m e => ?_, s.inj, s.nA, s.hA, fun a o e q => h a o (s.fr a o e q), s.nw, s.bn, s.nn, fun k hk => ?_, s.xx, s.sb.trans st⟩, st⟩
  · obtain ⟨u, e1, e2⟩ := s.sl i v e nu
    exact ⟨u, e1, st.vr e2⟩
  · have q := s.ow k m e
    cases m with
    | lst xs =>
      obtain ⟨vs, e1, e2⟩ := q
      exact ⟨vs, h _ _ e1, st.repL e2⟩
  · obtain ⟨o, e⟩ := s.tr k hk
    exact ⟨o, h _ _ e⟩

/-- a slot is set -/
theorem SR.setS (s : SR C ad S σ H) {u : V} {v : Val} (r : VR C ad S.κ H u v) (i : Nat) : SR C ad { S with ε := S.ε.set i v } (σ.set i (some u)) H := by
  refine ⟨by rw [List.length_set, s.len]; exact (List.length_set).symm, fun j w e nu => ?_, s.ow, s.inj, s.nA, s.hA, s.fr, s.nw, s.bn, s.nn, s.tr, s.xx, s.sb⟩
  have e' : (S.ε.set i v)[j]? = some w := e
  rw [List.getElem?_set] at e'
  rw [List.getElem?_set]
  by_cases hij : i = j
  · rw [if_pos hij] at e' ⊢
    by_cases hl : i < S.ε.length
    · rw [if_pos hl] at e'
      have hl' : i < σ.length := by rw [s.len]; exact hl
      rw [if_pos hl']
      cases e'
      exact ⟨u, rfl, r⟩
    · rw [if_neg hl] at e'; cases e'
  · rw [if_neg hij] at e' ⊢
    exact s.sl j w e' nu

/-! ### an own object is shared from now on -/
def unown (k : Nat) (x : D) : Val → Val
  | .o j => if j = k then .d x else .o j
  | v => v
def Sm.frz (S : Sm) (k : Nat) (m : Mu) : Sm := { S with ε := S.ε.map (unown k m.toD), κ := S.κ.set k none }
theorem MuRep.rep {K : PySem.W.Frag} {P : Addr → Prop} {a : Addr} {m : Mu} (h : MuRep K H P a m) (p : P a) : Rep K H P (.ref a) m.toD := by
  cases m with
  | lst xs =>
    obtain ⟨vs, e, r⟩ := h
    exact .lst p e r
theorem MuRep.stp (a : Stp C ad κ H ad' κ' H') {p : Addr} {m : Mu} (h : MuRep C.K H (Pub C ad κ) p m) (hp : H' p = H p) : MuRep C.K H' (Pub C ad' κ') p m := by
  cases m with
  | lst xs =>
    obtain ⟨vs, e, r⟩ := h
    exact ⟨vs, hp.trans e, a.repL r⟩
theorem get_set_none {κ : List (Option Mu)} {k j : Nat} {m : Mu} (h : (κ.set k none)[j]? = some (some m)) : κ[j]? = some (some m) ∧ j ≠ k := by
  rw [List.getElem?_set] at h
  by_cases hk : k = j
  · rw [if_pos hk] at h
    split at h <;> cases h
  · rw [if_neg hk] at h
    exact ⟨h, fun e => hk e.symm⟩
theorem SR.freeze (s : SR C ad S σ H) {k : Nat} {m : Mu} (e : S.κ[k]? = some (some m)) : SR C ad (S.frz k m) σ H ∧ Stp C ad S.κ H ad (S.frz k m).κ H ∧ Rep C.K H (Pub C ad (S.frz k m).κ) (.ref (ad k)) m.toD := by
  have hk : k < S.κ.length := by
    obtain ⟨h, _⟩ := List.getElem?_eq_some_iff.mp e
    exact h
  have sub : ∀ a, Pub C ad S.κ a → Pub C ad (S.κ.set k none) a := fun a p => ⟨p.1, fun j m' h => p.2 j m' (get_set_none h).1⟩
  have st : Stp C ad S.κ H ad (S.frz k m).κ H := ⟨fun a o p h => ⟨sub a p, h⟩, by show _ ≤ (S.κ.set k none).length; rw [List.length_set]; exact Nat.le_refl _, fun _ _ => rfl⟩
  have pk : Pub C ad (S.frz k m).κ (ad k) := ⟨s.nA k hk, fun j m' h z => by
    obtain ⟨h1, h2⟩ := get_set_none h
    obtain ⟨hj, _⟩ := List.getElem?_eq_some_iff.mp h1
    exact h2 (s.inj j k hj hk z)⟩
  have rk : Rep C.K H (Pub C ad (S.frz k m).κ) (.ref (ad k)) m.toD := ((s.ow k m e).stp st rfl).rep pk
  have lk : (S.frz k m).κ.length = S.κ.length := List.length_set
  refine ⟨⟨?_, fun i v h nu => ?_, fun j m' h => ?_, ?_, ?_, s.hA, s.fr, ?_, ?_, s.nn, ?_, s.xx, s.sb.trans st⟩, st, rk⟩
  · show σ.length = (S.ε.map _).length
    rw [List.length_map]; exact s.len
  · have h' : (S.ε.map (unown k m.toD))[i]? = some v := h
    rw [List.getElem?_map] at h'
    cases q : S.ε[i]? with
    | none => rw [q] at h'; cases h'
    | some w =>
      rw [q] at h'
      have hv : unown k m.toD w = v := Option.some.inj h'
      have wn : w ≠ .un := fun z => by subst z; exact nu hv.symm
      obtain ⟨u, e1, e2⟩ := s.sl i w q wn
      refine ⟨u, e1, ?_⟩
      subst hv
      cases w with
      | un => exact absurd rfl wn
      | d x => exact st.vr e2
      | o j =>
        show VR C ad _ H u (if j = k then .d m.toD else .o j)
        by_cases hj : j = k
        · rw [if_pos hj]
          obtain ⟨_, hu⟩ := e2
          rw [hu, hj]
          exact rk
        · rw [if_neg hj]
          exact st.vr e2
  · exact (s.ow j m' (get_set_none h).1).stp st rfl
  · rw [lk]; exact s.inj
  · rw [lk]; exact s.nA
  · rw [lk]; exact s.nw
  · rw [lk]; exact s.bn
  · rw [lk]; exact s.tr

/-! ### a new own object -/
def setAd (ad : Nat → Addr) (k : Nat) (p : Addr) : Nat → Addr := fun j => if j = k then p else ad j
def Sm.new (S : Sm) (m : Mu) : Sm := { S with κ := S.κ ++ [some m] }
/-- the heap of which H' holds all that H held, and at the free p the object -/
theorem SR.alloc (s : SR C ad S σ H) {p : Addr} {m : Mu} (h : Same H H') (hp : H p = none) (hp' : ∃ o, H' p = some o) (r : ∀ P : Addr → Prop, (∀ a, P a ↔ (Pub C ad S.κ a ∧ a ≠ p)) → MuRep C.K H' P p m) :
    SR C (setAd ad S.κ.length p) (S.new m) σ H' ∧ Stp C ad S.κ H (setAd ad S.κ.length p) (S.new m).κ H' := by
  have adk : ∀ k, k < S.κ.length → setAd ad S.κ.length p k = ad k := fun k hk => by unfold setAd; rw [if_neg (Nat.ne_of_lt hk)]
  have adn : setAd ad S.κ.length p S.κ.length = p := by unfold setAd; rw [if_pos rfl]
  have nep : ∀ k, k < S.κ.length → ad k ≠ p := fun k hk z => by
    obtain ⟨o, e⟩ := s.tr k hk
    rw [z, hp] at e; cases e
  have pubI : ∀ a, Pub C (setAd ad S.κ.length p) (S.κ ++ [some m]) a ↔ (Pub C ad S.κ a ∧ a ≠ p) := fun a => by
    constructor
    · intro ⟨h1, h2⟩
      refine ⟨⟨h1, fun k m' e => ?_⟩, fun z => ?_⟩
      · obtain ⟨hk, _⟩ := List.getElem?_eq_some_iff.mp e
        have := h2 k m' (by rw [List.getElem?_append_left hk]; exact e)
        rwa [adk k hk] at this
      · have := h2 S.κ.length m (by rw [List.getElem?_append_right (Nat.le_refl _), Nat.sub_self]; rfl)
        rw [adn] at this
        exact this z.symm
    · intro ⟨⟨h1, h2⟩, h3⟩
      refine ⟨h1, fun k m' e => ?_⟩
      by_cases hk : k < S.κ.length
      · rw [List.getElem?_append_left hk] at e
        rw [adk k hk]; exact h2 k m' e
      · have hk2 : k = S.κ.length := by
          obtain ⟨hk3, _⟩ := List.getElem?_eq_some_iff.mp e
          rw [List.length_append, List.length_singleton] at hk3
          omega
        rw [hk2, adn]; exact fun z => h3 z.symm
  have st : Stp C ad S.κ H (setAd ad S.κ.length p) (S.new m).κ H' := by
    refine ⟨fun a o q e => ⟨(pubI a).mpr ⟨q, fun z => by rw [z, hp] at e; cases e⟩, h a o e⟩, ?_, adk⟩
    show _ ≤ (S.κ ++ [some m]).length
    rw [List.length_append]; omega
  have ln : (S.new m).κ.length = S.κ.length + 1 := by show (S.κ ++ [some m]).length = _; rw [List.length_append]; rfl
  have split : ∀ k, k < (S.new m).κ.length → k < S.κ.length ∨ k = S.κ.length := fun k hk => by rw [ln] at hk; omega
  have nA0 : ¬ C.A p := fun z => by
    obtain ⟨o, e⟩ := s.hA p z
    have := s.fr p o e fun k hk => nep k (Nat.lt_of_lt_of_le hk s.bn)
    rw [hp] at this; cases this
  refine ⟨⟨s.len, fun i v e nu => ?_, fun k m' e => ?_, fun j k hj hk z => ?_, fun k hk => ?_, s.hA, fun a o e q => ?_, fun k h1 hk => ?_, ?_, s.nn, fun k hk => ?_, s.xx, s.sb.trans st⟩, st⟩
  · obtain ⟨u, e1, e2⟩ := s.sl i v e nu
    exact ⟨u, e1, st.vr e2⟩
  · have e' : (S.κ ++ [some m])[k]? = some (some m') := e
    by_cases hk : k < S.κ.length
    · rw [List.getElem?_append_left hk] at e'
      rw [adk k hk]
      obtain ⟨o, eo⟩ := s.tr k hk
      exact (s.ow k m' e').stp st (by rw [eo]; exact h _ _ eo)
    · have hk2 : k = S.κ.length := by
        obtain ⟨hk3, _⟩ := List.getElem?_eq_some_iff.mp e'
        rw [List.length_append, List.length_singleton] at hk3
        omega
      subst hk2
      rw [List.getElem?_append_right (Nat.le_refl _), Nat.sub_self] at e'
      have e2 : some m = some m' := Option.some.inj e'
      cases e2
      rw [adn]
      exact r _ pubI
  · rcases split j hj with hj | hj <;> rcases split k hk with hk | hk
    · rw [adk j hj, adk k hk] at z; exact s.inj j k hj hk z
    · rw [adk j hj, hk, adn] at z; exact absurd z (nep j hj)
    · rw [hj, adn, adk k hk] at z; exact absurd z.symm (nep k hk)
    · rw [hj, hk]
  · rcases split k hk with hk | hk
    · rw [adk k hk]; exact s.nA k hk
    · rw [hk, adn]; exact nA0
  · exact h a o (s.fr a o e fun k hk => by rw [← adk k (Nat.lt_of_lt_of_le hk s.bn)]; exact q k hk)
  · rcases split k hk with hk | hk
    · rw [adk k hk]; exact s.nw k h1 hk
    · rw [hk, adn]
      cases q : C.H0 p with
      | none => rfl
      | some o =>
        have := s.fr p o q fun k hk => nep k (Nat.lt_of_lt_of_le hk s.bn)
        rw [hp] at this; cases this
  · rw [ln]; exact Nat.le_succ_of_le s.bn
  · rcases split k hk with hk | hk
    · rw [adk k hk]
      obtain ⟨o, e⟩ := s.tr k hk
      exact ⟨o, h _ _ e⟩
    · rw [hk, adn]; exact hp'

/-! ### an own object is changed -/
def Sm.put (S : Sm) (k : Nat) (m : Mu) : Sm := { S with κ := S.κ.set k (some m) }
theorem SR.write (s : SR C ad S σ H) {k : Nat} {m m0 : Mu} {o : HO} (e : S.κ[k]? = some (some m0)) (r : MuRep C.K (upd H (ad k) o) (Pub C ad S.κ) (ad k) m) :
    SR C ad (S.put k m) σ (upd H (ad k) o) ∧ Stp C ad S.κ H ad (S.put k m).κ (upd H (ad k) o) := by
  obtain ⟨hk, _⟩ := List.getElem?_eq_some_iff.mp e
  have live : ∀ j m', (S.κ.set k (some m))[j]? = some (some m') → (j = k ∧ m' = m) ∨ (j ≠ k ∧ S.κ[j]? = some (some m')) := fun j m' h => by
    rw [List.getElem?_set] at h
    by_cases hj : k = j
    · rw [if_pos hj, if_pos hk] at h
      exact .inl ⟨hj.symm, (Option.some.inj (Option.some.inj h)).symm⟩
    · rw [if_neg hj] at h
      exact .inr ⟨fun z => hj z.symm, h⟩
  have pubI : ∀ a, Pub C ad (S.κ.set k (some m)) a ↔ Pub C ad S.κ a := fun a => by
    constructor
    · intro ⟨h1, h2⟩
      refine ⟨h1, fun j m' h => ?_⟩
      by_cases hj : j = k
      · subst hj; exact h2 j m (by rw [List.getElem?_set, if_pos rfl, if_pos hk])
      · exact h2 j m' (by rw [List.getElem?_set, if_neg (fun z => hj z.symm)]; exact h)
    · intro ⟨h1, h2⟩
      refine ⟨h1, fun j m' h => ?_⟩
      rcases live j m' h with ⟨rfl, _⟩ | ⟨_, h⟩
      · exact h2 j m0 e
      · exact h2 j m' h
  have ne : ∀ a, Pub C ad S.κ a → a ≠ ad k := fun a p z => p.2 k m0 e z.symm
  have st : Stp C ad S.κ H ad (S.put k m).κ (upd H (ad k) o) := ⟨fun a u p h => ⟨(pubI a).mpr p, by rw [upd_ne (ne a p)]; exact h⟩, by show _ ≤ (S.κ.set k (some m)).length; rw [List.length_set]; exact Nat.le_refl _, fun _ _ => rfl⟩
  have lk : (S.put k m).κ.length = S.κ.length := List.length_set
  refine ⟨⟨s.len, fun i v h nu => ?_, fun j m' h => ?_, ?_, ?_, s.hA, fun a u h q => ?_, ?_, ?_, s.nn, ?_, s.xx, s.sb.trans st⟩, st⟩
  · obtain ⟨u, e1, e2⟩ := s.sl i v h nu
    exact ⟨u, e1, st.vr e2⟩
  · rcases live j m' h with ⟨rfl, rfl⟩ | ⟨hj, h⟩
    · have : MuRep C.K (upd H (ad j) o) (Pub C ad (S.put j m').κ) (ad j) m' := by
        cases m' with
        | lst xs =>
          obtain ⟨vs, e1, e2⟩ := r
          exact ⟨vs, e1, e2.mono fun a u p h => ⟨(pubI a).mpr p, h⟩⟩
      exact this
    · obtain ⟨hj2, _⟩ := List.getElem?_eq_some_iff.mp h
      exact (s.ow j m' h).stp st (upd_ne fun z => hj (s.inj j k hj2 hk z))
  · rw [lk]; exact s.inj
  · rw [lk]; exact s.nA
  · by_cases ha : a = ad k
    · by_cases hn : k < C.n
      · exact absurd ha.symm (q k hn)
      · rw [ha, s.nw k (Nat.le_of_not_lt hn) hk] at h; cases h
    · rw [upd_ne ha]; exact s.fr a u h q
  · rw [lk]; exact s.nw
  · rw [lk]; exact s.bn
  · rw [lk]
    intro j hj
    by_cases z : ad j = ad k
    · exact ⟨o, by rw [z]; exact upd_same⟩
    · obtain ⟨u, h⟩ := s.tr j hj
      exact ⟨u, by rw [upd_ne z]; exact h⟩
end
end MP

/-! MP: expressions -/
namespace MP
open PySem PySem.Spec PyProof.Rows L2

abbrev WE := Sm → (Val → Sm → Prop) → Prop
abbrev WT := Sm → (Bool → Sm → Prop) → Prop
abbrev WA := Sm → (List Val → Sm → Prop) → Prop

inductive VRL (C : Cfg) (ad : Nat → Addr) (κ : List (Option Mu)) (H : Hp) : List V → List Val → Prop
  | nil : VRL C ad κ H [] []
  | cons {u : V} {us : List V} {v : Val} {vs : List Val} : VR C ad κ H u v → VRL C ad κ H us vs → VRL C ad κ H (u :: us) (v :: vs)
theorem VRL.stp {C : Cfg} {ad ad' : Nat → Addr} {κ κ' : List (Option Mu)} {H H' : Hp} (a : Stp C ad κ H ad' κ' H') : ∀ {us : List V} {vs : List Val}, VRL C ad κ H us vs → VRL C ad' κ' H' us vs
  | _, _, .nil => .nil
  | _, _, .cons r t => .cons (a.vr r) (VRL.stp a t)

/-- the exceptions of a body: what class a name is, what is wished of one that is raised -/
structure Wsh where
  cl : String → Value
  W : WX
def XF (K : PySem.W.Frag) (H : Hp) (P : Addr → Prop) (d : Option Addr) : List (Str × D) → Prop
  | [] => True
  | fs => ∃ dd vs, d = some dd ∧ P dd ∧ H dd = some (.xd vs) ∧ vs.map (·.1) = fs.map (·.1) ∧ RepL K H P (vs.map (·.2)) (fs.map (·.2))
structure COk (K : PySem.W.Frag) (Vw : Wsh) (C : Cfg) : Prop where
  k : C.K = K
  w : ∀ (xc : Xc) (ε : List Val) (κ : List (Option Mu)) (ad : Nat → Addr) (σ : L2.St) (H : Hp) (d : Option Addr), C.x xc ε κ → SR C ad ⟨ε, κ, C.n, C.x⟩ σ H → XF C.K H (Pub C ad κ) d xc.fs → Vw.W (Vw.cl xc.cls) d σ H

/-- what is wanted behind: of any state that the reading reaches -/
def Post (C : Cfg) (ad : Nat → Addr) (κ : List (Option Mu)) (H : Hp) (σ : L2.St) (R : Val → Sm → Prop) (Q : VK) : Prop :=
  ∀ v S' ad' u H', R v S' → SR C ad' S' σ H' → Stp C ad κ H ad' S'.κ H' → VR C ad' S'.κ H' u v → Q u H'
def PostT (C : Cfg) (ad : Nat → Addr) (κ : List (Option Mu)) (H : Hp) (σ : L2.St) (R : Bool → Sm → Prop) (Q : Bool → Hp → Prop) : Prop :=
  ∀ b S' ad' H', R b S' → SR C ad' S' σ H' → Stp C ad κ H ad' S'.κ H' → Q b H'
def PostA (C : Cfg) (ad : Nat → Addr) (κ : List (Option Mu)) (H : Hp) (σ : L2.St) (R : List Val → Sm → Prop) (Q : List V → Hp → Prop) : Prop :=
  ∀ vs S' ad' us H', R vs S' → SR C ad' S' σ H' → Stp C ad κ H ad' S'.κ H' → VRL C ad' S'.κ H' us vs → Q us H'
def lift (K : PySem.W.Frag) (Vw : Wsh) (t : WE) : TE := fun σ H Q => ∃ (C : Cfg) (ad : Nat → Addr) (S : Sm) (R : Val → Sm → Prop), COk K Vw C ∧ SR C ad S σ H ∧ t S R ∧ Post C ad S.κ H σ R Q
def liftT (K : PySem.W.Frag) (Vw : Wsh) (t : WT) : TT := fun σ H Q => ∃ (C : Cfg) (ad : Nat → Addr) (S : Sm) (R : Bool → Sm → Prop), COk K Vw C ∧ SR C ad S σ H ∧ t S R ∧ PostT C ad S.κ H σ R Q
def liftA (K : PySem.W.Frag) (Vw : Wsh) (t : WA) : TA := fun σ H Q => ∃ (C : Cfg) (ad : Nat → Addr) (S : Sm) (R : List Val → Sm → Prop), COk K Vw C ∧ SR C ad S σ H ∧ t S R ∧ PostA C ad S.κ H σ R Q
structure ME (X : Cx) (Vw : Wsh) (e : Expr) (t : WE) : Prop where
  pe : PE X e (lift X.K Vw t)
structure MT (X : Cx) (Vw : Wsh) (e : Expr) (t : WT) : Prop where
  pt : PT X e (liftT X.K Vw t)
structure MW (X : Cx) (Vw : Wsh) (e : Expr) (t : WT) : Prop where
  pw : PW X e (liftT X.K Vw t)
structure MA (X : Cx) (Vw : Wsh) (es : List Expr) (t : WA) : Prop where
  pa : PA X es (liftA X.K Vw t)

theorem PE.weak {X : Cx} {e : Expr} {t t' : TE} (h : PE X e t) (w : ∀ σ H Q, t' σ H Q → t σ H Q) : PE X e t' := ⟨fun pins s σ H Q I q => h.run pins s σ H Q I (w σ H Q q)⟩
theorem PT.weak {X : Cx} {e : Expr} {t t' : TT} (h : PT X e t) (w : ∀ σ H Q, t' σ H Q → t σ H Q) : PT X e t' := ⟨fun pins s σ H Q I q => h.run pins s σ H Q I (w σ H Q q)⟩
theorem PW.weak {X : Cx} {e : Expr} {t t' : TT} (h : PW X e t) (w : ∀ σ H Q, t' σ H Q → t σ H Q) : PW X e t' := ⟨fun wh pins s σ H Q I q => h.run wh pins s σ H Q I (w σ H Q q)⟩
theorem PA.weak {X : Cx} {e : List Expr} {t t' : TA} (h : PA X e t) (w : ∀ σ H Q, t' σ H Q → t σ H Q) : PA X e t' := ⟨fun pos pins s σ H Q I q => h.run pos pins s σ H Q I (w σ H Q q)⟩

section
variable {C : Cfg} {ad ad' : Nat → Addr} {S S' : Sm} {κ κ' : List (Option Mu)} {σ : L2.St} {H H' : Hp} {R : Val → Sm → Prop} {Q : VK} {K : PySem.W.Frag} {Vw : Wsh} {ta tb tc : WE} {tt tu : WT}

theorem Post.step (P : Post C ad κ H σ R Q) (st : Stp C ad κ H ad' κ' H') : Post C ad' κ' H' σ R Q := fun v S' ad'' u H'' r s' st' v' => P v S' ad'' u H'' r s' (st.trans st') v'
theorem Post.at (P : Post C ad S.κ H σ R Q) (s : SR C ad S σ H) {v : Val} {u : V} (h : R v S) (r : VR C ad S.κ H u v) : Q u H := P v S ad u H h s Stp.refl r
theorem same_upd {p : Addr} {o : HO} (h : H p = none) : Same H (upd H p o) := fun b x e => by rw [upd_ne (ne_of_none e h)]; exact e
theorem SR.new (s : SR C ad S σ H) {p : Addr} (hp : H p = none) : Pub C ad S.κ p := by
  refine ⟨fun z => ?_, fun k m e z => ?_⟩
  · obtain ⟨o, e⟩ := s.hA p z
    have := s.fr p o e fun k hk z => by
      obtain ⟨o', e'⟩ := s.tr k (Nat.lt_of_lt_of_le hk s.bn)
      rw [z, hp] at e'; cases e'
    rw [hp] at this; cases this
  · obtain ⟨hk, _⟩ := List.getElem?_eq_some_iff.mp e
    obtain ⟨o, e'⟩ := s.tr k hk
    rw [z, hp] at e'; cases e'
/-- a new tuple -/
theorem Post.tup (P : Post C ad S.κ H σ R Q) (s : SR C ad S σ H) {vs : List V} {ds : List D} (r : RepL C.K H (Pub C ad S.κ) vs ds) (h : R (.d (.tup ds)) S) {p : Addr} (hp : H p = none) : Q (.ref p) (upd H p (.tup vs)) := by
  obtain ⟨s1, st⟩ := s.grow (same_upd (o := .tup vs) hp)
  exact P _ S ad _ _ h s1 st (.tup (s.new hp) upd_same (st.repL r))
/-- a new list -/
theorem Post.lst (P : Post C ad S.κ H σ R Q) (s : SR C ad S σ H) {vs : List V} {ds : List D} (r : RepL C.K H (Pub C ad S.κ) vs ds) (h : R (.o S.κ.length) (S.new (.lst ds))) {p : Addr} (hp : H p = none) : Q (.ref p) (upd H p (.lst vs)) := by
  have sm := same_upd (o := .lst vs) hp
  obtain ⟨s1, st⟩ := s.alloc (m := .lst ds) sm hp ⟨_, upd_same⟩ fun P' hP => ⟨vs, upd_same, r.mono fun a o p e => ⟨(hP a).mpr ⟨p, fun z => by rw [z, hp] at e; cases e⟩, sm a o e⟩⟩
  exact P _ _ _ _ _ h s1 st ⟨by show _ < (S.κ ++ [_]).length; rw [List.length_append]; simp, by rw [show setAd ad S.κ.length p S.κ.length = p by unfold setAd; rw [if_pos rfl]]⟩

theorem lift1 {b : Val → Sm → (Val → Sm → Prop) → Prop} {Z : V → Hp → Prop} (h : lift K Vw (fun S Q => ta S fun x S1 => b x S1 Q) σ H Q)
    (z : ∀ C ad S x ux H1 R, COk K Vw C → SR C ad S σ H1 → VR C ad S.κ H1 ux x → b x S R → Post C ad S.κ H1 σ R Q → Z ux H1) : lift K Vw ta σ H Z := by
  obtain ⟨C, ad, S, R, hK, s, t, q⟩ := h
  exact ⟨C, ad, S, _, hK, s, t, fun x S1 ad1 ux H1 t1 s1 st1 v1 => z C ad1 S1 x ux H1 R hK s1 v1 t1 (q.step st1)⟩
theorem lift2 {b : Val → Val → Sm → (Val → Sm → Prop) → Prop} {Z : V → V → Hp → Prop} (h : lift K Vw (fun S Q => ta S fun x S1 => tb S1 fun y S2 => b x y S2 Q) σ H Q)
    (z : ∀ C ad S x y ux uy H2 R, COk K Vw C → SR C ad S σ H2 → VR C ad S.κ H2 ux x → VR C ad S.κ H2 uy y → b x y S R → Post C ad S.κ H2 σ R Q → Z ux uy H2) :
    lift K Vw ta σ H fun ux H1 => lift K Vw tb σ H1 fun uy H2 => Z ux uy H2 := by
  obtain ⟨C, ad, S, R, hK, s, t, q⟩ := h
  exact ⟨C, ad, S, _, hK, s, t, fun x S1 ad1 ux H1 t1 s1 st1 v1 => ⟨C, ad1, S1, _, hK, s1, t1, fun y S2 ad2 uy H2 t2 s2 st2 v2 => z C ad2 S2 x y ux uy H2 R hK s2 (st2.vr v1) v2 t2 (q.step (st1.trans st2))⟩⟩
theorem lift1T {b : Val → Sm → (Bool → Sm → Prop) → Prop} {Z : V → Hp → Prop} {Q : Bool → Hp → Prop} (h : liftT K Vw (fun S Q => ta S fun x S1 => b x S1 Q) σ H Q)
    (z : ∀ C ad S x ux H1 R, COk K Vw C → SR C ad S σ H1 → VR C ad S.κ H1 ux x → b x S R → PostT C ad S.κ H1 σ R Q → Z ux H1) : lift K Vw ta σ H Z := by
  obtain ⟨C, ad, S, R, hK, s, t, q⟩ := h
  exact ⟨C, ad, S, _, hK, s, t, fun x S1 ad1 ux H1 t1 s1 st1 v1 => z C ad1 S1 x ux H1 R hK s1 v1 t1 fun b S' ad' H' r s' st' => q b S' ad' H' r s' (st1.trans st')⟩
/-- a test, then something -/
theorem liftT1 {b : Bool → Sm → (Bool → Sm → Prop) → Prop} {Z : Bool → Hp → Prop} {Q : Bool → Hp → Prop} (h : liftT K Vw (fun S Q => tt S fun x S1 => b x S1 Q) σ H Q)
    (z : ∀ C ad S x H1 R, COk K Vw C → SR C ad S σ H1 → b x S R → PostT C ad S.κ H1 σ R Q → Z x H1) : liftT K Vw tt σ H Z := by
  obtain ⟨C, ad, S, R, hK, s, t, q⟩ := h
  exact ⟨C, ad, S, _, hK, s, t, fun x S1 ad1 H1 t1 s1 st1 => z C ad1 S1 x H1 R hK s1 t1 fun b S' ad' H' r s' st' => q b S' ad' H' r s' (st1.trans st')⟩
theorem liftT1E {b : Bool → Sm → (Val → Sm → Prop) → Prop} {Z : Bool → Hp → Prop} {Q : VK} (h : lift K Vw (fun S Q => tt S fun x S1 => b x S1 Q) σ H Q)
    (z : ∀ C ad S x H1 R, COk K Vw C → SR C ad S σ H1 → b x S R → Post C ad S.κ H1 σ R Q → Z x H1) : liftT K Vw tt σ H Z := by
  obtain ⟨C, ad, S, R, hK, s, t, q⟩ := h
  exact ⟨C, ad, S, _, hK, s, t, fun x S1 ad1 H1 t1 s1 st1 => z C ad1 S1 x H1 R hK s1 t1 (q.step st1)⟩
end

/-! ### views of values -/
def vget (ε : List Val) (i : Nat) : Val := (ε[i]?).getD .un
def muAt (S : Sm) (k : Nat) : Option Mu := (S.κ[k]?).join
theorem muAt_some {S : Sm} {k : Nat} {m : Mu} (h : muAt S k = some m) : S.κ[k]? = some (some m) := by
  unfold muAt at h
  cases q : S.κ[k]? with
  | none => rw [q] at h; cases h
  | some o =>
    rw [q] at h
    cases o with
    | none => cases h
    | some m' => cases h; rfl
/-- the items of a list or tuple -/
def seqD : D → Option (List D)
  | .tup xs => some xs
  | .lst xs => some xs
  | .scr ns => some (ns.map .int)
  | _ => none
def seqM : Mu → Option (List D)
  | .lst xs => some xs
def seqV (S : Sm) : Val → Option (List D)
  | .un => none
  | .d x => seqD x
  | .o k => (muAt S k).bind seqM
/-- a list that may be concatenated -/
def lstV (S : Sm) : Val → Option (List D)
  | .un => none
  | .d (.lst xs) => some xs
  | .d _ => none
  | .o k => match muAt S k with
    | some (.lst xs) => some xs
    | _ => none
/-- what is needed as data: an own object is shared from here on -/
def asD (x : Val) (S : Sm) (Q : D → Sm → Prop) : Prop := match x with
  | .un => False
  | .d a => Q a S
  | .o k => match muAt S k with
    | some m => S.n ≤ k ∧ Q m.toD (S.frz k m)
    | none => False

section
variable {C : Cfg} {ad : Nat → Addr} {S : Sm} {κ : List (Option Mu)} {σ : L2.St} {H : Hp} {u : V} {x : Val} {xs : List D}
theorem seq_of (s : SR C ad S σ H) (r : VR C ad S.κ H u x) (e : seqV S x = some xs) : ∃ a vs, u = .ref a ∧ (SqL C.K H a vs ∨ SqT C.K H a vs) ∧ RepL C.K H (Pub C ad S.κ) vs xs := by
  cases x with
  | un => exact r.elim
  | d y =>
    have r' : Rep C.K H (Pub C ad S.κ) u y := r
    cases r' with
    | non | bl | int | str | ty | dct => cases e
    | tup p h t => cases e; exact ⟨_, _, rfl, .inr (.inl (.inl h)), t⟩
    | tupK h t => cases e; exact ⟨_, _, rfl, .inr (.inr h), t⟩
    | lst p h t => cases e; exact ⟨_, _, rfl, .inl (.inl (.inl h)), t⟩
    | scr p h => cases e; exact ⟨_, _, rfl, .inl (.inl h), RepL.ints _⟩
    | scrK h => cases e; exact ⟨_, _, rfl, .inl (.inr h), RepL.ints _⟩
  | o k =>
    obtain ⟨hk, hu⟩ := r
    have e' : (muAt S k).bind seqM = some xs := e
    cases q : muAt S k with
    | none => rw [q] at e'; cases e'
    | some m =>
      rw [q] at e'
      cases m with
      | lst ys =>
        cases e'
        obtain ⟨vs, h, t⟩ := s.ow k _ (muAt_some q)
        exact ⟨_, vs, hu, .inl (.inl (.inl h)), t⟩
theorem lst_of (s : SR C ad S σ H) (r : VR C ad S.κ H u x) (e : lstV S x = some xs) : ∃ a vs, u = .ref a ∧ H a = some (.lst vs) ∧ RepL C.K H (Pub C ad S.κ) vs xs := by
  cases x with
  | un => exact r.elim
  | d y =>
    have r' : Rep C.K H (Pub C ad S.κ) u y := r
    cases r' with
    | non | bl | int | str | ty | dct | tup | tupK | scr | scrK => cases e
    | lst p h t => cases e; exact ⟨_, _, rfl, h, t⟩
  | o k =>
    obtain ⟨hk, hu⟩ := r
    cases q : muAt S k with
    | none => simp [lstV, q] at e
    | some m =>
      cases m with
      | lst ys =>
        simp only [lstV, q, Option.some.injEq] at e
        subst e
        obtain ⟨vs, h, t⟩ := s.ow k _ (muAt_some q)
        exact ⟨_, vs, hu, h, t⟩
theorem asD_of (s : SR C ad S σ H) (r : VR C ad S.κ H u x) {Q : D → Sm → Prop} (h : asD x S Q) : ∃ y S', Q y S' ∧ SR C ad S' σ H ∧ Stp C ad S.κ H ad S'.κ H ∧ Rep C.K H (Pub C ad S'.κ) u y := by
  cases x with
  | un => exact h.elim
  | d y => exact ⟨y, S, h, s, Stp.refl, r⟩
  | o k =>
    unfold asD at h
    cases q : muAt S k with
    | none => simp only [q] at h
    | some m =>
      simp only [q] at h
      obtain ⟨s1, st, rk⟩ := s.freeze (muAt_some q)
      obtain ⟨_, hu⟩ := r
      exact ⟨m.toD, S.frz k m, h.2, s1, st, by rw [hu]; exact rk⟩
end

/-! ### names, constants -/
def wVar (i : Nat) : WE := fun S Q => match vget S.ε i with
  | .un => False
  | v => Q v S
def wC (x : D) : WE := fun S Q => Q (.d x) S
/-- a value of the written part that is data -/
def KD (K : PySem.W.Frag) (v : V) (x : D) : Prop := ∀ H P, Rep K H P v x
section
variable {X : Cx} {Vw : Wsh} {a b : Expr} {ta tb tc : WE} {tt tu : WT} {pos : Pos}
theorem m_var {i : Nat} {x : Str} {pos : Pos} (h : PE X (.Name x pos) (tVar i)) : ME X Vw (.Name x pos) (wVar i) := by
  refine ⟨PE.weak h fun σ H Q h => ?_⟩
  obtain ⟨C, ad, S, R, hK, s, t, q⟩ := h
  unfold wVar vget at t
  cases e : S.ε[i]? with
  | none => rw [e] at t; exact t.elim
  | some v =>
    rw [e] at t
    have nu : v ≠ .un := fun z => by subst z; exact t
    obtain ⟨u, e1, r⟩ := s.sl i v e nu
    refine ⟨u, e1, q.at s (v := v) ?_ r⟩
    cases v with
    | un => exact absurd rfl nu
    | d x => exact t
    | o k => exact t
theorem m_const {e : Expr} {v : V} {x : D} (h : PE X e (tC v)) (r : KD X.K v x) : ME X Vw e (wC x) := by
  refine ⟨PE.weak h fun σ H Q h => ?_⟩
  obtain ⟨C, ad, S, R, hK, s, t, q⟩ := h
  exact q.at s (v := .d x) t (by rw [← hK.k] at r; exact r _ _)
theorem m_int {i j pos} : ME X Vw (.Constant (.int i) j pos) (wC (.int i)) := m_const pe_int fun _ _ => .int i
theorem m_bl {i j pos} : ME X Vw (.Constant (.bool i) j pos) (wC (.bl i)) := m_const pe_bl fun _ _ => .bl i
theorem m_non {j pos} : ME X Vw (.Constant .none j pos) (wC .non) := m_const pe_non fun _ _ => .non
theorem m_str {x j pos} : ME X Vw (.Constant (.str x) j pos) (wC (.str x)) := m_const pe_str fun _ _ => .str x
/-- a module's constant -/
theorem m_glob {x : Str} {v : V} {u : Value} {d : D} {pos : Pos} (hg : Gl X x) (hm : X.mg x = some u) (r : RelV v u) (k : KD X.K v d) (hd : (x == ("__debug__" : Str)) = false := by decide) : ME X Vw (.Name x pos) (wC d) := m_const (pe_glob hg hm r hd) k
/-- a built-in class's name -/
theorem m_type {x : Str} {n : String} {pos : Pos} (hg : Gl X x) (hm : X.mg x = none) (hv : bootBuiltins x = some (.type n)) (hn : x ≠ "__name__" := by decide) (hd : (x == ("__debug__" : Str)) = false := by decide) : ME X Vw (.Name x pos) (wC (.ty n)) :=
  m_const (v := .ty n) (pe_bltn hg hm hv rfl hn hd) fun _ _ => .ty n

/-! ### operators -/
/-- two ints -/
def wII (C : Int → Int → Prop) (g : Int → Int → D) (ta tb : WE) : WE := fun S Q => ta S fun x S1 => tb S1 fun y S2 => match x, y with
  | .d (.int i), .d (.int j) => C i j ∧ Q (.d (g i j)) S2
  | _, _ => False
def wII0 (g : Int → Int → D) (ta tb : WE) : WE := fun S Q => ta S fun x S1 => tb S1 fun y S2 => match x, y with
  | .d (.int i), .d (.int j) => Q (.d (g i j)) S2
  | _, _ => False
theorem VR.int {C : Cfg} {ad : Nat → Addr} {κ : List (Option Mu)} {H : Hp} {u : V} {i : Int} (r : VR C ad κ H u (.d (.int i))) : u = .int i := by
  have r' : Rep C.K H (Pub C ad κ) u (.int i) := r
  cases r'; rfl
theorem VR.bl {C : Cfg} {ad : Nat → Addr} {κ : List (Option Mu)} {H : Hp} {u : V} {i : Bool} (r : VR C ad κ H u (.d (.bl i))) : u = .bl i := by
  have r' : Rep C.K H (Pub C ad κ) u (.bl i) := r
  cases r'; rfl
theorem VR.str {C : Cfg} {ad : Nat → Addr} {κ : List (Option Mu)} {H : Hp} {u : V} {i : Str} (r : VR C ad κ H u (.d (.str i))) : u = .str i := by
  have r' : Rep C.K H (Pub C ad κ) u (.str i) := r
  cases r'; rfl
theorem VR.ty {C : Cfg} {ad : Nat → Addr} {κ : List (Option Mu)} {H : Hp} {u : V} {i : String} (r : VR C ad κ H u (.d (.ty i))) : u = .ty i := by
  have r' : Rep C.K H (Pub C ad κ) u (.ty i) := r
  cases r'; rfl
theorem VR.tup {C : Cfg} {ad : Nat → Addr} {κ : List (Option Mu)} {H : Hp} {u : V} {xs : List D} (r : VR C ad κ H u (.d (.tup xs))) : ∃ p vs, u = .ref p ∧ SqT C.K H p vs ∧ RepL C.K H (Pub C ad κ) vs xs := by
  have r' : Rep C.K H (Pub C ad κ) u (.tup xs) := r
  cases r' with
  | tup p h t => exact ⟨_, _, rfl, .inl (.inl h), t⟩
  | tupK h t => exact ⟨_, _, rfl, .inr h, t⟩
theorem ii_of {x y : Val} {P : Int → Int → Prop} (h : match x, y with
    | .d (.int i), .d (.int j) => P i j
    | _, _ => False) : ∃ i j, x = .d (.int i) ∧ y = .d (.int j) ∧ P i j := by
  split at h
  · exact ⟨_, _, rfl, rfl, h⟩
  · exact h.elim
theorem m_opI {op : Operator} {Cd : Int → Int → Prop} {g : Int → Int → Int} (ho : OpR X (binaryOp op) (rI Cd fun i j => .int (g i j))) (ha : ME X Vw a ta) (hb : ME X Vw b tb) : ME X Vw (.BinOp a op b pos) (wII Cd (fun i j => .int (g i j)) ta tb) := by
  refine ⟨PE.weak (pe_op ho ha.pe hb.pe) fun σ H Q h => lift2 h fun C ad S x y ux uy H2 R hK s rx ry t q => ?_⟩
  obtain ⟨i, j, rfl, rfl, hc, t⟩ := ii_of (P := fun i j => Cd i j ∧ R (.d (.int (g i j))) S) t
  exact ⟨i, j, rx.int, ry.int, hc, q.at s t (Rep.int _)⟩
theorem m_opI0 {op : Operator} {g : Int → Int → Int} (ho : OpR X (binaryOp op) (rI0 fun i j => .int (g i j))) (ha : ME X Vw a ta) (hb : ME X Vw b tb) : ME X Vw (.BinOp a op b pos) (wII0 (fun i j => .int (g i j)) ta tb) := by
  refine ⟨PE.weak (pe_op ho ha.pe hb.pe) fun σ H Q h => lift2 h fun C ad S x y ux uy H2 R hK s rx ry t q => ?_⟩
  obtain ⟨i, j, rfl, rfl, t⟩ := ii_of (P := fun i j => R (.d (.int (g i j))) S) t
  exact ⟨i, j, rx.int, ry.int, q.at s t (Rep.int _)⟩
/-- a comparison of two ints, as a value -/
theorem m_cmpI {op : CmpOp} {g : Int → Int → Bool} (ho : OpR X (compareOp op) (rI0 fun i j => .bl (g i j))) (ha : ME X Vw a ta) (hb : ME X Vw b tb) (hm : behindInMarks op b = false := by first | exact nobehind _ (by decide) (by decide) | rfl) :
    ME X Vw (.Compare a [op] [b] pos) (wII0 (fun i j => .bl (g i j)) ta tb) := by
  refine ⟨PE.weak (pe_cmpR ho ha.pe hb.pe hm) fun σ H Q h => lift2 h fun C ad S x y ux uy H2 R hK s rx ry t q => ?_⟩
  obtain ⟨i, j, rfl, rfl, t⟩ := ii_of (P := fun i j => R (.d (.bl (g i j))) S) t
  exact ⟨i, j, rx.int, ry.int, q.at s t (Rep.bl _)⟩
/-- one int -/
def wI (g : Int → D) (ta : WE) : WE := fun S Q => ta S fun x S1 => match x with
  | .d (.int i) => Q (.d (g i)) S1
  | _ => False
theorem m_unI {op : UnaryOp} {g : Int → Int} (ho : UnR X (unaryOp op) (rU fun i => .int (g i))) (ha : ME X Vw a ta) : ME X Vw (.UnaryOp op a pos) (wI (fun i => .int (g i)) ta) := by
  refine ⟨PE.weak (pe_un ho ha.pe) fun σ H Q h => lift1 h fun C ad S x ux H2 R hK s rx t q => ?_⟩
  split at t
  · exact ⟨_, rx.int, q.at s t (Rep.int _)⟩
  · exact t.elim

/-! ### + of ints, texts, lists, tuples -/
def wAdd (ta tb : WE) : WE := fun S Q => ta S fun x S1 => tb S1 fun y S2 => match x, y with
  | .d (.int i), .d (.int j) => Q (.d (.int (i + j))) S2
  | .d (.str i), .d (.str j) => i.length + j.length ≤ sizeLine ∧ Q (.d (.str (i ++ j))) S2
  | .d (.tup i), .d (.tup j) => i.length + j.length ≤ sizeLine ∧ Q (.d (.tup (i ++ j))) S2
  | _, _ => match lstV S2 x, lstV S2 y with
    | some xs, some ys => xs.length + ys.length ≤ sizeLine ∧ Q (.o S2.κ.length) (S2.new (.lst (xs ++ ys)))
    | _, _ => False
theorem m_add (ha : ME X Vw a ta) (hb : ME X Vw b tb) : ME X Vw (.BinOp a .Add b pos) (wAdd ta tb) := by
  refine ⟨PE.weak (pe_op (op_add.or (op_add_str.or (op_catA.or op_cat))) ha.pe hb.pe) fun σ H Q h => lift2 h fun C ad S x y ux uy H2 R hK s rx ry t q => ?_⟩
  split at t
  · exact .inl ⟨_, _, rx.int, ry.int, q.at s t (Rep.int _)⟩
  · exact .inr (.inl ⟨_, _, rx.str, ry.str, t.1, q.at s t.2 (Rep.str _)⟩)
  · obtain ⟨h2, t⟩ := t
    obtain ⟨p1, v1, rfl, e1, r1⟩ := rx.tup
    obtain ⟨p2, v2, rfl, e2, r2⟩ := ry.tup
    rw [hK.k] at e1 e2
    refine .inr (.inr (.inl ⟨p1, p2, v1, v2, rfl, rfl, e1, e2, by rw [r1.length, r2.length]; exact h2, fun z => ?_, fun _ z => ?_, fun _ z p hp => ?_⟩))
    · subst z
      cases r1
      rw [List.nil_append] at t
      exact q.at s t ry
    · subst z
      cases r2
      rw [List.append_nil] at t
      exact q.at s t rx
    · exact q.tup s (r1.append r2) t hp
  · split at t
    · rename_i xs ys e1 e2
      obtain ⟨p1, v1, rfl, h1, r1⟩ := lst_of s rx e1
      obtain ⟨p2, v2, rfl, h2, r2⟩ := lst_of s ry e2
      exact .inr (.inr (.inr ⟨p1, p2, v1, v2, rfl, rfl, h1, h2, by rw [r1.length, r2.length]; exact t.1, fun p hp => q.lst s (r1.append r2) t.2 hp⟩))
    · exact t.elim

/-! ### a[i] -/
def wIx (ta tb : WE) : WE := fun S Q => ta S fun x S1 => tb S1 fun y S2 => match seqV S2 x, y with
  | some xs, .d (.int i) => match atI xs i with
    | some z => Q (.d z) S2
    | none => False
  | _, _ => False
theorem RepL.atI {K : PySem.W.Frag} {H : Hp} {P : Addr → Prop} {vs : List V} {ds : List D} {i : Int} {d : D} (r : RepL K H P vs ds) (h : L2.atI ds i = some d) : ∃ v, L2.atI vs i = some v ∧ Rep K H P v d := by
  unfold L2.atI at h ⊢
  rw [r.length]
  cases e : ixN ds.length i with
  | none => rw [e] at h; cases h
  | some j =>
    rw [e] at h
    exact r.get h
theorem m_ix (ha : ME X Vw a ta) (hb : ME X Vw b tb) (hs : PlainIx b) : ME X Vw (.Subscript a b pos) (wIx ta tb) := by
  refine ⟨PE.weak (pe_ix (ix_list.or ix_tup) ha.pe hb.pe hs) fun σ H Q h => lift2 h fun C ad S x y ux uy H2 R hK s rx ry t q => ?_⟩
  split at t
  · rename_i xs i e
    split at t
    · rename_i z ez
      obtain ⟨p, vs, rfl, h1, r1⟩ := seq_of s rx e
      obtain ⟨v, ev, rv⟩ := r1.atI ez
      rw [hK.k] at h1
      rcases h1 with h1 | h1
      · exact .inl ⟨p, vs, i, v, rfl, ry.int, h1, ev, q.at s t rv⟩
      · exact .inr ⟨p, vs, i, v, rfl, ry.int, h1, ev, q.at s t rv⟩
    · exact t.elim
  · exact t.elim

/-! ### lists of expressions, displays -/
def aNil : WA := fun S Q => Q [] S
def aCons (ta : WE) (tr : WA) : WA := fun S Q => ta S fun x S1 => tr S1 fun xs S2 => Q (x :: xs) S2
theorem ma_nil : MA X Vw [] aNil := by
  refine ⟨PA.weak pa_nil fun σ H Q h => ?_⟩
  obtain ⟨C, ad, S, R, hK, s, t, q⟩ := h
  exact q [] S ad [] H t s Stp.refl .nil
theorem ma_cons {e : Expr} {es : List Expr} {te : WE} {t : WA} (ha : ME X Vw e te) (hr : MA X Vw es t) (hs : starEach (e :: es) X.env = (false, eval e X.env) :: starEach es X.env := by rfl) : MA X Vw (e :: es) (aCons te t) := by
  refine ⟨PA.weak (pa_cons ha.pe hr.pa hs) fun σ H Q h => ?_⟩
  obtain ⟨C, ad, S, R, hK, s, t, q⟩ := h
  exact ⟨C, ad, S, _, hK, s, t, fun x S1 ad1 ux H1 t1 s1 st1 v1 => ⟨C, ad1, S1, _, hK, s1, t1, fun xs S2 ad2 us H2 t2 s2 st2 v2 => q (x :: xs) S2 ad2 (ux :: us) H2 t2 s2 (st1.trans st2) (.cons (st2.vr v1) v2)⟩⟩
/-- all of them as data -/
def asDs : List Val → Sm → (List D → Sm → Prop) → Prop
  | [], S, Q => Q [] S
  | x :: xs, S, Q => asD x S fun y S1 => asDs xs S1 fun ys S2 => Q (y :: ys) S2
theorem asDs_of {C : Cfg} {ad : Nat → Addr} {σ : L2.St} {H : Hp} : ∀ {xs : List Val} {us : List V} {S : Sm} {Q : List D → Sm → Prop}, SR C ad S σ H → VRL C ad S.κ H us xs → asDs xs S Q →
    ∃ ys S', Q ys S' ∧ SR C ad S' σ H ∧ Stp C ad S.κ H ad S'.κ H ∧ RepL C.K H (Pub C ad S'.κ) us ys
  | [], _, S, Q, s, .nil, h => ⟨[], S, h, s, Stp.refl, .nil⟩
  | x :: xs, _, S, Q, s, .cons r t, h => by
    obtain ⟨y, S1, h1, s1, st1, r1⟩ := asD_of s r h
    obtain ⟨ys, S2, h2, s2, st2, r2⟩ := asDs_of s1 (VRL.stp st1 t) h1
    exact ⟨y :: ys, S2, h2, s2, st1.trans st2, .cons (st2.rep r1) r2⟩
def wTup (ta : WA) : WE := fun S Q => ta S fun xs S1 => asDs xs S1 fun ys S2 => ys.length ≤ sizeLine ∧ Q (.d (.tup ys)) S2
def wLst (ta : WA) : WE := fun S Q => ta S fun xs S1 => asDs xs S1 fun ys S2 => ys.length ≤ sizeLine ∧ Q (.o S2.κ.length) (S2.new (.lst ys))
theorem liftA1 {K : PySem.W.Frag} {Vw : Wsh} {ta : WA} {σ : L2.St} {H : Hp} {Q : VK} {b : List Val → Sm → (Val → Sm → Prop) → Prop} {Z : List V → Hp → Prop} (h : lift K Vw (fun S Q => ta S fun x S1 => b x S1 Q) σ H Q)
    (z : ∀ C ad S xs us H1 R, COk K Vw C → SR C ad S σ H1 → VRL C ad S.κ H1 us xs → b xs S R → Post C ad S.κ H1 σ R Q → Z us H1) : liftA K Vw ta σ H Z := by
  obtain ⟨C, ad, S, R, hK, s, t, q⟩ := h
  exact ⟨C, ad, S, _, hK, s, t, fun x S1 ad1 ux H1 t1 s1 st1 v1 => z C ad1 S1 x ux H1 R hK s1 v1 t1 (q.step st1)⟩
theorem m_tup {es : List Expr} {ta : WA} {x1} (h : MA X Vw es ta) : ME X Vw (.Tuple es x1 pos) (wTup ta) := by
  refine ⟨PE.weak (pe_tup h.pa) fun σ H Q h => liftA1 h fun C ad S xs us H1 R hK s rs t q => ?_⟩
  obtain ⟨ys, S2, ⟨h1, h2⟩, s2, st2, r2⟩ := asDs_of s rs t
  exact ⟨by rw [r2.length]; exact h1, fun p hp => (q.step st2).tup s2 r2 h2 hp⟩
theorem m_lst {es : List Expr} {ta : WA} (h : MA X Vw es ta) : ME X Vw (.List es pos) (wLst ta) := by
  refine ⟨PE.weak (pe_lst h.pa) fun σ H Q h => liftA1 h fun C ad S xs us H1 R hK s rs t q => ?_⟩
  obtain ⟨ys, S2, ⟨h1, h2⟩, s2, st2, r2⟩ := asDs_of s rs t
  exact ⟨by rw [r2.length]; exact h1, fun p hp => (q.step st2).lst s2 r2 h2 hp⟩
end
end MP

/-! MP: equality, tests, slices, built-in calls -/
namespace MP
open PySem PySem.Spec PyProof.Rows L2

/-! ### data for == -/
mutual
def D.py : D → PyData
  | .non => .none
  | .bl b => .bool b
  | .int i => .int i
  | .str x => .str x
  | .ty _ => .dict []
  | .tup xs => .tuple (D.pys xs)
  | .lst xs => .list (D.pys xs)
  | .scr ns => .list (ns.map .int)
  | .dct _ _ => .dict []
def D.pys : List D → List PyData
  | [] => []
  | x :: xs => D.py x :: D.pys xs
end
def Mu.py : Mu → PyData
  | .lst xs => .list (D.pys xs)
def pyV (S : Sm) : Val → Option PyData
  | .un => none
  | .d x => some x.py
  | .o k => (muAt S k).map Mu.py
section
variable {K : PySem.W.Frag} {Vw : Wsh} {H : Hp} {P : Addr → Prop}
theorem shaped_dict {l : List (PyData × PyData)} : ¬ SeqAt.shaped (.dict l) = true := fun h => by
  have := SeqAt.canLay_of_shaped h
  cases this
theorem can_dict {l : List (PyData × PyData)} : ¬ (PyData.dict l).canLay0 = true := fun h => by cases h
theorem dpAll_ints : ∀ (ns : List Int), DpAll K H (ns.map V.int) (ns.map PyData.int)
  | [] => .nil
  | n :: r => .cons (.int n) (dpAll_ints r)
mutual
theorem Rep.dp : ∀ {v : V} {d : D}, Rep K H P v d → d.py.canLay0 = true → Dp K H v d.py
  | _, _, .non, _ => .non
  | _, _, .bl b, _ => .bl b
  | _, _, .int b, _ => .int b
  | _, _, .str b, _ => .str b
  | _, _, .ty b, h => absurd h can_dict
  | _, _, .tup p e r, h => .tup (.inl (.inl e)) (RepL.dp r h)
  | _, _, .tupK e r, h => .tup (.inr e) (RepL.dp r h)
  | _, _, .lst p e r, h => .lst (.inl (.inl e)) (RepL.dp r h)
  | _, _, .scr p e, _ => .lst (.inl e) (dpAll_ints _)
  | _, _, .scrK e, _ => .lst (.inr e) (dpAll_ints _)
  | _, _, .dct p e z r, h => absurd h can_dict
theorem RepL.dp : ∀ {vs : List V} {ds : List D}, RepL K H P vs ds → PyData.canLayAll0 (D.pys ds) = true → DpAll K H vs (D.pys ds)
  | _, _, .nil, _ => .nil
  | _, _, .cons r t, h => by
    have h' : ((D.py _).canLay0 && PyData.canLayAll0 (D.pys _)) = true := h
    obtain ⟨h1, h2⟩ := Bool.and_eq_true_iff.mp h'
    exact .cons (Rep.dp r h1) (RepL.dp t h2)
end
end
theorem pyV_dp {C : Cfg} {ad : Nat → Addr} {S : Sm} {σ : L2.St} {H : Hp} {u : V} {x : Val} {d : PyData} (s : SR C ad S σ H) (r : VR C ad S.κ H u x) (e : pyV S x = some d) (h : SeqAt.shaped d = true) : Dp C.K H u d := by
  cases x with
  | un => exact r.elim
  | d y =>
    cases e
    exact Rep.dp r (SeqAt.canLay_of_shaped h)
  | o k =>
    obtain ⟨hk, hu⟩ := r
    have e' : (muAt S k).map Mu.py = some d := e
    cases q : muAt S k with
    | none => rw [q] at e'; cases e'
    | some m =>
      rw [q] at e'
      cases m with
      | lst ys =>
        cases e'
        obtain ⟨vs, h1, t⟩ := s.ow k _ (muAt_some q)
        rw [hu]
        exact .lst (.inl (.inl h1)) (t.dp (SeqAt.canLay_of_shaped h))

section
variable {X : Cx} {Vw : Wsh} {a b : Expr} {ta tb tc : WE} {tt tu : WT} {pos : Pos}
/-- == -/
def wEq (ta tb : WE) : WE := fun S Q => ta S fun x S1 => tb S1 fun y S2 => match pyV S2 x, pyV S2 y with
  | some d, some e => SeqAt.shaped d = true ∧ SeqAt.shaped e = true ∧ Q (.d (.bl (PyData.eqv d e))) S2
  | _, _ => False
def wNe (ta tb : WE) : WE := fun S Q => ta S fun x S1 => tb S1 fun y S2 => match pyV S2 x, pyV S2 y with
  | some d, some e => SeqAt.shaped d = true ∧ SeqAt.shaped e = true ∧ Q (.d (.bl (!PyData.eqv d e))) S2
  | _, _ => False
theorem m_eq (hu : X.A.units + 64 < cLine) (ha : ME X Vw a ta) (hb : ME X Vw b tb) : ME X Vw (.Compare a [.Eq] [b] pos) (wEq ta tb) := by
  refine ⟨PE.weak (pe_cmpR (op_eqD hu) ha.pe hb.pe (nobehind _ (by decide) (by decide))) fun σ H Q h => lift2 h fun C ad S x y ux uy H2 R hK s rx ry t q => ?_⟩
  split at t
  · rename_i d e e1 e2
    obtain ⟨h1, h2, t⟩ := t
    have d1 := pyV_dp s rx e1 h1
    have d2 := pyV_dp s ry e2 h2
    rw [hK.k] at d1 d2
    exact ⟨d, e, d1, d2, h1, h2, q.at s t (Rep.bl _)⟩
  · exact t.elim
theorem m_ne (hu : X.A.units + 64 < cLine) (ha : ME X Vw a ta) (hb : ME X Vw b tb) : ME X Vw (.Compare a [.NotEq] [b] pos) (wNe ta tb) := by
  refine ⟨PE.weak (pe_cmpR (op_neD hu) ha.pe hb.pe (nobehind _ (by decide) (by decide))) fun σ H Q h => lift2 h fun C ad S x y ux uy H2 R hK s rx ry t q => ?_⟩
  split at t
  · rename_i d e e1 e2
    obtain ⟨h1, h2, t⟩ := t
    have d1 := pyV_dp s rx e1 h1
    have d2 := pyV_dp s ry e2 h2
    rw [hK.k] at d1 d2
    exact ⟨d, e, d1, d2, h1, h2, q.at s t (Rep.bl _)⟩
  · exact t.elim
/-- is None, is not None -/
def isNon : Val → Bool
  | .d .non => true
  | _ => false
def wIsN (ta : WE) : WE := fun S Q => ta S fun x S1 => Q (.d (.bl (isNon x))) S1
def wNotN (ta : WE) : WE := fun S Q => ta S fun x S1 => Q (.d (.bl (!isNon x))) S1
theorem isNon_of {C : Cfg} {ad : Nat → Addr} {κ : List (Option Mu)} {H : Hp} {u : V} {x : Val} (r : VR C ad κ H u x) : decide (u = .non) = isNon x := by
  cases x with
  | un => exact r.elim
  | d y =>
    have r' : Rep C.K H (Pub C ad κ) u y := r
    cases r' <;> rfl
  | o k =>
    obtain ⟨_, hu⟩ := r
    subst hu
    rfl
theorem m_isN {j pos'} (ha : ME X Vw a ta) : ME X Vw (.Compare a [.Is] [.Constant .none j pos'] pos) (wIsN ta) := by
  refine ⟨PE.weak (pe_cmp (pc_isN ha.pe) rfl) fun σ H Q h => lift1 h fun C ad S x ux H1 R hK s rx t q => ?_⟩
  rw [isNon_of rx]
  exact q.at s t (Rep.bl _)
theorem m_notN {j pos'} (ha : ME X Vw a ta) : ME X Vw (.Compare a [.IsNot] [.Constant .none j pos'] pos) (wNotN ta) := by
  refine ⟨PE.weak (pe_cmp (pc_notN ha.pe) rfl) fun σ H Q h => lift1 h fun C ad S x ux H1 R hK s rx t q => ?_⟩
  rw [isNon_of rx]
  exact q.at s t (Rep.bl _)

/-! ### in, not in: flat items -/
def flatD : D → Bool
  | .non | .bl _ | .int _ | .str _ => true
  | _ => false
def fV : D → V
  | .non => .non
  | .bl b => .bl b
  | .int i => .int i
  | .str x => .str x
  | _ => .ty ""
def inD (x : D) (xs : List D) : Bool := inV (fV x) (xs.map fV)
def wIn (neg : Bool) (ta tb : WE) : WE := fun S Q => ta S fun x S1 => tb S1 fun y S2 => match x, seqV S2 y with
  | .d a, some xs => flatD a = true ∧ xs.all flatD = true ∧ Q (.d (.bl (if neg then !inD a xs else inD a xs))) S2
  | _, _ => False
theorem Rep.flat {K : PySem.W.Frag} {H : Hp} {P : Addr → Prop} {v : V} {d : D} (r : Rep K H P v d) (h : flatD d = true) : v = fV d ∧ flatV v = true := by
  cases r <;> first | exact ⟨rfl, rfl⟩ | cases h
theorem RepL.flat {K : PySem.W.Frag} {H : Hp} {P : Addr → Prop} : ∀ {vs : List V} {ds : List D}, RepL K H P vs ds → ds.all flatD = true → vs = ds.map fV ∧ vs.all flatV = true
  | _, _, .nil, _ => ⟨rfl, rfl⟩
  | _, _, .cons r t, h => by
    rw [List.all_cons, Bool.and_eq_true] at h
    obtain ⟨h1, h2⟩ := r.flat h.1
    obtain ⟨h3, h4⟩ := RepL.flat t h.2
    subst h3
    subst h1
    exact ⟨rfl, by rw [List.all_cons, Bool.and_eq_true]; exact ⟨h2, h4⟩⟩
theorem m_inG {op : CmpOp} {neg : Bool} (ho : OpR X (compareOp op) (rIn X.K neg)) (hm : behindInMarks op b = false) (ha : ME X Vw a ta) (hb : ME X Vw b tb) : ME X Vw (.Compare a [op] [b] pos) (wIn neg ta tb) := by
  refine ⟨PE.weak (pe_cmpR ho ha.pe hb.pe hm) fun σ H Q h => lift2 h fun C ad S x y ux uy H2 R hK s rx ry t q => ?_⟩
  split at t
  · rename_i a xs e
    obtain ⟨h1, h2, t⟩ := t
    obtain ⟨p, vs, rfl, h3, r1⟩ := seq_of s ry e
    obtain ⟨f1, f2⟩ := Rep.flat (K := C.K) (H := H2) (P := Pub C ad S.κ) rx h1
    obtain ⟨f3, f4⟩ := r1.flat h2
    rw [hK.k] at h3
    refine ⟨p, vs, rfl, h3, f2, f4, ?_⟩
    rw [f1, f3]
    exact q.at s t (Rep.bl _)
  · exact t.elim
theorem m_in (ha : ME X Vw a ta) (hb : ME X Vw b tb) (hm : behindInMarks .In b = false := by rfl) : ME X Vw (.Compare a [.In] [b] pos) (wIn false ta tb) := m_inG op_in_seq hm ha hb
theorem m_notIn (ha : ME X Vw a ta) (hb : ME X Vw b tb) (hm : behindInMarks .NotIn b = false := by rfl) : ME X Vw (.Compare a [.NotIn] [b] pos) (wIn true ta tb) := m_inG op_notIn_seq hm ha hb

/-! ### tests -/
def wTst (t : WE) : WT := fun S Q => t S fun x S1 => match x with
  | .d (.bl c) => Q c S1
  | _ => False
theorem mt_val {e : Expr} {t : WE} (h : ME X Vw e t) (he : ∀ whole, isTrue e X.env whole = (do let v ← whole; standAt e.pos; holding [v] (truthy v)) := by intro _; rfl) : MT X Vw e (wTst t) := by
  refine ⟨PT.weak (pt_val h.pe he) fun σ H Q h => ?_⟩
  refine lift1T h fun C ad S x ux H1 R hK s rx t q => ?_
  split at t
  · rename_i c
    exact ⟨c, rx.bl, q c S ad H1 t s Stp.refl⟩
  · exact t.elim
theorem nobeh (op : CmpOp) (b : Expr) (h : op ≠ .In) (h2 : op ≠ .NotIn) : behindInMarks op b = false := nobehind b h h2
/-- a comparison (one) as a test, by its value's rule -/
theorem mt_cmp {op : CmpOp} {t : WE} (h : ∀ {σ : L2.St} {H : Hp} {Q : VK}, lift X.K Vw t σ H Q → ∃ r tx ty, OpR X (compareOp op) r ∧ PE X a tx ∧ PE X b ty ∧ tOp r tx ty σ H Q) (hm : behindInMarks op b = false) : MT X Vw (.Compare a [op] [b] pos) (wTst t) := by
  refine ⟨⟨fun pins s σ H Q I w => ?_⟩⟩
  have w' : lift X.K Vw t σ H (fun x H' => ∃ k, x = .bl k ∧ Q k H') := lift1T w fun C ad S x ux H1 R hK s rx t q => by
    split at t
    · rename_i c
      exact ⟨c, rx.bl, q c S ad H1 t s Stp.refl⟩
    · exact t.elim
  obtain ⟨r, tx, ty, h1, h2, h3, h4⟩ := h w'
  exact (pt_cmpR h1 h2 h3 hm).run pins s σ H Q I h4
def wAndT (t u : WT) : WT := fun S Q => t S fun c S1 => if c = true then u S1 Q else Q false S1
def wOrT (t u : WT) : WT := fun S Q => t S fun c S1 => if c = true then Q true S1 else u S1 Q
def wNotT (t : WT) : WT := fun S Q => t S fun c S1 => Q (!c) S1
variable {rest : List Expr}
theorem mw_and1 (ha : MT X Vw a tt) : MW X Vw (.BoolOp .And [a] pos) tt := ⟨pw_and1 ha.pt⟩
theorem mw_or1 (ha : MT X Vw a tt) : MW X Vw (.BoolOp .Or [a] pos) tt := ⟨pw_or1 ha.pt⟩
theorem mw_and (ha : MT X Vw a tt) (hb : MW X Vw (.BoolOp .And (b :: rest) pos) tu) : MW X Vw (.BoolOp .And (a :: b :: rest) pos) (wAndT tt tu) := by
  refine ⟨PW.weak (pw_and ha.pt hb.pw) fun σ H Q h => ?_⟩
  refine liftT1 (b := fun c S1 Q => if c = true then tu S1 Q else Q false S1) h fun C ad S c H1 R hK s t q => ?_
  cases c with
  | true => exact ⟨C, ad, S, R, hK, s, t, q⟩
  | false => exact q false S ad H1 t s Stp.refl
theorem mw_or (ha : MT X Vw a tt) (hb : MW X Vw (.BoolOp .Or (b :: rest) pos) tu) : MW X Vw (.BoolOp .Or (a :: b :: rest) pos) (wOrT tt tu) := by
  refine ⟨PW.weak (pw_or ha.pt hb.pw) fun σ H Q h => ?_⟩
  refine liftT1 (b := fun c S1 Q => if c = true then Q true S1 else tu S1 Q) h fun C ad S c H1 R hK s t q => ?_
  cases c with
  | true => exact q true S ad H1 t s Stp.refl
  | false => exact ⟨C, ad, S, R, hK, s, t, q⟩
theorem mt_w {e : Expr} (h : MW X Vw e tt) : MT X Vw e tt := ⟨h.pw.pt⟩
theorem mt_not (ha : MT X Vw a tt) : MT X Vw (.UnaryOp .Not a pos) (wNotT tt) := by
  refine ⟨PT.weak (pt_not ha.pt) fun σ H Q h => ?_⟩
  exact liftT1 (b := fun c S1 Q => Q (!c) S1) h fun C ad S c H1 R hK s t q => q (!c) S ad H1 t s Stp.refl
/-- and, or, not as values -/
def wAndV (ta tb : WE) : WE := fun S Q => ta S fun x S1 => match x with
  | .d (.bl c) => if c = true then tb S1 Q else Q (.d (.bl false)) S1
  | _ => False
def wOrV (ta tb : WE) : WE := fun S Q => ta S fun x S1 => match x with
  | .d (.bl c) => if c = true then Q (.d (.bl true)) S1 else tb S1 Q
  | _ => False
def wNotV (ta : WE) : WE := fun S Q => ta S fun x S1 => match x with
  | .d (.bl c) => Q (.d (.bl (!c))) S1
  | _ => False
theorem m_one {op} (h : ME X Vw a ta) : ME X Vw (.BoolOp op [a] pos) ta := ⟨pe_one h.pe⟩
theorem m_and (ha : ME X Vw a ta) (hb : ME X Vw (.BoolOp .And (b :: rest) pos) tb) : ME X Vw (.BoolOp .And (a :: b :: rest) pos) (wAndV ta tb) := by
  refine ⟨PE.weak (pe_and ha.pe hb.pe) fun σ H Q h => lift1 h fun C ad S x ux H1 R hK s rx t q => ?_⟩
  split at t
  · rename_i c
    refine ⟨c, rx.bl, ?_⟩
    cases c with
    | true => exact ⟨C, ad, S, R, hK, s, t, q⟩
    | false => exact q.at s t (Rep.bl _)
  · exact t.elim
theorem m_or (ha : ME X Vw a ta) (hb : ME X Vw (.BoolOp .Or (b :: rest) pos) tb) : ME X Vw (.BoolOp .Or (a :: b :: rest) pos) (wOrV ta tb) := by
  refine ⟨PE.weak (pe_or ha.pe hb.pe) fun σ H Q h => lift1 h fun C ad S x ux H1 R hK s rx t q => ?_⟩
  split at t
  · rename_i c
    refine ⟨c, rx.bl, ?_⟩
    cases c with
    | false => exact ⟨C, ad, S, R, hK, s, t, q⟩
    | true => exact q.at s t (Rep.bl _)
  · exact t.elim
theorem m_not (ha : ME X Vw a ta) : ME X Vw (.UnaryOp .Not a pos) (wNotV ta) := by
  refine ⟨PE.weak (pe_not ha.pe) fun σ H Q h => lift1 h fun C ad S x ux H1 R hK s rx t q => ?_⟩
  split at t
  · rename_i c
    exact ⟨c, rx.bl, q.at s t (Rep.bl _)⟩
  · exact t.elim
def wIf (t : WT) (ta tb : WE) : WE := fun S Q => t S fun c S1 => if c = true then ta S1 Q else tb S1 Q
theorem m_ifExp {c : Expr} (hc : MT X Vw c tt) (ha : ME X Vw a ta) (hb : ME X Vw b tb) : ME X Vw (.IfExp c a b pos) (wIf tt ta tb) := by
  refine ⟨PE.weak (pe_ifExp hc.pt ha.pe hb.pe) fun σ H Q h => ?_⟩
  refine liftT1E (b := fun c S1 Q => if c = true then ta S1 Q else tb S1 Q) h fun C ad S c H1 R hK s t q => ?_
  cases c with
  | true => exact ⟨C, ad, S, R, hK, s, t, q⟩
  | false => exact ⟨C, ad, S, R, hK, s, t, q⟩

/-! ### slices -/
abbrev WO := Sm → (Option Int → Sm → Prop) → Prop
def liftO (K : PySem.W.Frag) (Vw : Wsh) (t : WO) : TO := fun σ H Q => ∃ (C : Cfg) (ad : Nat → Addr) (S : Sm) (R : Option Int → Sm → Prop), COk K Vw C ∧ SR C ad S σ H ∧ t S R ∧ ∀ i S' ad' H', R i S' → SR C ad' S' σ H' → Stp C ad S.κ H ad' S'.κ H' → Q i H'
structure MO (X : Cx) (Vw : Wsh) (e : Option Expr) (t : WO) : Prop where
  po : PO X e (liftO X.K Vw t)
theorem PO.weak {X : Cx} {e : Option Expr} {t t' : TO} (h : PO X e t) (w : ∀ σ H Q, t' σ H Q → t σ H Q) : PO X e t' := ⟨fun pins s σ H Q I q => h.run pins s σ H Q I (w σ H Q q)⟩
def wNoPart : WO := fun S Q => Q none S
def wPart (t : WE) : WO := fun S Q => t S fun x S1 => match x with
  | .d (.int i) => Q (some i) S1
  | _ => False
theorem mo_none : MO X Vw none wNoPart := ⟨PO.weak po_none fun σ H Q h => by
  obtain ⟨C, ad, S, R, hK, s, t, q⟩ := h
  exact q none S ad H t s Stp.refl⟩
theorem mo_some {e : Expr} {t : WE} (h : ME X Vw e t) : MO X Vw (some e) (wPart t) := ⟨PO.weak (po_some h.pe) fun σ H Q h => by
  obtain ⟨C, ad, S, R, hK, s, t, q⟩ := h
  refine ⟨C, ad, S, _, hK, s, t, fun x S1 ad1 ux H1 t1 s1 st1 v1 => ?_⟩
  split at t1
  · rename_i i
    exact ⟨i, v1.int, q _ S1 ad1 H1 t1 s1 st1⟩
  · exact t1.elim⟩
def cutD (xs : List D) (lo hi : Option Int) : List D := (xs.drop (HT.sIx xs.length 0 lo)).take (HT.sIx xs.length xs.length hi - HT.sIx xs.length 0 lo)
/-- a slice of a list (the script too) is a new list -/
def wSl (ta : WE) (tl th : WO) : WE := fun S Q => ta S fun x S1 => tl S1 fun lo S2 => th S2 fun hi S3 => match x with
  | .d (.tup xs) => Q (.d (.tup (cutD xs lo hi))) S3
  | _ => match seqV S3 x with
    | some xs => Q (.o S3.κ.length) (S3.new (.lst (cutD xs lo hi)))
    | none => False
theorem RepL.cut {K : PySem.W.Frag} {H : Hp} {P : Addr → Prop} {vs : List V} {ds : List D} (r : RepL K H P vs ds) (lo hi : Option Int) : RepL K H P (cutV vs lo hi) (cutD ds lo hi) := by
  unfold cutV cutD
  rw [r.length]
  exact (r.drop _).take _
theorem m_sl {lo hi : Option Expr} {tl th : WO} {p2 : Pos} (ha : ME X Vw a ta) (hl : MO X Vw lo tl) (hh : MO X Vw hi th) : ME X Vw (.Subscript a (.Slice lo hi none p2) pos) (wSl ta tl th) := by
  refine ⟨PE.weak (pe_slice (sl_list.or sl_tupA) ha.pe hl.po hh.po) fun σ H Q h => ?_⟩
  obtain ⟨C, ad, S, R, hK, s, t, q⟩ := h
  refine ⟨C, ad, S, _, hK, s, t, fun x S1 ad1 u1 H1 t1 s1 st1 v1 => ⟨C, ad1, S1, _, hK, s1, t1, fun lo S2 ad2 H2 t2 s2 st2 => ⟨C, ad2, S2, _, hK, s2, t2, fun hi S3 ad3 H3 t3 s3 st3 => ?_⟩⟩⟩
  have v3 := st3.vr (st2.vr v1)
  have q3 := Post.step q ((st1.trans st2).trans st3)
  split at t3
  · rename_i xs
    obtain ⟨p1, vs, rfl, e1, r1⟩ := VR.tup v3
    rw [hK.k] at e1
    refine .inr ⟨p1, vs, rfl, e1, fun hw => ?_, fun hw p hp => q3.tup s3 (r1.cut lo hi) t3 hp⟩
    have e2 : cutD xs lo hi = xs := by
      unfold cutD
      rw [← r1.length, hw.1, hw.2, List.drop_zero, Nat.sub_zero, List.take_of_length_le (by rw [r1.length]; exact Nat.le_refl _)]
    rw [e2] at t3
    exact q3.at s3 t3 v3
  · rename_i np
    split at t3
    · rename_i xs nt
      cases x with
      | un => exact v3.elim
      | d y =>
        have r' : Rep C.K H3 (Pub C ad3 S3.κ) u1 y := v3
        cases r' with
        | non | bl | int | str | ty | dct => cases nt
        | tup => exact absurd rfl (np _)
        | tupK => exact absurd rfl (np _)
        | lst p h t => cases nt; exact .inl ⟨_, _, rfl, .inl (.inl h), fun p hp => q3.lst s3 (t.cut lo hi) t3 hp⟩
        | scr p h => cases nt; exact .inl ⟨_, _, rfl, .inl h, fun p hp => q3.lst s3 ((RepL.ints _).cut lo hi) t3 hp⟩
        | scrK h => cases nt; exact .inl ⟨_, _, rfl, by rw [← hK.k]; exact .inr h, fun p hp => q3.lst s3 ((RepL.ints _).cut lo hi) t3 hp⟩
      | o k =>
        obtain ⟨hk, hu⟩ := v3
        have e' : (muAt S3 k).bind seqM = some _ := nt
        cases qq : muAt S3 k with
        | none => rw [qq] at e'; cases e'
        | some m =>
          rw [qq] at e'
          cases m with
          | lst ys =>
            cases e'
            obtain ⟨vs, h, t⟩ := s3.ow k _ (muAt_some qq)
            exact .inl ⟨_, vs, hu, .inl (.inl h), fun p hp => q3.lst s3 (t.cut lo hi) t3 hp⟩
    · exact t3.elim
end
end MP

/-! MP: statements -/
namespace MP
open PySem PySem.Spec PyProof.Rows L2

/-- what is wanted behind a statement -/
structure En where
  nx : Sm → Prop
  rt : Val → Sm → Prop
  bk : Sm → Prop := fun _ => False
  ct : Sm → Prop := fun _ => False
abbrev WS := En → Sm → Prop
structure PostS (C : Cfg) (ad : Nat → Addr) (κ : List (Option Mu)) (H : Hp) (E : En) (D : Ends) : Prop where
  nx : ∀ S' ad' σ' H', E.nx S' → SR C ad' S' σ' H' → Stp C ad κ H ad' S'.κ H' → D.nx σ' H'
  rt : ∀ v S' ad' u σ' H', E.rt v S' → SR C ad' S' σ' H' → Stp C ad κ H ad' S'.κ H' → VR C ad' S'.κ H' u v → D.rt u H'
  bk : ∀ S' ad' σ' H', E.bk S' → SR C ad' S' σ' H' → Stp C ad κ H ad' S'.κ H' → D.bk σ' H'
  ct : ∀ S' ad' σ' H', E.ct S' → SR C ad' S' σ' H' → Stp C ad κ H ad' S'.κ H' → D.ct σ' H'
def liftS (K : PySem.W.Frag) (Vw : Wsh) (t : WS) : TS := fun D σ H => ∃ (C : Cfg) (ad : Nat → Addr) (S : Sm) (E : En), COk K Vw C ∧ SR C ad S σ H ∧ t E S ∧ PostS C ad S.κ H E D
structure MS (X : Cx) (Vw : Wsh) (st : Stmt) (t : WS) : Prop where
  ps : PS X st (liftS X.K Vw t)
structure MSs (X : Cx) (Vw : Wsh) (st : List Stmt) (t : WS) : Prop where
  pss : PSs X st (liftS X.K Vw t)
theorem PS.weak {X : Cx} {e : Stmt} {t t' : TS} (h : PS X e t) (w : ∀ D σ H, t' D σ H → t D σ H) : PS X e t' := ⟨fun pins s σ H D I q => h.run pins s σ H D I (w D σ H q)⟩
theorem PSs.weak {X : Cx} {e : List Stmt} {t t' : TS} (h : PSs X e t) (w : ∀ D σ H, t' D σ H → t D σ H) : PSs X e t' := ⟨fun pins s σ H D I q => h.run pins s σ H D I (w D σ H q)⟩
section
variable {C : Cfg} {ad ad' : Nat → Addr} {S S' : Sm} {κ κ' : List (Option Mu)} {σ : L2.St} {H H' : Hp} {E : En} {D : Ends}
theorem PostS.step (P : PostS C ad κ H E D) (st : Stp C ad κ H ad' κ' H') : PostS C ad' κ' H' E D :=
  ⟨fun S' a s' H' e r t => P.nx S' a s' H' e r (st.trans t), fun v S' a u s' H' e r t => P.rt v S' a u s' H' e r (st.trans t), fun S' a s' H' e r t => P.bk S' a s' H' e r (st.trans t), fun S' a s' H' e r t => P.ct S' a s' H' e r (st.trans t)⟩
end

section
variable {X : Cx} {Vw : Wsh} {st : Stmt} {rest : List Stmt} {t u : WS} {e : Expr} {te : WE} {tt : WT} {pos : Pos}
def sNil : WS := fun E S => E.nx S
def sSeq (t u : WS) : WS := fun E S => t { E with nx := u E } S
theorem mss_nil : MSs X Vw [] sNil := ⟨PSs.weak pss_nil fun D σ H ⟨C, ad, S, E, hK, s, t, q⟩ => q.nx S ad σ H t s Stp.refl⟩
theorem mss_cons (h1 : MS X Vw st t) (h2 : MSs X Vw rest u) : MSs X Vw (st :: rest) (sSeq t u) := by
  refine ⟨PSs.weak (pss_cons h1.ps h2.pss) fun D σ H ⟨C, ad, S, E, hK, s, t, q⟩ => ?_⟩
  exact ⟨C, ad, S, { E with nx := u E }, hK, s, t, fun S' a s' H' e r st => ⟨C, a, S', E, hK, r, e, q.step st⟩, q.rt, q.bk, q.ct⟩
theorem mss_one (h : MS X Vw st t) : MSs X Vw [st] t := by
  refine ⟨PSs.weak (pss_cons h.ps pss_nil) fun D σ H ⟨C, ad, S, E, hK, s, t, q⟩ => ?_⟩
  exact ⟨C, ad, S, E, hK, s, t, q.nx, q.rt, q.bk, q.ct⟩
def sPass : WS := fun E S => E.nx S
def sBreak : WS := fun E S => E.bk S
def sCont : WS := fun E S => E.ct S
theorem ms_pass : MS X Vw (.Pass pos) sPass := ⟨PS.weak ps_pass fun D σ H ⟨C, ad, S, E, hK, s, t, q⟩ => q.nx S ad σ H t s Stp.refl⟩
theorem ms_break : MS X Vw (.Break pos) sBreak := ⟨PS.weak ps_break fun D σ H ⟨C, ad, S, E, hK, s, t, q⟩ => q.bk S ad σ H t s Stp.refl⟩
theorem ms_cont : MS X Vw (.Continue pos) sCont := ⟨PS.weak ps_continue fun D σ H ⟨C, ad, S, E, hK, s, t, q⟩ => q.ct S ad σ H t s Stp.refl⟩
/-- a statement that is not reached -/
def sNever : WS := fun _ _ => False
theorem ms_never : MS X Vw st sNever := ⟨PS.weak ps_never fun D σ H ⟨C, ad, S, E, hK, s, t, q⟩ => t⟩
def sExpr (te : WE) : WS := fun E S => te S fun _ S1 => E.nx S1
def sRet (te : WE) : WS := fun E S => te S E.rt
def sRetN : WS := fun E S => E.rt (.d .non) S
theorem ms_expr (h : ME X Vw e te) (hs : swapsWith e none pos.line X.env = pure false := by rfl) : MS X Vw (.Expr e pos) (sExpr te) := ⟨PS.weak (ps_expr h.pe hs) fun D σ H ⟨C, ad, S, E, hK, s, t, q⟩ => ⟨C, ad, S, _, hK, s, t, fun v S' a u H' e r st _ => q.nx S' a σ H' e r st⟩⟩
theorem ms_ret (h : ME X Vw e te) : MS X Vw (.Return (some e) pos) (sRet te) := ⟨PS.weak (ps_ret h.pe) fun D σ H ⟨C, ad, S, E, hK, s, t, q⟩ => ⟨C, ad, S, _, hK, s, t, fun v S' a u H' e r st vr => q.rt v S' a u σ H' e r st vr⟩⟩
theorem ms_retN : MS X Vw (.Return none pos) sRetN := ⟨PS.weak ps_retN fun D σ H ⟨C, ad, S, E, hK, s, t, q⟩ => q.rt (.d .non) S ad .non σ H t s Stp.refl Rep.non⟩
def sIf (c : WT) (t u : WS) : WS := fun E S => c S fun b S1 => if b = true then t E S1 else u E S1
theorem liftTS {K : PySem.W.Frag} {Vw : Wsh} {b : Bool → WS} {σ : L2.St} {H : Hp} {D : Ends} {Z : Bool → Hp → Prop} (h : liftS K Vw (fun E S => tt S fun c S1 => b c E S1) D σ H)
    (z : ∀ C ad S c H1 E, COk K Vw C → SR C ad S σ H1 → b c E S → PostS C ad S.κ H1 E D → Z c H1) : liftT K Vw tt σ H Z := by
  obtain ⟨C, ad, S, E, hK, s, t, q⟩ := h
  exact ⟨C, ad, S, _, hK, s, t, fun x S1 ad1 H1 t1 s1 st1 => z C ad1 S1 x H1 E hK s1 t1 (q.step st1)⟩
theorem liftES {K : PySem.W.Frag} {Vw : Wsh} {b : Val → WS} {σ : L2.St} {H : Hp} {D : Ends} {Z : V → Hp → Prop} (h : liftS K Vw (fun E S => te S fun c S1 => b c E S1) D σ H)
    (z : ∀ C ad S x ux H1 E, COk K Vw C → SR C ad S σ H1 → VR C ad S.κ H1 ux x → b x E S → PostS C ad S.κ H1 E D → Z ux H1) : lift K Vw te σ H Z := by
  obtain ⟨C, ad, S, E, hK, s, t, q⟩ := h
  exact ⟨C, ad, S, _, hK, s, t, fun x S1 ad1 u1 H1 t1 s1 st1 v1 => z C ad1 S1 x u1 H1 E hK s1 v1 t1 (q.step st1)⟩
theorem ms_if {c : Expr} {bt be : List Stmt} (hc : MT X Vw c tt) (ht : MSs X Vw bt t) (he : MSs X Vw be u) : MS X Vw (.If c bt be pos) (sIf tt t u) := by
  refine ⟨PS.weak (ps_if hc.pt ht.pss he.pss) fun D σ H h => liftTS (b := fun c E S => if c = true then t E S else u E S) h fun C ad S c H1 E hK s w q => ?_⟩
  cases c with
  | true => exact ⟨C, ad, S, E, hK, s, w, q⟩
  | false => exact ⟨C, ad, S, E, hK, s, w, q⟩

/-! ### targets -/
abbrev WG := Val → Sm → (Sm → Prop) → Prop
def liftG (K : PySem.W.Frag) (Vw : Wsh) (t : WG) : TG := fun u σ H Q => ∃ (C : Cfg) (ad : Nat → Addr) (S : Sm) (x : Val) (R : Sm → Prop), COk K Vw C ∧ SR C ad S σ H ∧ VR C ad S.κ H u x ∧ t x S R ∧ ∀ S' ad' σ' H', R S' → SR C ad' S' σ' H' → Stp C ad S.κ H ad' S'.κ H' → Q σ' H'
structure MG (X : Cx) (Vw : Wsh) (tg : Expr) (t : WG) : Prop where
  pg : PG X tg (liftG X.K Vw t)
theorem PG.weak {X : Cx} {e : Expr} {t t' : TG} (h : PG X e t) (w : ∀ u σ H Q, t' u σ H Q → t u σ H Q) : PG X e t' := ⟨fun pins s σ H x v Q I r q => h.run pins s σ H x v Q I r (w x σ H Q q)⟩
def setε (S : Sm) (i : Nat) (v : Val) : Sm := { S with ε := S.ε.set i v }
def wgName (i : Nat) : WG := fun v S Q => Q (setε S i v)
theorem VR.un {C : Cfg} {ad : Nat → Addr} {κ : List (Option Mu)} {H : Hp} {u : V} {x : Val} (r : VR C ad κ H u x) : x ≠ .un := fun z => by subst z; exact r
theorem mg_name {i : Nat} {y : Str} {py : Pos} (h : PG X (.Name y py) (gName i)) : MG X Vw (.Name y py) (wgName i) := by
  refine ⟨PG.weak h fun u σ H Q ⟨C, ad, S, x, R, hK, s, r, t, q⟩ => ?_⟩
  exact q _ ad _ H t (s.setS r i) ⟨fun _ _ p e => ⟨p, e⟩, Nat.le_refl _, fun _ _ => rfl⟩
def sAsg (te : WE) (g : WG) : WS := fun E S => te S fun x S1 => g x S1 E.nx
theorem asg_of {tg : Expr} {g : WG} {tx : TE} (h : PS X st (tAsg (lift X.K Vw te) (liftG X.K Vw g))) : MS X Vw st (sAsg te g) := by
  refine ⟨PS.weak h fun D σ H h => ?_⟩
  refine liftES (b := fun x E S => g x S E.nx) h fun C ad S x ux H1 E hK s r w q => ?_
  exact ⟨C, ad, S, x, E.nx, hK, s, r, w, fun S' ad' σ' H' e s' st => q.nx S' ad' σ' H' e s' st⟩
theorem ms_asg {tg : Expr} {g : WG} (he : ME X Vw e te) (hg : MG X Vw tg g) (hs : swapsWithSole [tg] e pos.line X.env = pure false := by rfl) (hw : swappedStores [tg] e X.env = pure none := by rfl)
    (h1 : (assignEach [tg] X.env).map (·.2) = [assign tg X.env] := by rfl) : MS X Vw (.Assign [tg] e pos) (sAsg te g) := asg_of (tg := tg) (tx := fun _ _ _ => True) (ps_asg he.pe hg.pg hs hw h1)
theorem ms_set {i : Nat} {y : Str} {py : Pos} (hN : X.N.Nodup) (hi : X.N[i]? = some y) (hx : Loc X.env.scope y) (he : ME X Vw e te) (hs : swapsWith e (some (.Name y py)) pos.line X.env = pure false := by rfl)
    (hf : X.fn y = true ∨ X.env.scope.names.lookup y = some .local := by first | exact .inl rfl | exact .inr rfl | assumption) : MS X Vw (.Assign [.Name y py] e pos) (sAsg te (wgName i)) := by
  refine ⟨PS.weak (ps_set hN hi hx he.pe hs hf) fun D σ H h => ?_⟩
  refine liftES (b := fun x E S => wgName i x S E.nx) h fun C ad S x ux H1 E hK s r w q => ?_
  exact q.nx _ ad _ H1 w (s.setS r i) ⟨fun _ _ p e => ⟨p, e⟩, Nat.le_refl _, fun _ _ => rfl⟩
/-- several targets of a tuple or list of values -/
abbrev WGs := List D → Sm → (Sm → Prop) → Prop
def wgNil : WGs := fun xs S Q => match xs with
  | [] => Q S
  | _ => False
def wgCons (t : WG) (u : WGs) : WGs := fun xs S Q => match xs with
  | [] => False
  | x :: r => t (.d x) S fun S1 => u r S1 Q
def liftGs (K : PySem.W.Frag) (Vw : Wsh) (t : WGs) : TGs := fun us σ H Q => ∃ (C : Cfg) (ad : Nat → Addr) (S : Sm) (xs : List D) (R : Sm → Prop), COk K Vw C ∧ SR C ad S σ H ∧ RepL C.K H (Pub C ad S.κ) us xs ∧ t xs S R ∧ ∀ S' ad' σ' H', R S' → SR C ad' S' σ' H' → Stp C ad S.κ H ad' S'.κ H' → Q σ' H'
structure MGs (X : Cx) (Vw : Wsh) (tg : List Expr) (t : WGs) : Prop where
  pgs : PGs X tg (liftGs X.K Vw t)
theorem PGs.weak {X : Cx} {e : List Expr} {t t' : TGs} (h : PGs X e t) (w : ∀ u σ H Q, t' u σ H Q → t u σ H Q) : PGs X e t' := ⟨fun pins s σ H x v Q I r q => h.run pins s σ H x v Q I r (w x σ H Q q)⟩
theorem mgs_nil : MGs X Vw [] wgNil := by
  refine ⟨PGs.weak pgs_nil fun us σ H Q ⟨C, ad, S, xs, R, hK, s, r, t, q⟩ => ?_⟩
  cases r with
  | nil => exact ⟨rfl, q S ad σ H t s Stp.refl⟩
  | cons _ _ => exact t.elim
theorem mgs_cons {tg : Expr} {tgs : List Expr} {g : WG} {gs : WGs} (h1 : MG X Vw tg g) (h2 : MGs X Vw tgs gs) (hs : (assignEach (tg :: tgs) X.env).map (·.2) = assign tg X.env :: (assignEach tgs X.env).map (·.2) := by rfl) : MGs X Vw (tg :: tgs) (wgCons g gs) := by
  refine ⟨PGs.weak (pgs_cons h1.pg h2.pgs hs) fun us σ H Q ⟨C, ad, S, xs, R, hK, s, r, t, q⟩ => ?_⟩
  cases r with
  | nil => exact t.elim
  | cons r1 r2 =>
    refine ⟨_, _, rfl, C, ad, S, .d _, _, hK, s, r1, t, fun S' ad' σ' H' e s' st => ⟨C, ad', S', _, R, hK, s', st.repL r2, e, fun S2 ad2 σ2 H2 e2 s2 st2 => q S2 ad2 σ2 H2 e2 s2 (st.trans st2)⟩⟩
def wgTup (n : Nat) (t : WGs) : WG := fun v S Q => match v with
  | .d (.tup xs) => xs.length = n ∧ t xs S Q
  | _ => False
theorem mg_tup {es : List Expr} {gs : WGs} {x1} (hg : MGs X Vw es gs) (h : ∀ {t : TGs}, PGs X es t → PG X (.Tuple es x1 pos) (gTup X.K es.length t)) : MG X Vw (.Tuple es x1 pos) (wgTup es.length gs) := by
  refine ⟨PG.weak (h hg.pgs) fun u σ H Q ⟨C, ad, S, x, R, hK, s, r, t, q⟩ => ?_⟩
  unfold wgTup at t
  split at t
  · rename_i xs
    obtain ⟨p, vs, rfl, h1, r1⟩ := VR.tup r
    rw [hK.k] at h1
    exact ⟨p, vs, rfl, h1, by rw [r1.length]; exact t.1, C, ad, S, xs, R, hK, s, r1, t.2, q⟩
  · exact t.elim
/-- a, b = e1, e2 -/
def sPar (i j : Nat) (ta : WA) : WS := fun E S => ta S fun xs S1 => match xs with
  | [v, w] => E.nx (setε (setε S1 i v) j w)
  | _ => False
theorem ms_par {i j : Nat} {st : Stmt} {es : List Expr} {ta : WA} (ha : MA X Vw es ta) (h : ∀ {t : TA}, PA X es t → PS X st (tPar i j t)) : MS X Vw st (sPar i j ta) := by
  refine ⟨PS.weak (h ha.pa) fun D σ H ⟨C, ad, S, E, hK, s, t, q⟩ => ?_⟩
  refine ⟨C, ad, S, _, hK, s, t, fun xs S1 ad1 us H1 t1 s1 st1 v1 => ?_⟩
  split at t1
  · cases v1 with
    | cons r1 v1 =>
      cases v1 with
      | cons r2 v1 =>
        cases v1
        refine ⟨_, _, rfl, q.nx _ ad1 _ H1 t1 ((s1.setS r1 i).setS (S := setε S1 i _) r2 j) ⟨fun a o p e => st1.pub a o p e, st1.len, st1.ads⟩⟩
  · exact t1.elim
/-- a[i] = e -/
def wgSub (to ti : WE) : WG := fun v S Q => to S fun o S1 => ti S1 fun i S2 => match o, i with
  | .o k, .d (.int i) => asD v S2 fun d S3 => match muAt S3 k with
    | some (.lst ys) => match ixN ys.length i with
      | some j => Q (S3.put k (.lst (ys.set j d)))
      | none => False
    | _ => False
  | _, _ => False
theorem mg_sub {o i : Expr} {to ti : WE} (ho : ME X Vw o to) (hi : ME X Vw i ti) (h : ∀ {to ti : TE}, PE X o to → PE X i ti → PG X (.Subscript o i pos) (gSub to ti rSetL)) : MG X Vw (.Subscript o i pos) (wgSub to ti) := by
  refine ⟨PG.weak (h ho.pe hi.pe) fun u σ H Q ⟨C, ad, S, x, R, hK, s, r, t, q⟩ => ?_⟩
  refine ⟨C, ad, S, _, hK, s, t, fun xo S1 ad1 uo H1 t1 s1 st1 v1 => ⟨C, ad1, S1, _, hK, s1, t1, fun xi S2 ad2 ui H2 t2 s2 st2 v2 => ?_⟩⟩
  have r2 := st2.vr (st1.vr r)
  have v1' := st2.vr v1
  split at t2
  · rename_i k i
    obtain ⟨d, S3, t3, s3, st3, r3⟩ := asD_of s2 r2 t2
    split at t3
    · rename_i ys e
      split at t3
      · rename_i j ej
        have e' := muAt_some e
        obtain ⟨vs, h1, h2⟩ := s3.ow k _ e'
        obtain ⟨hk, hu⟩ := v1'
        have hx : ui = .int i := v2.int
        obtain ⟨s4, st4⟩ := s3.write (m := .lst (ys.set j d)) (o := .lst (vs.set j u)) e' ⟨vs.set j u, upd_same, (h2.set r3 j).mono fun a o p e => ⟨p, by rw [upd_ne fun z => p.2 k _ e' z.symm]; exact e⟩⟩
        refine ⟨ad2 k, vs, i, j, hu, hx, h1, by rw [h2.length]; exact ej, q _ _ _ _ t3 s4 (((st1.trans st2).trans st3).trans st4)⟩
      · exact t3.elim
    · exact t3.elim
  · exact t2.elim

/-! ### while -/
def sWhile (c : WT) (tb : WS) : WS := fun E S => ∃ W : Nat → Sm → Prop, (∃ m, W m S) ∧ ∀ m S, W m S → c S fun b S1 => if b = true then tb { E with nx := fun S' => ∃ m', m' < m ∧ W m' S', ct := fun S' => ∃ m', m' < m ∧ W m' S', bk := E.nx } S1 else E.nx S1
theorem ms_while {c : Expr} {body : List Stmt} {tb : WS} (hp : PassesOwn (model X.prog X.w) X.A X.env X.xe) (hc : MT X Vw c tt) (hb : MSs X Vw body tb) : MS X Vw (.While c body [] pos) (sWhile tt tb) := by
  refine ⟨PS.weak (ps_while hp hc.pt hb.pss) fun D σ H ⟨C, ad, S, E, hK, s, ⟨W, ⟨m0, w0⟩, turn⟩, q⟩ => ?_⟩
  refine ⟨fun m σ' H' => ∃ ad' S', SR C ad' S' σ' H' ∧ Stp C ad S.κ H ad' S'.κ H' ∧ W m S', ⟨m0, ad, S, s, Stp.refl, w0⟩, fun m σ1 H1 ⟨ad1, S1, s1, st1, w1⟩ => ?_⟩
  refine ⟨C, ad1, S1, _, hK, s1, turn m S1 w1, fun b S2 ad2 H2 t2 s2 st2 => ?_⟩
  cases b with
  | true =>
    rw [if_pos rfl] at t2 ⊢
    refine ⟨fun σ' H' => ∃ ad' S', SR C ad' S' σ' H' ∧ Stp C ad S.κ H ad' S'.κ H' ∧ ∃ m', m' < m ∧ W m' S', fun σ' H' ⟨ad', S', s', st', m', hm, w'⟩ => ⟨m', hm, ad', S', s', st', w'⟩, ?_⟩
    refine ⟨C, ad2, S2, _, hK, s2, t2, ?_⟩
    have st12 := st1.trans st2
    exact ⟨fun S' ad' σ' H' w' s' st' => ⟨ad', S', s', st12.trans st', w'⟩, fun v S' ad' u σ' H' r s' st' vr => q.rt v S' ad' u σ' H' r s' (st12.trans st') vr, fun S' ad' σ' H' e s' st' => q.nx S' ad' σ' H' e s' (st12.trans st'), fun S' ad' σ' H' w' s' st' => ⟨ad', S', s', st12.trans st', w'⟩⟩
  | false =>
    rw [if_neg Bool.false_ne_true] at t2 ⊢
    exact q.nx S2 ad2 σ1 H2 t2 s2 (st1.trans st2)

/-! ### what a for walks -/
structure Src where
  items : List D
  own : Option Nat
def Src.keep (r : Src) (S : Sm) : Prop := match r.own with
  | none => True
  | some k => muAt S k = some (.lst r.items)
def SrcOk (C : Cfg) (r : Src) (J : It) (ad : Nat → Addr) (κ : List (Option Mu)) (H : Hp) : Prop :=
  ∀ ad2 S2 σ2 H2, SR C ad2 S2 σ2 H2 → Stp C ad κ H ad2 S2.κ H2 → r.keep S2 → J.stop r.items.length H2 ∧ ∀ i d, r.items[i]? = some d → J.go i H2 ∧ ∀ x H3, J.yld i H2 x H3 → Same H2 H3 ∧ Rep C.K H3 (Pub C ad2 S2.κ) x d
abbrev WI := Sm → (Src → Sm → Prop) → Prop
def liftI (K : PySem.W.Frag) (Vw : Wsh) (t : WI) : TI := fun σ H R => ∃ (C : Cfg) (ad : Nat → Addr) (S : Sm) (R' : Src → Sm → Prop), COk K Vw C ∧ SR C ad S σ H ∧ t S R' ∧ ∀ r S' ad' H' J, R' r S' → SR C ad' S' σ H' → Stp C ad S.κ H ad' S'.κ H' → SrcOk C r J ad' S'.κ H' → R J H'
structure MI (X : Cx) (Vw : Wsh) (tg iter : Expr) (t : WI) : Prop where
  pi : PI X tg iter (liftI X.K Vw t)
theorem PI.weak {X : Cx} {tg e : Expr} {t t' : TI} (h : PI X tg e t) (w : ∀ σ H R, t' σ H R → t σ H R) : PI X tg e t' := ⟨fun pins s σ H R I q => h.run pins s σ H R I (w σ H R q)⟩
def sFor (wi : WI) (g : WG) (tb : WS) : WS := fun E S => wi S fun r S1 => ∃ W : Nat → Sm → Prop, W 0 S1 ∧ (∀ i S, W i S → r.keep S) ∧
  (∀ i x S, r.items[i]? = some x → W i S → g (.d x) S fun S2 => tb { E with nx := W (i + 1), ct := W (i + 1), bk := E.nx } S2) ∧ ∀ S, W r.items.length S → E.nx S
theorem ms_for {tg iter : Expr} {body : List Stmt} {wi : WI} {g : WG} {tb : WS} (hp : PassesOwn (model X.prog X.w) X.A X.env X.xe) (hc : X.calm = true) (hi : MI X Vw tg iter wi) (hg : MG X Vw tg g) (hb : MSs X Vw body tb)
    (hs : ∀ x, foldedSetIterable iter X.env x = pure x := by intro _; rfl) : MS X Vw (.For tg iter body [] pos) (sFor wi g tb) := by
  refine ⟨PS.weak (ps_for hp hc hi.pi hg.pg hb.pss hs) fun D σ H ⟨C, ad, S, E, hK, s, t, q⟩ => ?_⟩
  refine ⟨C, ad, S, _, hK, s, t, fun r S1 ad1 H1 J ⟨W, w0, keep, turn, fin⟩ s1 st1 ok => ?_⟩
  refine ⟨fun i m σ' H' => m + i = r.items.length ∧ ∃ ad' S', SR C ad' S' σ' H' ∧ Stp C ad1 S1.κ H1 ad' S'.κ H' ∧ W i S', ⟨r.items.length, rfl, ad1, S1, s1, Stp.refl, w0⟩, ?_⟩
  rintro i m σ2 H2 ⟨em, ad2, S2, s2, st2, w2⟩
  obtain ⟨stop, go⟩ := ok ad2 S2 σ2 H2 s2 st2 (keep i S2 w2)
  by_cases hm : m = 0
  · have ei : i = r.items.length := by omega
    subst ei
    exact .inl ⟨stop, q.nx S2 ad2 σ2 H2 (fin S2 w2) s2 (st1.trans st2)⟩
  · have hi : i < r.items.length := by omega
    obtain ⟨g1, g2⟩ := go i _ (List.getElem?_eq_getElem hi)
    refine .inr ⟨g1, fun σ' H' => ∃ ad' S', SR C ad' S' σ' H' ∧ Stp C ad1 S1.κ H1 ad' S'.κ H' ∧ W (i + 1) S', fun σ' H' ⟨ad', S', a, b, c⟩ => ⟨m - 1, by omega, by omega, ad', S', a, b, c⟩, fun x H3 y => ?_⟩
    obtain ⟨sm, rx⟩ := g2 x H3 y
    obtain ⟨s3, st3⟩ := s2.grow sm
    refine ⟨C, ad2, S2, .d _, _, hK, s3, rx, turn i _ S2 (List.getElem?_eq_getElem hi) w2, fun S4 ad4 σ4 H4 t4 s4 st4 => ?_⟩
    have st14 := (st2.trans st3).trans st4
    refine ⟨C, ad4, S4, _, hK, s4, t4, ?_⟩
    exact ⟨fun S' ad' σ' H' w' s' st' => ⟨ad', S', s', st14.trans st', w'⟩, fun v S' ad' u σ' H' e s' st' vr => q.rt v S' ad' u σ' H' e s' (st1.trans (st14.trans st')) vr, fun S' ad' σ' H' e s' st' => q.nx S' ad' σ' H' e s' (st1.trans (st14.trans st')), fun S' ad' σ' H' w' s' st' => ⟨ad', S', s', st14.trans st', w'⟩⟩
/-- a list or a tuple -/
def srcV (x : Val) (S : Sm) : Option Src := match x with
  | .un => none
  | .d y => (seqD y).map fun xs => ⟨xs, none⟩
  | .o k => match muAt S k with
    | some (.lst xs) => some ⟨xs, some k⟩
    | none => none
def wiSeq (te : WE) : WI := fun S R => te S fun x S1 => match srcV x S1 with
  | some r => R r S1
  | none => False
theorem yldL {K : PySem.W.Frag} {C : Cfg} {ad : Nat → Addr} {S : Sm} {σ : L2.St} {H : Hp} {a : Addr} {vs : List V} {ds : List D} (hl : SqL K H a vs) (r : RepL C.K H (Pub C ad S.κ) vs ds) :
    (Itl K a).stop ds.length H ∧ ∀ (i : Nat) d, ds[i]? = some d → (Itl K a).go i H ∧ ∀ x H3, (Itl K a).yld i H x H3 → Same H H3 ∧ Rep C.K H3 (Pub C ad S.κ) x d := by
  refine ⟨⟨vs, hl, by rw [r.length]; exact Nat.le_refl _⟩, fun i d e => ?_⟩
  obtain ⟨v, ev, rv⟩ := r.get e
  refine ⟨⟨vs, v, hl, ev⟩, fun x H3 ⟨e1, e2⟩ => ?_⟩
  subst e1
  have : some x = some v := (e2 vs hl).symm.trans ev
  cases this
  exact ⟨Same.refl _, rv⟩
theorem yldT {K : PySem.W.Frag} {C : Cfg} {ad : Nat → Addr} {S : Sm} {σ : L2.St} {H : Hp} {a : Addr} {vs : List V} {ds : List D} (hl : SqT K H a vs) (r : RepL C.K H (Pub C ad S.κ) vs ds) :
    (Itt K a).stop ds.length H ∧ ∀ (i : Nat) d, ds[i]? = some d → (Itt K a).go i H ∧ ∀ x H3, (Itt K a).yld i H x H3 → Same H H3 ∧ Rep C.K H3 (Pub C ad S.κ) x d := by
  refine ⟨⟨vs, hl, by rw [r.length]; exact Nat.le_refl _⟩, fun i d e => ?_⟩
  obtain ⟨v, ev, rv⟩ := r.get e
  refine ⟨⟨vs, v, hl, ev⟩, fun x H3 ⟨e1, e2⟩ => ?_⟩
  subst e1
  have : some x = some v := (e2 vs hl).symm.trans ev
  cases this
  exact ⟨Same.refl _, rv⟩
theorem pi_seq {tg l : Expr} {tl : TE} (hl : PE X l tl) : PI X tg l (fun σ H R => tl σ H fun x H1 => ∃ a, x = .ref a ∧ (((∃ xs, SqL X.K H1 a xs) ∧ R (Itl X.K a) H1) ∨ ((∃ xs, SqT X.K H1 a xs) ∧ R (Itt X.K a) H1))) := by
  refine ⟨fun pins s σ H R I h => ?_⟩
  refine thn (hl.run pins s σ H _ I h) fun v s1 ⟨x, H1, I1, r1, q1⟩ => ?_
  obtain ⟨a, e, q1⟩ := q1
  subst e
  cases r1
  rcases q1 with ⟨⟨xs, hq⟩, q⟩ | ⟨⟨xs, hq⟩, q⟩
  · obtain ⟨its, rv, p, hz⟩ := I1.list hq
    refine wpAny_pyIter_list p.isList ?_
    refine ⟨s1.heap.objs.size, [s1.heap.objs.size], _, _, H1, rfl, I1.kept (t' := s1.toks) fun b o e => Heap.get?_push_of_some _ e, turn_list a _, ⟨_, Heap.get?_push_size _ rfl, rfl, rfl⟩, fun b hb => ?_, q⟩
    have e : b = s1.heap.objs.size := by simpa using hb
    subst e
    exact I1.fpOk (Nat.le_refl _) (I1.hok.fresh (Nat.le_refl _))
  · obtain ⟨its, rv, p, hz⟩ := I1.tuple hq
    refine wpAny_pyIter_tuple (show s1.heap.IsTuple a its.toArray from p) ?_
    refine ⟨s1.heap.objs.size, [s1.heap.objs.size], _, _, H1, rfl, I1.kept (t' := s1.toks) fun b o e => Heap.get?_push_of_some _ e, turn_tuple a _, ⟨_, Heap.get?_push_size _ rfl, rfl, rfl⟩, fun b hb => ?_, q⟩
    have e : b = s1.heap.objs.size := by simpa using hb
    subst e
    exact I1.fpOk (Nat.le_refl _) (I1.hok.fresh (Nat.le_refl _))
theorem liftIE {K : PySem.W.Frag} {Vw : Wsh} {b : Val → Sm → (Src → Sm → Prop) → Prop} {σ : L2.St} {H : Hp} {Q : It → Hp → Prop} {Z : V → Hp → Prop} (h : liftI K Vw (fun S R => te S fun c S1 => b c S1 R) σ H Q)
    (z : ∀ C ad S x ux H1 R, COk K Vw C → SR C ad S σ H1 → VR C ad S.κ H1 ux x → b x S R → (∀ r S' ad' H' J, R r S' → SR C ad' S' σ H' → Stp C ad S.κ H1 ad' S'.κ H' → SrcOk C r J ad' S'.κ H' → Q J H') → Z ux H1) : lift K Vw te σ H Z := by
  obtain ⟨C, ad, S, E, hK, s, t, q⟩ := h
  exact ⟨C, ad, S, _, hK, s, t, fun x S1 ad1 u1 H1 t1 s1 st1 v1 => z C ad1 S1 x u1 H1 E hK s1 v1 t1 fun r S' ad' H' J e s' st' ok => q r S' ad' H' J e s' (st1.trans st') ok⟩
theorem mi_seq {tg l : Expr} (hl : ME X Vw l te) : MI X Vw tg l (wiSeq te) := by
  refine ⟨PI.weak (pi_seq hl.pe) fun σ H R h => liftIE (b := fun x S1 R => match srcV x S1 with
    | some r => R r S1
    | none => False) h fun C ad S x ux H1 R' hK s r t q => ?_⟩
  split at t
  · rename_i rc e
    cases x with
    | un => exact r.elim
    | d y =>
      have r' : Rep C.K H1 (Pub C ad S.κ) ux y := r
      have e' : (seqD y).map (fun xs => (⟨xs, none⟩ : Src)) = some rc := e
      have fix : ∀ {a vs ds}, (SqL C.K H1 a vs ∧ (∀ ad2 S2 H2, Stp C ad S.κ H1 ad2 S2 H2 → SqL C.K H2 a vs)) → RepL C.K H1 (Pub C ad S.κ) vs ds → SrcOk C ⟨ds, none⟩ (Itl C.K a) ad S.κ H1 := fun h1 h2 ad2 S2 σ2 H2 s2 st2 _ =>
        yldL (ad := ad2) (S := S2) (σ := σ2) (h1.2 _ _ _ st2) (st2.repL h2)
      cases r' with
      | non | bl | int | str | ty | dct => cases e'
      | tup p h1 h2 =>
        cases e'
        exact ⟨_, rfl, .inr ⟨⟨_, .inl (.inl h1)⟩, q _ S ad H1 _ t s Stp.refl fun ad2 S2 σ2 H2 s2 st2 _ => yldT (σ := σ2) (.inl (.inl (st2.pub _ _ p h1).2)) (st2.repL h2)⟩⟩
      | tupK h1 h2 =>
        cases e'
        rw [hK.k] at h1
        exact ⟨_, rfl, .inr ⟨⟨_, .inr h1⟩, q _ S ad H1 _ t s Stp.refl fun ad2 S2 σ2 H2 s2 st2 _ => yldT (σ := σ2) (.inr h1) (st2.repL h2)⟩⟩
      | lst p h1 h2 =>
        cases e'
        exact ⟨_, rfl, .inl ⟨⟨_, .inl (.inl h1)⟩, q _ S ad H1 _ t s Stp.refl fun ad2 S2 σ2 H2 s2 st2 _ => yldL (σ := σ2) (.inl (.inl (st2.pub _ _ p h1).2)) (st2.repL h2)⟩⟩
      | scr p h1 =>
        cases e'
        exact ⟨_, rfl, .inl ⟨⟨_, .inl h1⟩, q _ S ad H1 _ t s Stp.refl fun ad2 S2 σ2 H2 s2 st2 _ => yldL (σ := σ2) (.inl (h1.elim (fun h => .inl (st2.pub _ _ p h).2) fun ⟨o, h⟩ => .inr ⟨o, (st2.pub _ _ p h).2⟩)) (RepL.ints _)⟩⟩
      | scrK h1 =>
        cases e'
        rw [hK.k] at h1
        exact ⟨_, rfl, .inl ⟨⟨_, .inr h1⟩, q _ S ad H1 _ t s Stp.refl fun ad2 S2 σ2 H2 s2 st2 _ => yldL (σ := σ2) (.inr h1) (RepL.ints _)⟩⟩
    | o k =>
      obtain ⟨hk, hu⟩ := r
      subst hu
      cases qq : muAt S k with
      | none => simp [srcV, qq] at e
      | some m =>
        cases m with
        | lst ys =>
          simp only [srcV, qq, Option.some.injEq] at e
          subst e
          obtain ⟨vs, h, _⟩ := s.ow k _ (muAt_some qq)
          refine ⟨_, rfl, .inl ⟨⟨_, .inl (.inl h)⟩, q _ S ad H1 _ t s Stp.refl fun ad2 S2 σ2 H2 s2 st2 kp => ?_⟩⟩
          obtain ⟨vs2, h2, r2⟩ := s2.ow k _ (muAt_some kp)
          rw [st2.ads k hk] at h2
          exact yldL (σ := σ2) (.inl (.inl h2)) r2
  · exact t.elim
theorem range_src (C : Cfg) (lo : Int) (n : Nat) (ad : Nat → Addr) (κ : List (Option Mu)) (H : Hp) : SrcOk C ⟨(List.range n).map fun i : Nat => D.int (lo + (i : Int)), none⟩ (Itr lo n) ad κ H := by
  intro ad2 S2 σ2 H2 s2 st2 _
  refine ⟨?_, fun i d e => ?_⟩
  · show n ≤ ((List.range n).map _).length
    rw [List.length_map, List.length_range]; exact Nat.le_refl _
  · have e' : ((List.range n).map fun i : Nat => D.int (lo + (i : Int)))[i]? = some d := e
    rw [List.getElem?_map] at e'
    by_cases hi : i < n
    · rw [List.getElem?_range hi] at e'
      cases e'
      refine ⟨hi, fun x H3 ⟨e1, e2⟩ => ?_⟩
      subst e1
      subst e2
      exact ⟨Same.refl _, .int _⟩
    · rw [List.getElem?_eq_none (by rw [List.length_range]; omega)] at e'
      cases e'
def rngD (lo : Int) (n : Nat) : List D := (List.range n).map fun i : Nat => D.int (lo + (i : Int))
def wiRng1 (te : WE) : WI := fun S R => te S fun x S1 => match x with
  | .d (.int j) => (-(2 ^ 62) ≤ j ∧ j < 2 ^ 62) ∧ R ⟨rngD 0 j.toNat, none⟩ S1
  | _ => False
def wiRng2 (ta tb : WE) : WI := fun S R => ta S fun x S1 => tb S1 fun y S2 => match x, y with
  | .d (.int i), .d (.int j) => (-(2 ^ 62) ≤ i ∧ i < 2 ^ 62 ∧ -(2 ^ 62) ≤ j ∧ j < 2 ^ 62) ∧ R ⟨rngD i (j - i).toNat, none⟩ S2
  | _, _ => False
theorem mi_range1 {tg a : Expr} {p pos : Pos} (hg : Gl X "range") (hm : X.mg "range" = none) (ha : ME X Vw a te) (hs : starEach [a] X.env = [(false, eval a X.env)] := by rfl) : MI X Vw tg (.Call (.Name "range" p) [a] [] pos) (wiRng1 te) := by
  refine ⟨PI.weak (pi_range1 hg hm (pa_cons ha.pe pa_nil hs) hs) fun σ H R h => ?_⟩
  refine liftIE (b := fun x S1 R => match x with
    | .d (.int j) => (-(2 ^ 62) ≤ j ∧ j < 2 ^ 62) ∧ R ⟨rngD 0 j.toNat, none⟩ S1
    | _ => False) h fun C ad S x ux H1 R' hK s r t q => ?_
  split at t
  · rename_i j
    obtain rfl := r.int
    exact ⟨j, rfl, t.1.1, t.1.2, q _ S ad H1 _ t.2 s Stp.refl (range_src C 0 j.toNat ad S.κ H1)⟩
  · exact t.elim
theorem mi_range2 {tg a b : Expr} {ta tb : WE} {p pos : Pos} (hg : Gl X "range") (hm : X.mg "range" = none) (ha : ME X Vw a ta) (hb : ME X Vw b tb) (hs : starEach [a, b] X.env = [(false, eval a X.env), (false, eval b X.env)] := by rfl)
    (hs2 : starEach [b] X.env = [(false, eval b X.env)] := by rfl) : MI X Vw tg (.Call (.Name "range" p) [a, b] [] pos) (wiRng2 ta tb) := by
  refine ⟨PI.weak (pi_range2 hg hm (pa_cons ha.pe (pa_cons hb.pe pa_nil hs2) (by rw [hs, hs2])) hs hs2) fun σ H R ⟨C, ad, S, R', hK, s, t, q⟩ => ?_⟩
  refine ⟨C, ad, S, _, hK, s, t, fun x S1 ad1 u1 H1 t1 s1 st1 v1 => ⟨C, ad1, S1, _, hK, s1, t1, fun y S2 ad2 u2 H2 t2 s2 st2 v2 => ?_⟩⟩
  split at t2
  · rename_i i j
    obtain rfl := (st2.vr v1).int
    obtain rfl := v2.int
    exact ⟨i, j, rfl, t2.1, q _ S2 ad2 H2 _ t2.2 s2 (st1.trans st2) (range_src C i (j - i).toNat ad2 S2.κ H2)⟩
  · exact t2.elim
end
end MP

/-! MP: built-in calls, isinstance, defs -/
namespace MP
open PySem PySem.Spec PyProof.Rows L2

section
variable {X : Cx} {Vw : Wsh} {e : Expr} {te : WE} {ta : WA} {p pos : Pos}
/-- a call of a built-in thing with the values xs -/
abbrev WF := List Val → Sm → (Val → Sm → Prop) → Prop
def wCB (f : WF) (ta : WA) : WE := fun S Q => ta S fun xs S1 => f xs S1 Q
/-- the built-in's rule serves f -/
def CB (r : List V → Hp → VK → Prop) (K : PySem.W.Frag) (f : WF) : Prop := ∀ (C : Cfg) (ad : Nat → Addr) (S : Sm) (σ : L2.St) (H : Hp) (us : List V) (xs : List Val) (R : Val → Sm → Prop) (Q : VK),
  C.K = K → SR C ad S σ H → VRL C ad S.κ H us xs → f xs S R → Post C ad S.κ H σ R Q → r us H Q
theorem m_callB {x : Str} {id : String} {es : List Expr} {r : List V → Hp → VK → Prop} {f : WF} (hc : CallR X (.builtin id) r) (hf : CB r X.K f) (hg : Gl X x) (hm : X.mg x = none) (hv : bootBuiltins x = some (.builtin id)) (ha : MA X Vw (e :: es) ta) (hn : x ≠ "__name__" := by decide) (hdb : (x == ("__debug__" : Str)) = false := by decide)
    (he : starEach (e :: es) X.env = (false, eval e X.env) :: starEach es X.env := by rfl) (hpl : (backTo pos (starEach es X.env)).any (·.1) = false := by rfl) : ME X Vw (.Call (.Name x p) (e :: es) [] pos) (wCB f ta) :=
  ⟨PE.weak (pe_callB hc hg hm hv ha.pa hn hdb he hpl) fun σ H Q h => liftA1 h fun C ad S xs us H1 R hK s rs t q => hf C ad S σ H1 us xs R Q hK.k s rs t q⟩
theorem m_callTy {x : Str} {T : String} {es : List Expr} {r : List V → Hp → VK → Prop} {f : WF} (hc : CallR X (.type T) r) (hf : CB r X.K f) (hg : Gl X x) (hm : X.mg x = none) (hv : bootBuiltins x = some (.type T)) (ha : MA X Vw (e :: es) ta) (hn : x ≠ "__name__" := by decide) (hdb : (x == ("__debug__" : Str)) = false := by decide)
    (he : starEach (e :: es) X.env = (false, eval e X.env) :: starEach es X.env := by rfl) (hpl : (backTo pos (starEach es X.env)).any (·.1) = false := by rfl) : ME X Vw (.Call (.Name x p) (e :: es) [] pos) (wCB f ta) :=
  ⟨PE.weak (pe_callTy hc hg hm hv ha.pa hn hdb he hpl) fun σ H Q h => liftA1 h fun C ad S xs us H1 R hK s rs t q => hf C ad S σ H1 us xs R Q hK.k s rs t q⟩
theorem VRL.nil_inv {C : Cfg} {ad : Nat → Addr} {κ : List (Option Mu)} {H : Hp} {us : List V} (r : VRL C ad κ H us []) : us = [] := by cases r; rfl
theorem VRL.one {C : Cfg} {ad : Nat → Addr} {κ : List (Option Mu)} {H : Hp} {us : List V} {x : Val} (r : VRL C ad κ H us [x]) : ∃ u, us = [u] ∧ VR C ad κ H u x := by
  cases r with
  | cons a b => cases b; exact ⟨_, rfl, a⟩
theorem VRL.two {C : Cfg} {ad : Nat → Addr} {κ : List (Option Mu)} {H : Hp} {us : List V} {x y : Val} (r : VRL C ad κ H us [x, y]) : ∃ u v, us = [u, v] ∧ VR C ad κ H u x ∧ VR C ad κ H v y := by
  cases r with
  | cons a b =>
    obtain ⟨v, e, b2⟩ := VRL.one b
    subst e
    exact ⟨_, _, rfl, a, b2⟩
def fAbs : WF := fun xs S Q => match xs with
  | [.d (.int i)] => Q (.d (.int (i.natAbs : Int))) S
  | _ => False
theorem cb_abs {K : PySem.W.Frag} : CB (fun xs H Q => ∃ i, xs = [.int i] ∧ Q (.int (if i < 0 then -i else i)) H) K fAbs := by
  intro C ad S σ H us xs R Q hK s rs t q
  unfold fAbs at t
  split at t
  · rename_i i
    obtain ⟨u, rfl, r⟩ := rs.one
    refine ⟨i, by rw [r.int], ?_⟩
    have e : (if i < 0 then -i else i) = (i.natAbs : Int) := by split <;> omega
    rw [e]
    exact q.at s t (Rep.int _)
  · exact t.elim
def fInt : WF := fun xs S Q => match xs with
  | [.d (.int i)] => Q (.d (.int i)) S
  | [.d (.bl b)] => Q (.d (.int (if b = true then 1 else 0))) S
  | _ => False
theorem cb_int {K : PySem.W.Frag} : CB (fun xs H Q => (∃ i, xs = [.int i] ∧ Q (.int i) H) ∨ ∃ k, xs = [.bl k] ∧ Q (.int (if k then 1 else 0)) H) K fInt := by
  intro C ad S σ H us xs R Q hK s rs t q
  unfold fInt at t
  split at t
  · obtain ⟨u, rfl, r⟩ := rs.one
    exact .inl ⟨_, by rw [r.int], q.at s t (Rep.int _)⟩
  · obtain ⟨u, rfl, r⟩ := rs.one
    exact .inr ⟨_, by rw [r.bl], q.at s t (Rep.int _)⟩
  · exact t.elim
def lenV (S : Sm) (x : Val) : Option Nat := match x with
  | .d (.str z) => some z.length
  | _ => (seqV S x).map List.length
def fLen : WF := fun xs S Q => match xs with
  | [.d (.str z)] => z.length ≤ sizeLine ∧ Q (.d (.int (z.length : Int))) S
  | [x] => match seqV S x with
    | some ys => Q (.d (.int (ys.length : Int))) S
    | none => False
  | _ => False
theorem cb_len {K : PySem.W.Frag} : CB (fun xs H Q => (∃ p ys, xs = [.ref p] ∧ (SqL K H p ys ∨ SqT K H p ys) ∧ Q (.int ys.length) H) ∨ (∃ z, xs = [.str z] ∧ z.length ≤ sizeLine ∧ Q (.int z.length) H)) K fLen := by
  intro C ad S σ H us xs R Q hK s rs t q
  unfold fLen at t
  split at t
  · obtain ⟨u, rfl, r⟩ := rs.one
    exact .inr ⟨_, by rw [r.str], t.1, q.at s t.2 (Rep.int _)⟩
  · obtain ⟨u, rfl, r⟩ := rs.one
    split at t
    · rename_i ys e
      obtain ⟨a, vs, rfl, h1, h2⟩ := seq_of s r e
      rw [hK] at h1
      refine .inl ⟨a, vs, rfl, h1, ?_⟩
      rw [h2.length]
      exact q.at s t (Rep.int _)
    · exact t.elim
  · exact t.elim
theorem call_len {X : Cx} : CallR X (.builtin "len") (fun xs H Q => (∃ p ys, xs = [.ref p] ∧ (SqL X.K H p ys ∨ SqT X.K H p ys) ∧ Q (.int ys.length) H) ∨ (∃ z, xs = [.str z] ∧ z.length ≤ sizeLine ∧ Q (.int z.length) H)) := call_len_seq.or call_len_str
def fMin2 : WF := fun xs S Q => match xs with
  | [.d (.int i), .d (.int j)] => Q (.d (.int (if j < i then j else i))) S
  | _ => False
theorem cb_min2 {K : PySem.W.Frag} : CB (fun xs H Q => ∃ i j, xs = [.int i, .int j] ∧ Q (.int (if j < i then j else i)) H) K fMin2 := by
  intro C ad S σ H us xs R Q hK s rs t q
  unfold fMin2 at t
  split at t
  · obtain ⟨u, v, rfl, r1, r2⟩ := rs.two
    exact ⟨_, _, by rw [r1.int, r2.int], q.at s t (Rep.int _)⟩
  · exact t.elim
def fMax2 : WF := fun xs S Q => match xs with
  | [.d (.int i), .d (.int j)] => Q (.d (.int (if j > i then j else i))) S
  | _ => False
theorem cb_max2 {K : PySem.W.Frag} : CB (fun xs H Q => ∃ i j, xs = [.int i, .int j] ∧ Q (.int (if j > i then j else i)) H) K fMax2 := by
  intro C ad S σ H us xs R Q hK s rs t q
  unfold fMax2 at t
  split at t
  · obtain ⟨u, v, rfl, r1, r2⟩ := rs.two
    exact ⟨_, _, by rw [r1.int, r2.int], q.at s t (Rep.int _)⟩
  · exact t.elim
def fList : WF := fun xs S Q => match xs with
  | [x] => match seqV S x with
    | some ys => Q (.o S.κ.length) (S.new (.lst ys))
    | none => False
  | _ => False
theorem cb_list {K : PySem.W.Frag} : CB (fun xs H Q => ∃ p ys, xs = [.ref p] ∧ (SqL K H p ys ∨ SqT K H p ys) ∧ ∀ l, H l = none → Q (.ref l) (upd H l (.lst ys))) K fList := by
  intro C ad S σ H us xs R Q hK s rs t q
  unfold fList at t
  split at t
  · obtain ⟨u, rfl, r⟩ := rs.one
    split at t
    · rename_i ys e
      obtain ⟨a, vs, rfl, h1, h2⟩ := seq_of s r e
      rw [hK] at h1
      exact ⟨a, vs, rfl, h1, fun l hl => q.lst s h2 t hl⟩
    · exact t.elim
  · exact t.elim
def fTuple : WF := fun xs S Q => match xs with
  | [x] => match seqV S x with
    | some ys => Q (.d (.tup ys)) S
    | none => False
  | _ => False
theorem cb_tuple {K : PySem.W.Frag} : CB (fun xs H Q => ∃ p ys, xs = [.ref p] ∧ ((SqL K H p ys ∧ ∀ l, H l = none → Q (.ref l) (upd H l (.tup ys))) ∨ (SqT K H p ys ∧ Q (.ref p) H))) K fTuple := by
  intro C ad S σ H us xs R Q hK s rs t q
  unfold fTuple at t
  split at t
  · rename_i x
    obtain ⟨u, rfl, r⟩ := rs.one
    split at t
    · rename_i ys e
      cases x with
      | un => exact r.elim
      | d y =>
        have r' : Rep C.K H (Pub C ad S.κ) u y := r
        cases r' with
        | non | bl | int | str | ty | dct => cases e
        | tup p h1 h2 => cases e; exact ⟨_, _, rfl, .inr ⟨.inl (.inl h1), q.at s t r⟩⟩
        | tupK h1 h2 => cases e; rw [hK] at h1; exact ⟨_, _, rfl, .inr ⟨.inr h1, q.at s t r⟩⟩
        | lst p h1 h2 => cases e; exact ⟨_, _, rfl, .inl ⟨.inl (.inl h1), fun l hl => q.tup s h2 t hl⟩⟩
        | scr p h1 => cases e; exact ⟨_, _, rfl, .inl ⟨.inl h1, fun l hl => q.tup s (RepL.ints _) t hl⟩⟩
        | scrK h1 => cases e; rw [hK] at h1; exact ⟨_, _, rfl, .inl ⟨.inr h1, fun l hl => q.tup s (RepL.ints _) t hl⟩⟩
      | o k =>
        obtain ⟨hk, hu⟩ := r
        subst hu
        have e' : (muAt S k).bind seqM = some ys := e
        cases qq : muAt S k with
        | none => rw [qq] at e'; cases e'
        | some m =>
          rw [qq] at e'
          cases m with
          | lst zs =>
            cases e'
            obtain ⟨vs, h1, h2⟩ := s.ow k _ (muAt_some qq)
            exact ⟨_, vs, rfl, .inl ⟨.inl (.inl h1), fun l hl => q.tup s h2 t hl⟩⟩
    · exact t.elim
  · exact t.elim

/-! ### isinstance -/
inductive TyK where
  | non | bool | int | str | tup | lst | dct
  deriving DecidableEq
def TyK.name : TyK → String
  | .non => "NoneType" | .bool => "bool" | .int => "int" | .str => "str" | .tup => "tuple" | .lst => "list" | .dct => "dict"
def isK : TyK → TyK → Bool
  | .bool, .int => true
  | .non, .non => true | .bool, .bool => true | .int, .int => true | .str, .str => true | .tup, .tup => true | .lst, .lst => true | .dct, .dct => true
  | _, _ => false
theorem kit_is (K : PySem.W.Frag) : ∀ a b : TyK, b ≠ .non → PySem.W.kitOne K (.type a.name) (.type b.name) = some (isK a b) := by
  intro a b hb
  refine kit_ty ?_
  cases a <;> cases b <;> first | exact absurd rfl hb | decide +kernel
def tyD : D → Option TyK
  | .non => some .non | .bl _ => some .bool | .int _ => some .int | .str _ => some .str | .tup _ => some .tup | .lst _ => some .lst | .scr _ => some .lst | .dct _ _ => some .dct
  | .ty _ => none
def tyVal (S : Sm) : Val → Option TyK
  | .un => none
  | .d x => tyD x
  | .o k => match muAt S k with
    | some (.lst _) => some .lst
    | none => none
theorem tyVal_of {C : Cfg} {ad : Nat → Addr} {S : Sm} {σ : L2.St} {H : Hp} {u : V} {x : Val} {k : TyK} (s : SR C ad S σ H) (r : VR C ad S.κ H u x) (e : tyVal S x = some k) : TyX C.K H u (.type k.name) := by
  cases x with
  | un => exact r.elim
  | d y =>
    have r' : Rep C.K H (Pub C ad S.κ) u y := r
    cases r' with
    | non => cases e; exact .base .non
    | bl => cases e; exact .base (.bl _)
    | int => cases e; exact .base (.int _)
    | str => cases e; exact .base (.str _)
    | ty => cases e
    | tup p h => cases e; exact .base (.tup h)
    | tupK h =>
      cases e
      obtain ⟨o, its, n, h1, h2, _⟩ := h
      exact .kTuple h1 h2
    | lst p h => cases e; exact .base (.lst h)
    | scr p h =>
      cases e
      rcases h with h | ⟨o, h⟩
      · exact .base (.lst h)
      · exact .base (.frz h)
    | scrK h =>
      cases e
      obtain ⟨o, its, n, h1, h2, _⟩ := h
      exact .kList h1 h2
    | dct p h => cases e; exact .base (.dK h)
  | o j =>
    obtain ⟨hk, hu⟩ := r
    subst hu
    cases qq : muAt S j with
    | none => simp [tyVal, qq] at e
    | some m =>
      cases m with
      | lst zs =>
        simp only [tyVal, qq, Option.some.injEq] at e
        subst e
        obtain ⟨vs, h1, h2⟩ := s.ow j _ (muAt_some qq)
        exact .base (.lst h1)
/-- isinstance(x, T), T the built-in class n -/
def wIsi (n : TyK) (te : WE) : WE := fun S Q => te S fun x S1 => match tyVal S1 x with
  | some k => Q (.d (.bl (isK k n))) S1
  | none => False
theorem m_isi {T : Str} {pT : Pos} (n : TyK) (nn : n ≠ .non) (hg : Gl X "isinstance") (hm : X.mg "isinstance" = none) (hgT : Gl X T) (hmT : X.mg T = none) (hvT : bootBuiltins T = some (.type n.name)) (he : ME X Vw e te)
    (hnT : T ≠ "__name__" := by decide) (hdT : (T == ("__debug__" : Str)) = false := by decide) (h1 : starEach (e :: [.Name T pT]) X.env = (false, eval e X.env) :: starEach [.Name T pT] X.env := by rfl)
    (h2 : starEach (.Name T pT :: []) X.env = (false, eval (.Name T pT) X.env) :: starEach [] X.env := by rfl) (hpl : (backTo pos (starEach [.Name T pT] X.env)).any (·.1) = false := by rfl)
    (hv : bootBuiltins "isinstance" = some (.builtin "isinstance") := by first | exact PySem.boot_isinstance | decide +kernel) : ME X Vw (.Call (.Name "isinstance" p) [e, .Name T pT] [] pos) (wIsi n te) := by
  refine ⟨PE.weak (pe_callB call_isi hg hm hv (pa_cons he.pe (pa_cons (pe_bltn (v := .ty n.name) hgT hmT hvT rfl hnT hdT) pa_nil h2) h1) (by decide) (by decide) h1 hpl) fun σ H Q h => lift1 h fun C ad S x ux H1 R hK s r t q => ?_⟩
  split at t
  · rename_i k ek
    have ty := tyVal_of s r ek
    rw [hK.k] at ty
    exact ⟨ux, .ty n.name, _, _, isK k n, rfl, .ty _, ty, kit_is _ k n nn, q.at s t (Rep.bl _)⟩
  · exact t.elim
/-- isinstance(x, (T1, T2)) -/
def wIsi2 (n m : TyK) (te : WE) : WE := fun S Q => te S fun x S1 => match tyVal S1 x with
  | some k => Q (.d (.bl (isK k n || isK k m))) S1
  | none => False
theorem m_isi2 {T U : Str} {pT pU p3 : Pos} {x3} (n m : TyK) (nn : n ≠ .non) (mn : m ≠ .non) (hg : Gl X "isinstance") (hm : X.mg "isinstance" = none) (hgT : Gl X T) (hmT : X.mg T = none) (hvT : bootBuiltins T = some (.type n.name))
    (hgU : Gl X U) (hmU : X.mg U = none) (hvU : bootBuiltins U = some (.type m.name)) (he : ME X Vw e te)
    (hnT : T ≠ "__name__" := by decide) (hdT : (T == ("__debug__" : Str)) = false := by decide) (hnU : U ≠ "__name__" := by decide) (hdU : (U == ("__debug__" : Str)) = false := by decide)
    (h1 : starEach (e :: [.Tuple [.Name T pT, .Name U pU] x3 p3]) X.env = (false, eval e X.env) :: starEach [.Tuple [.Name T pT, .Name U pU] x3 p3] X.env := by rfl)
    (h2 : starEach (.Tuple [.Name T pT, .Name U pU] x3 p3 :: []) X.env = (false, eval (.Tuple [.Name T pT, .Name U pU] x3 p3) X.env) :: starEach [] X.env := by rfl)
    (h3 : starEach (.Name T pT :: [.Name U pU]) X.env = (false, eval (.Name T pT) X.env) :: starEach [.Name U pU] X.env := by rfl)
    (h4 : starEach (.Name U pU :: []) X.env = (false, eval (.Name U pU) X.env) :: starEach [] X.env := by rfl)
    (hpl : (backTo pos (starEach [.Tuple [.Name T pT, .Name U pU] x3 p3] X.env)).any (·.1) = false := by rfl)
    (hv : bootBuiltins "isinstance" = some (.builtin "isinstance") := by first | exact PySem.boot_isinstance | decide +kernel) : ME X Vw (.Call (.Name "isinstance" p) [e, .Tuple [.Name T pT, .Name U pU] x3 p3] [] pos) (wIsi2 n m te) := by
  refine ⟨PE.weak (pe_callB call_isiT hg hm hv (pa_cons he.pe (pa_cons (pe_tup (pa_cons (pe_bltn (v := .ty n.name) hgT hmT hvT rfl hnT hdT) (pa_cons (pe_bltn (v := .ty m.name) hgU hmU hvU rfl hnU hdU) pa_nil h4) h3)) pa_nil h2) h1) (by decide) (by decide) h1 hpl) fun σ H Q h => lift1 h fun C ad S x ux H1 R hK s r t q => ?_⟩
  split at t
  · rename_i k ek
    refine ⟨(by rw [sizeLine_eq]; exact (by decide : 2 ≤ 16777216)), fun tp htp => ?_⟩
    obtain ⟨s2, st2⟩ := s.grow (same_upd (o := .tup [.ty n.name, .ty m.name]) htp)
    have r2 := st2.vr r
    have ty := tyVal_of s2 r2 ek
    rw [hK.k] at ty
    refine ⟨ux, tp, [.ty n.name, .ty m.name], _, [.type n.name, .type m.name], isK k n || isK k m, rfl, upd_same, .cons (.ty _) (.cons (.ty _) .nil), ty, ?_, (q.step st2).at s2 t (Rep.bl _)⟩
    refine kitAny_cons (kit_is _ k n nn) (fun hb => ?_) fun hb => by rw [hb]; rfl
    rw [hb, Bool.false_or]
    refine kitAny_cons (kit_is _ k m mn) (fun hb => by rw [hb]; exact kitAny_nil) fun hb => hb
  · exact t.elim
end
end MP

/-! MP: what a def does, calls of defs -/
namespace MP
open PySem PySem.Spec PyProof.Rows L2

inductive Rt where
  | d (x : D) | arg (k : Nat) | new (m : Mu)
/-- what a def does: the arguments (own ones by their number), the own ones' contents; what comes back, their contents behind -/
abbrev FS := List Val → List Mu → (Rt → List Mu → Prop) → Prop

theorem MuRep.mono {K : PySem.W.Frag} {H H' : Hp} {P P' : Addr → Prop} {p : Addr} {m : Mu} (h : ∀ a o, P a → H a = some o → P' a ∧ H' a = some o) (hp : H' p = H p) (r : MuRep K H P p m) : MuRep K H' P' p m := by
  cases m with
  | lst xs =>
    obtain ⟨vs, e, r⟩ := r
    exact ⟨vs, hp.trans e, r.mono h⟩
theorem MuRep.there {K : PySem.W.Frag} {H : Hp} {P : Addr → Prop} {p : Addr} {m : Mu} (r : MuRep K H P p m) : ∃ o, H p = some o := by
  cases m with
  | lst xs =>
    obtain ⟨vs, e, r⟩ := r
    exact ⟨_, e⟩

def OutP (A : Addr → Prop) (b : Nat → Addr) (n : Nat) (r : Rt) (u : V) (a : Addr) : Prop := ¬ A a ∧ (∀ k, k < n → b k ≠ a) ∧ ∀ m, r = .new m → u ≠ .ref a
structure CallOut (K : PySem.W.Frag) (A : Addr → Prop) (b : Nat → Addr) (H : Hp) (n : Nat) (r : Rt) (κ' : List Mu) (u : V) (H' : Hp) : Prop where
  fr : ∀ a o, H a = some o → (∀ k, k < n → b k ≠ a) → H' a = some o
  len : κ'.length = n
  ow : ∀ k m, κ'[k]? = some m → MuRep K H' (OutP A b n r u) (b k) m
  res : match r with
    | .d x => Rep K H' (OutP A b n r u) u x
    | .arg k => k < n ∧ u = .ref (b k)
    | .new m => ∃ p, u = .ref p ∧ H p = none ∧ MuRep K H' (OutP A b n r u) p m
@[reducible] def cfg0 (K : PySem.W.Frag) (A : Addr → Prop) (b : Nat → Addr) (κ : List Mu) (H : Hp) : Cfg := ⟨K, A, H, κ.length, noX, b, κ.map some, H⟩
def spOf (K : PySem.W.Frag) (F : FS) : Sp := fun vs H Q E => ∃ (A : Addr → Prop) (b : Nat → Addr) (as : List Val) (κ : List Mu) (R : Rt → List Mu → Prop),
  SR (cfg0 K A b κ H) b ⟨as, κ.map some, κ.length, noX⟩ (vs.map some) H ∧ F as κ R ∧ ∀ r κ' u H', R r κ' → CallOut K A b H κ.length r κ' u H' → Q u H'

/-! ### a body -/
def lives : List (Option Mu) → Option (List Mu)
  | [] => some []
  | none :: _ => none
  | some m :: r => (lives r).map (m :: ·)
theorem lives_eq : ∀ {l : List (Option Mu)} {κ : List Mu}, lives l = some κ → l = κ.map some
  | [], _, h => by cases h; rfl
  | none :: _, _, h => by cases h
  | some m :: r, κ, h => by
    have h' : (lives r).map (m :: ·) = some κ := h
    cases e : lives r with
    | none => rw [e] at h'; cases h'
    | some k2 =>
      rw [e] at h'
      cases h'
      rw [lives_eq e]
      rfl
def RetP (R : Rt → List Mu → Prop) (v : Val) (S : Sm) : Prop := match lives (S.κ.take S.n) with
  | none => False
  | some κ' => match v with
    | .un => False
    | .d x => R (.d x) κ'
    | .o k => if k < S.n then R (.arg k) κ' else match muAt S k with
      | some m => R (.new m) κ'
      | none => False
theorem ret_out {C : Cfg} {b ad : Nat → Addr} {κ : List Mu} {S : Sm} {σ : L2.St} {H' : Hp} {R : Rt → List Mu → Prop} {v : Val} {u : V} {Q : VK} (hn : C.n = κ.length)
    (q : ∀ r κ' u H', R r κ' → CallOut C.K C.A b C.H0 κ.length r κ' u H' → Q u H') (h : RetP R v S) (s : SR C ad S σ H') (st : Stp C b (κ.map some) C.H0 ad S.κ H') (r : VR C ad S.κ H' u v) : Q u H' := by
  unfold RetP at h
  cases e : lives (S.κ.take S.n) with
  | none => rw [e] at h; exact h.elim
  | some κ' =>
    rw [e] at h
    have e2 := lives_eq e
    have nn : S.n = κ.length := s.nn.trans hn
    have bn : κ.length ≤ S.κ.length := by have := s.bn; omega
    have ab : ∀ k, k < κ.length → ad k = b k := fun k hk => st.ads k (by rw [List.length_map]; exact hk)
    have len : κ'.length = κ.length := by
      have h1 := congrArg List.length e2
      rw [List.length_take, List.length_map] at h1
      omega
    have live : ∀ k m, κ'[k]? = some m → S.κ[k]? = some (some m) := fun k m hk => by
      have hl : k < κ'.length := (List.getElem?_eq_some_iff.mp hk).1
      have h1 : (S.κ.take S.n)[k]? = (κ'.map some)[k]? := by rw [e2]
      rw [List.getElem?_take_of_lt (by omega), List.getElem?_map, hk] at h1
      exact h1
    have liveAll : ∀ k, k < κ.length → ∃ m, S.κ[k]? = some (some m) := fun k hk => by
      obtain ⟨m, hm⟩ : ∃ m, κ'[k]? = some m := ⟨_, List.getElem?_eq_getElem (by omega)⟩
      exact ⟨m, live k m hm⟩
    have fr : ∀ a o, C.H0 a = some o → (∀ k, k < κ.length → b k ≠ a) → H' a = some o := fun a o ha hk => s.fr a o ha fun k hk2 => by
      rw [hn] at hk2
      rw [ab k hk2]; exact hk k hk2
    have base : ∀ rt, (∀ a, Pub C ad S.κ a → ∀ m, rt = .new m → u ≠ .ref a) → ∀ a o, Pub C ad S.κ a → H' a = some o → OutP C.A b κ.length rt u a ∧ H' a = some o := fun rt hr a o p ha => by
      refine ⟨⟨p.1, fun k hk => ?_, hr a p⟩, ha⟩
      obtain ⟨m, hm⟩ := liveAll k hk
      rw [← ab k hk]
      exact p.2 k m hm
    have ow : ∀ rt, (∀ a, Pub C ad S.κ a → ∀ m, rt = .new m → u ≠ .ref a) → ∀ k m, κ'[k]? = some m → MuRep C.K H' (OutP C.A b κ.length rt u) (b k) m := fun rt hr k m hk => by
      have hl : k < κ'.length := (List.getElem?_eq_some_iff.mp hk).1
      have h1 := s.ow k m (live k m hk)
      rw [ab k (by omega)] at h1
      exact h1.mono (base rt hr) rfl
    cases v with
    | un => exact r.elim
    | d x =>
      have hr : ∀ a, Pub C ad S.κ a → ∀ m, Rt.d x = .new m → u ≠ .ref a := fun _ _ _ z => nomatch z
      exact q _ _ _ _ h ⟨fr, len, ow _ hr, Rep.mono (base _ hr) r⟩
    | o k =>
      obtain ⟨hk, hu⟩ := r
      by_cases kn : k < S.n
      · have h' : R (.arg k) κ' := by
          simpa only [if_pos kn] using h
        have hr : ∀ a, Pub C ad S.κ a → ∀ m, Rt.arg k = .new m → u ≠ .ref a := fun _ _ _ z => nomatch z
        exact q _ _ _ _ h' ⟨fr, len, ow _ hr, ⟨by omega, by rw [hu, ab k (by omega)]⟩⟩
      · have h' : match muAt S k with
          | some m => R (.new m) κ'
          | none => False := by simpa only [if_neg kn] using h
        cases em : muAt S k with
        | none => rw [em] at h'; exact h'.elim
        | some m =>
          rw [em] at h'
          have lk := muAt_some em
          have hr : ∀ a, Pub C ad S.κ a → ∀ m', Rt.new m = .new m' → u ≠ .ref a := fun a p m' _ z => p.2 k m lk (V.ref.inj (hu.symm.trans z))
          refine q _ _ _ _ h' ⟨fr, len, ow _ hr, ad k, hu, s.nw k (by rw [← s.nn]; omega) hk, (s.ow k m lk).mono (base _ hr) rfl⟩

/-- the names at the entry -/
def start0 (N : Nat) (as : List Val) (κ : List Mu) : Sm := ⟨as ++ List.replicate (N - as.length) .un, κ.map some, κ.length, noX⟩
section
variable {P : Program} {w : World} {K : PySem.W.Frag} {Vw : Wsh} {mg : Str → Option Value} {base : Heap}
/-- nothing is let out -/
@[reducible] def noW (cl : String → Value) : Wsh := ⟨cl, fun _ _ _ _ => False⟩
/-- THE RULE for a def -/
theorem def_ok {cl : String → Value} {x qual : Str} {st : Stmt} {f : Addr} {fd : FuncData} {N ps : List Str} {k : Nat} {F : FS} {t : WS} (Fn : Fun K x qual st f fd) (Sc : FnScope N ps (defScope st)) (hlen : ∀ as κ R, F as κ R → as.length = ps.length)
    (hbody : ∀ (cdv : Value) (A : Around) (outer : List Env) (s : Shared) (H : Hp) (E : XK), Room k (A.deeper (envOfC qual (defScope st) s.heap.objs.size f cdv)) →
      MSs (cxOf CX0 P w K mg base N qual (defScope st) f cdv A outer s H E).nox (noW cl) (defBody st) t)
    (hsp : ∀ as κ R, F as κ R → t { nx := RetP R (.d .non), rt := RetP R } (start0 N.length as κ)) : FnOk P w K mg base CX0 (k + 1) f fd ps (spOf K F) := by
  refine Fn.ok Sc (fun vs H Q E h => ?_) fun cdv A outer s H vs Q E hr h => ⟨_, (hbody cdv A outer s H E hr).pss, ?_⟩
  · obtain ⟨A, b, as, κ, R, h1, h2, _⟩ := h
    have h3 : (vs.map some).length = as.length := h1.len
    rw [List.length_map] at h3
    rw [h3]
    exact hlen as κ R h2
  · obtain ⟨A, b, as, κ, R, h1, h2, q⟩ := h
    have l1 : vs.length = as.length := by have := h1.len; rw [List.length_map] at this; exact this
    have sr : SR (cfg0 K A b κ H) b (start0 N.length as κ) (start N vs) H := by
      refine ⟨?_, fun i v e nu => ?_, h1.ow, h1.inj, h1.nA, h1.hA, h1.fr, h1.nw, h1.bn, rfl, h1.tr, rfl, h1.sb⟩
      · show (vs.map some ++ List.replicate (N.length - vs.length) none).length = (as ++ List.replicate (N.length - as.length) Val.un).length
        rw [List.length_append, List.length_append, List.length_map, List.length_replicate, List.length_replicate, l1]
      · have e' : (as ++ List.replicate (N.length - as.length) Val.un)[i]? = some v := e
        by_cases hi : i < as.length
        · rw [List.getElem?_append_left hi] at e'
          obtain ⟨u, e1, e2⟩ := h1.sl i v e' nu
          exact ⟨u, by show (vs.map some ++ _)[i]? = _; rw [List.getElem?_append_left (by rw [List.length_map, l1]; exact hi)]; exact e1, e2⟩
        · rw [List.getElem?_append_right (Nat.le_of_not_lt hi), List.getElem?_replicate] at e'
          split at e'
          · exact absurd (Option.some.inj e').symm nu
          · cases e'
    refine ⟨cfg0 K A b κ H, b, start0 N.length as κ, _, ⟨rfl, fun _ _ _ _ _ _ _ z _ _ => z.elim⟩, sr, hsp as κ R h2, ?_⟩
    refine ⟨fun S' ad' σ' H' e s' st => ret_out (C := (cfg0 K A b κ H)) (v := .d .non) rfl q e s' st (show Rep _ _ _ _ _ from Rep.non), fun v S' ad' u σ' H' e s' st r => ret_out (C := (cfg0 K A b κ H)) rfl q e s' st r, fun S' ad' σ' H' e _ _ => e.elim, fun S' ad' σ' H' e _ _ => e.elim⟩
end

/-! ### a call -/
def prep : List Bool → List Val → Sm → List Nat → (List Val → List Nat → Sm → Prop) → Prop
  | [], [], S, idx, Q => Q [] idx S
  | false :: ms, x :: xs, S, idx, Q => asD x S fun d S1 => prep ms xs S1 idx fun as idx' S2 => Q (.d d :: as) idx' S2
  | true :: ms, .o k :: xs, S, idx, Q => prep ms xs S (idx ++ [k]) fun as idx' S2 => Q (.o idx.length :: as) idx' S2
  | _, _, _, _, _ => False
def putAll (S : Sm) : List Nat → List Mu → Sm
  | k :: ks, m :: ms => putAll (S.put k m) ks ms
  | _, _ => S
def retV (S : Sm) (idx : List Nat) (Q : Val → Sm → Prop) : Rt → Prop
  | .d x => Q (.d x) S
  | .arg j => match idx[j]? with
    | some k => Q (.o k) S
    | none => False
  | .new m => Q (.o S.κ.length) (S.new m)
def wCall (ms : List Bool) (F : FS) (ta : WA) : WE := fun S Q => ta S fun vs S1 => prep ms vs S1 [] fun as idx S2 => idx.Nodup ∧ match lives (idx.map (muAt S2)) with
  | none => False
  | some κs => F as κs fun r κ' => retV (putAll S2 idx κ') idx Q r

section
variable {C : Cfg} {ad : Nat → Addr} {S : Sm} {σ : L2.St} {H H' : Hp}
theorem put_get {S : Sm} {k j : Nat} {m : Mu} (hk : k < S.κ.length) : (S.put k m).κ[j]? = if k = j then some (some m) else S.κ[j]? := by
  show (S.κ.set k (some m))[j]? = _
  rw [List.getElem?_set]
  by_cases h : k = j
  · rw [if_pos h, if_pos h, if_pos hk]
  · rw [if_neg h, if_neg h]
/-- a row of own objects is changed -/
theorem putAll_spec : ∀ {idx : List Nat} {κ' : List Mu} {S : Sm}, idx.length = κ'.length → idx.Nodup → (∀ k ∈ idx, k < S.κ.length) →
    (putAll S idx κ').ε = S.ε ∧ (putAll S idx κ').n = S.n ∧ (putAll S idx κ').x = S.x ∧ (putAll S idx κ').κ.length = S.κ.length ∧ (∀ j, j ∉ idx → (putAll S idx κ').κ[j]? = S.κ[j]?) ∧ ∀ (i k : Nat), idx[i]? = some k → (putAll S idx κ').κ[k]? = (κ'[i]?).map some
  | [], [], S, _, _, _ => ⟨rfl, rfl, rfl, rfl, fun _ _ => rfl, fun i k h => by simp at h⟩
  | k :: ks, m :: ms, S, hl, nd, hlt => by
    have hl' : ks.length = ms.length := by simpa using hl
    obtain ⟨nk, nd'⟩ := List.nodup_cons.mp nd
    have lk : (S.put k m).κ.length = S.κ.length := List.length_set
    have hk : k < S.κ.length := hlt k List.mem_cons_self
    obtain ⟨h1, h2, h6, h3, h4, h5⟩ := putAll_spec (idx := ks) (κ' := ms) (S := S.put k m) hl' nd' fun j hj => by rw [lk]; exact hlt j (List.mem_cons_of_mem _ hj)
    refine ⟨h1, h2, h6, h3.trans lk, fun j hj => ?_, fun i j hi => ?_⟩
    · have hj2 : j ∉ ks := fun z => hj (List.mem_cons_of_mem _ z)
      refine (h4 j hj2).trans ?_
      rw [put_get hk, if_neg]
      exact fun z => hj (by rw [z]; exact List.mem_cons_self)
    · cases i with
      | zero =>
        have : k = j := by simpa using hi
        subst this
        refine (h4 k nk).trans ?_
        rw [put_get hk, if_pos rfl]
        rfl
      | succ i =>
        have hi' : ks[i]? = some j := by simpa using hi
        refine (h5 i j hi').trans ?_
        simp
  | [], _ :: _, _, h, _, _ => by simp at h
  | _ :: _, [], _, h, _, _ => by simp at h
theorem SR.called (s : SR C ad S σ H) {idx : List Nat} {κ' : List Mu} (hl : idx.length = κ'.length) (nd : idx.Nodup) (live : ∀ k ∈ idx, ∃ m, S.κ[k]? = some (some m))
    (fr : ∀ a o, H a = some o → (∀ k ∈ idx, ad k ≠ a) → H' a = some o) (ow : ∀ (i k : Nat) (m : Mu), idx[i]? = some k → κ'[i]? = some m → MuRep C.K H' (Pub C ad S.κ) (ad k) m) :
    SR C ad (putAll S idx κ') σ H' ∧ Stp C ad S.κ H ad (putAll S idx κ').κ H' := by
  have hlt : ∀ k ∈ idx, k < S.κ.length := fun k hk => by
    obtain ⟨m, hm⟩ := live k hk
    exact (List.getElem?_eq_some_iff.mp hm).1
  obtain ⟨e1, e2, e6, e3, e4, e5⟩ := putAll_spec hl nd hlt
  have lv : ∀ j m, (putAll S idx κ').κ[j]? = some (some m) → (j ∉ idx ∧ S.κ[j]? = some (some m)) ∨ ∃ i, idx[i]? = some j ∧ κ'[i]? = some m := fun j m h => by
    by_cases hj : j ∈ idx
    · obtain ⟨i, hi⟩ := List.getElem?_of_mem hj
      rw [e5 i j hi] at h
      cases q : κ'[i]? with
      | none => rw [q] at h; cases h
      | some m' => rw [q] at h; cases h; exact .inr ⟨i, hi, q⟩
    · rw [e4 j hj] at h
      exact .inl ⟨hj, h⟩
  have pubI : ∀ a, Pub C ad (putAll S idx κ').κ a ↔ Pub C ad S.κ a := fun a => by
    constructor
    · intro ⟨h1, h2⟩
      refine ⟨h1, fun j m h => ?_⟩
      by_cases hj : j ∈ idx
      · obtain ⟨i, hi⟩ := List.getElem?_of_mem hj
        have hi2 : i < κ'.length := by rw [← hl]; exact (List.getElem?_eq_some_iff.mp hi).1
        refine h2 j κ'[i] ?_
        rw [e5 i j hi, List.getElem?_eq_getElem hi2]
        rfl
      · exact h2 j m (by rw [e4 j hj]; exact h)
    · intro ⟨h1, h2⟩
      refine ⟨h1, fun j m h => ?_⟩
      rcases lv j m h with ⟨_, h⟩ | ⟨i, hi, _⟩
      · exact h2 j m h
      · obtain ⟨m', hm'⟩ := live j (List.mem_of_getElem? hi)
        exact h2 j m' hm'
  have ne : ∀ a, Pub C ad S.κ a → ∀ k ∈ idx, ad k ≠ a := fun a p k hk => by
    obtain ⟨m, hm⟩ := live k hk
    exact p.2 k m hm
  have st : Stp C ad S.κ H ad (putAll S idx κ').κ H' := ⟨fun a o p h => ⟨(pubI a).mpr p, fr a o h (ne a p)⟩, by rw [e3]; exact Nat.le_refl _, fun _ _ => rfl⟩
  refine ⟨⟨by rw [e1]; exact s.len, fun i v h nu => ?_, fun j m h => ?_, by rw [e3]; exact s.inj, by rw [e3]; exact s.nA, s.hA, fun a o h q => ?_, by rw [e3]; exact s.nw, by rw [e3]; exact s.bn, e2.trans s.nn, fun j hj => ?_, e6.trans s.xx, s.sb.trans st⟩, st⟩
  · rw [e1] at h
    obtain ⟨u, h1, h2⟩ := s.sl i v h nu
    exact ⟨u, h1, st.vr h2⟩
  · rcases lv j m h with ⟨hj, h⟩ | ⟨i, hi, hm⟩
    · obtain ⟨hj2, _⟩ := List.getElem?_eq_some_iff.mp h
      obtain ⟨o, ho⟩ := s.tr j hj2
      refine (s.ow j m h).stp st ?_
      rw [ho]
      exact fr _ _ ho fun k hk z => hj (by rw [← s.inj k j (hlt k hk) hj2 z]; exact hk)
    · exact (ow i j m hi hm).mono (fun a o p h => ⟨(pubI a).mpr p, h⟩) rfl
  · refine fr a o (s.fr a o h q) fun k hk z => ?_
    by_cases hn : k < C.n
    · exact q k hn z
    · have := s.nw k (Nat.le_of_not_lt hn) (hlt k hk)
      rw [z, h] at this
      cases this
  · rw [e3] at hj
    by_cases hm : j ∈ idx
    · obtain ⟨i, hi⟩ := List.getElem?_of_mem hm
      have hi2 : i < κ'.length := by rw [← hl]; exact (List.getElem?_eq_some_iff.mp hi).1
      exact (ow i j _ hi (List.getElem?_eq_getElem hi2)).there
    · obtain ⟨o, ho⟩ := s.tr j hj
      exact ⟨o, fr _ _ ho fun k hk z => hm (by rw [← s.inj k j (hlt k hk) hj z]; exact hk)⟩
theorem putAll_new : ∀ {idx : List Nat} {κ' : List Mu} {S : Sm} {m m0 : Mu}, idx.length = κ'.length → (∀ k ∈ idx, k < S.κ.length) → putAll (S.new m0) (idx ++ [S.κ.length]) (κ' ++ [m]) = (putAll S idx κ').new m
  | [], [], S, m, m0, _, _ => by
    show (S.new m0).put S.κ.length m = S.new m
    unfold Sm.put Sm.new
    simp
  | k :: ks, a :: as, S, m, m0, hl, hlt => by
    have lk : (S.put k a).κ.length = S.κ.length := List.length_set
    have hk : k < S.κ.length := hlt k List.mem_cons_self
    have e : (S.new m0).put k a = (S.put k a).new m0 := by
      unfold Sm.put Sm.new
      simp only
      congr 1
      rw [List.set_append_left _ _ hk]
    show putAll ((S.new m0).put k a) (ks ++ [S.κ.length]) (as ++ [m]) = (putAll (S.put k a) ks as).new m
    rw [e, ← lk]
    exact putAll_new (by simpa using hl) fun j hj => by rw [lk]; exact hlt j (List.mem_cons_of_mem _ hj)
  | [], _ :: _, _, _, _, h, _ => by simp at h
  | _ :: _, [], _, _, _, h, _ => by simp at h

/-- the arguments are laid out for the callee -/
inductive Prepd (C : Cfg) (ad : Nat → Addr) (κ : List (Option Mu)) (H : Hp) (b : Nat → Addr) (n : Nat) : List V → List Val → Prop
  | nil : Prepd C ad κ H b n [] []
  | d {u : V} {us : List V} {x : D} {vs : List Val} : Rep C.K H (Pub C ad κ) u x → Prepd C ad κ H b n us vs → Prepd C ad κ H b n (u :: us) (.d x :: vs)
  | o {us : List V} {j : Nat} {vs : List Val} : j < n → Prepd C ad κ H b n us vs → Prepd C ad κ H b n (.ref (b j) :: us) (.o j :: vs)
theorem prep_of : ∀ {ms : List Bool} {xs : List Val} {us : List V} {S : Sm} {idx : List Nat} {Q : List Val → List Nat → Sm → Prop}, SR C ad S σ H → VRL C ad S.κ H us xs → prep ms xs S idx Q →
    ∃ as more S', Q as (idx ++ more) S' ∧ SR C ad S' σ H ∧ Stp C ad S.κ H ad S'.κ H ∧ ∀ rest, Prepd C ad S'.κ H (fun j => ad ((idx ++ more ++ rest).getD j 0)) (idx ++ more ++ rest).length us as
  | [], [], _, S, idx, Q, s, .nil, h => ⟨[], [], S, by rw [List.append_nil]; exact h, s, Stp.refl, fun _ => .nil⟩
  | false :: ms, x :: xs, _, S, idx, Q, s, .cons r t, h => by
    obtain ⟨d, S1, h1, s1, st1, r1⟩ := asD_of s r h
    obtain ⟨as, more, S2, h2, s2, st2, p2⟩ := prep_of s1 (VRL.stp st1 t) h1
    exact ⟨_, more, S2, h2, s2, st1.trans st2, fun rest => .d (st2.rep r1) (p2 rest)⟩
  | true :: ms, .o k :: xs, _, S, idx, Q, s, .cons r t, h => by
    obtain ⟨as, more, S2, h2, s2, st2, p2⟩ := prep_of (idx := idx ++ [k]) s t h
    refine ⟨_, k :: more, S2, by rw [List.append_assoc] at h2; exact h2, s2, st2, fun rest => ?_⟩
    have e : idx ++ k :: more = idx ++ [k] ++ more := by simp
    rw [e]
    obtain ⟨hk, hu⟩ := r
    have g : (idx ++ [k] ++ more ++ rest).getD idx.length 0 = k := by
      rw [List.getD_eq_getElem?_getD, List.append_assoc, List.append_assoc, List.getElem?_append_right (Nat.le_refl _), Nat.sub_self]
      rfl
    have := Prepd.o (C := C) (ad := ad) (κ := S2.κ) (H := H) (b := fun j => ad ((idx ++ [k] ++ more ++ rest).getD j 0)) (j := idx.length) (n := (idx ++ [k] ++ more ++ rest).length) (by simp only [List.length_append, List.length_singleton]; omega) (p2 rest)
    simp only [g] at this
    rw [hu]
    exact this
  | [], _ :: _, _, _, _, _, _, _, h => h.elim
  | false :: _, [], _, _, _, _, _, _, h => h.elim
  | true :: _, [], _, _, _, _, _, _, h => h.elim
  | true :: _, .un :: _, _, _, _, _, _, _, h => h.elim
  | true :: _, .d _ :: _, _, _, _, _, _, _, h => h.elim
theorem lives_map {S : Sm} : ∀ {idx : List Nat} {κs : List Mu}, lives (idx.map (muAt S)) = some κs → κs.length = idx.length ∧ ∀ (i k : Nat), idx[i]? = some k → ∃ m, κs[i]? = some m ∧ S.κ[k]? = some (some m) := fun {idx κs} h => by
  have e := lives_eq h
  have l : κs.length = idx.length := by have := congrArg List.length e; simpa using this.symm
  refine ⟨l, fun i k hi => ?_⟩
  have h1 : (idx.map (muAt S))[i]? = (κs.map some)[i]? := by rw [e]
  rw [List.getElem?_map, List.getElem?_map, hi] at h1
  cases q : κs[i]? with
  | none => rw [q] at h1; cases h1
  | some m =>
    rw [q] at h1
    have h2 : muAt S k = some m := Option.some.inj h1
    exact ⟨m, rfl, muAt_some h2⟩
/-- THE CALL: what the callee is promised follows from the caller's state -/
theorem call_core {Q : VK} {R : Val → Sm → Prop} {idx : List Nat} {κs : List Mu} {as : List Val} {us : List V} (s : SR C ad S σ H) (nd : idx.Nodup) (lv : lives (idx.map (muAt S)) = some κs)
    (pr : Prepd C ad S.κ H (fun j => ad (idx.getD j 0)) idx.length us as) (q : Post C ad S.κ H σ R Q) : ∃ (A : Addr → Prop) (b : Nat → Addr),
      SR (cfg0 C.K A b κs H) b ⟨as, κs.map some, κs.length, noX⟩ (us.map some) H ∧ (∀ r κ' u H', retV (putAll S idx κ') idx R r → CallOut C.K A b H κs.length r κ' u H' → Q u H') ∧
      ∀ κ' H', CallOut C.K A b H κs.length (.d .non) κ' .non H' → SR C ad (putAll S idx κ') σ H' ∧ Stp C ad S.κ H ad (putAll S idx κ').κ H' ∧ ∀ a o, OutP A b κs.length (.d .non) .non a → H' a = some o → Pub C ad (putAll S idx κ').κ a ∧ H' a = some o := by
  obtain ⟨l1, lm⟩ := lives_map lv
  let b : Nat → Addr := fun j => ad (idx.getD j 0)
  have bj : ∀ j k, idx[j]? = some k → b j = ad k := fun j k hj => by
    show ad (idx.getD j 0) = ad k
    rw [List.getD_eq_getElem?_getD, hj]
    rfl
  have ix : ∀ j, j < idx.length → ∃ k, idx[j]? = some k := fun j hj => ⟨_, List.getElem?_eq_getElem hj⟩
  let A : Addr → Prop := fun a => C.A a ∨ ∃ k m, S.κ[k]? = some (some m) ∧ k ∉ idx ∧ ad k = a
  have hlt : ∀ k ∈ idx, k < S.κ.length := fun k hk => by
    obtain ⟨i, hi⟩ := List.getElem?_of_mem hk
    obtain ⟨m, _, hm⟩ := lm i k hi
    exact (List.getElem?_eq_some_iff.mp hm).1
  have live : ∀ k ∈ idx, ∃ m, S.κ[k]? = some (some m) := fun k hk => by
    obtain ⟨i, hi⟩ := List.getElem?_of_mem hk
    obtain ⟨m, _, hm⟩ := lm i k hi
    exact ⟨m, hm⟩
  have bn : ∀ j, j < idx.length → ¬ A (b j) := fun j hj z => by
    obtain ⟨k, hk⟩ := ix j hj
    have kl := hlt k (List.mem_of_getElem? hk)
    rw [bj j k hk] at z
    rcases z with z | ⟨k2, m, h1, h2, h3⟩
    · exact s.nA k kl z
    · exact h2 (by rw [s.inj k2 k (List.getElem?_eq_some_iff.mp h1).1 kl h3]; exact List.mem_of_getElem? hk)
  have pub1 : ∀ a, Pub C ad S.κ a → ¬ A a ∧ ∀ j, j < idx.length → b j ≠ a := fun a p => by
    refine ⟨fun z => ?_, fun j hj => ?_⟩
    · rcases z with z | ⟨k, m, h1, h2, h3⟩
      · exact p.1 z
      · exact p.2 k m h1 h3
    · obtain ⟨k, hk⟩ := ix j hj
      obtain ⟨m, hm⟩ := live k (List.mem_of_getElem? hk)
      rw [bj j k hk]
      exact p.2 k m hm
  have pub2 : ∀ a, ¬ A a → (∀ j, j < idx.length → b j ≠ a) → Pub C ad S.κ a := fun a h1 h2 => by
    refine ⟨fun z => h1 (.inl z), fun k m hm z => ?_⟩
    by_cases hk : k ∈ idx
    · obtain ⟨i, hi⟩ := List.getElem?_of_mem hk
      exact h2 i (List.getElem?_eq_some_iff.mp hi).1 ((bj i k hi).trans z)
    · exact h1 (.inr ⟨k, m, hm, hk, z⟩)
  let C2 : Cfg := cfg0 C.K A b κs H
  have toPub : ∀ a, Pub C ad S.κ a → Pub C2 b (κs.map some) a := fun a p => by
    obtain ⟨h1, h2⟩ := pub1 a p
    refine ⟨h1, fun j m hm => h2 j ?_⟩
    have := (List.getElem?_eq_some_iff.mp hm).1
    rw [List.length_map, l1] at this
    exact this
  have argsOk : ∀ {us : List V} {as : List Val}, Prepd C ad S.κ H b idx.length us as → us.length = as.length ∧ ∀ (i : Nat) v, as[i]? = some v → v ≠ .un → ∃ u, (us.map some)[i]? = some (some u) ∧ VR C2 b (κs.map some) H u v := by
    intro us as pr
    induction pr with
    | nil => exact ⟨rfl, fun i v h _ => by simp at h⟩
    | d r t ih =>
      refine ⟨by rw [List.length_cons, List.length_cons, ih.1], fun i v h nu => ?_⟩
      cases i with
      | zero =>
        rw [List.getElem?_cons_zero] at h
        cases h
        exact ⟨_, by simp, r.mono fun a o p e => ⟨toPub a p, e⟩⟩
      | succ i =>
        obtain ⟨u, h1, h2⟩ := ih.2 i v (by simpa using h) nu
        exact ⟨u, by simpa using h1, h2⟩
    | o hj t ih =>
      refine ⟨by rw [List.length_cons, List.length_cons, ih.1], fun i v h nu => ?_⟩
      cases i with
      | zero =>
        rw [List.getElem?_cons_zero] at h
        cases h
        exact ⟨_, by simp, by rw [List.length_map, l1]; exact hj, rfl⟩
      | succ i =>
        obtain ⟨u, h1, h2⟩ := ih.2 i v (by simpa using h) nu
        exact ⟨u, by simpa using h1, h2⟩
  obtain ⟨la, lb⟩ := argsOk pr
  have getκ : ∀ k m, (κs.map some)[k]? = some (some m) → ∃ j, idx[k]? = some j ∧ S.κ[j]? = some (some m) := fun k m hm => by
    have hk := (List.getElem?_eq_some_iff.mp hm).1
    rw [List.length_map, l1] at hk
    obtain ⟨j, hj⟩ := ix k hk
    obtain ⟨m', h1, h2⟩ := lm k j hj
    rw [List.getElem?_map, h1] at hm
    cases hm
    exact ⟨j, hj, h2⟩
  have injI : ∀ j k, j < idx.length → k < idx.length → b j = b k → j = k := fun j k hj hk z => by
    obtain ⟨x, hx⟩ := ix j hj
    obtain ⟨y, hy⟩ := ix k hk
    rw [bj j x hx, bj k y hy] at z
    have := s.inj x y (hlt x (List.mem_of_getElem? hx)) (hlt y (List.mem_of_getElem? hy)) z
    subst this
    exact (List.getElem?_inj hj nd).mp (hx.trans hy.symm)
  have ll : (κs.map some).length = idx.length := by rw [List.length_map, l1]
  have sr : SR C2 b ⟨as, κs.map some, κs.length, noX⟩ (us.map some) H := by
    refine ⟨by rw [List.length_map]; exact la, lb, fun k m hm => ?_, ?_, ?_, fun a z => ?_, fun a o h _ => h, fun k h1 hk => ?_, ?_, rfl, fun k hk => ?_, rfl, Stp.refl⟩
    · obtain ⟨j, hj, h2⟩ := getκ k m hm
      rw [bj k j hj]
      exact (s.ow j m h2).mono (fun a o p e => ⟨toPub a p, e⟩) rfl
    · intro j k hj hk z
      rw [ll] at hj hk
      exact injI j k hj hk z
    · intro k hk
      rw [ll] at hk
      exact bn k hk
    · rcases z with z | ⟨k, m, h1, h2, h3⟩
      · obtain ⟨o, ho⟩ := s.hA a z
        refine ⟨o, s.fr a o ho fun k hk z2 => ?_⟩
        exact s.nA k (Nat.lt_of_lt_of_le hk s.bn) (by rw [z2]; exact z)
      · rw [← h3]
        exact s.tr k (List.getElem?_eq_some_iff.mp h1).1
    · rw [ll] at hk
      have h1' : κs.length ≤ k := h1
      omega
    · show κs.length ≤ (κs.map some).length
      rw [List.length_map]; exact Nat.le_refl _
    · rw [ll] at hk
      obtain ⟨x, hx⟩ := ix k hk
      rw [bj k x hx]
      exact s.tr x (hlt x (List.mem_of_getElem? hx))
  have exc : ∀ κ' H', CallOut C.K A b H κs.length (.d .non) κ' .non H' → SR C ad (putAll S idx κ') σ H' ∧ Stp C ad S.κ H ad (putAll S idx κ').κ H' ∧ ∀ a o, OutP A b κs.length (.d .non) .non a → H' a = some o → Pub C ad (putAll S idx κ').κ a ∧ H' a = some o := fun κ' H' co => by
    have kl : idx.length = κ'.length := by rw [co.len, l1]
    have fr : ∀ a o, H a = some o → (∀ k ∈ idx, ad k ≠ a) → H' a = some o := fun a o ha hk => co.fr a o ha fun j hj => by
      rw [l1] at hj
      obtain ⟨k, hk2⟩ := ix j hj
      rw [bj j k hk2]
      exact hk k (List.mem_of_getElem? hk2)
    have outPub : ∀ a o, OutP A b κs.length (.d .non) .non a → H' a = some o → Pub C ad S.κ a ∧ H' a = some o := fun a o p e => ⟨pub2 a p.1 (by rw [← l1]; exact p.2.1), e⟩
    obtain ⟨s2, st2⟩ := s.called kl nd live fr fun i k m hi hm => by
      have := (co.ow i m hm).mono outPub rfl
      rw [bj i k hi] at this
      exact this
    refine ⟨s2, st2, fun a o z e => ?_⟩
    obtain ⟨p, _⟩ := outPub a o z e
    refine ⟨⟨p.1, fun j m hm => ?_⟩, e⟩
    obtain ⟨_, _, _, _, e4, _⟩ := putAll_spec kl nd hlt
    by_cases hj : j ∈ idx
    · obtain ⟨m', hm'⟩ := live j hj
      exact p.2 j m' hm'
    · rw [e4 j hj] at hm
      exact p.2 j m hm
  refine ⟨A, b, sr, fun r κ' u H' hr co => ?_, exc⟩
  have kl : idx.length = κ'.length := by rw [co.len, l1]
  have fr : ∀ a o, H a = some o → (∀ k ∈ idx, ad k ≠ a) → H' a = some o := fun a o ha hk => co.fr a o ha fun j hj => by
    rw [l1] at hj
    obtain ⟨k, hk2⟩ := ix j hj
    rw [bj j k hk2]
    exact hk k (List.mem_of_getElem? hk2)
  have outPub : ∀ a o, OutP A b κs.length r u a → H' a = some o → Pub C ad S.κ a ∧ H' a = some o := fun a o p e => ⟨pub2 a p.1 (by rw [← l1]; exact p.2.1), e⟩
  cases r with
  | d x =>
    obtain ⟨s2, st2⟩ := s.called kl nd live fr fun i k m hi hm => by
      have := (co.ow i m hm).mono outPub rfl
      rw [bj i k hi] at this
      exact this
    have hx : Rep C.K H' (OutP A b κs.length (.d x) u) u x := co.res
    refine q _ _ ad u H' hr s2 st2 ?_
    have r1 : Rep C.K H' (Pub C ad S.κ) u x := hx.mono outPub
    refine r1.mono fun a o p e => ⟨?_, e⟩
    -- Pub of the new store
    refine ⟨p.1, fun j m hm => ?_⟩
    obtain ⟨_, _, _, _, e4, e5⟩ := putAll_spec kl nd hlt
    by_cases hj : j ∈ idx
    · obtain ⟨m', hm'⟩ := live j hj
      exact p.2 j m' hm'
    · rw [e4 j hj] at hm
      exact p.2 j m hm
  | arg j =>
    obtain ⟨s2, st2⟩ := s.called kl nd live fr fun i k m hi hm => by
      have := (co.ow i m hm).mono outPub rfl
      rw [bj i k hi] at this
      exact this
    obtain ⟨hj, hu⟩ : j < κs.length ∧ u = .ref (b j) := co.res
    rw [l1] at hj
    obtain ⟨k, hk⟩ := ix j hj
    have hr' : R (.o k) (putAll S idx κ') := by
      have : retV (putAll S idx κ') idx R (.arg j) := hr
      simpa only [retV, hk] using this
    refine q _ _ ad u H' hr' s2 st2 ⟨?_, by rw [hu, bj j k hk]⟩
    obtain ⟨_, _, _, e3, _, _⟩ := putAll_spec kl nd hlt
    rw [e3]
    exact hlt k (List.mem_of_getElem? hk)
  | new m =>
    obtain ⟨p, hu, hp, hm⟩ : ∃ p, u = .ref p ∧ H p = none ∧ MuRep C.K H' (OutP A b κs.length (.new m) u) p m := co.res
    have sm := same_upd (o := .lst []) hp
    obtain ⟨s1, st1⟩ := s.alloc (m := .lst []) sm hp ⟨_, upd_same⟩ fun P' hP => ⟨[], upd_same, .nil⟩
    have adk : ∀ k, k < S.κ.length → setAd ad S.κ.length p k = ad k := fun k hk => by unfold setAd; rw [if_neg (Nat.ne_of_lt hk)]
    have adn : setAd ad S.κ.length p S.κ.length = p := by unfold setAd; rw [if_pos rfl]
    have nin : S.κ.length ∉ idx := fun z => Nat.lt_irrefl _ (hlt _ z)
    have outP : ∀ a o, OutP A b κs.length (.new m) u a → H' a = some o → Pub C (setAd ad S.κ.length p) (S.new (.lst [])).κ a ∧ H' a = some o := fun a o z e => by
      refine ⟨⟨fun y => z.1 (.inl y), fun j m' hj => ?_⟩, e⟩
      have hj' : (S.κ ++ [some (Mu.lst [])])[j]? = some (some m') := hj
      by_cases hl : j < S.κ.length
      · rw [List.getElem?_append_left hl] at hj'
        rw [adk j hl]
        exact (pub2 a z.1 (by rw [← l1]; exact z.2.1)).2 j m' hj'
      · have hj2 := (List.getElem?_eq_some_iff.mp hj').1
        rw [List.length_append, List.length_singleton] at hj2
        obtain rfl : j = S.κ.length := by omega
        rw [adn]
        exact fun y => z.2.2 m rfl (by rw [hu, y])
    obtain ⟨s2, st2⟩ := s1.called (idx := idx ++ [S.κ.length]) (κ' := κ' ++ [m]) (H' := H') (by rw [List.length_append, List.length_append, kl]; rfl)
      (by
        rw [List.nodup_append]
        refine ⟨nd, by simp, fun x hx y hy z => ?_⟩
        have : y = S.κ.length := by simpa using hy
        rw [z, this] at hx
        exact nin hx)
      (fun k hk => by
        rcases List.mem_append.mp hk with hk | hk
        · obtain ⟨m', hm'⟩ := live k hk
          exact ⟨m', by show (S.κ ++ [_])[k]? = _; rw [List.getElem?_append_left (hlt k hk)]; exact hm'⟩
        · have : k = S.κ.length := by simpa using hk
          subst this
          exact ⟨.lst [], by show (S.κ ++ [_])[S.κ.length]? = _; rw [List.getElem?_append_right (Nat.le_refl _), Nat.sub_self]; rfl⟩)
      (fun a o ha hk => by
        have hap : a ≠ p := fun z => hk S.κ.length (by simp) (by rw [adn, z])
        rw [upd_ne hap] at ha
        exact fr a o ha fun k hk2 => by
          rw [← adk k (hlt k hk2)]
          exact hk k (List.mem_append_left _ hk2))
      (fun i k m' hi hm' => by
        by_cases hil : i < idx.length
        · rw [List.getElem?_append_left hil] at hi
          rw [List.getElem?_append_left (by rw [← kl]; exact hil)] at hm'
          have := (co.ow i m' hm').mono outP rfl
          rw [bj i k hi, ← adk k (hlt k (List.mem_of_getElem? hi))] at this
          exact this
        · have hi2 := (List.getElem?_eq_some_iff.mp hi).1
          rw [List.length_append, List.length_singleton] at hi2
          obtain rfl : i = idx.length := by omega
          rw [List.getElem?_append_right (Nat.le_refl _), Nat.sub_self] at hi
          rw [List.getElem?_append_right (by rw [kl]; exact Nat.le_refl _), kl, Nat.sub_self] at hm'
          have ek : k = S.κ.length := (Option.some.inj hi).symm
          have em : m' = m := (Option.some.inj hm').symm
          subst ek
          subst em
          rw [adn]
          exact hm.mono outP rfl)
    rw [putAll_new kl hlt] at s2 st2
    have e3 : (putAll S idx κ').κ.length = S.κ.length := (putAll_spec kl nd hlt).2.2.2.1
    have hr' : R (.o (putAll S idx κ').κ.length) ((putAll S idx κ').new m) := hr
    refine q _ _ _ u H' hr' s2 (st1.trans st2) ⟨?_, ?_⟩
    · show _ < ((putAll S idx κ').κ ++ [some m]).length
      rw [List.length_append]; simp
    · rw [e3, adn, hu]
theorem call_step {F : FS} {Q : VK} {E : XK} {R : Val → Sm → Prop} {idx : List Nat} {κs : List Mu} {as : List Val} {us : List V} (s : SR C ad S σ H) (nd : idx.Nodup) (lv : lives (idx.map (muAt S)) = some κs)
    (pr : Prepd C ad S.κ H (fun j => ad (idx.getD j 0)) idx.length us as) (h : F as κs fun r κ' => retV (putAll S idx κ') idx R r) (q : Post C ad S.κ H σ R Q) : spOf C.K F us H Q E := by
  obtain ⟨A, b, sr, h1, _⟩ := call_core s nd lv pr q
  exact ⟨A, b, as, κs, _, sr, h, h1⟩
end
section
variable {X : Cx} {Vw : Wsh} {e : Expr} {ta : WA} {p pos : Pos}
/-- f(e, ..), f a def of the text -/
theorem m_call {k : Nat} {f : Addr} {fd : FuncData} {ps : List Str} {F : FS} {x : Str} {es : List Expr} (ms : List Bool) (G : FnOk X.prog X.w X.K X.mg X.base CX0 k f fd ps (spOf X.K F)) (hr : Room k X.A) (hg : Gl X x) (hm : X.mg x = some (.ref f)) (hk : PySem.W.keepIn X.K (.ref f) = true)
    (hb : Binds X.K fd ps []) (ha : MA X Vw (e :: es) ta) (hdb : (x == ("__debug__" : Str)) = false := by decide) (he : starEach (e :: es) X.env = (false, eval e X.env) :: starEach es X.env := by rfl) (hpl : (backTo pos (starEach es X.env)).any (·.1) = false := by rfl) :
    ME X Vw (.Call (.Name x p) (e :: es) [] pos) (wCall ms F ta) := by
  refine ⟨PE.weak (pe_call G hr hg hm hk hb .nil pass0 ha.pa hdb he hpl) fun σ H Q h => liftA1 h fun C ad S xs us H1 R hK s rs t q => ?_⟩
  obtain ⟨as, more, S2, ⟨nd, t2⟩, s2, st2, pr⟩ := prep_of s rs t
  rw [List.nil_append] at nd t2
  have pr := pr []
  rw [List.nil_append, List.append_nil] at pr
  split at t2
  · exact t2.elim
  · rename_i κs lv
    rw [List.append_nil, ← hK.k]
    exact call_step s2 nd lv pr t2 (q.step st2)
end
end MP

/-! MP: list comprehensions, methods of own lists -/
namespace MP
open PySem PySem.Spec PyProof.Rows L2

theorem wipe_get (σ : L2.St) : ∀ (vs : List Nat) (j : Nat), (wipe σ vs)[j]? = if j ∈ vs then (if j < σ.length then some none else none) else σ[j]?
  | [], j => by simp [wipe]
  | v :: vs, j => by
    unfold wipe
    rw [List.getElem?_set, wipe_length, wipe_get σ vs j]
    by_cases h : v = j
    · subst h
      simp
    · rw [if_neg h]
      have : (j ∈ v :: vs) ↔ j ∈ vs := by
        rw [List.mem_cons]
        exact ⟨fun z => z.elim (fun e => absurd e.symm h) id, .inr⟩
      by_cases hj : j ∈ vs
      · rw [if_pos hj, if_pos (this.mpr hj)]
      · rw [if_neg hj, if_neg fun z => hj (this.mp z)]
theorem wipe_set {σ : L2.St} {vs : List Nat} {i : Nat} {x : Option V} (h : i ∈ vs) : wipe (σ.set i x) vs = wipe σ vs := by
  apply List.ext_getElem?
  intro j
  rw [wipe_get, wipe_get, List.length_set]
  by_cases hj : j ∈ vs
  · rw [if_pos hj, if_pos hj]
  · rw [if_neg hj, if_neg hj, List.getElem?_set_ne]
    exact fun z => hj (z ▸ h)
theorem wipe_wipe {σ : L2.St} {vs : List Nat} : wipe (wipe σ vs) vs = wipe σ vs := by
  apply List.ext_getElem?
  intro j
  rw [wipe_get, wipe_length]
  by_cases hj : j ∈ vs
  · rw [if_pos hj, wipe_get, if_pos hj]
  · rw [if_neg hj]
def wipeE (ε : List Val) : List Nat → List Val
  | [] => ε
  | v :: vs => (wipeE ε vs).set v .un
def wipeS (S : Sm) (vs : List Nat) : Sm := { S with ε := wipeE S.ε vs }
theorem wipeE_length (ε : List Val) : ∀ vs, (wipeE ε vs).length = ε.length
  | [] => rfl
  | v :: vs => by unfold wipeE; rw [List.length_set, wipeE_length ε vs]
theorem wipeE_get {ε : List Val} {j : Nat} {x : Val} (nu : x ≠ .un) : ∀ {vs : List Nat}, (wipeE ε vs)[j]? = some x → ε[j]? = some x ∧ j ∉ vs
  | [], h => ⟨h, by simp⟩
  | v :: vs, h => by
    unfold wipeE at h
    rw [List.getElem?_set] at h
    by_cases hv : v = j
    · rw [if_pos hv] at h
      split at h
      · exact absurd (Option.some.inj h).symm nu
      · cases h
    · rw [if_neg hv] at h
      obtain ⟨h1, h2⟩ := wipeE_get nu h
      exact ⟨h1, by rw [List.mem_cons, not_or]; exact ⟨fun z => hv z.symm, h2⟩⟩
section
variable {C : Cfg} {ad : Nat → Addr} {S : Sm} {σ σ2 : L2.St} {H : Hp} {vs : List Nat}
theorem SR.slots (s : SR C ad S σ H) {ε : List Val} {σ' : L2.St} (hl : σ'.length = ε.length) (h : ∀ (i : Nat) (v : Val), ε[i]? = some v → v ≠ .un → ∃ u, σ'[i]? = some (some u) ∧ VR C ad S.κ H u v) : SR C ad { S with ε := ε } σ' H :=
  ⟨hl, h, s.ow, s.inj, s.nA, s.hA, s.fr, s.nw, s.bn, s.nn, s.tr, s.xx, s.sb⟩
theorem SR.wipeS (s : SR C ad S σ H) (hw : L2.wipe σ2 vs = L2.wipe σ vs) : SR C ad (MP.wipeS S vs) σ2 H := by
  have hl : σ2.length = σ.length := by
    have := congrArg List.length hw
    rwa [wipe_length, wipe_length] at this
  refine s.slots (by rw [wipeE_length, hl]; exact s.len) fun i v e nu => ?_
  obtain ⟨h1, h2⟩ := wipeE_get nu e
  obtain ⟨u, h3, h4⟩ := s.sl i v h1 nu
  refine ⟨u, ?_, h4⟩
  have g1 := wipe_get σ vs i
  have g2 := wipe_get σ2 vs i
  rw [if_neg h2] at g1 g2
  rw [← g2, hw, g1]
  exact h3
end
/-- a target within a comprehension's block -/
def CG (K : PySem.W.Frag) (g : TG) (w : WG) (vs : List Nat) : Prop := ∀ (C : Cfg) (ad : Nat → Addr) (S : Sm) (σ : L2.St) (H : Hp) (u : V) (x : Val) (R : Sm → Prop) (Q : L2.St → Hp → Prop), C.K = K → SR C ad S σ H → VR C ad S.κ H u x → w x S R →
  (∀ S' σ', R S' → SR C ad S' σ' H → S'.κ = S.κ → wipe σ' vs = wipe σ vs → Q σ' H) → g u σ H Q
theorem cg_name {K : PySem.W.Frag} {i : Nat} {vs : List Nat} (h : i ∈ vs) : CG K (gName i) (wgName i) vs := fun C ad S σ H u x R Q hK s r t q => q _ _ t (s.setS r i) rfl (wipe_set h)
theorem cg_tup2 {K : PySem.W.Frag} {i j : Nat} {vs : List Nat} (hi : i ∈ vs) (hj : j ∈ vs) : CG K (gTup K 2 (gCons (gName i) (gCons (gName j) gNil))) (wgTup 2 (wgCons (wgName i) (wgCons (wgName j) wgNil))) vs := by
  intro C ad S σ H u x R Q hK s r t q
  unfold wgTup at t
  split at t
  · rename_i xs
    obtain ⟨p, ws, rfl, h1, h2⟩ := VR.tup r
    obtain ⟨t1, t2⟩ := t
    rw [hK] at h1
    cases h2 with
    | nil => simp at t1
    | cons r1 h2 =>
      cases h2 with
      | nil => simp at t1
      | cons r2 h2 =>
        cases h2 with
        | cons _ _ => simp at t1
        | nil =>
          refine ⟨p, _, rfl, h1, rfl, _, _, rfl, _, _, rfl, rfl, q _ _ t2 ((s.setS (v := .d _) r1 i).setS (v := .d _) (S := setε S i _) r2 j) rfl ?_⟩
          rw [wipe_set hj, wipe_set hi]
  · exact t.elim
def wLc (wi : WI) (g : WG) (tt : WT) (te : WE) (vs : List Nat) : WE := fun S Q => wi S fun r S1 => ∃ W : Nat → Sm → Prop, W 0 (S1.new (.lst [])) ∧ (∀ i S, W i S → r.keep S) ∧
  (∀ i x S, r.items[i]? = some x → W i S → g (.d x) (wipeS S vs) fun S2 => tt S2 fun b S3 => if b = true then te S3 fun y S4 => asD y S4 fun d S5 => match muAt S5 S1.κ.length with
    | some (.lst acc) => acc.length < sizeLine ∧ W (i + 1) (wipeS (S5.put S1.κ.length (.lst (acc ++ [d]))) vs)
    | none => False
    else W (i + 1) (wipeS S3 vs)) ∧ ∀ S, W r.items.length S → Q (.o S1.κ.length) S
theorem lc_lift {K : PySem.W.Frag} {Vw : Wsh} {wi : WI} {g : TG} {wg : WG} {tt : WT} {te : WE} {vs : List Nat} (hg : CG K g wg vs) (σ : L2.St) (H : Hp) (Q : VK) (h : lift K Vw (wLc wi wg tt te vs) σ H Q) : tLc (liftI K Vw wi) g (liftT K Vw tt) (lift K Vw te) vs σ H Q := by
  obtain ⟨C, ad, S, R, hK, s, t, q⟩ := h
  refine ⟨C, ad, S, _, hK, s, t, fun r S1 ad1 H1 J ⟨W, w0, keep, turn, fin⟩ s1 st1 ok => fun D hD => ?_⟩
  have sm := same_upd (o := .lst []) hD
  obtain ⟨s2, st2⟩ := s1.alloc (m := .lst []) sm hD ⟨_, upd_same⟩ fun P' hP => ⟨[], upd_same, .nil⟩
  have adn : setAd ad1 S1.κ.length D S1.κ.length = D := by unfold setAd; rw [if_pos rfl]
  have ln : S1.κ.length < (S1.new (.lst [])).κ.length := by show _ < (S1.κ ++ [_]).length; rw [List.length_append]; simp
  refine ⟨fun i m H' => m + i = r.items.length ∧ ∃ ad' S', SR C ad' S' σ H' ∧ Stp C (setAd ad1 S1.κ.length D) (S1.new (.lst [])).κ (upd H1 D (.lst [])) ad' S'.κ H' ∧ W i S', ⟨r.items.length, rfl, _, _, s2, Stp.refl, w0⟩, ?_⟩
  rintro i m H3 ⟨em, ad3, S3, s3, st3, w3⟩
  obtain ⟨stop, go⟩ := ok ad3 S3 σ H3 s3 (st2.trans st3) (keep i S3 w3)
  have adD : ad3 S1.κ.length = D := (st3.ads _ ln).trans adn
  by_cases hm : m = 0
  · have ei : i = r.items.length := by omega
    subst ei
    exact .inl ⟨stop, q (.o S1.κ.length) S3 ad3 (.ref D) H3 (fin S3 w3) s3 ((st1.trans st2).trans st3) ⟨Nat.lt_of_lt_of_le ln st3.len, by rw [adD]⟩⟩
  · have hi : i < r.items.length := by omega
    obtain ⟨g1, g2⟩ := go i _ (List.getElem?_eq_getElem hi)
    refine .inr ⟨g1, fun H' => ∃ ad' S', SR C ad' S' σ H' ∧ Stp C (setAd ad1 S1.κ.length D) (S1.new (.lst [])).κ (upd H1 D (.lst [])) ad' S'.κ H' ∧ W (i + 1) S', fun H' ⟨ad', S', a, b, c⟩ => ⟨m - 1, by omega, by omega, ad', S', a, b, c⟩, fun x H4 y => ?_⟩
    obtain ⟨same, rx⟩ := g2 x H4 y
    obtain ⟨s4, st4⟩ := s3.grow same
    have s5 : SR C ad3 (wipeS S3 vs) (wipe σ vs) H4 := s4.wipeS wipe_wipe
    refine hg C ad3 (wipeS S3 vs) (wipe σ vs) H4 x (.d _) _ _ hK.k s5 rx (turn i _ S3 (List.getElem?_eq_getElem hi) w3) fun S6 σ6 t6 s6 ek ew => ?_
    have ew' : wipe σ6 vs = wipe σ vs := by rw [ew, wipe_wipe]
    refine ⟨ew', C, ad3, S6, _, hK, s6, t6, fun b S7 ad7 H7 t7 s7 st7 => ?_⟩
    rw [ek] at st7
    have st7' : Stp C (setAd ad1 S1.κ.length D) (S1.new (.lst [])).κ (upd H1 D (.lst [])) ad7 S7.κ H7 := (st3.trans st4).trans st7
    cases b with
    | false =>
      rw [if_neg Bool.false_ne_true] at t7 ⊢
      exact ⟨ad7, _, s7.wipeS ew'.symm, st7', t7⟩
    | true =>
      rw [if_pos rfl] at t7 ⊢
      refine ⟨C, ad7, S7, _, hK, s7, t7, fun v S8 ad8 u H8 t8 s8 st8 r8 => ?_⟩
      obtain ⟨d, S9, t9, s9, st9, r9⟩ := asD_of s8 r8 t8
      split at t9
      · rename_i acc e
        have e' := muAt_some e
        have st9' := (st7'.trans st8).trans st9
        have adD9 : ad8 S1.κ.length = D := (st9'.ads _ ln).trans adn
        obtain ⟨vacc, h1, h2⟩ := s9.ow _ _ e'
        obtain ⟨s10, st10⟩ := s9.write (m := .lst (acc ++ [d])) (o := .lst (vacc ++ [u])) e' ⟨vacc ++ [u], upd_same, (h2.append (.one r9)).mono fun a o p ea => ⟨p, by rw [upd_ne fun z => p.2 _ _ e' z.symm]; exact ea⟩⟩
        rw [adD9] at h1 s10 st10
        exact ⟨vacc, h1, by rw [h2.length]; exact t9.1, ad8, _, s10.wipeS ew'.symm, st9'.trans st10, t9.2⟩
      · exact t9.elim
section
variable {X : Cx} {Vw : Wsh}
structure MTs (X : Cx) (Vw : Wsh) (ifs : List Expr) (t : WT) : Prop where
  pts : PTs X ifs (liftT X.K Vw t)
def wYes : WT := fun S Q => Q true S
theorem mts_nil : MTs X Vw [] wYes := ⟨⟨fun pins s σ H Q I h => by
  obtain ⟨C, ad, S, R, hK, sr, t, q⟩ := h
  exact (pts_nil (X := X)).run pins s σ H Q I (q true S ad H t sr Stp.refl)⟩⟩
theorem mts_one {c : Expr} {t : WT} (h : MT X Vw c t) : MTs X Vw [c] t := ⟨pts_one h.pt⟩
theorem m_lc {elt tg iter : Expr} {ifs : List Expr} {scope : Scope} {own : List (Str × Nat)} {pos : Pos} {wi : WI} {g : TG} {wg : WG} {tt : WT} {te : WE} (hc : X.calm = true) (hN : X.N.Nodup) (hi : MI X Vw tg iter wi) (ok : BlkOk X.N X.env.scope scope own) (hcg : CG X.K g wg (own.map (·.2)))
    (hg : ∀ (s : Shared) (H : Hp) (C : Addr) (cl : List (Str × Addr)) (fp : List Addr), PG (X.blk s H scope (compEnvC scope cl C X.env) fp) tg g) (ht : ∀ (s : Shared) (H : Hp) (C : Addr) (cl : List (Str × Addr)) (fp : List Addr), MTs (X.blk s H scope (compEnvC scope cl C X.env) fp) Vw ifs tt)
    (he : ∀ (s : Shared) (H : Hp) (C : Addr) (cl : List (Str × Addr)) (fp : List Addr), ME (X.blk s H scope (compEnvC scope cl C X.env) fp) Vw elt te) (hs : ∀ x, foldedSetIterable iter X.env x = pure x := by intro _; rfl) :
    ME X Vw (.ListComp elt [⟨tg, iter, ifs, 0⟩] scope pos) (wLc wi wg tt te (own.map (·.2))) :=
  ⟨PE.weak (pe_lc (tt := liftT X.K Vw tt) (te := lift X.K Vw te) hc hN hi.pi ok hg (fun s H C cl fp => (ht s H C cl fp).pts) (fun s H C cl fp => (he s H C cl fp).pe) hs) fun σ H Q h => lc_lift hcg σ H Q h⟩
theorem ms_setLc {i : Nat} {y : Str} {py : Pos} {elt tg iter : Expr} {ifs : List Expr} {scope : Scope} {own : List (Str × Nat)} {pos spos : Pos} {wi : WI} {g : TG} {wg : WG} {tt : WT} {te : WE} (hc : X.calm = true) (hN : X.N.Nodup) (hy : X.N[i]? = some y) (hyl : X.env.scope.names.lookup y = some .local)
    (hsw : swapsWith (.ListComp elt [⟨tg, iter, ifs, 0⟩] scope pos) (some (.Name y py)) spos.line X.env = pure true) (hi : MI X Vw tg iter wi) (ok : BlkOk X.N X.env.scope scope own) (hcg : CG X.K g wg (own.map (·.2)))
    (hg : ∀ (s : Shared) (H : Hp) (C : Addr) (cl : List (Str × Addr)) (fp : List Addr), PG (X.blk s H scope (compEnvC scope cl C X.env) fp) tg g) (ht : ∀ (s : Shared) (H : Hp) (C : Addr) (cl : List (Str × Addr)) (fp : List Addr), MTs (X.blk s H scope (compEnvC scope cl C X.env) fp) Vw ifs tt)
    (he : ∀ (s : Shared) (H : Hp) (C : Addr) (cl : List (Str × Addr)) (fp : List Addr), ME (X.blk s H scope (compEnvC scope cl C X.env) fp) Vw elt te) (hs : ∀ x, foldedSetIterable iter X.env x = pure x := by intro _; rfl) :
    MS X Vw (.Assign [.Name y py] (.ListComp elt [⟨tg, iter, ifs, 0⟩] scope pos) spos) (sAsg (wLc wi wg tt te (own.map (·.2))) (wgName i)) := by
  refine ⟨PS.weak (ps_setLc (tt := liftT X.K Vw tt) (te := lift X.K Vw te) hc hN hy hyl hsw hi.pi ok hg (fun s H C cl fp => (ht s H C cl fp).pts) (fun s H C cl fp => (he s H C cl fp).pe) hs) fun D σ H ⟨C, ad, S, E, hK, s, t, q⟩ => ?_⟩
  refine lc_lift hcg σ H _ ⟨C, ad, S, _, hK, s, t, fun v S' ad' u H' e s' st r => ?_⟩
  exact q.nx _ ad' _ H' e (s'.setS r i) ⟨fun a o p h => st.pub a o p h, st.len, st.ads⟩

/-! ### methods of own lists -/
variable {o e : Expr} {to te : WE} {ta : WA} {pos apos cpos : Pos}
theorem own_ty {C : Cfg} {ad : Nat → Addr} {S : Sm} {σ : L2.St} {H : Hp} {k : Nat} {xs : List D} (s : SR C ad S σ H) (e : muAt S k = some (.lst xs)) : tyV C.K "list" (.ref (ad k)) H := by
  obtain ⟨vs, h, _⟩ := s.ow k _ (muAt_some e)
  exact .inl ⟨rfl, vs, .inl (.inl h)⟩
/-- the own list that an expression names -/
def ownL (S : Sm) (x : Val) : Option (List D) := match x with
  | .o k => match muAt S k with
    | some (.lst xs) => some xs
    | none => none
  | _ => none
theorem ownL_of {S : Sm} {x : Val} {xs : List D} (e : ownL S x = some xs) : ∃ k, x = .o k ∧ muAt S k = some (.lst xs) := by
  cases x with
  | un => cases e
  | d _ => cases e
  | o k =>
    refine ⟨k, rfl, ?_⟩
    cases q : muAt S k with
    | none => simp [ownL, q] at e
    | some m =>
      cases m with
      | lst ys =>
        simp only [ownL, q, Option.some.injEq] at e
        rw [e]
/-- a method's effect: the list, the arguments; the value, the list behind -/
abbrev LM := List D → List D → (D → List D → Prop) → Prop
/-- x.m(args) of an own list, the arguments as data -/
def wLm (f : LM) (to : WE) (ta : WA) : WE := fun S Q => to S fun ov S1 => match ov with
  | .o k => (ownL S1 ov).isSome = true ∧ ta S1 fun xs S2 => asDs xs S2 fun ds S3 => match muAt S3 k with
    | some (.lst ys) => f ys ds fun y ys' => Q (.d y) (S3.put k (.lst ys'))
    | none => False
  | _ => False
/-- the method's rule does f -/
def LmOk (r : V → List V → Hp → VK → Prop) (f : LM) : Prop := ∀ (K : PySem.W.Frag) (H : Hp) (P : Addr → Prop) (l : Addr) (vs us : List V) (ys ds : List D) (R : D → List D → Prop) (Q : VK), H l = some (.lst vs) → RepL K H P vs ys → RepL K H P us ds → f ys ds R →
  (∀ y ys' vs' u, R y ys' → RepL K H P vs' ys' → Rep K H P u y → Q u (upd H l (.lst vs'))) → r (.ref l) us H Q
theorem lm_lift {X : Cx} {Vw : Wsh} {r : V → List V → Hp → VK → Prop} {f : LM} (h : LmOk r f) {to : WE} {ta : WA} {σ : L2.St} {H : Hp} {Q : VK} (w : lift X.K Vw (wLm f to ta) σ H Q) : tBM X.K "list" r (lift X.K Vw to) (liftA X.K Vw ta) σ H Q := by
  obtain ⟨C, ad, S, R, hK, s, t, q⟩ := w
  refine ⟨C, ad, S, _, hK, s, t, fun ov S1 ad1 u1 H1 t1 s1 st1 v1 => ?_⟩
  split at t1
  · rename_i k
    obtain ⟨t1, t2⟩ := t1
    obtain ⟨zs, ez⟩ := Option.isSome_iff_exists.mp t1
    obtain ⟨k', ek, em⟩ := ownL_of ez
    cases ek
    obtain ⟨hk, hu⟩ := v1
    refine ⟨by rw [hu, ← hK.k]; exact own_ty s1 em, C, ad1, S1, _, hK, s1, t2, fun xs S2 ad2 us H2 t3 s2 st2 v2 => ?_⟩
    obtain ⟨ds, S3, t4, s3, st3, r3⟩ := asDs_of s2 v2 t3
    split at t4
    · rename_i ys e
      have e' := muAt_some e
      obtain ⟨vs, h1, h2⟩ := s3.ow k _ e'
      have adk : ad2 k = ad1 k := st2.ads k hk
      rw [hu, ← adk]
      refine h C.K H2 _ (ad2 k) vs us ys ds _ Q h1 h2 r3 t4 fun y ys' vs' u hR hv hy => ?_
      obtain ⟨s4, st4⟩ := s3.write (m := .lst ys') (o := .lst vs') e' ⟨vs', upd_same, hv.mono fun a o p ea => ⟨p, by rw [upd_ne fun z => p.2 _ _ e' z.symm]; exact ea⟩⟩
      exact q _ _ ad2 u _ hR s4 (((st1.trans st2).trans st3).trans st4) (st4.rep hy)
    · exact t4.elim
  · exact t1.elim
theorem m_lm {r : V → List V → Hp → VK → Prop} {f : LM} {name : Str} {id : String} {es : List Expr} (h : LmOk r f) (pa : PlainAttrs "list") (slot : Slot "list" name id) (hty : typeOf (.builtin id) = pure (.type "method_descriptor")) (hm : MtR X id r) (ho : ME X Vw o to) (ha : MA X Vw (e :: es) ta)
    (hbase : attributeBase o name X.env (eval o X.env) = eval o X.env := by rfl)
    (hfew : ((backTo cpos (starEach (e :: es) X.env)).all (fun x => !x.1) && (backToKw cpos (keywordEach [] X.env)).all (fun x => x.1.isSome)
      && decide ((e :: es).length + ([] : List Keyword).length + (if ([] : List Keyword).isEmpty then 0 else 1) < 30)) = true := by rfl)
    (hline : (apos.endLine == cpos.line) = true := by rfl) (hs : starEach (e :: es) X.env = (false, eval e X.env) :: starEach es X.env := by rfl) (hplain : (backTo cpos (starEach es X.env)).any (·.1) = false := by rfl) :
    ME X Vw (.Call (.Attribute o name apos) (e :: es) [] cpos) (wLm f to ta) := ⟨PE.weak (pe_bm pa slot hty hm ho.pe ha.pa hbase hfew hline hs hplain) fun σ H Q w => lm_lift h w⟩
/-- without arguments -/
def wLm0 (f : LM) (to : WE) : WE := wLm f to aNil
theorem m_lm0 {r : V → List V → Hp → VK → Prop} {f : LM} {name : Str} {id : String} (h : LmOk r f) (pa : PlainAttrs "list") (slot : Slot "list" name id) (hty : typeOf (.builtin id) = pure (.type "method_descriptor")) (hm : MtR X id r) (ho : ME X Vw o to)
    (hbase : attributeBase o name X.env (eval o X.env) = eval o X.env := by rfl) (hline : (apos.endLine == cpos.line) = true := by rfl) : ME X Vw (.Call (.Attribute o name apos) [] [] cpos) (wLm0 f to) := by
  refine ⟨PE.weak (pe_bm0 pa slot hty hm ho.pe hbase hline) fun σ H Q w => ?_⟩
  obtain ⟨C, ad, S, R, hK, s, t, q⟩ := lm_lift h w
  refine ⟨C, ad, S, R, hK, s, t, fun v S' ad' u H' e s' st r => ?_⟩
  obtain ⟨h1, C2, ad2, S2, R2, hK2, s2, t2, q2⟩ := q v S' ad' u H' e s' st r
  exact ⟨h1, q2 [] S2 ad2 [] H' t2 s2 Stp.refl .nil⟩
def lmAppend : LM := fun ys ds R => match ds with
  | [d] => ys.length < sizeLine ∧ R .non (ys ++ [d])
  | _ => False
theorem ok_append : LmOk rAppend lmAppend := by
  intro K H P l vs us ys ds R Q hl hv hu h q
  unfold lmAppend at h
  split at h
  · cases hu with
    | cons r1 r2 =>
      cases r2
      exact ⟨l, vs, _, rfl, rfl, hl, by rw [hv.length]; exact h.1, q _ _ _ _ h.2 (hv.append (.one r1)) .non⟩
  · exact h.elim
/-- xs.append(e) -/
theorem m_append (ho : ME X Vw o to) (ha : MA X Vw [e] ta) (hbase : attributeBase o "append" X.env (eval o X.env) = eval o X.env := by rfl)
    (hfew : ((backTo cpos (starEach [e] X.env)).all (fun x => !x.1) && (backToKw cpos (keywordEach [] X.env)).all (fun x => x.1.isSome)
      && decide (([e] : List Expr).length + ([] : List Keyword).length + (if ([] : List Keyword).isEmpty then 0 else 1) < 30)) = true := by rfl)
    (hline : (apos.endLine == cpos.line) = true := by rfl) (hs : starEach [e] X.env = (false, eval e X.env) :: starEach [] X.env := by rfl) (hplain : (backTo cpos (starEach [] X.env)).any (·.1) = false := by rfl) :
    ME X Vw (.Call (.Attribute o "append" apos) [e] [] cpos) (wLm lmAppend to ta) := m_lm ok_append PySem.F.plainAttrs_list PySem.F.slot_list_append PySem.F.type_list_append (by exact mt_append) ho ha hbase hfew hline hs hplain
end
end MP

/-! MP: comparisons as values and as tests; callees by name -/
namespace MP
open PySem PySem.Spec PyProof.Rows L2
section
variable {X : Cx} {Vw : Wsh} {a b : Expr} {ta tb : WE} {pos : Pos}
structure MC (X : Cx) (Vw : Wsh) (op : CmpOp) (a b : Expr) (w : WE) : Prop where
  ex : ∃ (r : R2) (ta tb : TE), OpR X (compareOp op) r ∧ PE X a ta ∧ PE X b tb ∧ behindInMarks op b = false ∧ ∀ σ H Q, lift X.K Vw w σ H Q → tOp r ta tb σ H Q
theorem MC.e {op : CmpOp} {w : WE} (h : MC X Vw op a b w) : ME X Vw (.Compare a [op] [b] pos) w := by
  obtain ⟨r, ta, tb, h1, h2, h3, h4, h5⟩ := h.ex
  exact ⟨PE.weak (pe_cmpR h1 h2 h3 h4) h5⟩
theorem MC.t {op : CmpOp} {w : WE} (h : MC X Vw op a b w) : MT X Vw (.Compare a [op] [b] pos) (wTst w) := by
  obtain ⟨r, ta, tb, h1, h2, h3, h4, h5⟩ := h.ex
  refine ⟨PT.weak (pt_cmpR h1 h2 h3 h4) fun σ H Q h => ?_⟩
  refine h5 σ H _ (lift1T h fun C ad S x ux H1 R hK s rx t q => ?_)
  split at t
  · rename_i c
    exact ⟨c, rx.bl, q c S ad H1 t s Stp.refl⟩
  · exact t.elim
theorem mc_int {op : CmpOp} {g : Int → Int → Bool} (ho : OpR X (compareOp op) (rI0 fun i j => .bl (g i j))) (ha : ME X Vw a ta) (hb : ME X Vw b tb) (hm : behindInMarks op b = false := by first | exact nobehind _ (by decide) (by decide) | rfl) : MC X Vw op a b (wII0 (fun i j => .bl (g i j)) ta tb) := by
  refine ⟨_, _, _, ho, ha.pe, hb.pe, hm, fun σ H Q h => lift2 h fun C ad S x y ux uy H2 R hK s rx ry t q => ?_⟩
  obtain ⟨i, j, rfl, rfl, t⟩ := ii_of (P := fun i j => R (.d (.bl (g i j))) S) t
  exact ⟨i, j, rx.int, ry.int, q.at s t (Rep.bl _)⟩
theorem mc_eq (hu : X.A.units + 64 < cLine) (ha : ME X Vw a ta) (hb : ME X Vw b tb) : MC X Vw .Eq a b (wEq ta tb) := by
  refine ⟨_, _, _, op_eqD hu, ha.pe, hb.pe, nobehind _ (by decide) (by decide), fun σ H Q h => lift2 h fun C ad S x y ux uy H2 R hK s rx ry t q => ?_⟩
  split at t
  · rename_i d e e1 e2
    obtain ⟨h1, h2, t⟩ := t
    have d1 := pyV_dp s rx e1 h1
    have d2 := pyV_dp s ry e2 h2
    rw [hK.k] at d1 d2
    exact ⟨d, e, d1, d2, h1, h2, q.at s t (Rep.bl _)⟩
  · exact t.elim
theorem mc_ne (hu : X.A.units + 64 < cLine) (ha : ME X Vw a ta) (hb : ME X Vw b tb) : MC X Vw .NotEq a b (wNe ta tb) := by
  refine ⟨_, _, _, op_neD hu, ha.pe, hb.pe, nobehind _ (by decide) (by decide), fun σ H Q h => lift2 h fun C ad S x y ux uy H2 R hK s rx ry t q => ?_⟩
  split at t
  · rename_i d e e1 e2
    obtain ⟨h1, h2, t⟩ := t
    have d1 := pyV_dp s rx e1 h1
    have d2 := pyV_dp s ry e2 h2
    rw [hK.k] at d1 d2
    exact ⟨d, e, d1, d2, h1, h2, q.at s t (Rep.bl _)⟩
  · exact t.elim
theorem mc_inG {op : CmpOp} {neg : Bool} (ho : OpR X (compareOp op) (rIn X.K neg)) (hm : behindInMarks op b = false) (ha : ME X Vw a ta) (hb : ME X Vw b tb) : MC X Vw op a b (wIn neg ta tb) := by
  refine ⟨_, _, _, ho, ha.pe, hb.pe, hm, fun σ H Q h => lift2 h fun C ad S x y ux uy H2 R hK s rx ry t q => ?_⟩
  split at t
  · rename_i a xs e
    obtain ⟨h1, h2, t⟩ := t
    obtain ⟨p, vs, rfl, h3, r1⟩ := seq_of s ry e
    obtain ⟨f1, f2⟩ := Rep.flat (K := C.K) (H := H2) (P := Pub C ad S.κ) rx h1
    obtain ⟨f3, f4⟩ := r1.flat h2
    rw [hK.k] at h3
    refine ⟨p, vs, rfl, h3, f2, f4, ?_⟩
    rw [f1, f3]
    exact q.at s t (Rep.bl _)
  · exact t.elim
theorem mc_in (ha : ME X Vw a ta) (hb : ME X Vw b tb) (hm : behindInMarks .In b = false := by rfl) : MC X Vw .In a b (wIn false ta tb) := mc_inG op_in_seq hm ha hb
theorem mc_notIn (ha : ME X Vw a ta) (hb : ME X Vw b tb) (hm : behindInMarks .NotIn b = false := by rfl) : MC X Vw .NotIn a b (wIn true ta tb) := mc_inG op_notIn_seq hm ha hb
theorem mc_isN {j pos'} (ha : ME X Vw a ta) : MC X Vw .Is a (.Constant .none j pos') (wIsN ta) := by
  refine ⟨_, _, _, op_isN, ha.pe, pe_non, nobehind _ (by decide) (by decide), fun σ H Q h => lift1 h fun C ad S x ux H1 R hK s rx t q => ?_⟩
  refine ⟨rfl, ?_⟩
  rw [isNon_of rx]
  exact q.at s t (Rep.bl _)
theorem mc_notN {j pos'} (ha : ME X Vw a ta) : MC X Vw .IsNot a (.Constant .none j pos') (wNotN ta) := by
  refine ⟨_, _, _, op_notN, ha.pe, pe_non, nobehind _ (by decide) (by decide), fun σ H Q h => lift1 h fun C ad S x ux H1 R hK s rx t q => ?_⟩
  refine ⟨rfl, ?_⟩
  rw [isNon_of rx]
  exact q.at s t (Rep.bl _)
end

/-- a def of the text, by its name -/
def Callee (P : Program) (w : World) (K : PySem.W.Frag) (mg : Str → Option Value) (base : Heap) (k : Nat) (x : Str) (ps : List Str) (F : FS) : Prop :=
  ∃ f fd, FnOk P w K mg base CX0 k f fd ps (spOf K F) ∧ mg x = some (.ref f) ∧ PySem.W.keepIn K (.ref f) = true ∧ Binds K fd ps []
theorem m_callC {X : Cx} {Vw : Wsh} {e : Expr} {ta : WA} {p pos : Pos} {k : Nat} {ps : List Str} {F : FS} {x : Str} {es : List Expr} (ms : List Bool) (c : Callee X.prog X.w X.K X.mg X.base k x ps F) (hr : Room k X.A) (hg : Gl X x) (ha : MA X Vw (e :: es) ta)
    (hdb : (x == ("__debug__" : Str)) = false := by decide) (he : starEach (e :: es) X.env = (false, eval e X.env) :: starEach es X.env := by rfl) (hpl : (backTo pos (starEach es X.env)).any (·.1) = false := by rfl) :
    ME X Vw (.Call (.Name x p) (e :: es) [] pos) (wCall ms F ta) := by
  obtain ⟨f, fd, G, hm, hk, hb⟩ := c
  exact m_call ms G hr hg hm hk hb ha hdb he hpl
end MP

/-! MP: bounds of great ints, the law's entry, constants of the module -/
namespace MP
open PySem PySem.Spec PyProof.Rows L2

/-! ### great ints -/
def CMl (i j : Int) : Prop := i.natAbs.log2 + j.natAbs.log2 < 1000000
def CDv (_ j : Int) : Prop := j ≠ 0 ∧ j.natAbs.log2 < 9000
def CMd (_ j : Int) : Prop := 0 < j
section
variable {X : Cx} {Vw : Wsh}
theorem op_mulL : OpR X (binaryOp .Mult) (rI CMl fun i j => .int (i * j)) := op_mulW
theorem op_fdivL : OpR X (binaryOp .FloorDiv) (rI CDv fun i j => .int (i.fdiv j)) := opI fun i j _ _ _ _ _ hc q => floordiv_int hc.1 q (.inl (PyProof.noPylong_of_log2 hc.2))
theorem op_modL : OpR X (binaryOp .Mod) (rI CMd fun i j => .int (i % j)) := op_mod
end
theorem m_powC {X : Cx} {Vw : Wsh} {a b r : Int} {j1 j2 : Tok} {p1 p2 pos : Pos} (h : (decide (0 ≤ b) && decide (b ≤ 1000000) && decide (a.natAbs < 18446744073709551616)) = true) (e : a ^ b.toNat = r) : ME X Vw (.BinOp (.Constant (.int a) j1 p1) .Pow (.Constant (.int b) j2 p2) pos) (wC (.int r)) := by
  refine ⟨PE.weak (pe_op op_pow pe_int pe_int) fun σ H Q h2 => ?_⟩
  obtain ⟨C, ad, S, R, hK, s, t, q⟩ := h2
  rw [Bool.and_eq_true, Bool.and_eq_true, decide_eq_true_eq, decide_eq_true_eq, decide_eq_true_eq] at h
  subst e
  exact ⟨a, b, rfl, rfl, ⟨h.1.1, h.1.2, h.2⟩, q.at s (v := .d _) t (Rep.int _)⟩
/-- fewer than n bits -/
def Bits (n : Nat) (i : Int) : Prop := i.natAbs < 2 ^ n
theorem Bits.mono {n m : Nat} {i : Int} (h : Bits n i) (l : n ≤ m) : Bits m i := Nat.lt_of_lt_of_le h (Nat.pow_le_pow_right (by decide) l)
theorem Bits.mul {n m : Nat} {i j : Int} (h : Bits n i) (k : Bits m j) : Bits (n + m) (i * j) := wide_lt h k
theorem Bits.add {n : Nat} {i j : Int} (h : Bits n i) (k : Bits n j) : Bits (n + 1) (i + j) := by
  unfold Bits at *
  rw [Nat.pow_succ]
  omega
theorem Bits.sub {n : Nat} {i j : Int} (h : Bits n i) (k : Bits n j) : Bits (n + 1) (i - j) := by
  unfold Bits at *
  rw [Nat.pow_succ]
  omega
theorem Bits.neg {n : Nat} {i : Int} (h : Bits n i) : Bits n (-i) := by
  unfold Bits at *
  rw [Int.natAbs_neg]; exact h
theorem Bits.le {n : Nat} {i j : Int} (h : Bits n j) (l : i.natAbs ≤ j.natAbs) : Bits n i := Nat.lt_of_le_of_lt l h
theorem Bits.log {n : Nat} {i : Int} (h : Bits n i) (h0 : 0 < n) : i.natAbs.log2 < n := PySem.Flt.log2_lt_of h0 h
theorem cml {n m : Nat} {i j : Int} (h : Bits n i) (k : Bits m j) (l : n + m + 2 ≤ 1000000 := by decide) : CMl i j := by
  have h1 := (h.mono (Nat.le_succ n)).log (Nat.succ_pos _)
  have h2 := (k.mono (Nat.le_succ m)).log (Nat.succ_pos _)
  unfold CMl
  omega
theorem cdv {n : Nat} {i j : Int} (h0 : j ≠ 0) (h : Bits n j) (l : n < 9000 := by decide) : CDv i j := by
  have h1 := (h.mono (Nat.le_succ n)).log (Nat.succ_pos _)
  exact ⟨h0, by omega⟩

/-! ### the law's entry -/
theorem law_entry {K : PySem.W.Frag} {H : Hp} {a : Addr} {ns : List Int} {F : FS} {n : Nat} (hl : ns.length ≤ n) (hS : SqL K H a (ns.map V.int)) (ok : ∀ ns : List Int, ns.length ≤ n → F [.d (.scr ns)] [] fun r _ => r = .d (.bl true)) :
    spOf K F [.ref a] H (fun v _ => v = .bl true) fun _ _ _ => False := by
  refine ⟨fun _ => False, fun _ => 0, [.d (.scr ns)], [], _, ?_, ok ns hl, fun r κ' u H' hr co => ?_⟩
  · refine ⟨rfl, fun i v e nu => ?_, fun k m e => ?_, fun j k h => ?_, fun k h => ?_, fun a h => h.elim, fun a o h _ => h, fun k h1 h2 => ?_, Nat.le_refl _, rfl, fun k h => ?_, rfl, Stp.refl⟩
    · cases i with
      | zero =>
        have e' : some (Val.d (.scr ns)) = some v := e
        cases e'
        refine ⟨.ref a, rfl, ?_⟩
        rcases hS with h | h
        · exact Rep.scr ⟨fun z => z.elim, fun k m e => by simp at e⟩ h
        · exact Rep.scrK h
      | succ i => simp at e
    · simp at e
    · exact absurd h (Nat.not_lt_zero _)
    · exact absurd h (Nat.not_lt_zero _)
    · exact absurd h2 (Nat.not_lt_zero _)
    · exact absurd h (Nat.not_lt_zero _)
  · subst hr
    have r : Rep K H' _ u (.bl true) := co.res
    cases r
    rfl
theorem law_same {P : Program} {w : World} {K : PySem.W.Frag} {mg : Str → Option Value} {base : Heap} {k : Nat} {x : Str} {fa f : Addr} {fd fd' : FuncData} {ps : List Str} {F : FS} {st : Stmt} {oc : Value} {od : Option Addr} {sl : Array (Option Value)}
    (g : mg x = some (.ref fa)) (g' : mg x = some (.ref f)) (G : FnOk P w K mg base CX0 k f fd ps (spOf K F)) (e : fd = fd') : FnOk P w K mg base CX0 k fa fd' ps (spOf K F) := by
  rw [g] at g'
  cases g'
  subst e
  exact G
/-- a pair of ints of the module -/
theorem kd_pair {K : PySem.W.Frag} {a : Addr} {o : Obj} {i j : Int} {t u : Tok} {d : Option Addr} {n : Nat} {sl : Array (Option Value)} (h : K.lookup a = some o) (e : o = ⟨.type "tuple", d, .seq #[.int i t, .int j u] n, sl⟩) : KD K (.ref a) (.tup [.int i, .int j]) := by
  subst e
  exact fun H P => .tupK (vs := [.int i, .int j]) ⟨_, _, n, h, rfl, rfl, by rw [sizeLine_eq]; exact (by decide : 2 ≤ 16777216), .cons ⟨_, rfl⟩ (.cons ⟨_, rfl⟩ .nil)⟩ (.cons (.int _) (.cons (.int _) .nil))
end MP

/-! MP: fractions as Rat -/
namespace MP
open PySem PySem.Spec PyProof.Rows L2

def qF (q : Rat) : D := .tup [.int q.num, .int (q.den : Int)]
/-- the sign that the divisor gives to the common part -/
def partI (i j : Int) : Int := if j < 0 then -(Int.gcd i j : Int) else (Int.gcd i j : Int)
theorem gcd_pos {i j : Int} (h : j ≠ 0) : 0 < Int.gcd i j := Int.gcd_pos_of_ne_zero_right i h
theorem partI_ne {i j : Int} (h : j ≠ 0) : partI i j ≠ 0 := by
  have := gcd_pos (i := i) h
  unfold partI
  split <;> omega
theorem partI_abs (i j : Int) : (partI i j).natAbs = Int.gcd i j := by
  unfold partI
  split <;> omega
theorem fdiv_part {i j k : Int} (h : j ≠ 0) (hk : ((Int.gcd i j : Nat) : Int) ∣ k) : k.fdiv (partI i j) = j.sign * k / (Int.gcd i j : Int) := by
  have hg := gcd_pos (i := i) h
  have hg' : ((Int.gcd i j : Nat) : Int) ≠ 0 := by omega
  obtain ⟨m, rfl⟩ := hk
  unfold partI
  by_cases hj : j < 0
  · rw [if_pos hj, Int.sign_eq_neg_one_of_neg hj]
    have e1 : -1 * ((Int.gcd i j : Nat) * m : Int) = (Int.gcd i j : Nat) * (-m) := by rw [Int.mul_neg]; omega
    rw [e1, Int.mul_ediv_cancel_left _ hg']
    have e2 : ((Int.gcd i j : Nat) * m : Int) = (-m) * (-(Int.gcd i j : Nat) : Int) := by rw [Int.neg_mul_neg, Int.mul_comm]
    rw [e2, Int.mul_fdiv_cancel _ (by omega)]
  · have hj2 : 0 < j := by omega
    rw [if_neg hj, Int.sign_eq_one_of_pos hj2, Int.one_mul, Int.mul_ediv_cancel_left _ hg', Int.mul_fdiv_cancel_left _ hg']
theorem low_num {i j : Int} (h : j ≠ 0) : i.fdiv (partI i j) = (Rat.divInt i j).num := by
  rw [fdiv_part h (Int.gcd_dvd_left ..), Rat.num_divInt, Int.gcd_comm]
theorem low_den {i j : Int} (h : j ≠ 0) : j.fdiv (partI i j) = ((Rat.divInt i j).den : Int) := by
  rw [fdiv_part h (Int.gcd_dvd_right ..), Rat.den_divInt, if_neg h, Int.gcd_comm]
  rw [Int.natCast_ediv, Int.sign_mul_self]
theorem divInt_num_le {i j : Int} (h : j ≠ 0) : (Rat.divInt i j).num.natAbs ≤ i.natAbs := by
  rw [← low_num h]
  have : (i.fdiv (partI i j)).natAbs * (partI i j).natAbs = i.natAbs := by
    rw [← Int.natAbs_mul]
    congr 1
    obtain ⟨m, hm⟩ : partI i j ∣ i := by
      have := Int.gcd_dvd_left i j
      unfold partI
      split
      · exact Int.neg_dvd.mpr this
      · exact this
    have hn := partI_ne (i := i) h
    generalize partI i j = p at hm hn
    subst hm
    rw [Int.mul_fdiv_cancel_left _ hn, Int.mul_comm]
  have h1 : 0 < (partI i j).natAbs := by rw [partI_abs]; exact gcd_pos h
  calc (i.fdiv (partI i j)).natAbs = (i.fdiv (partI i j)).natAbs * 1 := (Nat.mul_one _).symm
    _ ≤ (i.fdiv (partI i j)).natAbs * (partI i j).natAbs := Nat.mul_le_mul_left _ h1
    _ = i.natAbs := this
theorem divInt_den_le {i j : Int} (h : j ≠ 0) : (Rat.divInt i j).den ≤ j.natAbs := by
  rw [Rat.den_divInt, if_neg h]
  exact Nat.div_le_self _ _
/-- top and bottom below 2 ^ n -/
def RB (n : Nat) (q : Rat) : Prop := Bits n q.num ∧ Bits n (q.den : Int)
theorem RB.mono {n m : Nat} {q : Rat} (h : RB n q) (l : n ≤ m) : RB m q := ⟨h.1.mono l, h.2.mono l⟩
theorem RB.divInt {n : Nat} {i j : Int} (h : j ≠ 0) (hi : Bits n i) (hj : Bits n j) : RB n (Rat.divInt i j) :=
  ⟨Nat.lt_of_le_of_lt (divInt_num_le h) hi, Nat.lt_of_le_of_lt (by rw [Int.natAbs_natCast]; exact divInt_den_le h) hj⟩
theorem den_ne (q : Rat) : (q.den : Int) ≠ 0 := by have := q.den_pos; omega
theorem mul_den_ne (a b : Rat) : (a.den : Int) * (b.den : Int) ≠ 0 := Int.mul_ne_zero (den_ne a) (den_ne b)
theorem add_low (a b : Rat) : Rat.divInt (a.num * b.den + b.num * a.den) (a.den * b.den) = a + b := by
  rw [Rat.add_def', ← Rat.divInt_ofNat]
  rfl
theorem sub_low (a b : Rat) : Rat.divInt (a.num * b.den - b.num * a.den) (a.den * b.den) = a - b := by
  rw [Rat.sub_def', ← Rat.divInt_ofNat]
  rfl
theorem mul_low (a b : Rat) : Rat.divInt (a.num * b.num) (a.den * b.den) = a * b := by
  rw [Rat.mul_def', ← Rat.divInt_ofNat]
  rfl
theorem num_ne {b : Rat} (h : b ≠ 0) : b.num ≠ 0 := fun z => h (Rat.num_eq_zero.mp z)
theorem div_low (a b : Rat) : Rat.divInt (a.num * b.den) (a.den * b.num) = a / b := by
  rw [Rat.div_def, Rat.inv_def]
  conv => rhs; rw [← Rat.num_divInt_den a, Rat.divInt_mul_divInt]
theorem div_den_ne {a b : Rat} (h : b ≠ 0) : (a.den : Int) * b.num ≠ 0 := Int.mul_ne_zero (den_ne a) (num_ne h)
theorem RB.add {n m : Nat} {a b : Rat} (h : RB n a) (k : RB m b) : RB (n + m + 1) (a + b) := by
  rw [← add_low]
  refine RB.divInt (mul_den_ne a b) (Bits.add (h.1.mul k.2) ?_) ((h.2.mul k.2).mono (Nat.le_succ _))
  rw [Nat.add_comm]; exact k.1.mul h.2
theorem RB.sub {n m : Nat} {a b : Rat} (h : RB n a) (k : RB m b) : RB (n + m + 1) (a - b) := by
  rw [← sub_low]
  refine RB.divInt (mul_den_ne a b) (Bits.sub (h.1.mul k.2) ?_) ((h.2.mul k.2).mono (Nat.le_succ _))
  rw [Nat.add_comm]; exact k.1.mul h.2
theorem RB.mul {n m : Nat} {a b : Rat} (h : RB n a) (k : RB m b) : RB (n + m) (a * b) := by
  rw [← mul_low]
  exact RB.divInt (mul_den_ne a b) (h.1.mul k.1) (h.2.mul k.2)
theorem RB.div {n m : Nat} {a b : Rat} (h : RB n a) (k : RB m b) (hb : b ≠ 0) : RB (n + m) (a / b) := by
  rw [← div_low]
  exact RB.divInt (div_den_ne hb) (h.1.mul k.2) (h.2.mul k.1)
theorem RB.neg {n : Nat} {a : Rat} (h : RB n a) : RB n (-a) := ⟨h.1.neg, h.2⟩
/-- -1, 0, 1 as a is below, equal to, above b -/
def sgnQ (a b : Rat) : Int := (if b < a then 1 else 0) - (if a < b then 1 else 0)
end MP

/-! MP: small facts for the readings -/
namespace MP
open PySem PySem.Spec PyProof.Rows L2
theorem seqV_d (S : Sm) (x : D) : seqV S (.d x) = seqD x := rfl
theorem seqV_o (S : Sm) (k : Nat) : seqV S (.o k) = (muAt S k).bind seqM := rfl
theorem seqD_tup (xs : List D) : seqD (.tup xs) = some xs := rfl
theorem seqD_lst (xs : List D) : seqD (.lst xs) = some xs := rfl
theorem seqD_scr (ns : List Int) : seqD (.scr ns) = some (ns.map .int) := rfl
theorem seqD_int (i : Int) : seqD (.int i) = none := rfl
theorem seqM_lst (xs : List D) : seqM (.lst xs) = some xs := rfl
theorem lstV_lst (S : Sm) (xs : List D) : lstV S (.d (.lst xs)) = some xs := rfl
theorem lstV_o (S : Sm) (k : Nat) : lstV S (.o k) = match muAt S k with
    | some (.lst xs) => some xs
    | _ => none := rfl
theorem tyVal_d (S : Sm) (x : D) : tyVal S (.d x) = tyD x := rfl
theorem tyVal_o (S : Sm) (k : Nat) : tyVal S (.o k) = match muAt S k with
    | some (.lst _) => some .lst
    | none => none := rfl
theorem tyD_non : tyD .non = some .non := rfl
theorem tyD_bl (b : Bool) : tyD (.bl b) = some .bool := rfl
theorem tyD_int (b : Int) : tyD (.int b) = some .int := rfl
theorem tyD_str (b : Str) : tyD (.str b) = some .str := rfl
theorem tyD_tup (b : List D) : tyD (.tup b) = some .tup := rfl
theorem tyD_lst (b : List D) : tyD (.lst b) = some .lst := rfl
theorem tyD_scr (b : List Int) : tyD (.scr b) = some .lst := rfl
theorem tyD_dct (b : List Key) (c : List D) : tyD (.dct b c) = some .dct := rfl
theorem pyV_d (S : Sm) (x : D) : pyV S (.d x) = some x.py := rfl
theorem pyV_o (S : Sm) (k : Nat) : pyV S (.o k) = (muAt S k).map Mu.py := rfl
theorem Mu_py (xs : List D) : (Mu.lst xs).py = .list (D.pys xs) := rfl
theorem isNon_non : isNon (.d .non) = true := rfl
theorem isNon_int (i : Int) : isNon (.d (.int i)) = false := rfl
theorem isNon_tup (i : List D) : isNon (.d (.tup i)) = false := rfl
theorem isNon_o (i : Nat) : isNon (.o i) = false := rfl
theorem asD_d (x : D) (S : Sm) (Q : D → Sm → Prop) : asD (.d x) S Q = Q x S := rfl
theorem asD_o (k : Nat) (S : Sm) (Q : D → Sm → Prop) : asD (.o k) S Q = match muAt S k with
    | some m => S.n ≤ k ∧ Q m.toD (S.frz k m)
    | none => False := rfl
theorem toD_lst (xs : List D) : (Mu.lst xs).toD = .lst xs := rfl
theorem atI_0 {α : Type} (x : α) (xs : List α) : L2.atI (x :: xs) 0 = some x := by
  show (ixN (xs.length + 1) 0).bind _ = _
  unfold ixN
  rw [if_pos (by omega), if_pos (by omega)]
  rfl
theorem atI_1 {α : Type} (x y : α) (xs : List α) : L2.atI (x :: y :: xs) 1 = some y := by
  show (ixN (xs.length + 1 + 1) 1).bind _ = _
  unfold ixN
  rw [if_pos (by omega), if_pos (by omega)]
  rfl
theorem atI_2 {α : Type} (x y z : α) (xs : List α) : L2.atI (x :: y :: z :: xs) 2 = some z := by
  show (ixN (xs.length + 1 + 1 + 1) 2).bind _ = _
  unfold ixN
  rw [if_pos (by omega), if_pos (by omega)]
  rfl
theorem atI_3 {α : Type} (x y z w : α) (xs : List α) : L2.atI (x :: y :: z :: w :: xs) 3 = some w := by
  show (ixN (xs.length + 1 + 1 + 1 + 1) 3).bind _ = _
  unfold ixN
  rw [if_pos (by omega), if_pos (by omega)]
  rfl
theorem ixN_4_0 : ixN (0 + 1 + 1 + 1 + 1) 0 = some 0 := by decide
theorem ixN_4_1 : ixN (0 + 1 + 1 + 1 + 1) 1 = some 1 := by decide
theorem ixN_4_2 : ixN (0 + 1 + 1 + 1 + 1) 2 = some 2 := by decide
theorem ixN_4_3 : ixN (0 + 1 + 1 + 1 + 1) 3 = some 3 := by decide
theorem ixN4_0 : ixN 4 0 = some 0 := by decide
theorem ixN4_1 : ixN 4 1 = some 1 := by decide
theorem ixN4_2 : ixN 4 2 = some 2 := by decide
theorem ixN4_3 : ixN 4 3 = some 3 := by decide
theorem shaped_int (i : Int) : SeqAt.shaped (.int i) = true := rfl
theorem shaped_bool (i : Bool) : SeqAt.shaped (.bool i) = true := rfl
theorem eqv_int (i j : Int) : PyData.eqv (.int i) (.int j) = decide (i = j) := by
  show (i == j) = _
  exact Bool.beq_eq_decide_eq ..
theorem eqv_bool (i j : Bool) : PyData.eqv (.bool i) (.bool j) = decide (i = j) := by
  show (i == j) = _
  exact Bool.beq_eq_decide_eq ..
theorem seqD_qF (q : Rat) : seqD (qF q) = some [.int q.num, .int (q.den : Int)] := rfl
theorem tyD_qF (q : Rat) : tyD (qF q) = some .tup := rfl
theorem shaped_qF (q : Rat) : SeqAt.shaped (qF q).py = true := rfl
theorem eqv_qF (a b : Rat) : PyData.eqv (qF a).py (qF b).py = decide (a = b) := by
  show (a.num == b.num && ((a.den : Int) == (b.den : Int) && true)) = _
  by_cases h : a = b
  · subst h
    simp
  · rw [decide_eq_false h]
    by_cases h1 : a.num = b.num
    · have h2 : a.den ≠ b.den := fun z => h (Rat.ext h1 z)
      have h3 : ((a.den : Int) == (b.den : Int)) = false := by
        rw [beq_eq_false_iff_ne]
        omega
      rw [h3]
      simp
    · have h3 : (a.num == b.num) = false := by rw [beq_eq_false_iff_ne]; exact h1
      rw [h3]
      rfl
theorem cml64 {i j : Int} (h1 : i.natAbs < 18446744073709551616 := by omega) (h2 : j.natAbs < 18446744073709551616 := by omega) : CMl i j := cml (n := 64) (m := 64) h1 h2
theorem cmd64 {i j : Int} (h0 : 0 < j := by omega) : CMd i j := h0
theorem cdv64 {i j : Int} (h0 : j ≠ 0 := by omega) (h2 : j.natAbs < 18446744073709551616 := by omega) : CDv i j := cdv (n := 64) h0 h2
theorem cdw64 {i j : Int} (h0 : 0 < j := by omega) (h2 : j.natAbs < 18446744073709551616 := by omega) : CDivW i j := ⟨h0, (cdv64 (i := i) (by omega) h2).2⟩
theorem cpw {i j : Int} (h : (decide (0 ≤ j) && decide (j ≤ 1000000) && decide (i.natAbs < 18446744073709551616)) = true) : CPow i j := by
  rw [Bool.and_eq_true, Bool.and_eq_true, decide_eq_true_eq, decide_eq_true_eq, decide_eq_true_eq] at h
  exact ⟨h.1.1, h.1.2, h.2⟩
theorem cml60 {i j : Int} (h1 : i.natAbs < 10 ^ 60 := by omega) (h2 : j.natAbs < 10 ^ 60 := by omega) : CMl i j := cml (n := 200) (m := 200) (Nat.lt_of_lt_of_le h1 (by decide)) (Nat.lt_of_lt_of_le h2 (by decide))
theorem lt_size {n : Nat} (h : n < 16777216) : n < sizeLine := by rw [sizeLine_eq]; exact h
theorem le_size {n : Nat} (h : n ≤ 16777216) : n ≤ sizeLine := by rw [sizeLine_eq]; exact h
end MP

/-! MP: the readings, one step a lemma -/
namespace MP
open PySem PySem.Spec PyProof.Rows L2
section
variable {S S1 : Sm} {xw : Xw} {E : En} {Q : Val → Sm → Prop} {QT : Bool → Sm → Prop} {QA : List Val → Sm → Prop} {ta tb tc te to ti : WE} {tt tu : WT} {t u : WS} {A : WA} {i j k n : Nat} {ε : List Val} {κ : List (Option Mu)}
/-! statements -/
theorem e_nil (h : E.nx S) : sNil E S := h
theorem e_seq (h : t { E with nx := u E } S) : sSeq t u E S := h
theorem e_pass (h : E.nx S) : sPass E S := h
theorem e_break (h : E.bk S) : sBreak E S := h
theorem e_cont (h : E.ct S) : sCont E S := h
theorem e_expr (h : te S fun _ S1 => E.nx S1) : sExpr te E S := h
theorem e_ret (h : te S E.rt) : sRet te E S := h
theorem e_retN (h : E.rt (.d .non) S) : sRetN E S := h
def ifS (t u : WS) (E : En) (c : Bool) (S : Sm) : Prop := if c = true then t E S else u E S
theorem e_if (h : tt S fun c S1 => ifS t u E c S1) : sIf tt t u E S := h
theorem e_ifT (h : t E S) : ifS t u E true S := by unfold ifS; rw [if_pos rfl]; exact h
theorem e_ifF (h : u E S) : ifS t u E false S := by unfold ifS; rw [if_neg Bool.false_ne_true]; exact h
theorem e_ifT' {c : Bool} (hc : c = true) (h : t E S) : ifS t u E c S := by subst hc; exact e_ifT h
theorem e_ifF' {c : Bool} (hc : c = false) (h : u E S) : ifS t u E c S := by subst hc; exact e_ifF h
theorem e_ifD {p : Prop} [Decidable p] (h1 : p → t E S) (h2 : ¬ p → u E S) : ifS t u E (decide p) S := by
  unfold ifS
  by_cases h : p
  · rw [if_pos (decide_eq_true h)]; exact h1 h
  · rw [if_neg (by simpa using h)]; exact h2 h
theorem e_ifB {c : Bool} (h1 : c = true → t E S) (h2 : c = false → u E S) : ifS t u E c S := by
  cases c with
  | true => exact e_ifT (h1 rfl)
  | false => exact e_ifF (h2 rfl)
theorem e_asgN (h : te S fun v S1 => E.nx (setε S1 i v)) : sAsg te (wgName i) E S := h
theorem e_asg {g : WG} (h : te S fun v S1 => g v S1 E.nx) : sAsg te g E S := h
theorem e_gName {v : Val} {R : Sm → Prop} (h : R (setε S i v)) : wgName i v S R := h
theorem e_set {v : Val} {R : Sm → Prop} (h : R ⟨ε.set i v, κ, n, xw⟩) : R (setε ⟨ε, κ, n, xw⟩ i v) := h
theorem e_par (h : A S fun xs S1 => match xs with
    | [v, w] => E.nx (setε (setε S1 i v) j w)
    | _ => False) : sPar i j A E S := h
def parV (i j : Nat) (E : En) (xs : List Val) (S1 : Sm) : Prop := match xs with
    | [v, w] => E.nx (setε (setε S1 i v) j w)
    | _ => False
theorem e_par' (h : A S (parV i j E)) : sPar i j A E S := h
theorem e_parV {v w : Val} (h : E.nx (setε (setε S i v) j w)) : parV i j E [v, w] S := h
theorem e_gTup {xs : List D} {gs : WGs} {R : Sm → Prop} (h1 : xs.length = n) (h : gs xs S R) : wgTup n gs (.d (.tup xs)) S R := ⟨h1, h⟩
theorem e_gNil {R : Sm → Prop} (h : R S) : wgNil [] S R := h
theorem e_gCons {g : WG} {gs : WGs} {x : D} {xs : List D} {R : Sm → Prop} (h : g (.d x) S fun S1 => gs xs S1 R) : wgCons g gs (x :: xs) S R := h
def subV (v o i : Val) (S2 : Sm) (Q : Sm → Prop) : Prop := match o, i with
  | .o k, .d (.int i) => asD v S2 fun d S3 => match muAt S3 k with
    | some (.lst ys) => match ixN ys.length i with
      | some j => Q (S3.put k (.lst (ys.set j d)))
      | none => False
    | _ => False
  | _, _ => False
theorem e_gSub {v : Val} {R : Sm → Prop} (h : to S fun o S1 => ti S1 fun i S2 => subV v o i S2 R) : wgSub to ti v S R := h
theorem e_subV {d : D} {z : Int} {ys : List D} {R : Sm → Prop} (h1 : muAt S k = some (.lst ys)) (h2 : ixN ys.length z = some j) (h : R (S.put k (.lst (ys.set j d)))) : subV (.d d) (.o k) (.d (.int z)) S R := by
  unfold subV
  simp only [asD_d, h1, h2]
  exact h
theorem e_put {m : Mu} {R : Sm → Prop} (h : R ⟨ε, κ.set k (some m), n, xw⟩) : R (Sm.put ⟨ε, κ, n, xw⟩ k m) := h
/-! expressions -/
theorem e_varD {x : D} (e : vget S.ε i = .d x) (h : Q (.d x) S) : wVar i S Q := by
  unfold wVar
  rw [e]
  exact h
theorem e_varO (e : vget S.ε i = .o k) (h : Q (.o k) S) : wVar i S Q := by
  unfold wVar
  rw [e]
  exact h
theorem e_c {x : D} (h : Q (.d x) S) : wC x S Q := h
def iiV (C : Int → Int → Prop) (g : Int → Int → D) (x y : Val) (S2 : Sm) (Q : Val → Sm → Prop) : Prop := match x, y with
  | .d (.int i), .d (.int j) => C i j ∧ Q (.d (g i j)) S2
  | _, _ => False
theorem e_ii {C : Int → Int → Prop} {g : Int → Int → D} (h : ta S fun x S1 => tb S1 fun y S2 => iiV C g x y S2 Q) : wII C g ta tb S Q := h
theorem e_iiV {C : Int → Int → Prop} {g : Int → Int → D} {a b : Int} (h1 : C a b) (h : Q (.d (g a b)) S) : iiV C g (.d (.int a)) (.d (.int b)) S Q := ⟨h1, h⟩
def ii0V (g : Int → Int → D) (x y : Val) (S2 : Sm) (Q : Val → Sm → Prop) : Prop := match x, y with
  | .d (.int i), .d (.int j) => Q (.d (g i j)) S2
  | _, _ => False
theorem e_ii0 {g : Int → Int → D} (h : ta S fun x S1 => tb S1 fun y S2 => ii0V g x y S2 Q) : wII0 g ta tb S Q := h
theorem e_ii0V {g : Int → Int → D} {a b : Int} (h : Q (.d (g a b)) S) : ii0V g (.d (.int a)) (.d (.int b)) S Q := h
def iV (g : Int → D) (x : Val) (S1 : Sm) (Q : Val → Sm → Prop) : Prop := match x with
  | .d (.int i) => Q (.d (g i)) S1
  | _ => False
theorem e_i {g : Int → D} (h : ta S fun x S1 => iV g x S1 Q) : wI g ta S Q := h
theorem e_iV {g : Int → D} {a : Int} (h : Q (.d (g a)) S) : iV g (.d (.int a)) S Q := h
def addV (x y : Val) (S2 : Sm) (Q : Val → Sm → Prop) : Prop := match x, y with
  | .d (.int i), .d (.int j) => Q (.d (.int (i + j))) S2
  | .d (.str i), .d (.str j) => i.length + j.length ≤ sizeLine ∧ Q (.d (.str (i ++ j))) S2
  | .d (.tup i), .d (.tup j) => i.length + j.length ≤ sizeLine ∧ Q (.d (.tup (i ++ j))) S2
  | _, _ => match lstV S2 x, lstV S2 y with
    | some xs, some ys => xs.length + ys.length ≤ sizeLine ∧ Q (.o S2.κ.length) (S2.new (.lst (xs ++ ys)))
    | _, _ => False
theorem e_add (h : ta S fun x S1 => tb S1 fun y S2 => addV x y S2 Q) : wAdd ta tb S Q := h
theorem e_addI {a b : Int} (h : Q (.d (.int (a + b))) S) : addV (.d (.int a)) (.d (.int b)) S Q := h
theorem e_addS {a b : Str} (h1 : a.length + b.length ≤ sizeLine) (h : Q (.d (.str (a ++ b))) S) : addV (.d (.str a)) (.d (.str b)) S Q := ⟨h1, h⟩
theorem e_addT {a b : List D} (h1 : a.length + b.length ≤ sizeLine) (h : Q (.d (.tup (a ++ b))) S) : addV (.d (.tup a)) (.d (.tup b)) S Q := ⟨h1, h⟩
theorem e_addL {x y : Val} {xs ys : List D} (e1 : lstV S x = some xs) (e2 : lstV S y = some ys) (h1 : xs.length + ys.length ≤ sizeLine) (h : Q (.o S.κ.length) (S.new (.lst (xs ++ ys)))) : addV x y S Q := by
  unfold addV
  split
  · cases e1
  · cases e1
  · cases e1
  · rw [e1, e2]; exact ⟨h1, h⟩
def ixV (x y : Val) (S2 : Sm) (Q : Val → Sm → Prop) : Prop := match seqV S2 x, y with
  | some xs, .d (.int i) => match L2.atI xs i with
    | some z => Q (.d z) S2
    | none => False
  | _, _ => False
theorem e_ix (h : ta S fun x S1 => tb S1 fun y S2 => ixV x y S2 Q) : wIx ta tb S Q := h
theorem e_ixV {x : Val} {xs : List D} {a : Int} {z : D} (e1 : seqV S x = some xs) (e2 : L2.atI xs a = some z) (h : Q (.d z) S) : ixV x (.d (.int a)) S Q := by
  unfold ixV
  rw [e1]
  simp only [e2]
  exact h
theorem e_aNil (h : QA [] S) : aNil S QA := h
theorem e_aCons (h : ta S fun x S1 => A S1 fun xs S2 => QA (x :: xs) S2) : aCons ta A S QA := h
theorem e_asDd {x : D} {R : D → Sm → Prop} (h : R x S) : asD (.d x) S R := h
theorem e_asDo {m : Mu} {R : D → Sm → Prop} (e : muAt S k = some m) (hn : Nat.ble S.n k = true) (h : R m.toD (S.frz k m)) : asD (.o k) S R := by
  rw [asD_o, e]
  exact ⟨Nat.le_of_ble_eq_true hn, h⟩
theorem e_asDs0 {R : List D → Sm → Prop} (h : R [] S) : asDs [] S R := h
theorem e_asDs1 {x : Val} {xs : List Val} {R : List D → Sm → Prop} (h : asD x S fun y S1 => asDs xs S1 fun ys S2 => R (y :: ys) S2) : asDs (x :: xs) S R := h
def tupV (Q : Val → Sm → Prop) (ys : List D) (S2 : Sm) : Prop := ys.length ≤ sizeLine ∧ Q (.d (.tup ys)) S2
def lstW (Q : Val → Sm → Prop) (ys : List D) (S2 : Sm) : Prop := ys.length ≤ sizeLine ∧ Q (.o S2.κ.length) (S2.new (.lst ys))
theorem e_tup (h : A S fun xs S1 => asDs xs S1 (tupV Q)) : wTup A S Q := h
theorem e_tupV {ys : List D} (h1 : ys.length ≤ sizeLine) (h : Q (.d (.tup ys)) S) : tupV Q ys S := ⟨h1, h⟩
theorem e_lst (h : A S fun xs S1 => asDs xs S1 (lstW Q)) : wLst A S Q := h
theorem e_lstW {ys : List D} (h1 : ys.length ≤ sizeLine) (h : Q (.o S.κ.length) (S.new (.lst ys))) : lstW Q ys S := ⟨h1, h⟩
theorem len_size {ys : List D} (h : Nat.ble ys.length 16777216 = true) : ys.length ≤ sizeLine := by rw [sizeLine_eq]; exact Nat.le_of_ble_eq_true h
def eqV' (neg : Bool) (x y : Val) (S2 : Sm) (Q : Val → Sm → Prop) : Prop := match pyV S2 x, pyV S2 y with
  | some d, some e => SeqAt.shaped d = true ∧ SeqAt.shaped e = true ∧ Q (.d (.bl (if neg then !PyData.eqv d e else PyData.eqv d e))) S2
  | _, _ => False
theorem e_eq (h : ta S fun x S1 => tb S1 fun y S2 => eqV' false x y S2 Q) : wEq ta tb S Q := h
theorem e_ne (h : ta S fun x S1 => tb S1 fun y S2 => eqV' true x y S2 Q) : wNe ta tb S Q := h
theorem e_eqI {a b : Int} (h : Q (.d (.bl (decide (a = b)))) S) : eqV' false (.d (.int a)) (.d (.int b)) S Q := by
  refine ⟨rfl, rfl, ?_⟩
  show Q (.d (.bl (PyData.eqv (.int a) (.int b)))) S
  rw [eqv_int]; exact h
theorem e_neI {a b : Int} (h : Q (.d (.bl (!decide (a = b)))) S) : eqV' true (.d (.int a)) (.d (.int b)) S Q := by
  refine ⟨rfl, rfl, ?_⟩
  show Q (.d (.bl (!PyData.eqv (.int a) (.int b)))) S
  rw [eqv_int]; exact h
theorem e_eqB {a b : Bool} (h : Q (.d (.bl (decide (a = b)))) S) : eqV' false (.d (.bl a)) (.d (.bl b)) S Q := by
  refine ⟨rfl, rfl, ?_⟩
  show Q (.d (.bl (PyData.eqv (.bool a) (.bool b)))) S
  rw [eqv_bool]; exact h
theorem e_neB {a b : Bool} (h : Q (.d (.bl (!decide (a = b)))) S) : eqV' true (.d (.bl a)) (.d (.bl b)) S Q := by
  refine ⟨rfl, rfl, ?_⟩
  show Q (.d (.bl (!PyData.eqv (.bool a) (.bool b)))) S
  rw [eqv_bool]; exact h
theorem e_eqQ {a b : Rat} (h : Q (.d (.bl (decide (a = b)))) S) : eqV' false (.d (qF a)) (.d (qF b)) S Q := by
  refine ⟨shaped_qF a, shaped_qF b, ?_⟩
  show Q (.d (.bl (PyData.eqv (qF a).py (qF b).py))) S
  rw [eqv_qF]; exact h
theorem e_neQ {a b : Rat} (h : Q (.d (.bl (!decide (a = b)))) S) : eqV' true (.d (qF a)) (.d (qF b)) S Q := by
  refine ⟨shaped_qF a, shaped_qF b, ?_⟩
  show Q (.d (.bl (!PyData.eqv (qF a).py (qF b).py))) S
  rw [eqv_qF]; exact h
theorem e_eqV {x y : Val} {d e : PyData} (e1 : pyV S x = some d) (e2 : pyV S y = some e) (h1 : SeqAt.shaped d = true) (h2 : SeqAt.shaped e = true) (h : Q (.d (.bl (PyData.eqv d e))) S) : eqV' false x y S Q := by
  unfold eqV'
  rw [e1, e2]; exact ⟨h1, h2, h⟩
theorem e_neV {x y : Val} {d e : PyData} (e1 : pyV S x = some d) (e2 : pyV S y = some e) (h1 : SeqAt.shaped d = true) (h2 : SeqAt.shaped e = true) (h : Q (.d (.bl (!PyData.eqv d e))) S) : eqV' true x y S Q := by
  unfold eqV'
  rw [e1, e2]; exact ⟨h1, h2, h⟩
theorem e_isN (h : ta S fun x S1 => Q (.d (.bl (isNon x))) S1) : wIsN ta S Q := h
theorem e_notN (h : ta S fun x S1 => Q (.d (.bl (!isNon x))) S1) : wNotN ta S Q := h
def inV' (neg : Bool) (x y : Val) (S2 : Sm) (Q : Val → Sm → Prop) : Prop := match x, seqV S2 y with
  | .d a, some xs => flatD a = true ∧ xs.all flatD = true ∧ Q (.d (.bl (if neg then !inD a xs else inD a xs))) S2
  | _, _ => False
theorem e_in {neg : Bool} (h : ta S fun x S1 => tb S1 fun y S2 => inV' neg x y S2 Q) : wIn neg ta tb S Q := h
theorem e_inV {neg : Bool} {a : D} {y : Val} {xs : List D} (e : seqV S y = some xs) (h1 : flatD a = true) (h2 : xs.all flatD = true) (h : Q (.d (.bl (if neg then !inD a xs else inD a xs))) S) : inV' neg (.d a) y S Q := by
  unfold inV'
  rw [e]; exact ⟨h1, h2, h⟩
/-! tests -/
def tstV (Q : Bool → Sm → Prop) (x : Val) (S1 : Sm) : Prop := match x with
  | .d (.bl c) => Q c S1
  | _ => False
theorem e_tst (h : te S (tstV QT)) : wTst te S QT := h
theorem e_tstV {c : Bool} (h : QT c S) : tstV QT (.d (.bl c)) S := h
def andT (u : WT) (Q : Bool → Sm → Prop) (c : Bool) (S1 : Sm) : Prop := if c = true then u S1 Q else Q false S1
def orT (u : WT) (Q : Bool → Sm → Prop) (c : Bool) (S1 : Sm) : Prop := if c = true then Q true S1 else u S1 Q
theorem e_and (h : tt S (andT tu QT)) : wAndT tt tu S QT := h
theorem e_or (h : tt S (orT tu QT)) : wOrT tt tu S QT := h
theorem e_andT (h : tu S QT) : andT tu QT true S := h
theorem e_andF (h : QT false S) : andT tu QT false S := h
theorem e_orT (h : QT true S) : orT tu QT true S := h
theorem e_orF (h : tu S QT) : orT tu QT false S := h
theorem e_andT' {c : Bool} (hc : c = true) (h : tu S QT) : andT tu QT c S := by subst hc; exact h
theorem e_andF' {c : Bool} (hc : c = false) (h : QT false S) : andT tu QT c S := by subst hc; exact h
theorem e_orT' {c : Bool} (hc : c = true) (h : QT true S) : orT tu QT c S := by subst hc; exact h
theorem e_orF' {c : Bool} (hc : c = false) (h : tu S QT) : orT tu QT c S := by subst hc; exact h
theorem e_andB {c : Bool} (h1 : c = true → tu S QT) (h2 : c = false → QT false S) : andT tu QT c S := by
  cases c with
  | true => exact h1 rfl
  | false => exact h2 rfl
theorem e_orB {c : Bool} (h1 : c = true → QT true S) (h2 : c = false → tu S QT) : orT tu QT c S := by
  cases c with
  | true => exact h1 rfl
  | false => exact h2 rfl
theorem e_not (h : tt S fun c S1 => QT (!c) S1) : wNotT tt S QT := h
theorem e_nT {R : Bool → Sm → Prop} (h : R false S) : R (!true) S := h
theorem e_nF {R : Bool → Sm → Prop} (h : R true S) : R (!false) S := h
def andV (tb : WE) (Q : Val → Sm → Prop) (x : Val) (S1 : Sm) : Prop := match x with
  | .d (.bl c) => if c = true then tb S1 Q else Q (.d (.bl false)) S1
  | _ => False
def orV (tb : WE) (Q : Val → Sm → Prop) (x : Val) (S1 : Sm) : Prop := match x with
  | .d (.bl c) => if c = true then Q (.d (.bl true)) S1 else tb S1 Q
  | _ => False
def notV (Q : Val → Sm → Prop) (x : Val) (S1 : Sm) : Prop := match x with
  | .d (.bl c) => Q (.d (.bl (!c))) S1
  | _ => False
theorem e_vand (h : ta S (andV tb Q)) : wAndV ta tb S Q := h
theorem e_vor (h : ta S (orV tb Q)) : wOrV ta tb S Q := h
theorem e_vnot (h : ta S (notV Q)) : wNotV ta S Q := h
theorem e_vandT (h : tb S Q) : andV tb Q (.d (.bl true)) S := h
theorem e_vandF (h : Q (.d (.bl false)) S) : andV tb Q (.d (.bl false)) S := h
theorem e_vorT (h : Q (.d (.bl true)) S) : orV tb Q (.d (.bl true)) S := h
theorem e_vorF (h : tb S Q) : orV tb Q (.d (.bl false)) S := h
theorem e_vandB {c : Bool} (h1 : c = true → tb S Q) (h2 : c = false → Q (.d (.bl false)) S) : andV tb Q (.d (.bl c)) S := by
  cases c with
  | true => exact h1 rfl
  | false => exact h2 rfl
theorem e_vorB {c : Bool} (h1 : c = true → Q (.d (.bl true)) S) (h2 : c = false → tb S Q) : orV tb Q (.d (.bl c)) S := by
  cases c with
  | true => exact h1 rfl
  | false => exact h2 rfl
theorem e_vnotV {c : Bool} (h : Q (.d (.bl (!c))) S) : notV Q (.d (.bl c)) S := h
def ifV (ta tb : WE) (Q : Val → Sm → Prop) (c : Bool) (S1 : Sm) : Prop := if c = true then ta S1 Q else tb S1 Q
theorem e_ife (h : tt S (ifV ta tb Q)) : wIf tt ta tb S Q := h
theorem e_ifeT (h : ta S Q) : ifV ta tb Q true S := h
theorem e_ifeF (h : tb S Q) : ifV ta tb Q false S := h
theorem e_ifeB {c : Bool} (h1 : c = true → ta S Q) (h2 : c = false → tb S Q) : ifV ta tb Q c S := by
  cases c with
  | true => exact h1 rfl
  | false => exact h2 rfl
/-! slices, calls -/
theorem e_noPart {R : Option Int → Sm → Prop} (h : R none S) : wNoPart S R := h
def partV (R : Option Int → Sm → Prop) (x : Val) (S1 : Sm) : Prop := match x with
  | .d (.int i) => R (some i) S1
  | _ => False
theorem e_part {R : Option Int → Sm → Prop} (h : te S (partV R)) : wPart te S R := h
theorem e_partV {R : Option Int → Sm → Prop} {a : Int} (h : R (some a) S) : partV R (.d (.int a)) S := h
def slV (x : Val) (lo hi : Option Int) (S3 : Sm) (Q : Val → Sm → Prop) : Prop := match x with
  | .d (.tup xs) => Q (.d (.tup (cutD xs lo hi))) S3
  | _ => match seqV S3 x with
    | some xs => Q (.o S3.κ.length) (S3.new (.lst (cutD xs lo hi)))
    | none => False
theorem e_sl {tl th : WO} (h : ta S fun x S1 => tl S1 fun lo S2 => th S2 fun hi S3 => slV x lo hi S3 Q) : wSl ta tl th S Q := h
theorem e_slT {xs : List D} {lo hi : Option Int} (h : Q (.d (.tup (cutD xs lo hi))) S) : slV (.d (.tup xs)) lo hi S Q := h
theorem e_slL {xs : List D} {lo hi : Option Int} (h : Q (.o S.κ.length) (S.new (.lst (cutD xs lo hi)))) : slV (.d (.lst xs)) lo hi S Q := h
theorem e_slS {xs : List Int} {lo hi : Option Int} (h : Q (.o S.κ.length) (S.new (.lst (cutD (xs.map .int) lo hi)))) : slV (.d (.scr xs)) lo hi S Q := h
theorem e_slO {xs : List D} {lo hi : Option Int} (e : muAt S k = some (.lst xs)) (h : Q (.o S.κ.length) (S.new (.lst (cutD xs lo hi)))) : slV (.o k) lo hi S Q := by
  show match (muAt S k).bind seqM with
    | some xs => Q (.o S.κ.length) (S.new (.lst (cutD xs lo hi)))
    | none => False
  rw [e]
  exact h
theorem e_cb {f : WF} (h : A S fun xs S1 => f xs S1 Q) : wCB f A S Q := h
theorem e_abs {a : Int} (h : Q (.d (.int (a.natAbs : Int))) S) : fAbs [.d (.int a)] S Q := h
theorem e_intI {a : Int} (h : Q (.d (.int a)) S) : fInt [.d (.int a)] S Q := h
theorem e_intB {c : Bool} (h : Q (.d (.int (if c = true then 1 else 0))) S) : fInt [.d (.bl c)] S Q := h
theorem e_lenV {x : Val} {xs : List D} (e : seqV S x = some xs) (h : Q (.d (.int (xs.length : Int))) S) : fLen [x] S Q := by
  unfold fLen
  split
  · rename_i z heq
    cases heq
    cases e
  · rename_i y _ heq
    cases heq
    rw [e]; exact h
  · rename_i h1 h2
    exact absurd rfl (h2 x)
theorem e_lenS {x : Str} (h1 : x.length ≤ sizeLine) (h : Q (.d (.int (x.length : Int))) S) : fLen [.d (.str x)] S Q := ⟨h1, h⟩
theorem e_min {a b : Int} (h : Q (.d (.int (if b < a then b else a))) S) : fMin2 [.d (.int a), .d (.int b)] S Q := h
theorem e_max {a b : Int} (h : Q (.d (.int (if b > a then b else a))) S) : fMax2 [.d (.int a), .d (.int b)] S Q := h
theorem e_list {x : Val} {xs : List D} (e : seqV S x = some xs) (h : Q (.o S.κ.length) (S.new (.lst xs))) : fList [x] S Q := by
  unfold fList
  simp only [e]
  exact h
theorem e_tuple {x : Val} {xs : List D} (e : seqV S x = some xs) (h : Q (.d (.tup xs)) S) : fTuple [x] S Q := by
  unfold fTuple
  simp only [e]
  exact h
theorem e_new {m : Mu} {x : Val} (h : Q x ⟨ε, κ ++ [some m], n, xw⟩) : Q x (Sm.new ⟨ε, κ, n, xw⟩ m) := h
def isiV (n : TyK) (x : Val) (S1 : Sm) (Q : Val → Sm → Prop) : Prop := match tyVal S1 x with
  | some k => Q (.d (.bl (isK k n))) S1
  | none => False
theorem e_isi {n : TyK} (h : te S fun x S1 => isiV n x S1 Q) : wIsi n te S Q := h
theorem e_isiV {n k : TyK} {x : Val} {c : Bool} (e : tyVal S x = some k) (e2 : isK k n = c) (h : Q (.d (.bl c)) S) : isiV n x S Q := by
  unfold isiV
  rw [e]
  subst e2
  exact h
def isi2V (n m : TyK) (x : Val) (S1 : Sm) (Q : Val → Sm → Prop) : Prop := match tyVal S1 x with
  | some k => Q (.d (.bl (isK k n || isK k m))) S1
  | none => False
theorem e_isiT {n k : TyK} {x : Val} (e : tyVal S x = some k) (e2 : isK k n = true) (h : Q (.d (.bl true)) S) : isiV n x S Q := e_isiV e e2 h
theorem e_isiF {n k : TyK} {x : Val} (e : tyVal S x = some k) (e2 : isK k n = false) (h : Q (.d (.bl false)) S) : isiV n x S Q := e_isiV e e2 h
theorem e_isi2 {n m : TyK} (h : te S fun x S1 => isi2V n m x S1 Q) : wIsi2 n m te S Q := h
theorem e_isi2V {n m k : TyK} {x : Val} {c : Bool} (e : tyVal S x = some k) (e2 : (isK k n || isK k m) = c) (h : Q (.d (.bl c)) S) : isi2V n m x S Q := by
  unfold isi2V
  rw [e]
  subst e2
  exact h
theorem e_isi2T {n m k : TyK} {x : Val} (e : tyVal S x = some k) (e2 : (isK k n || isK k m) = true) (h : Q (.d (.bl true)) S) : isi2V n m x S Q := e_isi2V e e2 h
theorem e_isi2F {n m k : TyK} {x : Val} (e : tyVal S x = some k) (e2 : (isK k n || isK k m) = false) (h : Q (.d (.bl false)) S) : isi2V n m x S Q := e_isi2V e e2 h
def callV (F : FS) (as : List Val) (idx : List Nat) (S2 : Sm) (Q : Val → Sm → Prop) : Prop := idx.Nodup ∧ match lives (idx.map (muAt S2)) with
  | none => False
  | some κs => F as κs fun r κ' => retV (putAll S2 idx κ') idx Q r
theorem e_call {ms : List Bool} {F : FS} (h : A S fun vs S1 => prep ms vs S1 [] fun as idx S2 => callV F as idx S2 Q) : wCall ms F A S Q := h
theorem e_prep0 {idx : List Nat} {R : List Val → List Nat → Sm → Prop} (h : R [] idx S) : prep [] [] S idx R := h
theorem e_prepF {ms : List Bool} {x : Val} {xs : List Val} {idx : List Nat} {R : List Val → List Nat → Sm → Prop} (h : asD x S fun d S1 => prep ms xs S1 idx fun as idx' S2 => R (.d d :: as) idx' S2) : prep (false :: ms) (x :: xs) S idx R := h
theorem e_prepT {ms : List Bool} {xs : List Val} {idx : List Nat} {R : List Val → List Nat → Sm → Prop} (h : prep ms xs S (idx ++ [k]) fun as idx' S2 => R (.o idx.length :: as) idx' S2) : prep (true :: ms) (.o k :: xs) S idx R := h
theorem e_prepT0 {ms : List Bool} {xs : List Val} {R : List Val → List Nat → Sm → Prop} (h : prep ms xs S [k] fun as idx' S2 => R (.o 0 :: as) idx' S2) : prep (true :: ms) (.o k :: xs) S [] R := h
theorem e_prepT1 {ms : List Bool} {xs : List Val} {R : List Val → List Nat → Sm → Prop} (h : prep ms xs S [i, k] fun as idx' S2 => R (.o 1 :: as) idx' S2) : prep (true :: ms) (.o k :: xs) S [i] R := h
theorem e_retD1 {x : D} {m : Mu} {idx : List Nat} (h : Q (.d x) ⟨ε, κ.set k (some m), n, xw⟩) : retV (putAll ⟨ε, κ, n, xw⟩ [k] [m]) idx Q (.d x) := h
theorem e_retD2 {x : D} {m m2 : Mu} {idx : List Nat} (h : Q (.d x) ⟨ε, (κ.set i (some m)).set k (some m2), n, xw⟩) : retV (putAll ⟨ε, κ, n, xw⟩ [i, k] [m, m2]) idx Q (.d x) := h
theorem e_retN0 {m : Mu} {idx : List Nat} (h : Q (.o κ.length) ⟨ε, κ ++ [some m], n, xw⟩) : retV ⟨ε, κ, n, xw⟩ idx Q (.new m) := h
theorem e_retN1 {m m0 : Mu} {idx : List Nat} (h : Q (.o (κ.set k (some m0)).length) ⟨ε, κ.set k (some m0) ++ [some m], n, xw⟩) : retV (putAll ⟨ε, κ, n, xw⟩ [k] [m0]) idx Q (.new m) := h
theorem e_retP {R : Rt → List Mu → Prop} {x : D} {κ' : List Mu} (e : lives (κ.take n) = some κ') (h : R (.d x) κ') : RetP R (.d x) ⟨ε, κ, n, xw⟩ := by
  show match lives (κ.take n) with
    | none => False
    | some κ' => R (.d x) κ'
  rw [e]
  exact h
theorem e_retPo {R : Rt → List Mu → Prop} {m : Mu} {κ' : List Mu} (e : lives (κ.take n) = some κ') (hk : Nat.ble n k = true) (e2 : (κ[k]?).join = some m) (h : R (.new m) κ') : RetP R (.o k) ⟨ε, κ, n, xw⟩ := by
  show match lives (κ.take n) with
    | none => False
    | some κ' => if k < n then R (.arg k) κ' else match (κ[k]?).join with
      | some m => R (.new m) κ'
      | none => False
  rw [e]
  show if k < n then R (.arg k) κ' else match (κ[k]?).join with
      | some m => R (.new m) κ'
      | none => False
  rw [if_neg (Nat.not_lt_of_le (Nat.le_of_ble_eq_true hk)), e2]
  exact h
theorem e_frz {m : Mu} {x : D} {R : D → Sm → Prop} (h : R x ⟨ε.map (unown k m.toD), κ.set k none, n, xw⟩) : R x (Sm.frz ⟨ε, κ, n, xw⟩ k m) := h
/-- a call without own arguments -/
theorem e_call0 {F : FS} {as : List Val} (h : F as [] fun r _ => retV S [] Q r) : callV F as [] S Q := by
  refine ⟨List.nodup_nil, ?_⟩
  have e : (fun r κ' => retV (putAll S [] κ') [] Q r) = fun r (_ : List Mu) => retV S [] Q r := by
    funext r κ'
    cases κ' <;> rfl
  show F as [] fun r κ' => retV (putAll S [] κ') [] Q r
  rw [e]
  exact h
/-- with one -/
theorem e_call1 {F : FS} {as : List Val} {m : Mu} (e : muAt S k = some m) (h : F as [m] fun r κ' => retV (putAll S [k] κ') [k] Q r) : callV F as [k] S Q := by
  refine ⟨by simp, ?_⟩
  show match lives [muAt S k] with
    | none => False
    | some κs => F as κs fun r κ' => retV (putAll S [k] κ') [k] Q r
  rw [e]
  exact h
theorem e_call2 {F : FS} {as : List Val} {m1 m2 : Mu} (hn : i ≠ k) (e : muAt S i = some m1) (e2 : muAt S k = some m2) (h : F as [m1, m2] fun r κ' => retV (putAll S [i, k] κ') [i, k] Q r) : callV F as [i, k] S Q := by
  refine ⟨by simp [hn], ?_⟩
  show match lives [muAt S i, muAt S k] with
    | none => False
    | some κs => F as κs fun r κ' => retV (putAll S [i, k] κ') [i, k] Q r
  rw [e, e2]
  exact h
theorem e_retD {x : D} {idx : List Nat} (h : Q (.d x) S) : retV S idx Q (.d x) := h
theorem e_retN' {m : Mu} {idx : List Nat} (h : Q (.o S.κ.length) (S.new m)) : retV S idx Q (.new m) := h
def lmV (f : LM) (A : WA) (Q : Val → Sm → Prop) (ov : Val) (S1 : Sm) : Prop := match ov with
  | .o k => (ownL S1 ov).isSome = true ∧ A S1 fun xs S2 => asDs xs S2 fun ds S3 => match muAt S3 k with
    | some (.lst ys) => f ys ds fun y ys' => Q (.d y) (S3.put k (.lst ys'))
    | none => False
  | _ => False
def lmW (f : LM) (k : Nat) (Q : Val → Sm → Prop) (ds : List D) (S3 : Sm) : Prop := match muAt S3 k with
    | some (.lst ys) => f ys ds fun y ys' => Q (.d y) (S3.put k (.lst ys'))
    | none => False
theorem e_lm {f : LM} (h : to S (lmV f A Q)) : wLm f to A S Q := h
theorem e_lmV {f : LM} {ys : List D} (e : muAt S k = some (.lst ys)) (h : A S fun xs S2 => asDs xs S2 (lmW f k Q)) : lmV f A Q (.o k) S := by
  refine ⟨?_, h⟩
  simp [ownL, e]
theorem e_lmW {f : LM} {ys ds : List D} (e : muAt S k = some (.lst ys)) (h : f ys ds fun y ys' => Q (.d y) (S.put k (.lst ys'))) : lmW f k Q ds S := by
  unfold lmW
  rw [e]; exact h
theorem e_app {ys : List D} {d : D} {R : D → List D → Prop} (h1 : ys.length < sizeLine) (h : R .non (ys ++ [d])) : lmAppend ys [d] R := ⟨h1, h⟩
/-! the end of a body -/
theorem e_retP0 {R : Rt → List Mu → Prop} {x : D} (h : R (.d x) []) : RetP R (.d x) ⟨ε, κ, 0, xw⟩ := by
  show match lives (κ.take 0) with
    | none => False
    | some κ' => R (.d x) κ'
  rw [List.take_zero]
  exact h
theorem e_retP1 {R : Rt → List Mu → Prop} {x : D} {m : Mu} (h : R (.d x) [m]) : RetP R (.d x) ⟨ε, some m :: κ, 1, xw⟩ := h
theorem e_retP2 {R : Rt → List Mu → Prop} {x : D} {m m2 : Mu} (h : R (.d x) [m, m2]) : RetP R (.d x) ⟨ε, some m :: some m2 :: κ, 2, xw⟩ := h
theorem e_retO0 {R : Rt → List Mu → Prop} {m : Mu} (e : (κ[k]?).join = some m) (h : R (.new m) []) : RetP R (.o k) ⟨ε, κ, 0, xw⟩ := by
  show match lives (κ.take 0) with
    | none => False
    | some κ' => if k < 0 then R (.arg k) κ' else match (κ[k]?).join with
      | some m => R (.new m) κ'
      | none => False
  rw [List.take_zero]
  show if k < 0 then R (.arg k) [] else match (κ[k]?).join with
      | some m => R (.new m) []
      | none => False
  rw [if_neg (Nat.not_lt_zero _), e]
  exact h
/-! while, for -/
theorem e_for {wi : WI} {g : WG} (h : wi S fun r S1 => ∃ W : Nat → Sm → Prop, W 0 S1 ∧ (∀ i S, W i S → r.keep S) ∧
  (∀ i x S, r.items[i]? = some x → W i S → g (.d x) S fun S2 => t { E with nx := W (i + 1), ct := W (i + 1), bk := E.nx } S2) ∧ ∀ S, W r.items.length S → E.nx S) : sFor wi g t E S := h
def seqR (R : Src → Sm → Prop) (x : Val) (S1 : Sm) : Prop := match srcV x S1 with
  | some r => R r S1
  | none => False
theorem e_wiSeq {R : Src → Sm → Prop} (h : te S (seqR R)) : wiSeq te S R := h
theorem e_seqR {R : Src → Sm → Prop} {x : Val} {r : Src} (e : srcV x S = some r) (h : R r S) : seqR R x S := by
  unfold seqR
  rw [e]; exact h
def rng1R (R : Src → Sm → Prop) (x : Val) (S1 : Sm) : Prop := match x with
  | .d (.int j) => (-(2 ^ 62) ≤ j ∧ j < 2 ^ 62) ∧ R ⟨rngD 0 j.toNat, none⟩ S1
  | _ => False
theorem e_rng1 {R : Src → Sm → Prop} (h : te S (rng1R R)) : wiRng1 te S R := h
theorem e_rng1R {R : Src → Sm → Prop} {a : Int} (h1 : -4611686018427387904 ≤ a) (h2 : a < 4611686018427387904) (h : R ⟨rngD 0 a.toNat, none⟩ S) : rng1R R (.d (.int a)) S := ⟨⟨h1, h2⟩, h⟩
def rng2R (R : Src → Sm → Prop) (x y : Val) (S1 : Sm) : Prop := match x, y with
  | .d (.int i), .d (.int j) => (-(2 ^ 62) ≤ i ∧ i < 2 ^ 62 ∧ -(2 ^ 62) ≤ j ∧ j < 2 ^ 62) ∧ R ⟨rngD i (j - i).toNat, none⟩ S1
  | _, _ => False
theorem e_rng2 {R : Src → Sm → Prop} (h : ta S fun x S1 => tb S1 fun y S2 => rng2R R x y S2) : wiRng2 ta tb S R := h
theorem e_rng2R {R : Src → Sm → Prop} {a b : Int} (h1 : -4611686018427387904 ≤ a) (h2 : a < 4611686018427387904) (h3 : -4611686018427387904 ≤ b) (h4 : b < 4611686018427387904) (h : R ⟨rngD a (b - a).toNat, none⟩ S) : rng2R R (.d (.int a)) (.d (.int b)) S := ⟨⟨h1, h2, h3, h4⟩, h⟩
/-! comprehensions, loops -/
def lcE (W : Nat → Sm → Prop) (i k0 : Nat) (vs : List Nat) (d : D) (S5 : Sm) : Prop := match muAt S5 k0 with
    | some (.lst acc) => acc.length < sizeLine ∧ W (i + 1) (wipeS (S5.put k0 (.lst (acc ++ [d]))) vs)
    | none => False
def lcB (te : WE) (W : Nat → Sm → Prop) (i k0 : Nat) (vs : List Nat) (b : Bool) (S3 : Sm) : Prop := if b = true then te S3 fun y S4 => asD y S4 (lcE W i k0 vs) else W (i + 1) (wipeS S3 vs)
def lcR (g : WG) (tt : WT) (te : WE) (vs : List Nat) (Q : Val → Sm → Prop) (r : Src) (S1 : Sm) : Prop := ∃ W : Nat → Sm → Prop, W 0 (S1.new (.lst [])) ∧ (∀ i S, W i S → r.keep S) ∧
  (∀ i x S, r.items[i]? = some x → W i S → g (.d x) (wipeS S vs) fun S2 => tt S2 (lcB te W i S1.κ.length vs)) ∧ ∀ S, W r.items.length S → Q (.o S1.κ.length) S
theorem e_lc {wi : WI} {g : WG} {vs : List Nat} (h : wi S (lcR g tt te vs Q)) : wLc wi g tt te vs S Q := h
theorem e_lcBT {W : Nat → Sm → Prop} {k0 : Nat} {vs : List Nat} (h : te S fun y S4 => asD y S4 (lcE W i k0 vs)) : lcB te W i k0 vs true S := h
theorem e_lcBF {W : Nat → Sm → Prop} {k0 : Nat} {vs : List Nat} (h : W (i + 1) (wipeS S vs)) : lcB te W i k0 vs false S := h
theorem e_lcE {W : Nat → Sm → Prop} {k0 : Nat} {vs : List Nat} {acc : List D} {d : D} (e : muAt S k0 = some (.lst acc)) (h1 : acc.length < sizeLine) (h : W (i + 1) (wipeS (S.put k0 (.lst (acc ++ [d]))) vs)) : lcE W i k0 vs d S := by
  unfold lcE
  rw [e]
  exact ⟨h1, h⟩
theorem e_yes (h : QT true S) : wYes S QT := h
def forR (g : WG) (t : WS) (E : En) (r : Src) (S1 : Sm) : Prop := ∃ W : Nat → Sm → Prop, W 0 S1 ∧ (∀ i S, W i S → r.keep S) ∧
  (∀ i x S, r.items[i]? = some x → W i S → g (.d x) S fun S2 => t { E with nx := W (i + 1), ct := W (i + 1), bk := E.nx } S2) ∧ ∀ S, W r.items.length S → E.nx S
theorem e_forR {wi : WI} {g : WG} (h : wi S (forR g t E)) : sFor wi g t E S := h
theorem rngD_get {lo : Int} {m a : Nat} {x : D} (h : (rngD lo m)[a]? = some x) : a < m ∧ x = .int (lo + (a : Int)) := by
  unfold rngD at h
  rw [List.getElem?_map] at h
  by_cases hi : a < m
  · rw [List.getElem?_range hi] at h
    cases h
    exact ⟨hi, rfl⟩
  · rw [List.getElem?_eq_none (by rw [List.length_range]; omega)] at h
    cases h
theorem rngD_length {lo : Int} {m : Nat} : (rngD lo m).length = m := by unfold rngD; rw [List.length_map, List.length_range]
end
end MP

/-! MP: exceptions: defs that raise, raise, try -/
namespace MP
open PySem PySem.Spec PyProof.Rows L2

/-- what a def that may raise does -/
abbrev FX := List Val → List Mu → (Rt → List Mu → Prop) → (Xc → List Mu → Prop) → Prop
@[reducible] def xRet (n : Nat) (RX : Xc → List Mu → Prop) : Xw := fun xc _ κ => match lives (κ.take n) with
  | none => False
  | some κ' => RX xc κ'
def spX (K : PySem.W.Frag) (cl : String → Value) (F : FX) : Sp := fun vs H Q E => ∃ (A : Addr → Prop) (b : Nat → Addr) (as : List Val) (κ : List Mu) (R : Rt → List Mu → Prop) (RX : Xc → List Mu → Prop),
  SR (cfg0 K A b κ H) b ⟨as, κ.map some, κ.length, noX⟩ (vs.map some) H ∧ F as κ R RX ∧ (∀ r κ' u H', R r κ' → CallOut K A b H κ.length r κ' u H' → Q u H') ∧
  ∀ xc κ' d H', RX xc κ' → CallOut K A b H κ.length (.d .non) κ' .non H' → XF K H' (OutP A b κ.length (.d .non) .non) d xc.fs → E (cl xc.cls) d H'
theorem XF.mono {K : PySem.W.Frag} {H H' : Hp} {P P' : Addr → Prop} {d : Option Addr} (h : ∀ a o, P a → H a = some o → P' a ∧ H' a = some o) : ∀ {fs : List (Str × D)}, XF K H P d fs → XF K H' P' d fs
  | [], _ => trivial
  | _ :: _, ⟨dd, vs, h1, h2, h3, h4, h5⟩ => ⟨dd, vs, h1, (h dd _ h2 h3).1, (h dd _ h2 h3).2, h4, RepL.mono h h5⟩

/-- with another wish about exceptions -/
theorem SR.wish {K : PySem.W.Frag} {A : Addr → Prop} {H0 Hb : Hp} {n : Nat} {x x' : Xw} {ad0 ad : Nat → Addr} {κ0 : List (Option Mu)} {ε : List Val} {κ : List (Option Mu)} {σ : L2.St} {H : Hp}
    (s : SR ⟨K, A, H0, n, x, ad0, κ0, Hb⟩ ad ⟨ε, κ, n, x⟩ σ H) : SR ⟨K, A, H0, n, x', ad0, κ0, Hb⟩ ad ⟨ε, κ, n, x'⟩ σ H :=
  ⟨s.len, s.sl, s.ow, s.inj, s.nA, s.hA, s.fr, s.nw, s.bn, rfl, s.tr, rfl, ⟨s.sb.pub, s.sb.len, s.sb.ads⟩⟩

def startX (N : Nat) (as : List Val) (κ : List Mu) (RX : Xc → List Mu → Prop) : Sm := ⟨as ++ List.replicate (N - as.length) .un, κ.map some, κ.length, xRet κ.length RX⟩
theorem pub_out {C : Cfg} {b ad : Nat → Addr} {κ κ' : List Mu} {S : Sm} {σ : L2.St} {H' : Hp} (hn : C.n = κ.length) (e : lives (S.κ.take S.n) = some κ') (s : SR C ad S σ H') (st : Stp C b (κ.map some) C.H0 ad S.κ H') :
    ∀ a, Pub C ad S.κ a → OutP C.A b κ.length (.d .non) .non a := fun a p => by
  have e2 := lives_eq e
  have nn : S.n = κ.length := s.nn.trans hn
  have bn : κ.length ≤ S.κ.length := by have := s.bn; omega
  have len : κ'.length = κ.length := by
    have h1 := congrArg List.length e2
    rw [List.length_take, List.length_map] at h1
    omega
  refine ⟨p.1, fun k hk => ?_, fun _ z => nomatch z⟩
  obtain ⟨m, hm⟩ : ∃ m, κ'[k]? = some m := ⟨_, List.getElem?_eq_getElem (by omega)⟩
  have h1 : (S.κ.take S.n)[k]? = (κ'.map some)[k]? := by rw [e2]
  rw [List.getElem?_take_of_lt (by omega), List.getElem?_map, hm] at h1
  have h2 := p.2 k m h1
  rwa [st.ads k (by rw [List.length_map]; exact hk)] at h2

section
variable {P : Program} {w : World} {K : PySem.W.Frag} {mg : Str → Option Value} {base : Heap} {cl : String → Value}
/-- THE RULE for a def that may raise -/
theorem def_okX {x qual : Str} {st : Stmt} {f : Addr} {fd : FuncData} {N ps : List Str} {k : Nat} {F : FX} {t : WS} (Fn : Fun K x qual st f fd) (Sc : FnScope N ps (defScope st)) (hlen : ∀ as κ R RX, F as κ R RX → as.length = ps.length)
    (hbody : ∀ (cdv : Value) (A : Around) (outer : List Env) (s : Shared) (H : Hp) (E : XK), Room k (A.deeper (envOfC qual (defScope st) s.heap.objs.size f cdv)) →
      MSs (cxOf (L2.CX P w) P w K mg base N qual (defScope st) f cdv A outer s H E) ⟨cl, fun cls d _ H => E cls d H⟩ (defBody st) t)
    (hsp : ∀ as κ R RX, F as κ R RX → t { nx := RetP R (.d .non), rt := RetP R } (startX N.length as κ RX)) : FnOk P w K mg base (L2.CX P w) (k + 1) f fd ps (spX K cl F) := by
  refine Fun.okX Fn Sc (fun vs H Q E h => ?_) fun cdv A outer s H vs Q E hr h => ⟨_, (hbody cdv A outer s H E hr).pss, ?_⟩
  · obtain ⟨A, b, as, κ, R, RX, h1, h2, _⟩ := h
    have h3 : (vs.map some).length = as.length := h1.len
    rw [List.length_map] at h3
    rw [h3]
    exact hlen as κ R RX h2
  · obtain ⟨A, b, as, κ, R, RX, h1, h2, q, qx⟩ := h
    have l1 : vs.length = as.length := by have := h1.len; rw [List.length_map] at this; exact this
    let C : Cfg := ⟨K, A, H, κ.length, xRet κ.length RX, b, κ.map some, H⟩
    have sr : SR C b (startX N.length as κ RX) (start N vs) H := by
      refine ⟨?_, fun i v e nu => ?_, h1.ow, h1.inj, h1.nA, h1.hA, h1.fr, h1.nw, h1.bn, rfl, h1.tr, rfl, ⟨h1.sb.pub, h1.sb.len, h1.sb.ads⟩⟩
      · show (vs.map some ++ List.replicate (N.length - vs.length) none).length = (as ++ List.replicate (N.length - as.length) Val.un).length
        rw [List.length_append, List.length_append, List.length_map, List.length_replicate, List.length_replicate, l1]
      · have e' : (as ++ List.replicate (N.length - as.length) Val.un)[i]? = some v := e
        by_cases hi : i < as.length
        · rw [List.getElem?_append_left hi] at e'
          obtain ⟨u, e1, e2⟩ := h1.sl i v e' nu
          exact ⟨u, by show (vs.map some ++ _)[i]? = _; rw [List.getElem?_append_left (by rw [List.length_map, l1]; exact hi)]; exact e1, e2⟩
        · rw [List.getElem?_append_right (Nat.le_of_not_lt hi), List.getElem?_replicate] at e'
          split at e'
          · exact absurd (Option.some.inj e').symm nu
          · cases e'
    refine ⟨C, b, startX N.length as κ RX, _, ⟨rfl, fun xc ε' κ' ad σ' H' d z s' xf => ?_⟩, sr, hsp as κ R RX h2, ?_⟩
    · have z' : match lives (κ'.take κ.length) with
        | none => False
        | some κ2 => RX xc κ2 := z
      cases e : lives (κ'.take κ.length) with
      | none => rw [e] at z'; exact z'.elim
      | some κ2 =>
        rw [e] at z'
        have hp : RetP (fun r k2 => r = .d .non ∧ k2 = κ2) (.d .non) ⟨ε', κ', κ.length, C.x⟩ := by
          unfold RetP
          show match lives (κ'.take κ.length) with
            | none => False
            | some κ' => _
          rw [e]
          exact ⟨rfl, rfl⟩
        obtain ⟨r, k3, ⟨e1, e2⟩, co⟩ := ret_out (C := C) (b := b) (κ := κ) (R := fun r k2 => r = .d .non ∧ k2 = κ2) (Q := fun u H'' => ∃ r k3, (r = Rt.d .non ∧ k3 = κ2) ∧ CallOut C.K C.A b C.H0 κ.length r k3 u H'') (v := .d .non) (u := .non) rfl (fun r k3 u H'' h co => ⟨r, k3, h, co⟩) hp s' s'.sb (show Rep _ _ _ _ _ from Rep.non)
        subst e1 e2
        refine qx xc _ d H' z' co (XF.mono (fun a o p h => ⟨?_, h⟩) xf)
        exact pub_out (C := C) (S := ⟨ε', κ', κ.length, C.x⟩) rfl e s' s'.sb a p
    · exact ⟨fun S' ad' σ' H' e s' st => ret_out (C := C) (v := .d .non) rfl q e s' st (show Rep _ _ _ _ _ from Rep.non), fun v S' ad' u σ' H' e s' st r => ret_out (C := C) rfl q e s' st r, fun S' ad' σ' H' e _ _ => e.elim, fun S' ad' σ' H' e _ _ => e.elim⟩
end

/-! ### a call that may raise -/
def wCallX (ms : List Bool) (F : FX) (ta : WA) : WE := fun S Q => ta S fun vs S1 => prep ms vs S1 [] fun as idx S2 => idx.Nodup ∧ match lives (idx.map (muAt S2)) with
  | none => False
  | some κs => F as κs (fun r κ' => retV (putAll S2 idx κ') idx Q r) fun xc κ' => S2.x xc (putAll S2 idx κ').ε (putAll S2 idx κ').κ
section
variable {C : Cfg} {ad : Nat → Addr} {S : Sm} {σ : L2.St} {H H' : Hp}
theorem call_stepX {K : PySem.W.Frag} {Vw : Wsh} {F : FX} {Q : VK} {R : Val → Sm → Prop} {idx : List Nat} {κs : List Mu} {as : List Val} {us : List V} (hC : COk K Vw C) (s : SR C ad S σ H) (nd : idx.Nodup) (lv : lives (idx.map (muAt S)) = some κs)
    (pr : Prepd C ad S.κ H (fun j => ad (idx.getD j 0)) idx.length us as) (h : F as κs (fun r κ' => retV (putAll S idx κ') idx R r) fun xc κ' => S.x xc (putAll S idx κ').ε (putAll S idx κ').κ) (q : Post C ad S.κ H σ R Q) : spX C.K Vw.cl F us H Q (fun cls d H' => Vw.W cls d σ H') := by
  obtain ⟨A, b, sr, h1, h2⟩ := call_core s nd lv pr q
  refine ⟨A, b, as, κs, _, _, sr, h, h1, fun xc κ' d H' hx co xf => ?_⟩
  obtain ⟨s2, st2, out⟩ := h2 κ' H' co
  rw [s.xx] at hx
  refine hC.w xc _ _ ad σ H' d hx ?_ (XF.mono out xf)
  have e1 := s2.nn
  have e2 := s2.xx
  rw [← e1, ← e2]
  exact s2
end
structure CalleeX (P : Program) (w : World) (K : PySem.W.Frag) (mg : Str → Option Value) (base : Heap) (cl : String → Value) (k : Nat) (x : Str) (ps : List Str) (F : FX) : Prop where
  ex : ∃ f fd, FnOk P w K mg base (L2.CX P w) k f fd ps (spX K cl F) ∧ mg x = some (.ref f) ∧ PySem.W.keepIn K (.ref f) = true ∧ Binds K fd ps []
section
variable {X : Cx} {Vw : Wsh} {e : Expr} {ta : WA} {p pos : Pos}
/-- f(e, ..), f a def that may raise -/
theorem m_callX {k : Nat} {ps : List Str} {F : FX} {x : Str} {es : List Expr} (ms : List Bool) (tk : Takes X Vw.W) (G : CalleeX X.prog X.w X.K X.mg X.base Vw.cl k x ps F) (hr : Room k X.A) (hg : Gl X x) (ha : MA X Vw (e :: es) ta)
    (hdb : (x == ("__debug__" : Str)) = false := by decide) (he : starEach (e :: es) X.env = (false, eval e X.env) :: starEach es X.env := by rfl) (hpl : (backTo pos (starEach es X.env)).any (·.1) = false := by rfl) :
    ME X Vw (.Call (.Name x p) (e :: es) [] pos) (wCallX ms F ta) := by
  obtain ⟨f, fd, G1, hm, hk, hb⟩ := G.ex
  refine ⟨PE.weak (pe_callS (E := L2.WE Vw.W) G1 hr hg hm hk hb (passAt tk) ha.pa hdb he hpl) fun σ H Q h => liftA1 h fun C ad S xs us H1 R hK s rs t q => ?_⟩
  obtain ⟨as, more, S2, ⟨nd, t2⟩, s2, st2, pr⟩ := prep_of s rs t
  rw [List.nil_append] at nd t2
  have pr := pr []
  rw [List.nil_append, List.append_nil] at pr
  split at t2
  · exact t2.elim
  · rename_i κs lv
    rw [← hK.k]
    exact call_stepX hK s2 nd lv pr t2 (q.step st2)
end

/-! ### raise -/
section
variable {X : Cx} {Vw : Wsh} {p pos : Pos}
def sRaise (c : String) : WS := fun _ S => S.x ⟨c, []⟩ S.ε S.κ
/-- C() -/
theorem pmk_own0 {C : Addr} {bmB : List Value} {B newId initId : String} {x : Str} (F : ExcBaseFacts B newId initId bmB) (q : PySem.W.excIn X.K C bmB newId = true) (gC : X.mg x = some (.ref C)) (kC : PySem.W.keepIn X.K (.ref C) = true) (r : Raises X (.ref C)) (hg : Gl X x)
    (hdb : (x == ("__debug__" : Str)) = false := by decide) : PMk X (.Call (.Name x p) [] [] pos) (fun _ H Q => Q (.ref C) none H) := by
  intro pins s σ H Q I h
  refine wpAny_Call_Name_kw (ld_glob I hg gC ?_ hdb)
  refine PySem.W.callWith_K0 I.kIn kC ?_
  show wpAny _ _ (call (.ref C) []) _ _ _
  obtain ⟨bm, N, nm, qn, bs, hdct, sn, sub, ab, col, dd, k0, k1, k2, k3, k5, mN, hC, hN, hni, T⟩ := exc_obj I.kIn q
  refine wpAny_call_exc_subT F T hC hN hni (fun h' e hm => ?_) (by show 0 ≤ sizeLine; exact Nat.zero_le _)
  exact mk_of I hm r h (I.hok.gone hm.new)
theorem ms_raise0 {c : String} {C : Addr} {e : Expr} (hc : X.calm = true) (tk : Takes X Vw.W) (hcl : Vw.cl c = .ref C) (he : PMk X e (fun _ H Q => Q (.ref C) none H)) : MS X Vw (.Raise (some e) none pos) (sRaise c) := by
  refine ⟨PS.weak (ps_raise hc tk he) fun D σ H ⟨C1, ad, S, E, hK, s, t, q⟩ => ?_⟩
  rw [← hcl]
  have t' : C1.x ⟨c, []⟩ S.ε S.κ := by
    rw [← s.xx]; exact t
  refine hK.w ⟨c, []⟩ S.ε S.κ ad σ H none t' ?_ trivial
  rw [← s.nn, ← s.xx]
  exact s
end

/-! ### try -/
section
variable {X : Cx} {Vw : Wsh} {body suite : List Stmt} {b₀ : Stmt} {np pos pos' : Pos} {x : Str} {c : Value} {tb ts : WS}
/-- the wish of a try's body; tab: the classes, and whether the clause takes them -/
def En.at (E : En) (x : Xw) : En := ⟨fun S => E.nx { S with x := x }, fun v S => E.rt v { S with x := x }, fun S => E.bk { S with x := x }, fun S => E.ct { S with x := x }⟩
def tryX (tab : List (String × Bool)) (ts : WS) (E : En) (n : Nat) (x : Xw) : Xw := fun xc ε κ => match tab.lookup xc.cls with
  | some true => ts (E.at x) ⟨ε, κ, n, noX⟩
  | some false => x xc ε κ
  | none => False
def sTry (tab : List (String × Bool)) (tb ts : WS) : WS := fun E S => tb (E.at S.x) { S with x := tryX tab ts E S.n S.x }
theorem ms_try {tab : List (String × Bool)} (hs : X.stack = X.env :: X.outer) (hf : X.env.frame = some X.env.locals) (hc : Names X x c) (tk : Takes X Vw.W) (htab : ∀ n b, tab.lookup n = some b → PySem.W.exmOne X.K (Vw.cl n) c = some b)
    (hb : ∀ (W : WX) (pn : List (Addr × Obj)) (xe : Value → Shared → Prop), Takes (X.tr pn xe) W → PassesOwn (model X.prog X.w) X.A X.env xe → MSs (X.tr pn xe) ⟨Vw.cl, W⟩ body tb)
    (hsu : ∀ (a : Addr) (oe : Obj) (pn : List (Addr × Obj)), MSs (X.suite a ((a, oe) :: pn)) (noW Vw.cl) (b₀ :: suite) ts) :
    MS X Vw (.Try body [.ExceptHandler (some (.Name x np)) none (b₀ :: suite) pos'] [] [] pos) (sTry tab tb ts) := by
  refine ⟨PS.weak (ps_try_only (tb := fun W => liftS X.K ⟨Vw.cl, W⟩ tb) hs hf hc tk (fun W pn xe tk' po => (hb W pn xe tk' po).pss) (ts := fun _ _ _ => liftS X.K (noW Vw.cl) ts) (fun a oe cls d pn _ _ => (hsu a oe pn).pss)) fun D σ H ⟨C, ad, S, E, hK, s, t, q⟩ => ?_⟩
  obtain ⟨ε, κ, n, xw⟩ := S
  obtain ⟨K, A, H0, n', xw', ad0, κ0, Hb⟩ := C
  have hn : n = n' := s.nn
  have hx : xw = xw' := s.xx
  subst hn hx
  let C2 : Cfg := ⟨K, A, H0, n, tryX tab ts E n xw, ad, κ, H⟩
  let C1 : Cfg := ⟨K, A, H0, n, xw, ad0, κ0, Hb⟩
  have s2 : SR C2 ad ⟨ε, κ, n, tryX tab ts E n xw⟩ σ H := ⟨s.len, s.sl, s.ow, s.inj, s.nA, s.hA, s.fr, s.nw, s.bn, rfl, s.tr, rfl, Stp.refl⟩
  -- from the body's states back to the outer ones
  have back : ∀ {ad' : Nat → Addr} {ε' : List Val} {κ' : List (Option Mu)} {σ' : L2.St} {H' : Hp}, SR C2 ad' ⟨ε', κ', n, tryX tab ts E n xw⟩ σ' H' → SR C1 ad' ⟨ε', κ', n, xw⟩ σ' H' ∧ Stp C1 ad κ H ad' κ' H' := fun s' => by
    have st : Stp C1 ad κ H _ _ _ := ⟨s'.sb.pub, s'.sb.len, s'.sb.ads⟩
    exact ⟨⟨s'.len, s'.sl, s'.ow, s'.inj, s'.nA, s'.hA, s'.fr, s'.nw, s'.bn, rfl, s'.tr, rfl, (show Stp C1 ad0 κ0 Hb ad κ H from s.sb).trans st⟩, st⟩
  have back2 : ∀ {ad' : Nat → Addr} {S' : Sm} {σ' : L2.St} {H' : Hp}, SR C2 ad' S' σ' H' → SR C1 ad' { S' with x := xw } σ' H' ∧ Stp C1 ad κ H ad' S'.κ H' := fun {ad' S' σ' H'} s' => by
    obtain ⟨ε', κ', n2, x2⟩ := S'
    have h1 : n2 = n := s'.nn
    have h2 : x2 = tryX tab ts E n xw := s'.xx
    subst h1 h2
    exact back s'
  refine ⟨C2, ad, ⟨ε, κ, n, tryX tab ts E n xw⟩, E.at xw, ⟨hK.k, fun xc ε' κ' ad' σ' H' d hx s' xf => ?_⟩, s2, t, ?_⟩
  · obtain ⟨s1, st⟩ := back s'
    have hx' : tryX tab ts E n xw xc ε' κ' := hx
    unfold tryX at hx'
    split at hx'
    · rename_i e
      refine ⟨true, htab _ _ e, fun _ a _ => ?_, fun z => absurd z.symm Bool.false_ne_true⟩
      let C3 : Cfg := ⟨K, A, H0, n, noX, ad0, κ0, Hb⟩
      have q' := PostS.step q st
      have back3 : ∀ {ad' : Nat → Addr} {S' : Sm} {σ' : L2.St} {H' : Hp}, SR C3 ad' S' σ' H' → SR C1 ad' { S' with x := xw } σ' H' := fun {ad' S' σ' H'} s' => by
        obtain ⟨ε', κ', n2, x2⟩ := S'
        have h1 : n2 = n := s'.nn
        have h2 : x2 = noX := s'.xx
        subst h1 h2
        exact s'.wish
      have st3 : ∀ {ad1 ad2 : Nat → Addr} {κ1 κ2 : List (Option Mu)} {H1 H2 : Hp}, Stp C3 ad1 κ1 H1 ad2 κ2 H2 → Stp C1 ad1 κ1 H1 ad2 κ2 H2 := fun z => ⟨z.pub, z.len, z.ads⟩
      refine ⟨C3, ad', ⟨ε', κ', n, noX⟩, E.at xw, ⟨hK.k, fun _ _ _ _ _ _ _ z _ _ => z.elim⟩, s1.wish, hx', ?_⟩
      exact ⟨fun S' ad' σ' H' e s' st => q'.nx _ ad' σ' H' e (back3 s') (st3 st), fun v S' ad' u σ' H' e s' st r => q'.rt v _ ad' u σ' H' e (back3 s') (st3 st) r, fun S' ad' σ' H' e s' st => q'.bk _ ad' σ' H' e (back3 s') (st3 st), fun S' ad' σ' H' e s' st => q'.ct _ ad' σ' H' e (back3 s') (st3 st)⟩
    · rename_i e
      exact ⟨false, htab _ _ e, fun z => absurd z Bool.false_ne_true, fun _ => hK.w xc ε' κ' ad' σ' H' d hx' s1 xf⟩
    · exact hx'.elim
  · exact ⟨fun S' ad' σ' H' e s' st => q.nx _ ad' σ' H' e (back2 s').1 (back2 s').2, fun v S' ad' u σ' H' e s' st r => q.rt v _ ad' u σ' H' e (back2 s').1 (back2 s').2 r, fun S' ad' σ' H' e s' st => q.bk _ ad' σ' H' e (back2 s').1 (back2 s').2, fun S' ad' σ' H' e s' st => q.ct _ ad' σ' H' e (back2 s').1 (back2 s').2⟩
end
end MP

/-! MP: calls with keywords, {}, bit_length, what classes are told of -/
namespace MP
open PySem PySem.Spec PyProof.Rows L2

section
variable {X : Cx} {Vw : Wsh}
structure MKw (X : Cx) (Vw : Wsh) (kws : List Keyword) (t : WA) : Prop where
  pk : PK X kws (liftA X.K Vw t)
theorem PK.weak {X : Cx} {e : List Keyword} {t t' : TA} (h : PK X e t) (w : ∀ σ H Q, t' σ H Q → t σ H Q) : PK X e t' := ⟨fun pos pins s σ H Q I q => h.run pos pins s σ H Q I (w σ H Q q)⟩
theorem mk_nil : MKw X Vw [] aNil := by
  refine ⟨PK.weak pk_nil fun σ H Q h => ?_⟩
  obtain ⟨C, ad, S, R, hK, s, t, q⟩ := h
  exact q [] S ad [] H t s Stp.refl .nil
theorem mk_cons {e : Expr} {kws : List Keyword} {te : WE} {t : WA} {nm : Option Str} {kpos : Pos} (ha : ME X Vw e te) (hr : MKw X Vw kws t) : MKw X Vw (⟨nm, e, kpos⟩ :: kws) (aCons te t) := by
  refine ⟨PK.weak (pk_cons ha.pe hr.pk) fun σ H Q h => ?_⟩
  obtain ⟨C, ad, S, R, hK, s, t, q⟩ := h
  exact ⟨C, ad, S, _, hK, s, t, fun x S1 ad1 ux H1 t1 s1 st1 v1 => ⟨C, ad1, S1, _, hK, s1, t1, fun xs S2 ad2 us H2 t2 s2 st2 v2 => q (x :: xs) S2 ad2 (ux :: us) H2 t2 s2 (st1.trans st2) (.cons (st2.vr v1) v2)⟩⟩
end
/-- keywords alone, in the order of the parameters -/
structure KwB (K : PySem.W.Frag) (fd : FuncData) (ps : List Str) : Prop where
  to : ∀ (s : Shared) (ws : List Value), K.In s.heap → ws.length = ps.length → BindsTo s fd ⟨[], ps.zip ws⟩ (ps.zip ws)
theorem Fun.kwb {K : PySem.W.Frag} {x qual : Str} {st : Stmt} {f : Addr} {fd : FuncData} {ps : List Str} (F : Fun K x qual st f fd)
    (h : ∀ (kV doc pm : Value) (an : Option Addr) (cdv ct : Value) (us : List Value), us.length = ps.length → bindArgs (PySem.W.fnOf x qual (defArgs st) (defBody st) (defScope st) .none kV doc pm an cdv ct) ⟨[], ps.zip us⟩ = pure (ps.zip us)) : KwB K fd ps := by
  obtain ⟨oc, od, kV, doc, pm, an, cdv, ct, osl, rfl, lk, hcd⟩ := F.ex
  exact ⟨fun s ws _ hl => BindsTo.of_eq (h kV doc pm an cdv ct ws hl)⟩
section
variable {X : Cx} {CX : CXT} {k : Nat} {f C : Addr} {fd : FuncData} {ps : List Str} {sp : Sp} {E : L2.St → XK} {x : Str} {p pos : Pos} {kws : List Keyword} {t : TA}
theorem run_fnKw {pins : List (Addr × Obj)} {σ : L2.St} {H : Hp} {s : Shared} {Q : VK} {us : List Value} {vs : List V} (F : FnOk X.prog X.w X.K X.mg X.base CX k f fd ps sp) (hr : Room k X.A) (hb : KwB X.K fd ps) (hx : PassesAt CX X σ (E σ))
    (I : Inv X pins σ H s) (r : Vals vs us) (h : sp vs H Q (E σ)) : wpAny (model X.prog X.w) X.A (call (.ref f) [] (ps.zip us)) (EP X pins σ Q) X.xe s := by
  have hl : us.length = ps.length := by rw [← r.length]; exact F.len _ _ _ _ h
  refine wpAny_call (codeAny_mono (F.run X.A X.stack s H ⟨[], ps.zip us⟩ us vs Q (E σ) hr I.env0 (hb.to s us I.kIn hl) r h) fun r s' hq => ?_)
  cases r with
  | error e => exact hx pins H s e s' I hq
  | ok fl =>
    cases fl with
    | ret u => exact I.after hq
    | next => exact False.elim hq
    | brk => exact False.elim hq
    | cont => exact False.elim hq
theorem pe_callKw (F : FnOk X.prog X.w X.K X.mg X.base CX k f fd ps sp) (hr : Room k X.A) (hg : Gl X x) (hm : X.mg x = some (.ref f)) (hk : PySem.W.keepIn X.K (.ref f) = true) (hb : KwB X.K fd ps) (hx : ∀ σ, PassesAt CX X σ (E σ))
    (ha : PK X kws t) (hall : (backToKw pos (keywordEach kws X.env)).all (·.1.isSome) = true := by rfl) (hks : (backToKw pos (keywordEach kws X.env)).filterMap (·.1) = ps := by rfl)
    (hdb : (x == ("__debug__" : Str)) = false := by decide)
    (hpl : ((backTo pos (starEach [] X.env)).any (·.1) || (backToKw pos (keywordEach kws X.env)).any (·.1.isNone)) = false := by rfl) :
    PE X (.Call (.Name x p) [] kws pos) (tCallS sp E t) := by
  refine ⟨fun pins s σ H Q I h => ?_⟩
  refine wpAny_Call_Name_kw (ld_glob I hg hm ?_ hdb)
  refine PySem.W.callWith_KW0 (h₀ := X.base) I.ok.mod.kin hk hall (thn (ha.run pos pins s σ H _ I h) fun us s1 ⟨vs, H1, I1, r, q⟩ => ⟨I1.kIn, ?_⟩) hpl
  rw [hks]
  exact run_fnKw F hr hb (hx σ) I1 r q
end
theorem pass0At {X : Cx} (σ : L2.St) : PassesAt CX0 X σ (fun _ _ _ => False) := fun _ _ _ _ _ _ z => z.elim
theorem passLAt {X : Cx} (σ : L2.St) : PassesAt (L2.CX X.prog X.w) X σ (fun _ _ _ => False) := fun _ _ _ _ _ _ h => by
  obtain ⟨_, _, _, _, _, _, _, _, _, _, _, _, z⟩ := h
  exact z.elim
@[reducible] def FX.calm (F : FX) : FS := fun as κ R => F as κ R fun _ _ => False
structure CallKw (P : Program) (w : World) (K : PySem.W.Frag) (mg : Str → Option Value) (base : Heap) (k : Nat) (x : Str) (ps : List Str) (F : FS) : Prop where
  ex : ∃ CX f fd sp, FnOk P w K mg base CX k f fd ps sp ∧ (∀ us H Q, spOf K F us H Q (fun _ _ _ => False) → sp us H Q fun _ _ _ => False) ∧ (∀ (X : Cx) (σ : L2.St), X.prog = P → X.w = w → PassesAt CX X σ (fun _ _ _ => False)) ∧ mg x = some (.ref f) ∧ PySem.W.keepIn K (.ref f) = true ∧ KwB K fd ps
section
variable {X : Cx} {Vw : Wsh} {ta : WA} {p pos : Pos} {te : WE}
theorem m_callKw {k : Nat} {ps : List Str} {F : FS} {x : Str} {kws : List Keyword} (ms : List Bool) (G : CallKw X.prog X.w X.K X.mg X.base k x ps F) (hr : Room k X.A) (hg : Gl X x) (ha : MKw X Vw kws ta)
    (hall : (backToKw pos (keywordEach kws X.env)).all (·.1.isSome) = true := by rfl) (hks : (backToKw pos (keywordEach kws X.env)).filterMap (·.1) = ps := by rfl)
    (hdb : (x == ("__debug__" : Str)) = false := by decide)
    (hpl : ((backTo pos (starEach [] X.env)).any (·.1) || (backToKw pos (keywordEach kws X.env)).any (·.1.isNone)) = false := by rfl) :
    ME X Vw (.Call (.Name x p) [] kws pos) (wCall ms F ta) := by
  obtain ⟨CX, f, fd, sp, G1, hsp, hp, hm, hk, hb⟩ := G.ex
  refine ⟨PE.weak (pe_callKw (E := fun _ _ _ _ => False) G1 hr hg hm hk hb (fun σ => hp X σ rfl rfl) ha.pk hall hks hdb hpl) fun σ H Q h => liftA1 h fun C ad S xs us H1 R hK s rs t q => hsp _ _ _ ?_⟩
  obtain ⟨as, more, S2, ⟨nd, t2⟩, s2, st2, pr⟩ := prep_of s rs t
  rw [List.nil_append] at nd t2
  have pr := pr []
  rw [List.nil_append, List.append_nil] at pr
  split at t2
  · exact t2.elim
  · rename_i κs lv
    rw [← hK.k]
    exact call_step s2 nd lv pr t2 (q.step st2)
/-- a def that may raise, called where it doesn't -/
theorem spX_calm {K : PySem.W.Frag} {cl : String → Value} {F : FX} {us : List V} {H : Hp} {Q : VK} {E : XK} (h : spOf K F.calm us H Q E) : spX K cl F us H Q E := by
  obtain ⟨A, b, as, κ, R, h1, h2, h3⟩ := h
  exact ⟨A, b, as, κ, R, fun _ _ => False, h1, h2, h3, fun _ _ _ _ z => z.elim⟩
theorem m_callCalm {cl : String → Value} {k : Nat} {ps : List Str} {F : FX} {x : Str} {e : Expr} {es : List Expr} (ms : List Bool) (G : CalleeX X.prog X.w X.K X.mg X.base cl k x ps F) (hr : Room k X.A) (hg : Gl X x) (ha : MA X Vw (e :: es) ta)
    (hdb : (x == ("__debug__" : Str)) = false := by decide) (he : starEach (e :: es) X.env = (false, eval e X.env) :: starEach es X.env := by rfl) (hpl : (backTo pos (starEach es X.env)).any (·.1) = false := by rfl) :
    ME X Vw (.Call (.Name x p) (e :: es) [] pos) (wCall ms F.calm ta) := by
  obtain ⟨f, fd, G1, hm, hk, hb⟩ := G.ex
  refine ⟨PE.weak (pe_callS (E := fun _ _ _ _ => False) G1 hr hg hm hk hb passLAt ha.pa hdb he hpl) fun σ H Q h => liftA1 h fun C ad S xs us H1 R hK s rs t q => ?_⟩
  obtain ⟨as, more, S2, ⟨nd, t2⟩, s2, st2, pr⟩ := prep_of s rs t
  rw [List.nil_append] at nd t2
  have pr := pr []
  rw [List.nil_append, List.append_nil] at pr
  split at t2
  · exact t2.elim
  · rename_i κs lv
    rw [← hK.k]
    exact spX_calm (call_step s2 nd lv pr t2 (q.step st2))
/-- {} -/
def wDct0 : WE := wC (.dct [] [])
theorem m_dct0 : ME X Vw (.Dict [] [] pos) wDct0 := by
  refine ⟨PE.weak pe_dnewK fun σ H Q h => ?_⟩
  obtain ⟨C, ad, S, R, hK, s, t, q⟩ := h
  intro a ha
  obtain ⟨s1, st⟩ := s.grow (same_upd (o := .dK []) ha)
  exact q (.d (.dct [] [])) S ad (.ref a) _ t s1 st (Rep.dct (ks := []) (vs := []) (s.new ha) upd_same rfl .nil)
/-- x.bit_length() -/
def wBits (te : WE) : WE := wI (fun i => .int (Builtin.Int.intBits i : Nat)) te
theorem m_bits {o : Expr} {apos : Pos} (ho : ME X Vw o te) (hbase : attributeBase o "bit_length" X.env (eval o X.env) = eval o X.env := by rfl) (hline : (apos.endLine == pos.line) = true := by rfl) :
    ME X Vw (.Call (.Attribute o "bit_length" apos) [] [] pos) (wBits te) := by
  refine ⟨PE.weak (pe_bits ho.pe hbase hline) fun σ H Q h => ?_⟩
  refine lift1 (b := fun x S1 Q => iV (fun i => .int (Builtin.Int.intBits i : Nat)) x S1 Q) h fun C ad S x ux H1 R hK s r t q => ?_
  unfold iV at t
  split at t
  · rename_i i
    obtain rfl := r.int
    exact ⟨i, rfl, q.at s t (Rep.int _)⟩
  · exact t.elim
end
/-- what is known of a class of errors of the program without __init__ -/
structure ClsF (K : PySem.W.Frag) (mg : Str → Option Value) (cl : String → Value) (c : String) (C : Addr) : Prop where
  n : cl c = .ref C
  x : PySem.W.excIn K C [.type "ValueError", .type "Exception", .type "BaseException", .type "object"] "ValueError.__new__" = true
  g : mg c = some (.ref C)
  k : PySem.W.keepIn K (.ref C) = true
  b : PySem.W.subIn K (.ref C) (.type "BaseException") = some true
  t : PySem.W.typeIn K (.ref C) = some (.type "type")
theorem tab_nil {K : PySem.W.Frag} {cl : String → Value} {c : Value} : ∀ (n : String) (b : Bool), ([] : List (String × Bool)).lookup n = some b → PySem.W.exmOne K (cl n) c = some b := fun _ _ h => by cases h
theorem tab_cons {K : PySem.W.Frag} {cl : String → Value} {c u : Value} {m : String} {v : Bool} {r : List (String × Bool)} (hn : cl m = u) (he : PySem.W.exmOne K u c = some v) (hr : ∀ (n : String) (b : Bool), r.lookup n = some b → PySem.W.exmOne K (cl n) c = some b) :
    ∀ (n : String) (b : Bool), ((m, v) :: r).lookup n = some b → PySem.W.exmOne K (cl n) c = some b := fun n b h => by
  by_cases e : n = m
  · subst e
    rw [List.lookup_cons_self] at h
    cases h
    rw [hn]; exact he
  · have e' : (n == m) = false := by simpa using e
    have h' : r.lookup n = some b := by simpa [List.lookup, e'] using h
    exact hr n b h'
/-- an except clause's class -/
theorem exm_cls {K : PySem.W.Frag} {cls : Value} {S : Addr} {b : Bool} (h1 : PySem.W.subIn K (.ref S) (.type "BaseException") = some true) (h2 : PySem.W.isClsIn K S = true) (h3 : PySem.W.typeIn K (.ref S) = some (.type "type")) (h4 : PySem.W.subIn K cls (.ref S) = some b) :
    PySem.W.exmOne K cls (.ref S) = some b := by
  have e1 : (PySem.W.subIn K (.ref S) (.type "BaseException") == some true) = true := by rw [h1] <;> rfl
  have e2 : ((PySem.W.clsIn K S).isSome && PySem.W.typeIn K (.ref S) == some (.type "type")) = true := by
    have h2' : (PySem.W.clsIn K S).isSome = true := h2
    rw [h2', h3] <;> rfl
  show (if (PySem.W.subIn K (.ref S) (.type "BaseException") == some true) = true then (if ((PySem.W.clsIn K S).isSome && PySem.W.typeIn K (.ref S) == some (.type "type")) = true then PySem.W.subIn K cls (.ref S) else none) else none) = some b
  rw [if_pos e1, if_pos e2]
  exact h4
end MP

/-! MP: the readings with exceptions, one step a lemma -/
namespace MP
open PySem PySem.Spec PyProof.Rows L2
section
variable {S S1 : Sm} {xw : Xw} {E : En} {Q : Val → Sm → Prop} {ta te : WE} {t u tb ts : WS} {A : WA} {i j k n : Nat} {ε : List Val} {κ : List (Option Mu)}
theorem e_raise {c : String} (h : xw ⟨c, []⟩ ε κ) : sRaise c E ⟨ε, κ, n, xw⟩ := h
theorem e_xret0 {RX : Xc → List Mu → Prop} {xc : Xc} (h : RX xc []) : xRet 0 RX xc ε κ := by
  show match lives (κ.take 0) with
    | none => False
    | some κ' => RX xc κ'
  rw [List.take_zero]
  exact h
theorem e_xret1 {RX : Xc → List Mu → Prop} {xc : Xc} {m : Mu} (h : RX xc [m]) : xRet 1 RX xc ε (some m :: κ) := h
theorem e_try {tab : List (String × Bool)} (h : tb (E.at xw) ⟨ε, κ, n, tryX tab ts E n xw⟩) : sTry tab tb ts E ⟨ε, κ, n, xw⟩ := h
theorem e_catch {tab : List (String × Bool)} {xc : Xc} (e : tab.lookup xc.cls = some true) (h : ts (E.at xw) ⟨ε, κ, n, noX⟩) : tryX tab ts E n xw xc ε κ := by
  unfold tryX
  rw [e]
  exact h
theorem e_pass_on {tab : List (String × Bool)} {xc : Xc} (e : tab.lookup xc.cls = some false) (h : xw xc ε κ) : tryX tab ts E n xw xc ε κ := by
  unfold tryX
  rw [e]
  exact h
theorem e_atNx {x2 : Xw} (h : E.nx ⟨ε, κ, n, xw⟩) : (E.at xw).nx ⟨ε, κ, n, x2⟩ := h
theorem e_atRt {x2 : Xw} {v : Val} (h : E.rt v ⟨ε, κ, n, xw⟩) : (E.at xw).rt v ⟨ε, κ, n, x2⟩ := h
theorem e_atBk {x2 : Xw} (h : E.bk ⟨ε, κ, n, xw⟩) : (E.at xw).bk ⟨ε, κ, n, x2⟩ := h
theorem e_atCt {x2 : Xw} (h : E.ct ⟨ε, κ, n, xw⟩) : (E.at xw).ct ⟨ε, κ, n, x2⟩ := h
def callVX (F : FX) (as : List Val) (idx : List Nat) (S2 : Sm) (Q : Val → Sm → Prop) : Prop := idx.Nodup ∧ match lives (idx.map (muAt S2)) with
  | none => False
  | some κs => F as κs (fun r κ' => retV (putAll S2 idx κ') idx Q r) fun xc κ' => S2.x xc (putAll S2 idx κ').ε (putAll S2 idx κ').κ
theorem e_callX {ms : List Bool} {F : FX} (h : A S fun vs S1 => prep ms vs S1 [] fun as idx S2 => callVX F as idx S2 Q) : wCallX ms F A S Q := h
theorem e_callX0 {F : FX} {as : List Val} (h : F as [] (fun r _ => retV ⟨ε, κ, n, xw⟩ [] Q r) fun xc _ => xw xc ε κ) : callVX F as [] ⟨ε, κ, n, xw⟩ Q := by
  refine ⟨List.nodup_nil, ?_⟩
  have e : (fun r κ' => retV (putAll ⟨ε, κ, n, xw⟩ [] κ') [] Q r) = fun r (_ : List Mu) => retV ⟨ε, κ, n, xw⟩ [] Q r := by
    funext r κ'
    cases κ' <;> rfl
  have e2 : (fun xc κ' => (Sm.mk ε κ n xw).x xc (putAll ⟨ε, κ, n, xw⟩ [] κ').ε (putAll ⟨ε, κ, n, xw⟩ [] κ').κ) = fun (xc : Xc) (_ : List Mu) => xw xc ε κ := by
    funext xc κ'
    cases κ' <;> rfl
  show F as [] (fun r κ' => retV (putAll ⟨ε, κ, n, xw⟩ [] κ') [] Q r) (fun xc κ' => (Sm.mk ε κ n xw).x xc (putAll ⟨ε, κ, n, xw⟩ [] κ').ε (putAll ⟨ε, κ, n, xw⟩ [] κ').κ)
  rw [e, e2]
  exact h
theorem len_size2 {a b : List D} (h : Nat.ble (a.length + b.length) 16777216 = true) : a.length + b.length ≤ sizeLine := by rw [sizeLine_eq]; exact Nat.le_of_ble_eq_true h
theorem e_ifFin {c : Bool} {P : (Sm → Prop) → Prop} (h0 : P E.nx) (h : ∀ NX, P NX → ifS t u { E with nx := NX } c S) : ifS t u E c S := h _ h0
/-! the same with the state written out -/
theorem e_lstWx {ys : List D} (h1 : ys.length ≤ sizeLine) (h : Q (.o κ.length) ⟨ε, κ ++ [some (.lst ys)], n, xw⟩) : lstW Q ys ⟨ε, κ, n, xw⟩ := ⟨h1, h⟩
theorem e_asDox {m : Mu} {R : D → Sm → Prop} (e : (κ[k]?).join = some m) (hn : Nat.ble n k = true) (h : R m.toD ⟨ε.map (unown k m.toD), κ.set k none, n, xw⟩) : asD (.o k) ⟨ε, κ, n, xw⟩ R := e_asDo e hn h
theorem e_addLx {x y : Val} {xs ys : List D} (e1 : lstV ⟨ε, κ, n, xw⟩ x = some xs) (e2 : lstV ⟨ε, κ, n, xw⟩ y = some ys) (h1 : xs.length + ys.length ≤ sizeLine) (h : Q (.o κ.length) ⟨ε, κ ++ [some (.lst (xs ++ ys))], n, xw⟩) : addV x y ⟨ε, κ, n, xw⟩ Q := e_addL e1 e2 h1 h
theorem e_listx {x : Val} {xs : List D} (e : seqV ⟨ε, κ, n, xw⟩ x = some xs) (h : Q (.o κ.length) ⟨ε, κ ++ [some (.lst xs)], n, xw⟩) : fList [x] ⟨ε, κ, n, xw⟩ Q := e_list e h
theorem e_slLx {xs : List D} {lo hi : Option Int} (h : Q (.o κ.length) ⟨ε, κ ++ [some (.lst (cutD xs lo hi))], n, xw⟩) : slV (.d (.lst xs)) lo hi ⟨ε, κ, n, xw⟩ Q := h
theorem e_slOx {xs : List D} {lo hi : Option Int} (e : (κ[k]?).join = some (.lst xs)) (h : Q (.o κ.length) ⟨ε, κ ++ [some (.lst (cutD xs lo hi))], n, xw⟩) : slV (.o k) lo hi ⟨ε, κ, n, xw⟩ Q := e_slO e h
theorem e_lmWx {f : LM} {ys ds : List D} (e : (κ[k]?).join = some (.lst ys)) (h : f ys ds fun y ys' => Q (.d y) ⟨ε, κ.set k (some (.lst ys')), n, xw⟩) : lmW f k Q ds ⟨ε, κ, n, xw⟩ := e_lmW e h
theorem e_subVx {d : D} {z : Int} {ys : List D} {R : Sm → Prop} (h1 : (κ[k]?).join = some (.lst ys)) (h2 : ixN ys.length z = some j) (h : R ⟨ε, κ.set k (some (.lst (ys.set j d))), n, xw⟩) : subV (.d d) (.o k) (.d (.int z)) ⟨ε, κ, n, xw⟩ R := e_subV h1 h2 h
theorem e_gNamex {v : Val} {R : Sm → Prop} (h : R ⟨ε.set i v, κ, n, xw⟩) : wgName i v ⟨ε, κ, n, xw⟩ R := h
theorem e_asgNx (h : te ⟨ε, κ, n, xw⟩ fun v S1 => wgName i v S1 E.nx) : sAsg te (wgName i) E ⟨ε, κ, n, xw⟩ := h
theorem e_bits (h : te S fun x S1 => iV (fun i => .int (Builtin.Int.intBits i : Nat)) x S1 Q) : wBits te S Q := h
theorem e_dct0 (h : Q (.d (.dct [] [])) S) : wDct0 S Q := h
end
end MP

/-! the fractions of the package, and the law's own draws: readings and what they come to -/
namespace MP
open PySem PySem.Spec PyProof.Rows L2
local macro_rules | `(tactic| walk_at "mps") => `(tactic| try simp (config := { maxSteps := 400000 }) only [sSeq, sAsg, sIf, sNil, sRet, sRetN, sExpr, sPar, sPass, sBreak, sCont, sNever, wVar, wC, wII, wII0, wI, wAdd, wIx, wTup, wLst, wEq, wNe, wIsN, wNotN, wIn, wTst, wAndT, wOrT, wNotT, wAndV, wOrV, wNotV, wIf, wSl, wPart, wNoPart, wCB, wIsi, wIsi2, wCall, wLm, wgName, wgTup, wgCons, wgNil, wgSub, aNil, aCons, fAbs, fInt, fLen, fMin2, fMax2, fList, fTuple, wiSeq, wiRng1, wiRng2, srcV, wYes,
   asDs, asD_d, asD_o, prep, putAll, retV, lives, start0, RetP, vget, muAt, setε, wipeS, wipeE, Sm.put, Sm.new, Sm.frz, seqV_d, seqV_o, seqD_tup, seqD_lst, seqD_scr, seqD_int, seqM_lst, lstV_lst, lstV_o, tyVal_d, tyVal_o, tyD_non, tyD_bl, tyD_int, tyD_str, tyD_tup, tyD_lst, tyD_scr, tyD_dct, isK, pyV_d, pyV_o, ownL, toD_lst, unown, lmAppend, isNon_non, isNon_int, isNon_tup, isNon_o, D.py, D.pys, Mu_py,
   atI_0, atI_1, atI_2, atI_3, ixN_4_0, ixN_4_1, ixN_4_2, ixN_4_3, ixN4_0, ixN4_1, ixN4_2, ixN4_3, shaped_bool, eqv_bool, shaped_int, eqv_int, seqD_qF, tyD_qF, shaped_qF, eqv_qF,
   List.getElem?_cons_zero, List.getElem?_cons_succ, List.getElem?_nil, Option.getD_some, Option.getD_none, Option.join, Option.bind_some, Option.map_some, List.length_cons, List.length_nil, List.set_cons_zero, List.set_cons_succ, List.map_cons, List.map_nil, List.cons_append, List.nil_append, List.replicate, Nat.sub_self, Nat.reduceSub, Nat.reduceAdd, List.take, Bool.not_true, Bool.not_false, Bool.false_eq_true, if_true, if_false, List.nodup_nil, List.nodup_cons, List.not_mem_nil, not_false_eq_true, and_true, true_and, decide_true, decide_false, Option.isSome_some, Nat.le_refl, reduceIte, Nat.lt_irrefl, Nat.zero_add, id_eq])
local macro_rules | `(tactic| walk_at "hy") => `(tactic| skip)
/-! ### the package -/
/-- common_part(one, other): slots one, other -/
def rd_common_part : WS :=
  (sSeq (sAsg (wCB fAbs (aCons (wVar 0) aNil)) (wgName 0))
    (sSeq (sAsg (wCB fAbs (aCons (wVar 1) aNil)) (wgName 1))
    (sSeq (sWhile (wTst (wII0 (fun i j => .bl (decide (j < i))) (wVar 1) (wC (.int 0)))) (sPar 0 1 (aCons (wVar 1) (aCons (wII CMd (fun i j => .int (i % j)) (wVar 0) (wVar 1)) aNil))))
    (sRet (wVar 0)))))

def F_common_part : FS := fun as κ R => ∃ i j : Int, as = [.d (.int i), .d (.int j)] ∧ κ = [] ∧ R (.d (.int (Int.gcd i j : Nat))) []
theorem len_common_part (as : List Val) (κ : List Mu) (R : Rt → List Mu → Prop) (h : F_common_part as κ R) : as.length = 2 := by
  obtain ⟨i, j, rfl, _⟩ := h
  rfl
theorem pure_common_part (as : List Val) (κ : List Mu) (R : Rt → List Mu → Prop) (h : F_common_part as κ R) : rd_common_part { nx := RetP R (.d .non), rt := RetP R } (start0 2 as κ) := by
  obtain ⟨i, j, rfl, rfl, h⟩ := h
  unfold rd_common_part
  walk_at "mps"
  refine ⟨fun m S => ∃ a b : Nat, S = ⟨[.d (.int a), .d (.int b)], [], 0, noX⟩ ∧ m = b ∧ Nat.gcd a b = Int.gcd i j, ⟨j.natAbs, i.natAbs, j.natAbs, rfl, rfl, rfl⟩, ?_⟩
  rintro m S ⟨a, b, rfl, hm, hg⟩
  walk_at "mps"
  by_cases hb : b = 0
  · subst hb
    rw [if_neg (by simp)]
    walk_at "mps"
    rw [Nat.gcd_zero_right] at hg
    rw [hg]
    exact h
  · have hb' : (0 : Int) < (b : Int) := by omega
    rw [if_pos (decide_eq_true hb')]
    refine ⟨hb', a % b, by rw [hm]; exact Nat.mod_lt _ (by omega), b, a % b, ?_, rfl, ?_⟩
    · rw [Int.natCast_emod]
    · rw [Nat.gcd_comm b (a % b), ← Nat.gcd_rec, Nat.gcd_comm]
      exact hg
/-- lowest(top, bottom): slots top, bottom, part -/
def rd_lowest : WS :=
  (sSeq (sAsg (wCall [false, false] F_common_part (aCons (wVar 0) (aCons (wVar 1) aNil))) (wgName 2))
    (sSeq (sIf (wTst (wII0 (fun i j => .bl (decide (i < j))) (wVar 1) (wC (.int 0)))) (sAsg (wI (fun i => .int (-i)) (wVar 2)) (wgName 2)) sNil)
    (sRet (wTup (aCons (wII CDv (fun i j => .int (i.fdiv j)) (wVar 0) (wVar 2)) (aCons (wII CDv (fun i j => .int (i.fdiv j)) (wVar 1) (wVar 2)) aNil))))))

def F_lowest : FS := fun as κ R => ∃ i j : Int, as = [.d (.int i), .d (.int j)] ∧ κ = [] ∧ j ≠ 0 ∧ Bits 8900 j ∧ R (.d (qF (Rat.divInt i j))) []
theorem len_lowest (as : List Val) (κ : List Mu) (R : Rt → List Mu → Prop) (h : F_lowest as κ R) : as.length = 2 := by
  obtain ⟨i, j, rfl, _⟩ := h
  rfl
theorem cdv_part {i j : Int} (h : j ≠ 0) (hb : Bits 8900 j) (k : Int) : CDv k (partI i j) := by
  refine cdv (n := 8900) (partI_ne h) ?_
  unfold Bits at *
  rw [partI_abs]
  refine Nat.lt_of_le_of_lt ?_ hb
  exact Nat.le_of_dvd (by omega) (by rw [← Int.ofNat_dvd_left]; exact Int.gcd_dvd_right ..)
theorem pure_lowest (as : List Val) (κ : List Mu) (R : Rt → List Mu → Prop) (h : F_lowest as κ R) : rd_lowest { nx := RetP R (.d .non), rt := RetP R } (start0 3 as κ) := by
  obtain ⟨i, j, rfl, rfl, hj, hb, h⟩ := h
  unfold rd_lowest
  walk_at "mps"
  refine ⟨i, j, rfl, rfl, ?_⟩
  walk_at "mps"
  have e : ∀ p : Int, p = partI i j → CDv i p ∧ CDv j p ∧ (2 ≤ sizeLine ∧ R (.d (.tup [.int (i.fdiv p), .int (j.fdiv p)])) []) := fun p hp => by
    subst hp
    refine ⟨cdv_part hj hb _, cdv_part hj hb _, le_size (by decide), ?_⟩
    rw [low_num hj, low_den hj]
    exact h
  by_cases hn : j < 0
  · rw [if_pos (decide_eq_true hn)]
    exact e _ (by unfold partI; rw [if_pos hn])
  · rw [if_neg (by simpa using hn)]
    walk_at "mps"
    exact e _ (by unfold partI; rw [if_neg hn])
/-! ### fractions judged -/
def isIntD : D → Bool
  | .int _ => true
  | _ => false
def okT (x : D) : Bool := (tyD x).isSome
/-- is_integer(thing): slots thing -/
def rd_is_integer : WS :=
  (sRet (wAndV (wIsi .int (wVar 0)) (wNotV (wIsi .bool (wVar 0)))))

def F_is_integer : FS := fun as κ R => ∃ x : D, as = [.d x] ∧ κ = [] ∧ okT x = true ∧ R (.d (.bl (isIntD x))) []
theorem len_is_integer (as : List Val) (κ : List Mu) (R : Rt → List Mu → Prop) (h : F_is_integer as κ R) : as.length = 1 := by
  obtain ⟨i, rfl, _⟩ := h
  rfl
theorem pure_is_integer (as : List Val) (κ : List Mu) (R : Rt → List Mu → Prop) (h : F_is_integer as κ R) : rd_is_integer { nx := RetP R (.d .non), rt := RetP R } (start0 1 as κ) := by
  obtain ⟨x, rfl, rfl, hx, h⟩ := h
  unfold rd_is_integer
  cases x <;> first | exact h | cases hx
def isFracD : D → Bool
  | .tup [.int n, .int d] => decide (1 ≤ d) && decide (Int.gcd n d = 1)
  | _ => false
/-- nothing that is no plain thing on the first two floors -/
def okF : D → Bool
  | .tup xs => xs.all okT
  | x => okT x
theorem isFrac_qF (q : Rat) : isFracD (qF q) = true := by
  show (decide (1 ≤ (q.den : Int)) && decide (Int.gcd q.num q.den = 1)) = true
  have h := q.den_pos
  have r := q.reduced
  rw [Bool.and_eq_true, decide_eq_true_eq, decide_eq_true_eq]
  exact ⟨by omega, r⟩
theorem isFrac_inv {x : D} (h : isFracD x = true) : ∃ q : Rat, x = qF q := by
  unfold isFracD at h
  split at h
  · rename_i n d
    rw [Bool.and_eq_true, decide_eq_true_eq, decide_eq_true_eq] at h
    obtain ⟨h1, h2⟩ := h
    obtain ⟨m, rfl⟩ : ∃ m : Nat, d = m := ⟨d.toNat, by omega⟩
    exact ⟨⟨n, m, by omega, h2⟩, rfl⟩
  · cases h
/-- is_fraction(thing): slots thing -/
def rd_is_fraction : WS :=
  (sSeq (sIf (wOrT (wNotT (wTst (wIsi .tup (wVar 0)))) (wTst (wNe (wCB fLen (aCons (wVar 0) aNil)) (wC (.int 2))))) (sRet (wC (.bl false))) sNil)
    (sSeq (sIf (wOrT (wNotT (wTst (wCall [false] F_is_integer (aCons (wIx (wVar 0) (wC (.int 0))) aNil)))) (wOrT (wNotT (wTst (wCall [false] F_is_integer (aCons (wIx (wVar 0) (wC (.int 1))) aNil)))) (wTst (wII0 (fun i j => .bl (decide (i < j))) (wIx (wVar 0) (wC (.int 1))) (wC (.int 1)))))) (sRet (wC (.bl false))) sNil)
    (sRet (wEq (wCall [false, false] F_common_part (aCons (wIx (wVar 0) (wC (.int 0))) (aCons (wIx (wVar 0) (wC (.int 1))) aNil))) (wC (.int 1))))))

def F_is_fraction : FS := fun as κ R => ∃ x : D, as = [.d x] ∧ κ = [] ∧ okF x = true ∧ R (.d (.bl (isFracD x))) []
theorem len_is_fraction (as : List Val) (κ : List Mu) (R : Rt → List Mu → Prop) (h : F_is_fraction as κ R) : as.length = 1 := by
  obtain ⟨i, rfl, _⟩ := h
  rfl
theorem pure_is_fraction (as : List Val) (κ : List Mu) (R : Rt → List Mu → Prop) (h : F_is_fraction as κ R) : rd_is_fraction { nx := RetP R (.d .non), rt := RetP R } (start0 1 as κ) := by
  obtain ⟨x, rfl, rfl, hx, h⟩ := h
  unfold rd_is_fraction
  cases x with
  | tup xs =>
    match xs, hx, h with
    | [], _, h =>
      walk_at "mps"
      exact h
    | [a], _, h =>
      walk_at "mps"
      rw [if_pos (by decide)]
      have e : isFracD (.tup [a]) = false := by cases a <;> rfl
      rw [e] at h
      exact h
    | a :: b :: c :: r, _, h =>
      walk_at "mps"
      rw [if_pos (by simp; omega)]
      have e : isFracD (.tup (a :: b :: c :: r)) = false := by cases a <;> cases b <;> rfl
      rw [e] at h
      exact h
    | [a, b], hx, h =>
      have hx' : (okT a && (okT b && true)) = true := hx
      rw [Bool.and_true, Bool.and_eq_true] at hx'
      obtain ⟨ha, hb⟩ := hx'
      walk_at "mps"
      refine ⟨a, rfl, rfl, ha, ?_⟩
      walk_at "mps"
      cases a with
      | int n =>
        walk_at "mps"
        refine ⟨b, rfl, rfl, hb, ?_⟩
        walk_at "mps"
        cases b with
        | int d =>
          walk_at "mps"
          have e : isFracD (.tup [.int n, .int d]) = (decide (1 ≤ d) && decide (Int.gcd n d = 1)) := rfl
          rw [e] at h
          show if decide (d < 1) = true then _ else _
          by_cases h1 : d < 1
          · rw [decide_eq_false (by omega : ¬ 1 ≤ d)] at h
            rw [if_pos (decide_eq_true h1)]
            exact h
          · rw [decide_eq_true (by omega : 1 ≤ d), Bool.true_and] at h
            rw [if_neg (by simpa using h1)]
            refine ⟨n, d, rfl, rfl, rfl, ?_⟩
            show R (.d (.bl (PyData.eqv (.int (Int.gcd n d : Nat)) (.int 1)))) []
            rw [eqv_int]
            have e2 : decide (((Int.gcd n d : Nat) : Int) = 1) = decide (Int.gcd n d = 1) := by
              by_cases hg : Int.gcd n d = 1
              · rw [hg]; rfl
              · rw [decide_eq_false hg, decide_eq_false (by omega)]
            rw [e2]
            exact h
        | _ => exact h
      | _ => exact h
  | ty n => cases hx
  | _ => exact h
/-! ### sums, products -/
/-- plus(one, other): slots one, other -/
def rd_plus : WS :=
  (sSeq (sIf (wAndT (wTst (wEq (wIx (wVar 0) (wC (.int 1))) (wC (.int 1)))) (wTst (wEq (wIx (wVar 1) (wC (.int 1))) (wC (.int 1))))) (sRet (wTup (aCons (wAdd (wIx (wVar 0) (wC (.int 0))) (wIx (wVar 1) (wC (.int 0)))) (aCons (wC (.int 1)) aNil)))) sNil)
    (sRet (wCall [false, false] F_lowest (aCons (wAdd (wII CMl (fun i j => .int (i * j)) (wIx (wVar 0) (wC (.int 0))) (wIx (wVar 1) (wC (.int 1)))) (wII CMl (fun i j => .int (i * j)) (wIx (wVar 1) (wC (.int 0))) (wIx (wVar 0) (wC (.int 1))))) (aCons (wII CMl (fun i j => .int (i * j)) (wIx (wVar 0) (wC (.int 1))) (wIx (wVar 1) (wC (.int 1)))) aNil)))))

def F_bin (f : Rat → Rat → D) (pre : Rat → Rat → Prop) : FS := fun as κ R => ∃ a b : Rat, as = [.d (qF a), .d (qF b)] ∧ κ = [] ∧ RB 4000 a ∧ RB 4000 b ∧ pre a b ∧ R (.d (f a b)) []
theorem len_bin {f : Rat → Rat → D} {pre : Rat → Rat → Prop} (as : List Val) (κ : List Mu) (R : Rt → List Mu → Prop) (h : F_bin f pre as κ R) : as.length = 2 := by
  obtain ⟨a, b, rfl, _⟩ := h
  rfl
abbrev noPre : Rat → Rat → Prop := fun _ _ => True
abbrev ne0 : Rat → Rat → Prop := fun _ b => b ≠ 0
def F_plus : FS := F_bin (fun a b => qF (a + b)) noPre
theorem len_plus (as : List Val) (κ : List Mu) (R : Rt → List Mu → Prop) (h : F_plus as κ R) : as.length = 2 := len_bin as κ R h
theorem one_den {a b : Rat} (ha : (a.den : Int) = 1) (hb : (b.den : Int) = 1) : qF (a + b) = .tup [.int (a.num + b.num), .int 1] := by
  have h1 : a.den = 1 := by omega
  have h2 : b.den = 1 := by omega
  have e : (a + b).num = a.num + b.num ∧ (a + b).den = 1 := by
    rw [Rat.num_add, Rat.den_add, h1, h2]
    simp
  unfold qF
  rw [e.1, e.2]
  rfl
theorem bits_mul_den {a b : Rat} (ha : RB 4000 a) (hb : RB 4000 b) : Bits 8900 ((a.den : Int) * (b.den : Int)) := (ha.2.mul hb.2).mono (by decide)
theorem pure_plus (as : List Val) (κ : List Mu) (R : Rt → List Mu → Prop) (h : F_plus as κ R) : rd_plus { nx := RetP R (.d .non), rt := RetP R } (start0 2 as κ) := by
  obtain ⟨a, b, rfl, rfl, ha, hb, -, h⟩ := h
  unfold rd_plus
  walk_at "mps"
  have low : ∀ (r : Rt → List Mu → Prop), (∀ x, R (.d x) [] → r (.d x) []) → CMl a.num b.den ∧ CMl b.num a.den ∧ CMl a.den b.den ∧ F_lowest [.d (.int (a.num * b.den + b.num * a.den)), .d (.int (a.den * b.den))] [] r := fun r hr =>
    ⟨cml ha.1 hb.2, cml hb.1 ha.2, cml ha.2 hb.2, _, _, rfl, rfl, mul_den_ne a b, bits_mul_den ha hb, by rw [add_low]; exact hr _ h⟩
  refine ite2 (fun h1 => ite2 (fun h2 => ⟨le_size (by decide), ?_⟩) fun _ => low _ fun _ h => h) fun _ => low _ fun _ h => h
  rw [← one_den (of_decide_eq_true h1) (of_decide_eq_true h2)]
  exact h
/-- minus(one, other): slots one, other -/
def rd_minus : WS :=
  (sRet (wCall [false, false] F_plus (aCons (wVar 0) (aCons (wTup (aCons (wI (fun i => .int (-i)) (wIx (wVar 1) (wC (.int 0)))) (aCons (wIx (wVar 1) (wC (.int 1))) aNil))) aNil))))

def F_minus : FS := F_bin (fun a b => qF (a - b)) noPre
theorem len_minus (as : List Val) (κ : List Mu) (R : Rt → List Mu → Prop) (h : F_minus as κ R) : as.length = 2 := len_bin as κ R h
theorem qF_neg (b : Rat) : D.tup [.int (-b.num), .int (b.den : Int)] = qF (-b) := rfl
theorem pure_minus (as : List Val) (κ : List Mu) (R : Rt → List Mu → Prop) (h : F_minus as κ R) : rd_minus { nx := RetP R (.d .non), rt := RetP R } (start0 2 as κ) := by
  obtain ⟨a, b, rfl, rfl, ha, hb, -, h⟩ := h
  unfold rd_minus
  walk_at "mps"
  refine ⟨le_size (by decide), a, -b, by rw [← qF_neg], rfl, ha, hb.neg, trivial, ?_⟩
  show R (.d (qF (a + -b))) []
  rw [← Rat.sub_eq_add_neg]
  exact h
def d_ZERO : D := .tup [.int 0, .int 1]
theorem zero_qF : d_ZERO = qF 0 := rfl
/-- product(one, other): slots one, other -/
def rd_product : WS :=
  (sSeq (sIf (wOrT (wTst (wEq (wIx (wVar 0) (wC (.int 0))) (wC (.int 0)))) (wTst (wEq (wIx (wVar 1) (wC (.int 0))) (wC (.int 0))))) (sRet (wC d_ZERO)) sNil)
    (sRet (wCall [false, false] F_lowest (aCons (wII CMl (fun i j => .int (i * j)) (wIx (wVar 0) (wC (.int 0))) (wIx (wVar 1) (wC (.int 0)))) (aCons (wII CMl (fun i j => .int (i * j)) (wIx (wVar 0) (wC (.int 1))) (wIx (wVar 1) (wC (.int 1)))) aNil)))))

def F_product : FS := F_bin (fun a b => qF (a * b)) noPre
theorem len_product (as : List Val) (κ : List Mu) (R : Rt → List Mu → Prop) (h : F_product as κ R) : as.length = 2 := len_bin as κ R h
theorem num_zero {a : Rat} (h : a.num = 0) : a = 0 := Rat.num_eq_zero.mp h
theorem pure_product (as : List Val) (κ : List Mu) (R : Rt → List Mu → Prop) (h : F_product as κ R) : rd_product { nx := RetP R (.d .non), rt := RetP R } (start0 2 as κ) := by
  obtain ⟨a, b, rfl, rfl, ha, hb, -, h⟩ := h
  unfold rd_product
  walk_at "mps"
  have low : CMl a.num b.num ∧ CMl a.den b.den ∧ F_lowest [.d (.int (a.num * b.num)), .d (.int (a.den * b.den))] [] fun r κ' => match r with
      | Rt.d x => R (Rt.d x) []
      | Rt.arg j => False
      | Rt.new m => R (Rt.new m) [] := 
    ⟨cml ha.1 hb.1, cml ha.2 hb.2, _, _, rfl, rfl, mul_den_ne a b, bits_mul_den ha hb, by rw [mul_low]; exact h⟩
  refine ite2 (fun h1 => ?_) fun h1 => ite2 (fun h2 => ?_) fun h2 => low
  · have h' : R (.d (qF (a * b))) [] := h
    rw [num_zero (of_decide_eq_true h1), Rat.zero_mul] at h'
    exact h'
  · have h' : R (.d (qF (a * b))) [] := h
    rw [num_zero (of_decide_eq_true h2), Rat.mul_zero] at h'
    exact h'
/-- divided(one, other): slots one, other -/
def rd_divided : WS :=
  (sRet (wCall [false, false] F_lowest (aCons (wII CMl (fun i j => .int (i * j)) (wIx (wVar 0) (wC (.int 0))) (wIx (wVar 1) (wC (.int 1)))) (aCons (wII CMl (fun i j => .int (i * j)) (wIx (wVar 0) (wC (.int 1))) (wIx (wVar 1) (wC (.int 0)))) aNil))))

def F_divided : FS := F_bin (fun a b => qF (a / b)) ne0
theorem len_divided (as : List Val) (κ : List Mu) (R : Rt → List Mu → Prop) (h : F_divided as κ R) : as.length = 2 := len_bin as κ R h
theorem pure_divided (as : List Val) (κ : List Mu) (R : Rt → List Mu → Prop) (h : F_divided as κ R) : rd_divided { nx := RetP R (.d .non), rt := RetP R } (start0 2 as κ) := by
  obtain ⟨a, b, rfl, rfl, ha, hb, h0, h⟩ := h
  unfold rd_divided
  walk_at "mps"
  exact ⟨cml ha.1 hb.2, cml ha.2 hb.1, _, _, rfl, rfl, div_den_ne h0, (ha.2.mul hb.1).mono (by decide), by rw [div_low]; exact h⟩
/-- order_of(one, other): slots one, other, left, right -/
def rd_order_of : WS :=
  (sSeq (sAsg (wII CMl (fun i j => .int (i * j)) (wIx (wVar 0) (wC (.int 0))) (wIx (wVar 1) (wC (.int 1)))) (wgName 2))
    (sSeq (sAsg (wII CMl (fun i j => .int (i * j)) (wIx (wVar 1) (wC (.int 0))) (wIx (wVar 0) (wC (.int 1)))) (wgName 3))
    (sRet (wII0 (fun i j => .int (i - j)) (wCB fInt (aCons (wII0 (fun i j => .bl (decide (j < i))) (wVar 2) (wVar 3)) aNil)) (wCB fInt (aCons (wII0 (fun i j => .bl (decide (i < j))) (wVar 2) (wVar 3)) aNil))))))

def F_order_of : FS := F_bin (fun a b => .int (sgnQ a b)) noPre
theorem len_order_of (as : List Val) (κ : List Mu) (R : Rt → List Mu → Prop) (h : F_order_of as κ R) : as.length = 2 := len_bin as κ R h
theorem pure_order_of (as : List Val) (κ : List Mu) (R : Rt → List Mu → Prop) (h : F_order_of as κ R) : rd_order_of { nx := RetP R (.d .non), rt := RetP R } (start0 4 as κ) := by
  obtain ⟨a, b, rfl, rfl, ha, hb, -, h⟩ := h
  unfold rd_order_of
  walk_at "mps"
  refine ⟨cml ha.1 hb.2, cml hb.1 ha.2, ?_⟩
  have e1 : decide (b.num * (a.den : Int) < a.num * (b.den : Int)) = decide (b < a) := by
    rw [decide_eq_decide]; exact (Rat.lt_iff b a).symm
  have e2 : decide (a.num * (b.den : Int) < b.num * (a.den : Int)) = decide (a < b) := by
    rw [decide_eq_decide]; exact (Rat.lt_iff a b).symm
  rw [e1, e2]
  have e3 : ((if decide (b < a) = true then (1 : Int) else 0) - (if decide (a < b) = true then (1 : Int) else 0)) = sgnQ a b := by
    unfold sgnQ
    by_cases h1 : b < a <;> by_cases h2 : a < b <;> simp [h1, h2]
  rw [e3]
  exact h
/-! ### what the package hands out -/
theorem okF_qF (q : Rat) : okF (qF q) = true := rfl
/-- check_fractions(one, other): slots one, other -/
def rd_check_fractions : WS :=
  (sIf (wOrT (wNotT (wTst (wCall [false] F_is_fraction (aCons (wVar 0) aNil)))) (wNotT (wTst (wCall [false] F_is_fraction (aCons (wVar 1) aNil))))) sNever sNil)

def F_check_fractions : FS := F_bin (fun _ _ => .non) noPre
theorem len_check_fractions (as : List Val) (κ : List Mu) (R : Rt → List Mu → Prop) (h : F_check_fractions as κ R) : as.length = 2 := len_bin as κ R h
theorem isF_call {q : Rat} {R : Rt → List Mu → Prop} (h : R (.d (.bl true)) []) : F_is_fraction [.d (qF q)] [] R := ⟨qF q, rfl, rfl, okF_qF q, by rw [isFrac_qF]; exact h⟩
theorem pure_check_fractions (as : List Val) (κ : List Mu) (R : Rt → List Mu → Prop) (h : F_check_fractions as κ R) : rd_check_fractions { nx := RetP R (.d .non), rt := RetP R } (start0 2 as κ) := by
  obtain ⟨a, b, rfl, rfl, ha, hb, -, h⟩ := h
  unfold rd_check_fractions
  walk_at "mps"
  refine isF_call ?_
  walk_at "mps"
  refine isF_call ?_
  walk_at "mps"
  exact h
theorem bin_call {f : Rat → Rat → D} {pre : Rat → Rat → Prop} {a b : Rat} {R : Rt → List Mu → Prop} (ha : RB 4000 a) (hb : RB 4000 b) (hp : pre a b) (h : R (.d (f a b)) []) : F_bin f pre [.d (qF a), .d (qF b)] [] R := ⟨a, b, rfl, rfl, ha, hb, hp, h⟩
/-- frac_add(one, other): slots one, other -/
def rd_frac_add : WS :=
  (sSeq (sExpr (wCall [false, false] F_check_fractions (aCons (wVar 0) (aCons (wVar 1) aNil))))
    (sRet (wCall [false, false] F_plus (aCons (wVar 0) (aCons (wVar 1) aNil)))))

def F_frac_add : FS := F_plus
theorem len_frac_add (as : List Val) (κ : List Mu) (R : Rt → List Mu → Prop) (h : F_frac_add as κ R) : as.length = 2 := len_bin as κ R h
theorem pure_frac_add (as : List Val) (κ : List Mu) (R : Rt → List Mu → Prop) (h : F_frac_add as κ R) : rd_frac_add { nx := RetP R (.d .non), rt := RetP R } (start0 2 as κ) := by
  obtain ⟨a, b, rfl, rfl, ha, hb, hp, h⟩ := h
  unfold rd_frac_add
  walk_at "mps"
  exact bin_call ha hb trivial (bin_call ha hb hp h)
/-- frac_sub(one, other): slots one, other -/
def rd_frac_sub : WS :=
  (sSeq (sExpr (wCall [false, false] F_check_fractions (aCons (wVar 0) (aCons (wVar 1) aNil))))
    (sRet (wCall [false, false] F_minus (aCons (wVar 0) (aCons (wVar 1) aNil)))))

def F_frac_sub : FS := F_minus
theorem len_frac_sub (as : List Val) (κ : List Mu) (R : Rt → List Mu → Prop) (h : F_frac_sub as κ R) : as.length = 2 := len_bin as κ R h
theorem pure_frac_sub (as : List Val) (κ : List Mu) (R : Rt → List Mu → Prop) (h : F_frac_sub as κ R) : rd_frac_sub { nx := RetP R (.d .non), rt := RetP R } (start0 2 as κ) := by
  obtain ⟨a, b, rfl, rfl, ha, hb, hp, h⟩ := h
  unfold rd_frac_sub
  walk_at "mps"
  exact bin_call ha hb trivial (bin_call ha hb hp h)
/-- frac_mul(one, other): slots one, other -/
def rd_frac_mul : WS :=
  (sSeq (sExpr (wCall [false, false] F_check_fractions (aCons (wVar 0) (aCons (wVar 1) aNil))))
    (sRet (wCall [false, false] F_product (aCons (wVar 0) (aCons (wVar 1) aNil)))))

def F_frac_mul : FS := F_product
theorem len_frac_mul (as : List Val) (κ : List Mu) (R : Rt → List Mu → Prop) (h : F_frac_mul as κ R) : as.length = 2 := len_bin as κ R h
theorem pure_frac_mul (as : List Val) (κ : List Mu) (R : Rt → List Mu → Prop) (h : F_frac_mul as κ R) : rd_frac_mul { nx := RetP R (.d .non), rt := RetP R } (start0 2 as κ) := by
  obtain ⟨a, b, rfl, rfl, ha, hb, hp, h⟩ := h
  unfold rd_frac_mul
  walk_at "mps"
  exact bin_call ha hb trivial (bin_call ha hb hp h)
/-- frac_div(one, other): slots one, other -/
def rd_frac_div : WS :=
  (sSeq (sExpr (wCall [false, false] F_check_fractions (aCons (wVar 0) (aCons (wVar 1) aNil))))
    (sSeq (sIf (wTst (wEq (wIx (wVar 1) (wC (.int 0))) (wC (.int 0)))) sNever sNil)
    (sRet (wCall [false, false] F_divided (aCons (wVar 0) (aCons (wVar 1) aNil))))))

def F_frac_div : FS := F_divided
theorem len_frac_div (as : List Val) (κ : List Mu) (R : Rt → List Mu → Prop) (h : F_frac_div as κ R) : as.length = 2 := len_bin as κ R h
theorem pure_frac_div (as : List Val) (κ : List Mu) (R : Rt → List Mu → Prop) (h : F_frac_div as κ R) : rd_frac_div { nx := RetP R (.d .non), rt := RetP R } (start0 2 as κ) := by
  obtain ⟨a, b, rfl, rfl, ha, hb, hp, h⟩ := h
  unfold rd_frac_div
  walk_at "mps"
  refine bin_call ha hb trivial ?_
  walk_at "mps"
  rw [if_neg (by simpa using num_ne hp)]
  exact bin_call ha hb hp h
/-- frac_sign(one, other): slots one, other -/
def rd_frac_sign : WS :=
  (sSeq (sExpr (wCall [false, false] F_check_fractions (aCons (wVar 0) (aCons (wVar 1) aNil))))
    (sRet (wCall [false, false] F_order_of (aCons (wVar 0) (aCons (wVar 1) aNil)))))

def F_frac_sign : FS := F_order_of
theorem len_frac_sign (as : List Val) (κ : List Mu) (R : Rt → List Mu → Prop) (h : F_frac_sign as κ R) : as.length = 2 := len_bin as κ R h
theorem pure_frac_sign (as : List Val) (κ : List Mu) (R : Rt → List Mu → Prop) (h : F_frac_sign as κ R) : rd_frac_sign { nx := RetP R (.d .non), rt := RetP R } (start0 2 as κ) := by
  obtain ⟨a, b, rfl, rfl, ha, hb, hp, h⟩ := h
  unfold rd_frac_sign
  walk_at "mps"
  exact bin_call ha hb trivial (bin_call ha hb hp h)
end MP

/-! what the laws draw from the script: readings and what they come to -/
namespace MP
open PySem PySem.Spec PyProof.Rows L2
local macro_rules | `(tactic| walk_at "mp") => `(tactic| repeat' (first
  | with_reducible refine e_set ?_
  | with_reducible refine e_put ?_
  | with_reducible refine e_new ?_
  | with_reducible refine e_frz ?_
  | with_reducible refine e_seq ?_
  | with_reducible refine e_asgN ?_
  | (with_reducible refine e_varD (by with_unfolding_all exact rfl) ?_)
  | (with_reducible refine e_varO (by with_unfolding_all exact rfl) ?_)
  | with_reducible refine e_c ?_
  | with_reducible refine e_aCons ?_
  | with_reducible refine e_aNil ?_
  | with_reducible refine e_call ?_
  | with_reducible refine e_prepF ?_
  | with_reducible refine e_asDd ?_
  | with_reducible refine e_prep0 ?_
  | with_reducible refine e_prepT0 ?_
  | with_reducible refine e_prepT1 ?_
  | with_reducible refine e_call0 ?_
  | (with_reducible refine e_call1 (by with_unfolding_all exact rfl) ?_)
  | (with_reducible refine e_call2 (by decide) (by with_unfolding_all exact rfl) (by with_unfolding_all exact rfl) ?_)
  | with_reducible refine e_retD1 ?_
  | with_reducible refine e_retD2 ?_
  | with_reducible refine e_retN0 ?_
  | with_reducible refine e_retN1 ?_
  | with_reducible refine e_retD ?_
  | with_reducible refine e_ix ?_
  | (with_reducible refine e_ixV (by with_unfolding_all exact rfl) (by first | exact atI_0 _ _ | exact atI_1 _ _ _ | exact atI_2 _ _ _ _ | exact atI_3 _ _ _ _ _ | with_unfolding_all exact rfl) ?_)
  | with_reducible refine e_if ?_
  | with_reducible refine e_ifT ?_
  | with_reducible refine e_ifF ?_
  | (with_reducible refine e_ifT' (by with_unfolding_all exact rfl) ?_)
  | (with_reducible refine e_ifF' (by with_unfolding_all exact rfl) ?_)
  | with_reducible refine e_ret ?_
  | with_reducible refine e_retN ?_
  | with_reducible refine e_expr ?_
  | with_reducible refine e_nil ?_
  | with_reducible refine e_asg ?_
  | with_reducible refine e_gTup rfl ?_
  | with_reducible refine e_gNil ?_
  | with_reducible refine e_gCons ?_
  | with_reducible refine e_gName ?_
  | with_reducible refine e_gSub ?_
  | (with_reducible refine e_subV (by with_unfolding_all exact rfl) (by with_unfolding_all exact rfl) ?_)
  | with_reducible refine e_par' ?_
  | with_reducible refine e_parV ?_
  | with_reducible refine e_ii ?_
  | with_reducible refine e_iiV (C := CMd) (by exact cmd64) ?_
  | with_reducible refine e_iiV (C := CDivW) (by exact cdw64) ?_
  | with_reducible refine e_iiV (C := CPow) (by with_unfolding_all exact cpw rfl) ?_
  | with_reducible refine e_iiV (C := CMl) (by exact cml64) ?_
  | with_reducible refine e_iiV (C := CMl) (by exact cml60) ?_
  | with_reducible refine e_iiV (C := CDv) (by exact cdv64) ?_
  | with_reducible refine e_iiV ?_ ?_
  | with_reducible refine e_ii0 ?_
  | with_reducible refine e_ii0V ?_
  | with_reducible refine e_i ?_
  | with_reducible refine e_iV ?_
  | with_reducible refine e_add ?_
  | with_reducible refine e_addI ?_
  | with_reducible refine e_addS ?_ ?_
  | with_reducible refine e_addT ?_ ?_
  | (with_reducible refine e_addL (by with_unfolding_all exact rfl) (by with_unfolding_all exact rfl) ?_ ?_)
  | with_reducible refine e_tup ?_
  | with_reducible refine e_lst ?_
  | with_reducible refine e_asDs0 ?_
  | with_reducible refine e_asDs1 ?_
  | (with_reducible refine e_tupV (by exact len_size rfl) ?_)
  | (with_reducible refine e_lstW (by exact len_size rfl) ?_)
  | (with_reducible refine e_asDo (by with_unfolding_all exact rfl) (by with_unfolding_all exact rfl) ?_)
  | with_reducible refine e_eq ?_
  | with_reducible refine e_ne ?_
  | with_reducible refine e_eqI ?_
  | with_reducible refine e_neI ?_
  | with_reducible refine e_eqB ?_
  | with_reducible refine e_neB ?_
  | with_reducible refine e_eqQ ?_
  | with_reducible refine e_neQ ?_
  | with_reducible refine e_isN ?_
  | with_reducible refine e_notN ?_
  | with_reducible refine e_in ?_
  | with_reducible refine e_tst ?_
  | with_reducible refine e_tstV ?_
  | with_reducible refine e_and ?_
  | with_reducible refine e_or ?_
  | with_reducible refine e_not ?_
  | with_reducible refine e_andT ?_
  | with_reducible refine e_andF ?_
  | with_reducible refine e_orT ?_
  | with_reducible refine e_orF ?_
  | (with_reducible refine e_andT' (by with_unfolding_all exact rfl) ?_)
  | (with_reducible refine e_andF' (by with_unfolding_all exact rfl) ?_)
  | (with_reducible refine e_orT' (by with_unfolding_all exact rfl) ?_)
  | (with_reducible refine e_orF' (by with_unfolding_all exact rfl) ?_)
  | with_reducible refine e_vand ?_
  | with_reducible refine e_vor ?_
  | with_reducible refine e_vnot ?_
  | with_reducible refine e_vandT ?_
  | with_reducible refine e_vandF ?_
  | with_reducible refine e_vorT ?_
  | with_reducible refine e_vorF ?_
  | with_reducible refine e_vnotV ?_
  | with_reducible refine e_ife ?_
  | with_reducible refine e_ifeT ?_
  | with_reducible refine e_ifeF ?_
  | with_reducible refine e_cb ?_
  | with_reducible refine e_abs ?_
  | with_reducible refine e_intI ?_
  | with_reducible refine e_intB ?_
  | with_reducible refine e_min ?_
  | with_reducible refine e_max ?_
  | (with_reducible refine e_lenV (by with_unfolding_all exact rfl) ?_)
  | (with_reducible refine e_list (by with_unfolding_all exact rfl) ?_)
  | (with_reducible refine e_tuple (by with_unfolding_all exact rfl) ?_)
  | with_reducible refine e_isi ?_
  | (with_reducible refine e_isiT (by with_unfolding_all exact rfl) (by with_unfolding_all exact rfl) ?_)
  | (with_reducible refine e_isiF (by with_unfolding_all exact rfl) (by with_unfolding_all exact rfl) ?_)
  | with_reducible refine e_isi2 ?_
  | (with_reducible refine e_isi2T (by with_unfolding_all exact rfl) (by with_unfolding_all exact rfl) ?_)
  | (with_reducible refine e_isi2F (by with_unfolding_all exact rfl) (by with_unfolding_all exact rfl) ?_)
  | with_reducible refine e_sl ?_
  | with_reducible refine e_noPart ?_
  | with_reducible refine e_part ?_
  | with_reducible refine e_partV ?_
  | with_reducible refine e_slT ?_
  | with_reducible refine e_slL ?_
  | with_reducible refine e_slS ?_
  | with_reducible refine e_lm ?_
  | (with_reducible refine e_lmV (by with_unfolding_all exact rfl) ?_)
  | (with_reducible refine e_lmW (by with_unfolding_all exact rfl) ?_)
  | with_reducible refine e_app ?_ ?_
  | with_reducible refine e_break ?_
  | with_reducible refine e_cont ?_
  | with_reducible refine e_pass ?_
  | (with_reducible refine e_retP (by with_unfolding_all exact rfl) ?_)
  | (with_reducible refine e_retPo (by with_unfolding_all exact rfl) rfl (by with_unfolding_all exact rfl) ?_)
  | with_reducible refine e_lc ?_
  | with_reducible refine e_yes ?_
  | with_reducible refine e_lcBT ?_
  | with_reducible refine e_forR ?_
  | with_reducible refine e_wiSeq ?_
  | with_reducible refine e_rng1 ?_
  | (with_reducible refine e_rng1R (by omega) (by omega) ?_)
  | with_reducible refine e_rng2 ?_
  | (with_reducible refine e_rng2R (by omega) (by omega) (by omega) (by omega) ?_)
  | with_reducible refine e_nT ?_
  | with_reducible refine e_nF ?_
  ))
local macro_rules | `(tactic| walk_at "nm") => `(tactic| try simp only [start0, wipeS, wipeE, Int.reducePow, Int.reduceMul, Int.reduceSub, Int.reduceAdd, Int.reduceNeg, Int.one_mul, setε, Sm.new, Sm.put, Int.reduceToNat, Sm.frz, List.nil_append, toD_lst, List.append_nil, List.length_map, List.length_cons, List.length_nil, Nat.reduceSub, Nat.reduceAdd, List.replicate, List.cons_append, List.nil_append, List.map_cons, List.map_nil, List.set_cons_zero, List.set_cons_succ, unown, List.length_set, reduceIte, Nat.zero_ne_one, Nat.one_ne_zero])
local macro_rules | `(tactic| walk_at "mps") => `(tactic| try simp (config := { maxSteps := 400000 }) only [sSeq, sAsg, sIf, sNil, sRet, sRetN, sExpr, sPar, sPass, sBreak, sCont, sNever, wVar, wC, wII, wII0, wI, wAdd, wIx, wTup, wLst, wEq, wNe, wIsN, wNotN, wIn, wTst, wAndT, wOrT, wNotT, wAndV, wOrV, wNotV, wIf, wSl, wPart, wNoPart, wCB, wIsi, wIsi2, wCall, wLm, wgName, wgTup, wgCons, wgNil, wgSub, aNil, aCons, fAbs, fInt, fLen, fMin2, fMax2, fList, fTuple, wiSeq, wiRng1, wiRng2, srcV, wYes,
   asDs, asD_d, asD_o, prep, putAll, retV, lives, start0, RetP, vget, muAt, setε, wipeS, wipeE, Sm.put, Sm.new, Sm.frz, seqV_d, seqV_o, seqD_tup, seqD_lst, seqD_scr, seqD_int, seqM_lst, lstV_lst, lstV_o, tyVal_d, tyVal_o, tyD_non, tyD_bl, tyD_int, tyD_str, tyD_tup, tyD_lst, tyD_scr, tyD_dct, isK, pyV_d, pyV_o, ownL, toD_lst, unown, lmAppend, isNon_non, isNon_int, isNon_tup, isNon_o, D.py, D.pys, Mu_py,
   atI_0, atI_1, atI_2, atI_3, ixN_4_0, ixN_4_1, ixN_4_2, ixN_4_3, ixN4_0, ixN4_1, ixN4_2, ixN4_3, shaped_bool, eqv_bool, shaped_int, eqv_int, seqD_qF, tyD_qF, shaped_qF, eqv_qF,
   List.getElem?_cons_zero, List.getElem?_cons_succ, List.getElem?_nil, Option.getD_some, Option.getD_none, Option.join, Option.bind_some, Option.map_some, List.length_cons, List.length_nil, List.set_cons_zero, List.set_cons_succ, List.map_cons, List.map_nil, List.cons_append, List.nil_append, List.replicate, Nat.sub_self, Nat.reduceSub, Nat.reduceAdd, List.take, Bool.not_true, Bool.not_false, Bool.false_eq_true, if_true, if_false, List.nodup_nil, List.nodup_cons, List.not_mem_nil, not_false_eq_true, and_true, true_and, decide_true, decide_false, Option.isSome_some, Nat.le_refl, reduceIte, Nat.lt_irrefl, Nat.zero_add, id_eq])
local macro_rules | `(tactic| walk_at "hy") => `(tactic| skip)
theorem fdiv_nn {i j : Int} (hi : 0 ≤ i) (hj : 0 < j) : 0 ≤ i.fdiv j := by
  rw [Int.fdiv_eq_ediv_of_nonneg _ (by omega)]
  exact Int.ediv_nonneg hi (by omega)
theorem ixN_of {n : Nat} {i : Int} (h0 : 0 ≤ i) (h1 : i < (n : Int)) : ixN n i = some i.toNat := by
  unfold ixN
  rw [if_pos h0, if_pos h1]
theorem atI_map {α β : Type} {f : α → β} {xs : List α} {i : Int} (h0 : 0 ≤ i) (h1 : i < (xs.length : Int)) : ∃ x, x ∈ xs ∧ xs[i.toNat]? = some x ∧ L2.atI (xs.map f) i = some (f x) := by
  have hl : i.toNat < xs.length := by omega
  refine ⟨xs[i.toNat], List.getElem_mem hl, List.getElem?_eq_getElem hl, ?_⟩
  unfold L2.atI
  rw [List.length_map, ixN_of h0 h1]
  show (xs.map f)[i.toNat]? = _
  rw [List.getElem?_map, List.getElem?_eq_getElem hl]
  rfl
/-- _law_mixed(cell, k): slots cell, k, number -/
def rd__law_mixed : WS :=
  (sSeq (sAsg (wII CMd (fun i j => .int (i % j)) (wCB fInt (aCons (wII CMl (fun i j => .int (i * j)) (wAdd (wAdd (wII CMd (fun i j => .int (i % j)) (wCB fInt (aCons (wVar 0) aNil)) (wC (.int 2147483647))) (wII CMl (fun i j => .int (i * j)) (wC (.int 7919)) (wVar 1))) (wC (.int 1))) (wC (.int 48271))) aNil)) (wC (.int 2147483647))) (wgName 2))
    (sSeq (sAsg (wII CMd (fun i j => .int (i % j)) (wCB fInt (aCons (wII CMl (fun i j => .int (i * j)) (wVar 2) (wAdd (wII CDivW (fun i j => .int (i / j)) (wVar 2) (wC (.int 1009))) (wC (.int 69621)))) aNil)) (wC (.int 2147483647))) (wgName 2))
    (sRet (wII CMd (fun i j => .int (i % j)) (wCB fInt (aCons (wII CMl (fun i j => .int (i * j)) (wVar 2) (wAdd (wII CDivW (fun i j => .int (i / j)) (wVar 2) (wC (.int 2003))) (wC (.int 40692)))) aNil)) (wC (.int 2147483399))))))

def F__law_mixed : FS := fun as κ R => ∃ c k : Int, as = [.d (.int c), .d (.int k)] ∧ κ = [] ∧ 0 ≤ k ∧ k ≤ 1000000 ∧ ∀ r : Int, 0 ≤ r → r < 2147483399 → R (.d (.int r)) []
theorem len__law_mixed (as : List Val) (κ : List Mu) (R : Rt → List Mu → Prop) (h : F__law_mixed as κ R) : as.length = 2 := by
  obtain ⟨i, j, rfl, _⟩ := h
  rfl
theorem pure__law_mixed (as : List Val) (κ : List Mu) (R : Rt → List Mu → Prop) (h : F__law_mixed as κ R) : rd__law_mixed { nx := RetP R (.d .non), rt := RetP R } (start0 3 as κ) := by
  obtain ⟨c, k, rfl, rfl, k0, k1, h⟩ := h
  unfold rd__law_mixed
  walk_at "nm"
  walk_at "mp"
  all_goals walk_at "nm"
  exact h _ (by omega) (by omega)
/-- _law_great(cells, place): slots cells, place -/
def rd__law_great : WS :=
  (sSeq (sIf (wAndT (wTst (wII0 (fun i j => .bl (decide (i < j))) (wVar 1) (wCB fLen (aCons (wVar 0) aNil)))) (wTst (wII0 (fun i j => .bl (decide (j ≤ i))) (wCB fAbs (aCons (wIx (wVar 0) (wVar 1)) aNil)) (wC (.int 1000000000000000000))))) (sRet (wCB fAbs (aCons (wIx (wVar 0) (wVar 1)) aNil))) sNil)
    (sRet (wC (.int 0))))

def F__law_great : FS := fun as κ R => ∃ (ns : List Int) (p : Int), 0 ≤ p ∧
  ((as = [.d (.lst (ns.map .int)), .d (.int p)] ∧ κ = [] ∧ ∀ g : Int, 0 ≤ g → R (.d (.int g)) []) ∨ (as = [.o 0, .d (.int p)] ∧ κ = [.lst (ns.map .int)] ∧ ∀ g : Int, 0 ≤ g → R (.d (.int g)) [.lst (ns.map .int)]))
theorem len__law_great (as : List Val) (κ : List Mu) (R : Rt → List Mu → Prop) (h : F__law_great as κ R) : as.length = 2 := by
  obtain ⟨i, j, _, ⟨rfl, _⟩ | ⟨rfl, _⟩⟩ := h <;> rfl
theorem pure__law_great (as : List Val) (κ : List Mu) (R : Rt → List Mu → Prop) (h : F__law_great as κ R) : rd__law_great { nx := RetP R (.d .non), rt := RetP R } (start0 2 as κ) := by
  obtain ⟨ns, p, p0, ⟨rfl, rfl, h⟩ | ⟨rfl, rfl, h⟩⟩ := h
  all_goals
    unfold rd__law_great
    walk_at "nm"
    walk_at "mp"
    walk_at "nm"
    refine e_andB (fun h1 => ?_) fun _ => ?_
    · have h2 : p < (ns.length : Int) := by simpa using h1
      obtain ⟨x, _, _, hx⟩ := atI_map (f := D.int) p0 h2
      walk_at "mp"
      refine e_ixV rfl hx ?_
      walk_at "mp"
      refine e_ifB (fun _ => ?_) fun _ => ?_
      · walk_at "mp"
        refine e_ixV rfl hx ?_
        walk_at "mp"
        exact h _ (by omega)
      · walk_at "mp"
        exact h _ (by omega)
    · walk_at "mp"
      exact h _ (by omega)
/-- _law_stream(script): slots script, cells -/
def rd__law_stream : WS :=
  (sSeq (sAsg (wCB fList (aCons (wVar 0) aNil)) (wgName 1))
    (sSeq (sIf (wTst (wEq (wCB fLen (aCons (wVar 1) aNil)) (wC (.int 0)))) (sAsg (wLst (aCons (wC (.int 0)) aNil)) (wgName 1)) sNil)
    (sRet (wLst (aCons (wVar 1) (aCons (wC (.int 0)) (aCons (wCall [true, false] F__law_great (aCons (wVar 1) (aCons (wC (.int 0)) aNil))) (aCons (wC (.int 0)) aNil))))))))

/-- the stream: the cells, the place, what is left of a great one, how often it was drawn -/
def StOk (n : Int) (m : Mu) : Prop := ∃ (ns : List Int) (p g c : Int), ns ≠ [] ∧ m = .lst [.lst (ns.map .int), .int p, .int g, .int c] ∧ 0 ≤ p ∧ 0 ≤ g ∧ 0 ≤ c ∧ c ≤ n
theorem StOk.mono {n k : Int} {m : Mu} (h : StOk n m) (l : n ≤ k) : StOk k m := by
  obtain ⟨ns, p, g, c, h1, h2, h3, h4, h5, h6⟩ := h
  exact ⟨ns, p, g, c, h1, h2, h3, h4, h5, by omega⟩
def F__law_stream : FS := fun as κ R => ∃ (ns : List Int), as = [.d (.scr ns)] ∧ κ = [] ∧ ∀ m, StOk 0 m → R (.new m) []
theorem len__law_stream (as : List Val) (κ : List Mu) (R : Rt → List Mu → Prop) (h : F__law_stream as κ R) : as.length = 1 := by
  obtain ⟨i, rfl, _⟩ := h
  rfl
theorem pure__law_stream (as : List Val) (κ : List Mu) (R : Rt → List Mu → Prop) (h : F__law_stream as κ R) : rd__law_stream { nx := RetP R (.d .non), rt := RetP R } (start0 2 as κ) := by
  obtain ⟨ns, rfl, rfl, h⟩ := h
  unfold rd__law_stream
  walk_at "nm"
  walk_at "mp"
  walk_at "nm"
  refine e_ifB (fun h1 => ?_) fun h1 => ?_
  · walk_at "mp"
    refine ⟨[0], 0, by omega, .inr ⟨rfl, rfl, fun g g0 => ?_⟩⟩
    walk_at "mp"
    walk_at "nm"
    exact h _ ⟨[0], 0, g, 0, by simp, rfl, by omega, g0, by omega, by omega⟩
  · walk_at "mp"
    refine ⟨ns, 0, by omega, .inr ⟨rfl, rfl, fun g g0 => ?_⟩⟩
    walk_at "mp"
    walk_at "nm"
    exact h _ ⟨ns, 0, g, 0, fun z => by subst z; simp at h1, rfl, by omega, g0, by omega, by omega⟩
/-- _law_take(stream, many): slots stream, many, cells, place, digit -/
def rd__law_take : WS :=
  (sSeq (sAsg (wIx (wVar 0) (wC (.int 0))) (wgName 2))
    (sSeq (sAsg (wIx (wVar 0) (wC (.int 1))) (wgName 3))
    (sSeq (sAsg (wAdd (wIx (wVar 0) (wC (.int 3))) (wC (.int 1))) (wgSub (wVar 0) (wC (.int 3))))
    (sSeq (sIf (wTst (wII0 (fun i j => .bl (decide (j < i))) (wIx (wVar 0) (wC (.int 2))) (wC (.int 0)))) (sSeq (sAsg (wII CMd (fun i j => .int (i % j)) (wCB fInt (aCons (wIx (wVar 0) (wC (.int 2))) aNil)) (wVar 1)) (wgName 4))
    (sSeq (sAsg (wII CDv (fun i j => .int (i.fdiv j)) (wIx (wVar 0) (wC (.int 2))) (wVar 1)) (wgSub (wVar 0) (wC (.int 2))))
    (sIf (wTst (wII0 (fun i j => .bl (decide (j < i))) (wIx (wVar 0) (wC (.int 2))) (wC (.int 0)))) (sRet (wVar 4)) sNil))) (sAsg (wII CMd (fun i j => .int (i % j)) (wCall [false, false] F__law_mixed (aCons (wIx (wVar 2) (wII CMd (fun i j => .int (i % j)) (wCB fInt (aCons (wVar 3) aNil)) (wCB fLen (aCons (wVar 2) aNil)))) (aCons (wIx (wVar 0) (wC (.int 3))) aNil))) (wVar 1)) (wgName 4)))
    (sSeq (sAsg (wAdd (wVar 3) (wC (.int 1))) (wgSub (wVar 0) (wC (.int 1))))
    (sSeq (sAsg (wCall [false, false] F__law_great (aCons (wVar 2) (aCons (wAdd (wVar 3) (wC (.int 1))) aNil))) (wgSub (wVar 0) (wC (.int 2))))
    (sRet (wVar 4))))))))

def F__law_take : FS := fun as κ R => ∃ (n many : Int) (m : Mu), as = [.o 0, .d (.int many)] ∧ κ = [m] ∧ StOk n m ∧ n < 1000000 ∧ 0 < many ∧ many < 18446744073709551616 ∧ ∀ (d : Int) (m' : Mu), 0 ≤ d → d < many → StOk (n + 1) m' → R (.d (.int d)) [m']
theorem len__law_take (as : List Val) (κ : List Mu) (R : Rt → List Mu → Prop) (h : F__law_take as κ R) : as.length = 2 := by
  obtain ⟨n, i, m, rfl, _⟩ := h
  rfl
theorem pure__law_take (as : List Val) (κ : List Mu) (R : Rt → List Mu → Prop) (h : F__law_take as κ R) : rd__law_take { nx := RetP R (.d .non), rt := RetP R } (start0 5 as κ) := by
  obtain ⟨n, many, m, rfl, rfl, ⟨ns, p, g, c, hns, rfl, p0, g0, c0, cn⟩, hn, h0, hm, h⟩ := h
  have hl : 0 < (ns.length : Int) := by
    have := List.length_pos_iff.mpr hns
    omega
  have hl' : 0 < ((ns.map D.int).length : Int) := by rw [List.length_map]; exact hl
  -- the draw's end: the next place
  have fin : ∀ (d : Int) (g' : Int), 0 ≤ d → d < many → 0 ≤ g' → ∀ p' c' : Int, 0 ≤ p' → 0 ≤ c' → c' ≤ n + 1 → R (.d (.int d)) [.lst [.lst (ns.map .int), .int p', .int g', .int c']] :=
    fun d g' d0 d1 g0' p' c' p0' c0' cn' => h d _ d0 d1 ⟨ns, p', g', c', hns, rfl, p0', g0', c0', cn'⟩
  unfold rd__law_take
  walk_at "nm"
  walk_at "mp"
  walk_at "nm"
  refine e_ifB (fun h1 => ?_) fun h1 => ?_
  · have g1 : 0 < g := of_decide_eq_true h1
    walk_at "mp"
    walk_at "nm"
    refine e_ifB (fun h2 => ?_) fun h2 => ?_
    · walk_at "mp"
      exact fin _ _ (Int.emod_nonneg _ (by omega)) (Int.emod_lt_of_pos _ h0) (fdiv_nn g0 h0) _ _ p0 (by omega) (by omega)
    · walk_at "mp"
      walk_at "nm"
      refine ⟨ns, p + 1, by omega, .inl ⟨rfl, rfl, fun g' g0' => ?_⟩⟩
      walk_at "mp"
      exact fin _ _ (Int.emod_nonneg _ (by omega)) (Int.emod_lt_of_pos _ h0) g0' _ _ (by omega) (by omega) (by omega)
  · walk_at "mp"
    walk_at "nm"
    obtain ⟨x, _, _, hx⟩ := atI_map (f := D.int) (xs := ns) (i := p % (ns.length : Int)) (Int.emod_nonneg _ (by omega)) (Int.emod_lt_of_pos _ hl)
    refine e_ixV rfl hx ?_
    walk_at "mp"
    refine ⟨x, c + 1, rfl, rfl, by omega, by omega, fun r r0 r1 => ?_⟩
    walk_at "mp"
    walk_at "nm"
    refine ⟨ns, p + 1, by omega, .inl ⟨rfl, rfl, fun g' g0' => ?_⟩⟩
    walk_at "mp"
    exact fin _ _ (Int.emod_nonneg _ (by omega)) (Int.emod_lt_of_pos _ h0) g0' _ _ (by omega) (by omega) (by omega)
/-- _law_low(top, bottom): slots top, bottom, one, other -/
def rd__law_low : WS :=
  (sSeq (sAsg (wCB fAbs (aCons (wVar 0) aNil)) (wgName 2))
    (sSeq (sAsg (wCB fAbs (aCons (wVar 1) aNil)) (wgName 3))
    (sSeq (sWhile (wTst (wII0 (fun i j => .bl (decide (j < i))) (wVar 3) (wC (.int 0)))) (sPar 2 3 (aCons (wVar 3) (aCons (wII CMd (fun i j => .int (i % j)) (wCB fInt (aCons (wVar 2) aNil)) (wVar 3)) aNil))))
    (sSeq (sIf (wTst (wII0 (fun i j => .bl (decide (i < j))) (wVar 1) (wC (.int 0)))) (sAsg (wI (fun i => .int (-i)) (wVar 2)) (wgName 2)) sNil)
    (sRet (wTup (aCons (wII CDv (fun i j => .int (i.fdiv j)) (wVar 0) (wVar 2)) (aCons (wII CDv (fun i j => .int (i.fdiv j)) (wVar 1) (wVar 2)) aNil))))))))

def F__law_low : FS := F_lowest
theorem len__law_low (as : List Val) (κ : List Mu) (R : Rt → List Mu → Prop) (h : F__law_low as κ R) : as.length = 2 := len_lowest as κ R h
theorem pure__law_low (as : List Val) (κ : List Mu) (R : Rt → List Mu → Prop) (h : F__law_low as κ R) : rd__law_low { nx := RetP R (.d .non), rt := RetP R } (start0 4 as κ) := by
  obtain ⟨i, j, rfl, rfl, hj, hb, h⟩ := h
  unfold rd__law_low
  walk_at "nm"
  walk_at "mp"
  walk_at "nm"
  refine ⟨fun m S => ∃ a b : Nat, S = ⟨[.d (.int i), .d (.int j), .d (.int a), .d (.int b)], [], 0, noX⟩ ∧ m = b ∧ Nat.gcd a b = Int.gcd i j, ⟨j.natAbs, i.natAbs, j.natAbs, rfl, rfl, rfl⟩, ?_⟩
  rintro m S ⟨a, b, rfl, hm, hg⟩
  walk_at "mp"
  by_cases hb0 : b = 0
  · subst hb0
    show (if decide ((0 : Int) < ((0 : Nat) : Int)) = true then _ else _)
    rw [if_neg (by simp)]
    rw [Nat.gcd_zero_right] at hg
    subst hg
    walk_at "mp"
    have e : ∀ p : Int, p = partI i j → CDv i p ∧ CDv j p ∧ R (.d (.tup [.int (i.fdiv p), .int (j.fdiv p)])) [] := fun p hp => by
      subst hp
      refine ⟨cdv_part hj hb _, cdv_part hj hb _, ?_⟩
      rw [low_num hj, low_den hj]
      exact h
    refine e_ifD (fun hn => ?_) fun hn => ?_
    · obtain ⟨e1, e2, e3⟩ := e (-(Int.gcd i j : Int)) (by unfold partI; rw [if_pos hn])
      walk_at "mp"
      · exact e1
      · exact e2
      · exact e3
    · obtain ⟨e1, e2, e3⟩ := e (Int.gcd i j : Int) (by unfold partI; rw [if_neg hn])
      walk_at "mp"
      · exact e1
      · exact e2
      · exact e3
  · have hb' : (0 : Int) < (b : Int) := by omega
    show (if decide ((0 : Int) < (b : Int)) = true then _ else _)
    rw [if_pos (decide_eq_true hb')]
    walk_at "mp"
    refine ⟨a % b, by rw [hm]; exact Nat.mod_lt _ (by omega), b, a % b, ?_, rfl, ?_⟩
    · rw [Int.natCast_emod]
      rfl
    · rw [Nat.gcd_comm b (a % b), ← Nat.gcd_rec, Nat.gcd_comm]
      exact hg
/-- _law_add(one, other): slots one, other -/
def rd__law_add : WS :=
  (sRet (wCall [false, false] F__law_low (aCons (wAdd (wII CMl (fun i j => .int (i * j)) (wIx (wVar 0) (wC (.int 0))) (wIx (wVar 1) (wC (.int 1)))) (wII CMl (fun i j => .int (i * j)) (wIx (wVar 1) (wC (.int 0))) (wIx (wVar 0) (wC (.int 1))))) (aCons (wII CMl (fun i j => .int (i * j)) (wIx (wVar 0) (wC (.int 1))) (wIx (wVar 1) (wC (.int 1)))) aNil))))

def F__law_add : FS := F_plus
theorem len__law_add (as : List Val) (κ : List Mu) (R : Rt → List Mu → Prop) (h : F__law_add as κ R) : as.length = 2 := len_bin as κ R h
theorem pure__law_add (as : List Val) (κ : List Mu) (R : Rt → List Mu → Prop) (h : F__law_add as κ R) : rd__law_add { nx := RetP R (.d .non), rt := RetP R } (start0 2 as κ) := by
  obtain ⟨a, b, rfl, rfl, ha, hb, -, h⟩ := h
  unfold rd__law_add
  walk_at "nm"
  walk_at "mp"
  · exact cml ha.1 hb.2
  · exact cml hb.1 ha.2
  · exact cml ha.2 hb.2
  · refine ⟨_, _, rfl, rfl, mul_den_ne a b, bits_mul_den ha hb, ?_⟩
    rw [add_low]
    exact h
/-- _law_sub(one, other): slots one, other -/
def rd__law_sub : WS :=
  (sRet (wCall [false, false] F__law_low (aCons (wII0 (fun i j => .int (i - j)) (wII CMl (fun i j => .int (i * j)) (wIx (wVar 0) (wC (.int 0))) (wIx (wVar 1) (wC (.int 1)))) (wII CMl (fun i j => .int (i * j)) (wIx (wVar 1) (wC (.int 0))) (wIx (wVar 0) (wC (.int 1))))) (aCons (wII CMl (fun i j => .int (i * j)) (wIx (wVar 0) (wC (.int 1))) (wIx (wVar 1) (wC (.int 1)))) aNil))))

def F__law_sub : FS := F_minus
theorem len__law_sub (as : List Val) (κ : List Mu) (R : Rt → List Mu → Prop) (h : F__law_sub as κ R) : as.length = 2 := len_bin as κ R h
theorem pure__law_sub (as : List Val) (κ : List Mu) (R : Rt → List Mu → Prop) (h : F__law_sub as κ R) : rd__law_sub { nx := RetP R (.d .non), rt := RetP R } (start0 2 as κ) := by
  obtain ⟨a, b, rfl, rfl, ha, hb, -, h⟩ := h
  unfold rd__law_sub
  walk_at "nm"
  walk_at "mp"
  · exact cml ha.1 hb.2
  · exact cml hb.1 ha.2
  · exact cml ha.2 hb.2
  · refine ⟨_, _, rfl, rfl, mul_den_ne a b, bits_mul_den ha hb, ?_⟩
    rw [sub_low]
    exact h
/-- _law_mul(one, other): slots one, other -/
def rd__law_mul : WS :=
  (sRet (wCall [false, false] F__law_low (aCons (wII CMl (fun i j => .int (i * j)) (wIx (wVar 0) (wC (.int 0))) (wIx (wVar 1) (wC (.int 0)))) (aCons (wII CMl (fun i j => .int (i * j)) (wIx (wVar 0) (wC (.int 1))) (wIx (wVar 1) (wC (.int 1)))) aNil))))

def F__law_mul : FS := F_product
theorem len__law_mul (as : List Val) (κ : List Mu) (R : Rt → List Mu → Prop) (h : F__law_mul as κ R) : as.length = 2 := len_bin as κ R h
theorem pure__law_mul (as : List Val) (κ : List Mu) (R : Rt → List Mu → Prop) (h : F__law_mul as κ R) : rd__law_mul { nx := RetP R (.d .non), rt := RetP R } (start0 2 as κ) := by
  obtain ⟨a, b, rfl, rfl, ha, hb, -, h⟩ := h
  unfold rd__law_mul
  walk_at "nm"
  walk_at "mp"
  · exact cml ha.1 hb.1
  · exact cml ha.2 hb.2
  · refine ⟨_, _, rfl, rfl, mul_den_ne a b, bits_mul_den ha hb, ?_⟩
    rw [mul_low]
    exact h
/-- _law_div(one, other): slots one, other -/
def rd__law_div : WS :=
  (sRet (wCall [false, false] F__law_low (aCons (wII CMl (fun i j => .int (i * j)) (wIx (wVar 0) (wC (.int 0))) (wIx (wVar 1) (wC (.int 1)))) (aCons (wII CMl (fun i j => .int (i * j)) (wIx (wVar 0) (wC (.int 1))) (wIx (wVar 1) (wC (.int 0)))) aNil))))

def F__law_div : FS := F_divided
theorem len__law_div (as : List Val) (κ : List Mu) (R : Rt → List Mu → Prop) (h : F__law_div as κ R) : as.length = 2 := len_bin as κ R h
theorem pure__law_div (as : List Val) (κ : List Mu) (R : Rt → List Mu → Prop) (h : F__law_div as κ R) : rd__law_div { nx := RetP R (.d .non), rt := RetP R } (start0 2 as κ) := by
  obtain ⟨a, b, rfl, rfl, ha, hb, h0, h⟩ := h
  unfold rd__law_div
  walk_at "nm"
  walk_at "mp"
  · exact cml ha.1 hb.2
  · exact cml ha.2 hb.1
  · refine ⟨_, _, rfl, rfl, div_den_ne h0, (ha.2.mul hb.1).mono (by decide), ?_⟩
    rw [div_low]
    exact h
/-- a draw -/
theorem take_call {n many : Int} {m : Mu} {R : Rt → List Mu → Prop} (hs : StOk n m) (hn : n < 1000000) (h0 : 0 < many) (h1 : many < 18446744073709551616) (h : ∀ (d : Int) (m' : Mu), 0 ≤ d → d < many → StOk (n + 1) m' → R (.d (.int d)) [m']) :
    F__law_take [.o 0, .d (.int many)] [m] R := ⟨n, many, m, rfl, rfl, hs, hn, h0, h1, h⟩
/-- _law_whole(stream): slots stream, size, sign, number -/
def rd__law_whole : WS :=
  (sSeq (sAsg (wCall [true, false] F__law_take (aCons (wVar 0) (aCons (wC (.int 5)) aNil))) (wgName 1))
    (sSeq (sAsg (wII0 (fun i j => .int (i - j)) (wC (.int 1)) (wII CMl (fun i j => .int (i * j)) (wC (.int 2)) (wCall [true, false] F__law_take (aCons (wVar 0) (aCons (wC (.int 2)) aNil))))) (wgName 2))
    (sSeq (sIf (wTst (wEq (wVar 1) (wC (.int 0)))) (sRet (wII CMl (fun i j => .int (i * j)) (wVar 2) (wCall [true, false] F__law_take (aCons (wVar 0) (aCons (wC (.int 4)) aNil))))) sNil)
    (sSeq (sIf (wTst (wEq (wVar 1) (wC (.int 1)))) (sRet (wII CMl (fun i j => .int (i * j)) (wVar 2) (wCall [true, false] F__law_take (aCons (wVar 0) (aCons (wC (.int 200)) aNil))))) sNil)
    (sSeq (sIf (wTst (wEq (wVar 1) (wC (.int 2)))) (sRet (wII CMl (fun i j => .int (i * j)) (wVar 2) (wCall [true, false] F__law_take (aCons (wVar 0) (aCons (wC (.int 1000000000)) aNil))))) sNil)
    (sSeq (sAsg (wAdd (wII CMl (fun i j => .int (i * j)) (wCall [true, false] F__law_take (aCons (wVar 0) (aCons (wC (.int 10000000000000)) aNil))) (wC (.int 10000000000000))) (wCall [true, false] F__law_take (aCons (wVar 0) (aCons (wC (.int 10000000000000)) aNil)))) (wgName 3))
    (sSeq (sIf (wTst (wEq (wVar 1) (wC (.int 3)))) (sRet (wII CMl (fun i j => .int (i * j)) (wVar 2) (wVar 3))) sNil)
    (sRet (wII CMl (fun i j => .int (i * j)) (wVar 2) (wAdd (wII CMl (fun i j => .int (i * j)) (wVar 3) (wC (.int 10000000000000))) (wCall [true, false] F__law_take (aCons (wVar 0) (aCons (wC (.int 10000000000000)) aNil)))))))))))))

def F__law_whole : FS := fun as κ R => ∃ (n : Int) (m : Mu), as = [.o 0] ∧ κ = [m] ∧ StOk n m ∧ n + 5 < 1000000 ∧ ∀ (w : Int) (m' : Mu), w.natAbs < 10 ^ 39 → StOk (n + 5) m' → R (.d (.int w)) [m']
theorem len__law_whole (as : List Val) (κ : List Mu) (R : Rt → List Mu → Prop) (h : F__law_whole as κ R) : as.length = 1 := by
  obtain ⟨n, m, rfl, _⟩ := h
  rfl
theorem pure__law_whole (as : List Val) (κ : List Mu) (R : Rt → List Mu → Prop) (h : F__law_whole as κ R) : rd__law_whole { nx := RetP R (.d .non), rt := RetP R } (start0 4 as κ) := by
  obtain ⟨n, m, rfl, rfl, hs, hn, h⟩ := h
  unfold rd__law_whole
  walk_at "nm"
  walk_at "mp"
  refine take_call hs (by omega) (by omega) (by omega) fun size m1 s0 s1 hs1 => ?_
  walk_at "mp"
  refine take_call hs1 (by omega) (by omega) (by omega) fun sg m2 g0 g1 hs2 => ?_
  have fin : ∀ (x : Int) (m' : Mu) (k : Int), x.natAbs < 10 ^ 39 → k ≤ n + 5 → StOk k m' → R (.d (.int ((1 - 2 * sg) * x))) [m'] := fun x m' k hx hk hm' => by
    refine h _ _ ?_ (hm'.mono hk)
    rw [Int.natAbs_mul]
    have : (1 - 2 * sg).natAbs = 1 := by omega
    rw [this]
    omega
  walk_at "mp"
  walk_at "nm"
  refine e_ifB (fun _ => ?_) fun _ => ?_
  · walk_at "mp"
    refine take_call hs2 (by omega) (by omega) (by omega) fun x m3 x0 x1 hs3 => ?_
    walk_at "mp"
    exact fin _ _ _ (by omega) (by omega) hs3
  walk_at "mp"
  refine e_ifB (fun _ => ?_) fun _ => ?_
  · walk_at "mp"
    refine take_call hs2 (by omega) (by omega) (by omega) fun x m3 x0 x1 hs3 => ?_
    walk_at "mp"
    exact fin _ _ _ (by omega) (by omega) hs3
  walk_at "mp"
  refine e_ifB (fun _ => ?_) fun _ => ?_
  · walk_at "mp"
    walk_at "nm"
    refine take_call hs2 (by omega) (by omega) (by omega) fun x m3 x0 x1 hs3 => ?_
    walk_at "mp"
    exact fin _ _ _ (by omega) (by omega) hs3
  walk_at "mp"
  walk_at "nm"
  refine take_call hs2 (by omega) (by omega) (by omega) fun x m3 x0 x1 hs3 => ?_
  walk_at "mp"
  walk_at "nm"
  refine take_call hs3 (by omega) (by omega) (by omega) fun y m4 y0 y1 hs4 => ?_
  walk_at "mp"
  walk_at "nm"
  refine e_ifB (fun _ => ?_) fun _ => ?_
  · walk_at "mp"
    exact fin _ _ _ (by omega) (by omega) hs4
  walk_at "mp"
  walk_at "nm"
  refine take_call hs4 (by omega) (by omega) (by omega) fun z m5 z0 z1 hs5 => ?_
  walk_at "mp"
  exact fin _ _ _ (by omega) (by omega) hs5
/-- _law_fraction(stream): slots stream, top -/
def rd__law_fraction : WS :=
  (sSeq (sAsg (wCall [true] F__law_whole (aCons (wVar 0) aNil)) (wgName 1))
    (sRet (wCall [false, false] F__law_low (aCons (wVar 1) (aCons (wAdd (wC (.int 1)) (wCB fAbs (aCons (wCall [true] F__law_whole (aCons (wVar 0) aNil)) aNil))) aNil)))))

def F__law_fraction : FS := fun as κ R => ∃ (n : Int) (m : Mu), as = [.o 0] ∧ κ = [m] ∧ StOk n m ∧ n + 10 < 1000000 ∧ ∀ (q : Rat) (m' : Mu), RB 130 q → StOk (n + 10) m' → R (.d (qF q)) [m']
theorem len__law_fraction (as : List Val) (κ : List Mu) (R : Rt → List Mu → Prop) (h : F__law_fraction as κ R) : as.length = 1 := by
  obtain ⟨n, m, rfl, _⟩ := h
  rfl
theorem pure__law_fraction (as : List Val) (κ : List Mu) (R : Rt → List Mu → Prop) (h : F__law_fraction as κ R) : rd__law_fraction { nx := RetP R (.d .non), rt := RetP R } (start0 2 as κ) := by
  obtain ⟨n, m, rfl, rfl, hs, hn, h⟩ := h
  unfold rd__law_fraction
  walk_at "nm"
  walk_at "mp"
  refine ⟨n, m, rfl, rfl, hs, by omega, fun w m1 hw hs1 => ?_⟩
  walk_at "mp"
  refine ⟨n + 5, m1, rfl, rfl, hs1, by omega, fun v m2 hv hs2 => ?_⟩
  walk_at "mp"
  have hb : Bits 130 (1 + (v.natAbs : Int)) := Nat.lt_of_lt_of_le (m := 1 + 10 ^ 39) (by omega) (by decide)
  refine ⟨w, 1 + (v.natAbs : Int), rfl, rfl, by omega, hb.mono (by decide), ?_⟩
  walk_at "mp"
  exact h _ _ (RB.divInt (by omega) (Nat.lt_of_lt_of_le (m := 10 ^ 39) hw (by decide)) hb) (hs2.mono (by omega))
/-- _law_is_integer(thing): slots thing -/
def rd__law_is_integer : WS :=
  (sRet (wAndV (wIsi .int (wVar 0)) (wNotV (wIsi .bool (wVar 0)))))

def F__law_is_integer : FS := F_is_integer
theorem len__law_is_integer (as : List Val) (κ : List Mu) (R : Rt → List Mu → Prop) (h : F__law_is_integer as κ R) : as.length = 1 := len_is_integer as κ R h
theorem pure__law_is_integer (as : List Val) (κ : List Mu) (R : Rt → List Mu → Prop) (h : F__law_is_integer as κ R) : rd__law_is_integer { nx := RetP R (.d .non), rt := RetP R } (start0 1 as κ) := pure_is_integer as κ R h
/-- _law_is_frac(thing): slots thing -/
def rd__law_is_frac : WS :=
  (sSeq (sIf (wOrT (wNotT (wTst (wIsi .tup (wVar 0)))) (wTst (wNe (wCB fLen (aCons (wVar 0) aNil)) (wC (.int 2))))) (sRet (wC (.bl false))) sNil)
    (sSeq (sIf (wOrT (wNotT (wTst (wCall [false] F__law_is_integer (aCons (wIx (wVar 0) (wC (.int 0))) aNil)))) (wOrT (wNotT (wTst (wCall [false] F__law_is_integer (aCons (wIx (wVar 0) (wC (.int 1))) aNil)))) (wTst (wII0 (fun i j => .bl (decide (i < j))) (wIx (wVar 0) (wC (.int 1))) (wC (.int 1)))))) (sRet (wC (.bl false))) sNil)
    (sRet (wEq (wCall [false, false] F__law_low (aCons (wIx (wVar 0) (wC (.int 0))) (aCons (wIx (wVar 0) (wC (.int 1))) aNil))) (wVar 0)))))

/-- bottoms that the law's own judge may divide -/
def bitsF : D → Prop
  | .tup [.int _, .int d] => Bits 8900 d
  | _ => True
def F__law_is_frac : FS := fun as κ R => ∃ x : D, as = [.d x] ∧ κ = [] ∧ okF x = true ∧ bitsF x ∧ R (.d (.bl (isFracD x))) []
theorem len__law_is_frac (as : List Val) (κ : List Mu) (R : Rt → List Mu → Prop) (h : F__law_is_frac as κ R) : as.length = 1 := by
  obtain ⟨i, rfl, _⟩ := h
  rfl
theorem low_same {n d : Int} (h : 1 ≤ d) : PyData.eqv (qF (Rat.divInt n d)).py (D.tup [.int n, .int d]).py = decide (Int.gcd n d = 1) := by
  show ((Rat.divInt n d).num == n && (((Rat.divInt n d).den : Int) == d && true)) = _
  rw [Bool.and_true]
  have hd : d ≠ 0 := by omega
  have e2 := Rat.den_divInt n d
  rw [if_neg hd, Int.gcd_comm] at e2
  have e1 := Rat.num_divInt n d
  rw [Int.sign_eq_one_of_pos (by omega), Int.one_mul, Int.gcd_comm] at e1
  rw [e1, e2]
  by_cases hg : Int.gcd n d = 1
  · rw [hg]
    simp
    omega
  · rw [decide_eq_false hg, Bool.and_eq_false_iff]
    right
    rw [beq_eq_false_iff_ne]
    intro z
    have hp := gcd_pos (i := n) hd
    have h2 : d.natAbs / Int.gcd n d = d.natAbs := by omega
    have h3 : Int.gcd n d = 1 := by
      have h4 : d.natAbs / Int.gcd n d < d.natAbs ∨ Int.gcd n d = 1 := by
        by_cases h5 : Int.gcd n d = 1
        · exact .inr h5
        · exact .inl (Nat.div_lt_self (by omega) (by omega))
      omega
    exact hg h3
theorem pure__law_is_frac (as : List Val) (κ : List Mu) (R : Rt → List Mu → Prop) (h : F__law_is_frac as κ R) : rd__law_is_frac { nx := RetP R (.d .non), rt := RetP R } (start0 1 as κ) := by
  obtain ⟨x, rfl, rfl, hx, hb, h⟩ := h
  unfold rd__law_is_frac
  cases x with
  | tup xs =>
    match xs, hx, hb, h with
    | [], _, _, h =>
      walk_at "nm"
      walk_at "mp"
      exact h
    | [a], _, _, h =>
      walk_at "nm"
      walk_at "mp"
      have e : isFracD (.tup [a]) = false := by cases a <;> rfl
      rw [e] at h
      exact h
    | a :: b :: c :: r, _, _, h =>
      walk_at "nm"
      walk_at "mp"
      have e : isFracD (.tup (a :: b :: c :: r)) = false := by cases a <;> cases b <;> rfl
      rw [e] at h
      exact h
    | [a, b], hx, hb, h =>
      have hx' : (okT a && (okT b && true)) = true := hx
      rw [Bool.and_true, Bool.and_eq_true] at hx'
      walk_at "nm"
      walk_at "mp"
      refine ⟨a, rfl, rfl, hx'.1, ?_⟩
      walk_at "mp"
      cases a with
      | int n =>
        refine e_orF' rfl ?_
        walk_at "mp"
        refine ⟨b, rfl, rfl, hx'.2, ?_⟩
        walk_at "mp"
        cases b with
        | int d =>
          refine e_orF' rfl ?_
          walk_at "mp"
          have e : isFracD (.tup [.int n, .int d]) = (decide (1 ≤ d) && decide (Int.gcd n d = 1)) := rfl
          rw [e] at h
          refine e_ifD (fun h1 => ?_) fun h1 => ?_
          · walk_at "mp"
            rw [decide_eq_false (by omega : ¬ 1 ≤ d)] at h
            exact h
          · rw [decide_eq_true (by omega : 1 ≤ d), Bool.true_and] at h
            walk_at "mp"
            refine ⟨n, d, rfl, rfl, by omega, hb, ?_⟩
            walk_at "mp"
            refine e_eqV rfl rfl (shaped_qF _) rfl ?_
            walk_at "mp"
            rw [low_same (by omega)]
            exact h
        | _ =>
          refine e_orT' rfl ?_
          walk_at "mp"
          exact h
      | _ =>
        refine e_orT' rfl ?_
        walk_at "mp"
        exact h
  | ty n => cases hx
  | _ => exact h
end MP

/-! whole roots, roots of fractions -/
namespace MP
open PySem PySem.Spec PyProof.Rows L2
local macro_rules | `(tactic| walk_at "mp") => `(tactic| repeat' (first
  | with_reducible refine e_set ?_
  | with_reducible refine e_put ?_
  | with_reducible refine e_new ?_
  | with_reducible refine e_frz ?_
  | with_reducible refine e_seq ?_
  | with_reducible refine e_asgNx ?_
  | with_reducible refine e_gNamex ?_
  | (with_reducible refine e_varD (by with_unfolding_all exact rfl) ?_)
  | (with_reducible refine e_varO (by with_unfolding_all exact rfl) ?_)
  | with_reducible refine e_c ?_
  | with_reducible refine e_aCons ?_
  | with_reducible refine e_aNil ?_
  | with_reducible refine e_call ?_
  | with_reducible refine e_prepF ?_
  | with_reducible refine e_asDd ?_
  | with_reducible refine e_prep0 ?_
  | with_reducible refine e_prepT0 ?_
  | with_reducible refine e_prepT1 ?_
  | with_reducible refine e_call0 ?_
  | (with_reducible refine e_call1 (by with_unfolding_all exact rfl) ?_)
  | (with_reducible refine e_call2 (by decide) (by with_unfolding_all exact rfl) (by with_unfolding_all exact rfl) ?_)
  | with_reducible refine e_retD1 ?_
  | with_reducible refine e_retD2 ?_
  | with_reducible refine e_retN0 ?_
  | with_reducible refine e_retN1 ?_
  | with_reducible refine e_retD ?_
  | with_reducible refine e_ix ?_
  | (with_reducible refine e_ixV (by with_unfolding_all exact rfl) (by first | exact atI_0 _ _ | exact atI_1 _ _ _ | exact atI_2 _ _ _ _ | exact atI_3 _ _ _ _ _ | with_unfolding_all exact rfl) ?_)
  | with_reducible refine e_if ?_
  | with_reducible refine e_ifT ?_
  | with_reducible refine e_ifF ?_
  | (with_reducible refine e_ifT' (by with_unfolding_all exact rfl) ?_)
  | (with_reducible refine e_ifF' (by with_unfolding_all exact rfl) ?_)
  | with_reducible refine e_ret ?_
  | with_reducible refine e_retN ?_
  | with_reducible refine e_expr ?_
  | with_reducible refine e_nil ?_
  | with_reducible refine e_asg ?_
  | with_reducible refine e_gTup rfl ?_
  | with_reducible refine e_gNil ?_
  | with_reducible refine e_gCons ?_
  | with_reducible refine e_gName ?_
  | with_reducible refine e_gSub ?_
  | (with_reducible refine e_subVx (by with_unfolding_all exact rfl) (by with_unfolding_all exact rfl) ?_)
  | (with_reducible refine e_subV (by with_unfolding_all exact rfl) (by with_unfolding_all exact rfl) ?_)
  | with_reducible refine e_par' ?_
  | with_reducible refine e_parV ?_
  | with_reducible refine e_ii ?_
  | with_reducible refine e_iiV (C := CMd) (by exact cmd64) ?_
  | with_reducible refine e_iiV (C := CDivW) (by exact cdw64) ?_
  | with_reducible refine e_iiV (C := CPow) (by with_unfolding_all exact cpw rfl) ?_
  | with_reducible refine e_iiV (C := CMl) (by exact cml64) ?_
  | with_reducible refine e_iiV (C := CMl) (by exact cml60) ?_
  | with_reducible refine e_iiV (C := CDv) (by exact cdv64) ?_
  | with_reducible refine e_iiV ?_ ?_
  | with_reducible refine e_ii0 ?_
  | with_reducible refine e_ii0V ?_
  | with_reducible refine e_i ?_
  | with_reducible refine e_iV ?_
  | with_reducible refine e_add ?_
  | with_reducible refine e_addI ?_
  | with_reducible refine e_addS ?_ ?_
  | with_reducible refine e_addT ?_ ?_
  | (with_reducible refine e_addLx (by with_unfolding_all exact rfl) (by with_unfolding_all exact rfl) (by exact len_size2 rfl) ?_)
  | (with_reducible refine e_addLx (by with_unfolding_all exact rfl) (by with_unfolding_all exact rfl) ?_ ?_)
  | (with_reducible refine e_addL (by with_unfolding_all exact rfl) (by with_unfolding_all exact rfl) ?_ ?_)
  | with_reducible refine e_tup ?_
  | with_reducible refine e_lst ?_
  | with_reducible refine e_asDs0 ?_
  | with_reducible refine e_asDs1 ?_
  | (with_reducible refine e_tupV (by exact len_size rfl) ?_)
  | (with_reducible refine e_lstWx (by exact len_size rfl) ?_)
  | (with_reducible refine e_lstW (by exact len_size rfl) ?_)
  | (with_reducible refine e_asDox (by with_unfolding_all exact rfl) (by with_unfolding_all exact rfl) ?_)
  | (with_reducible refine e_asDo (by with_unfolding_all exact rfl) (by with_unfolding_all exact rfl) ?_)
  | with_reducible refine e_eq ?_
  | with_reducible refine e_ne ?_
  | with_reducible refine e_eqI ?_
  | with_reducible refine e_neI ?_
  | with_reducible refine e_eqB ?_
  | with_reducible refine e_neB ?_
  | with_reducible refine e_eqQ ?_
  | with_reducible refine e_neQ ?_
  | with_reducible refine e_isN ?_
  | with_reducible refine e_notN ?_
  | with_reducible refine e_in ?_
  | with_reducible refine e_tst ?_
  | with_reducible refine e_tstV ?_
  | with_reducible refine e_and ?_
  | with_reducible refine e_or ?_
  | with_reducible refine e_not ?_
  | with_reducible refine e_andT ?_
  | with_reducible refine e_andF ?_
  | with_reducible refine e_orT ?_
  | with_reducible refine e_orF ?_
  | (with_reducible refine e_andT' (by with_unfolding_all exact rfl) ?_)
  | (with_reducible refine e_andF' (by with_unfolding_all exact rfl) ?_)
  | (with_reducible refine e_orT' (by with_unfolding_all exact rfl) ?_)
  | (with_reducible refine e_orF' (by with_unfolding_all exact rfl) ?_)
  | with_reducible refine e_vand ?_
  | with_reducible refine e_vor ?_
  | with_reducible refine e_vnot ?_
  | with_reducible refine e_vandT ?_
  | with_reducible refine e_vandF ?_
  | with_reducible refine e_vorT ?_
  | with_reducible refine e_vorF ?_
  | with_reducible refine e_vnotV ?_
  | with_reducible refine e_ife ?_
  | with_reducible refine e_ifeT ?_
  | with_reducible refine e_ifeF ?_
  | with_reducible refine e_cb ?_
  | with_reducible refine e_abs ?_
  | with_reducible refine e_intI ?_
  | with_reducible refine e_intB ?_
  | with_reducible refine e_min ?_
  | with_reducible refine e_max ?_
  | (with_reducible refine e_lenV (by with_unfolding_all exact rfl) ?_)
  | (with_reducible refine e_listx (by with_unfolding_all exact rfl) ?_)
  | (with_reducible refine e_list (by with_unfolding_all exact rfl) ?_)
  | (with_reducible refine e_tuple (by with_unfolding_all exact rfl) ?_)
  | with_reducible refine e_isi ?_
  | (with_reducible refine e_isiT (by with_unfolding_all exact rfl) (by with_unfolding_all exact rfl) ?_)
  | (with_reducible refine e_isiF (by with_unfolding_all exact rfl) (by with_unfolding_all exact rfl) ?_)
  | with_reducible refine e_isi2 ?_
  | (with_reducible refine e_isi2T (by with_unfolding_all exact rfl) (by with_unfolding_all exact rfl) ?_)
  | (with_reducible refine e_isi2F (by with_unfolding_all exact rfl) (by with_unfolding_all exact rfl) ?_)
  | with_reducible refine e_sl ?_
  | with_reducible refine e_noPart ?_
  | with_reducible refine e_part ?_
  | with_reducible refine e_partV ?_
  | with_reducible refine e_slT ?_
  | with_reducible refine e_slLx ?_
  | (with_reducible refine e_slOx (by with_unfolding_all exact rfl) ?_)
  | with_reducible refine e_slL ?_
  | with_reducible refine e_slS ?_
  | with_reducible refine e_lm ?_
  | (with_reducible refine e_lmV (by with_unfolding_all exact rfl) ?_)
  | (with_reducible refine e_lmWx (by with_unfolding_all exact rfl) ?_)
  | (with_reducible refine e_lmW (by with_unfolding_all exact rfl) ?_)
  | with_reducible refine e_app ?_ ?_
  | with_reducible refine e_break ?_
  | with_reducible refine e_cont ?_
  | with_reducible refine e_pass ?_
  | (with_reducible refine e_retP (by with_unfolding_all exact rfl) ?_)
  | (with_reducible refine e_retPo (by with_unfolding_all exact rfl) rfl (by with_unfolding_all exact rfl) ?_)
  | with_reducible refine e_lc ?_
  | with_reducible refine e_yes ?_
  | with_reducible refine e_lcBT ?_
  | with_reducible refine e_forR ?_
  | with_reducible refine e_wiSeq ?_
  | with_reducible refine e_rng1 ?_
  | (with_reducible refine e_rng1R (by omega) (by omega) ?_)
  | with_reducible refine e_rng2 ?_
  | (with_reducible refine e_rng2R (by omega) (by omega) (by omega) (by omega) ?_)
  | with_reducible refine e_try ?_
  | with_reducible refine e_raise ?_
  | with_reducible refine e_callX ?_
  | with_reducible refine e_callX0 ?_
  | with_reducible refine e_atNx ?_
  | with_reducible refine e_atRt ?_
  | with_reducible refine e_atBk ?_
  | with_reducible refine e_atCt ?_
  | with_reducible refine e_xret0 ?_
  | with_reducible refine e_xret1 ?_
  | (with_reducible refine e_catch (by with_unfolding_all exact rfl) ?_)
  | with_reducible refine e_bits ?_
  | with_reducible refine e_dct0 ?_
  | with_reducible refine e_nT ?_
  | with_reducible refine e_nF ?_
  ))
local macro_rules | `(tactic| walk_at "nm") => `(tactic| try simp only [start0, wipeS, wipeE, Int.reducePow, Int.reduceMul, Int.reduceSub, Int.reduceAdd, Int.reduceNeg, Int.one_mul, setε, Sm.new, Sm.put, Int.reduceToNat, Sm.frz, List.nil_append, toD_lst, List.append_nil, List.length_map, List.length_cons, List.length_nil, Nat.reduceSub, Nat.reduceAdd, List.replicate, List.cons_append, List.nil_append, List.map_cons, List.map_nil, List.set_cons_zero, List.set_cons_succ, unown, List.length_set, reduceIte, Nat.zero_ne_one, Nat.one_ne_zero])
theorem ite_dec {p : Prop} [Decidable p] {A B : Prop} (h1 : p → A) (h2 : ¬ p → B) : if decide p = true then A else B := by
  by_cases h : p
  · rw [if_pos (decide_eq_true h)]; exact h1 h
  · rw [if_neg (by simpa using h)]; exact h2 h
/-! ### roots of whole numbers -/
open Classical in
noncomputable def rootN (n : Nat) : Option Nat := if h : ∃ r : Nat, r * r = n then some h.choose else none
theorem sq_inj {a b : Nat} (h : a * a = b * b) : a = b := by
  rcases Nat.lt_trichotomy a b with h1 | h1 | h1
  · have := Nat.mul_lt_mul_of_lt_of_le h1 (Nat.le_of_lt h1) (by omega : 0 < b)
    omega
  · exact h1
  · have := Nat.mul_lt_mul_of_lt_of_le h1 (Nat.le_of_lt h1) (by omega : 0 < a)
    omega
theorem rootN_sq (r : Nat) : rootN (r * r) = some r := by
  unfold rootN
  have h : ∃ s : Nat, s * s = r * r := ⟨r, rfl⟩
  rw [dif_pos h]
  rw [sq_inj h.choose_spec]
theorem rootN_some {n r : Nat} (h : rootN n = some r) : r * r = n := by
  unfold rootN at h
  split at h
  · rename_i hr
    cases h
    exact hr.choose_spec
  · cases h
theorem sq_le {a b : Nat} (h : a ≤ b) : a * a ≤ b * b := Nat.mul_le_mul h h
theorem lt_of_sq {a b : Nat} (h : a * a < b * b) : a < b := by
  rcases Nat.lt_or_ge a b with h1 | h1
  · exact h1
  · have := sq_le h1
    omega
theorem le_of_sq {a b : Nat} (h : a * a ≤ b * b) : a ≤ b := by
  rcases Nat.lt_or_ge b a with h1 | h1
  · have := Nat.mul_lt_mul_of_lt_of_le h1 (Nat.le_of_lt h1) (by omega : 0 < a)
    omega
  · exact h1
/-- between two squares that follow each other there is none -/
theorem rootN_floor {n s : Nat} (h1 : s * s ≤ n) (h2 : n < (s + 1) * (s + 1)) : rootN n = if s * s = n then some s else none := by
  split
  · rename_i h
    rw [← h]; exact rootN_sq s
  · rename_i h
    cases e : rootN n with
    | none => rfl
    | some r =>
      have hr := rootN_some e
      rw [← hr] at h1 h2
      have := le_of_sq h1
      have := lt_of_sq h2
      have : s = r := by omega
      subst this
      exact absurd hr h
noncomputable def rootD (n : Nat) : D := match rootN n with
  | some r => .int r
  | none => .non
theorem bits_nat {n k : Nat} : Bits k (n : Int) ↔ n < 2 ^ k := by
  unfold Bits
  rw [Int.natAbs_natCast]
theorem bits_root {a n k : Nat} (h : a * a ≤ 4 * n + 1) (hb : Bits k (n : Int)) : Bits (k + 3) (a : Int) := by
  rw [bits_nat] at *
  have h1 : a ≤ a * a ∨ a = 0 := by
    rcases Nat.eq_zero_or_pos a with h | h
    · exact .inr h
    · exact .inl (Nat.le_mul_of_pos_left a h)
  have h2 : 2 ^ (k + 3) = 8 * 2 ^ k := by rw [Nat.pow_add]; omega
  omega
/-- whole_root(number): slots number, low, high, middle -/
def rd_whole_root : WS :=
  (sSeq (sAsg (wC (.int 0)) (wgName 1))
    (sSeq (sAsg (wC (.int 1)) (wgName 2))
    (sSeq (sWhile (wTst (wII0 (fun i j => .bl (decide (i ≤ j))) (wII CMl (fun i j => .int (i * j)) (wVar 2) (wVar 2)) (wVar 0))) (sAsg (wII CMl (fun i j => .int (i * j)) (wC (.int 2)) (wVar 2)) (wgName 2)))
    (sSeq (sWhile (wTst (wII0 (fun i j => .bl (decide (j < i))) (wII0 (fun i j => .int (i - j)) (wVar 2) (wVar 1)) (wC (.int 1)))) (sSeq (sAsg (wII CDivW (fun i j => .int (i / j)) (wAdd (wVar 1) (wVar 2)) (wC (.int 2))) (wgName 3))
    (sIf (wTst (wII0 (fun i j => .bl (decide (i ≤ j))) (wII CMl (fun i j => .int (i * j)) (wVar 3) (wVar 3)) (wVar 0))) (sAsg (wVar 3) (wgName 1)) (sAsg (wVar 3) (wgName 2)))))
    (sRet (wIf (wTst (wEq (wII CMl (fun i j => .int (i * j)) (wVar 1) (wVar 1)) (wVar 0))) (wVar 1) (wC .non)))))))

def F_whole_root : FS := fun as κ R => ∃ n : Nat, as = [.d (.int n)] ∧ κ = [] ∧ Bits 4000 (n : Int) ∧ R (.d (rootD n)) []
theorem len_whole_root (as : List Val) (κ : List Mu) (R : Rt → List Mu → Prop) (h : F_whole_root as κ R) : as.length = 1 := by
  obtain ⟨i, rfl, _⟩ := h
  rfl
theorem pure_whole_root (as : List Val) (κ : List Mu) (R : Rt → List Mu → Prop) (h : F_whole_root as κ R) : rd_whole_root { nx := RetP R (.d .non), rt := RetP R } (start0 4 as κ) := by
  obtain ⟨n, rfl, rfl, hb, h⟩ := h
  unfold rd_whole_root
  walk_at "nm"
  walk_at "mp"
  refine ⟨fun m S => ∃ a : Nat, S = ⟨[.d (.int n), .d (.int 0), .d (.int a), .un], [], 0, noX⟩ ∧ 1 ≤ a ∧ a * a ≤ 4 * n + 1 ∧ m = 2 * n + 2 - a, ⟨_, 1, rfl, by omega, by omega, rfl⟩, ?_⟩
  rintro m S ⟨a, rfl, ha, hs, rfl⟩
  have ba := bits_root hs hb
  walk_at "mp"
  · exact cml ba ba
  refine ite_dec (fun h1 => ?_) fun h1 => ?_
  · have h1' : a * a ≤ n := by exact_mod_cast h1
    have h2 : a ≤ a * a := Nat.le_mul_of_pos_left a ha
    walk_at "mp"
    · exact cml (n := 2) (show (2 : Int).natAbs < 2 ^ 2 by decide) ba
    refine ⟨2 * n + 2 - 2 * a, by omega, 2 * a, ?_, by omega, ?_, rfl⟩
    · show _ = Sm.mk _ _ _ _
      congr
    · have : 2 * a * (2 * a) = 4 * (a * a) := by rw [Nat.mul_mul_mul_comm]
      omega
  · have h1' : n < a * a := by
      have : ¬ a * a ≤ n := fun z => h1 (by exact_mod_cast z)
      omega
    walk_at "mp"
    refine ⟨fun m S => ∃ (lo hi : Nat) (x : Val), S = ⟨[.d (.int n), .d (.int lo), .d (.int hi), x], [], 0, noX⟩ ∧ lo * lo ≤ n ∧ n < hi * hi ∧ hi ≤ a ∧ m = hi - lo, ⟨_, 0, a, .un, rfl, by omega, h1', by omega, rfl⟩, ?_⟩
    rintro m S ⟨lo, hi, x, rfl, h3, h4, h5, rfl⟩
    have hlh : lo < hi := lt_of_sq (by omega)
    have bh : Bits 4003 (hi : Int) := ba.le (by omega)
    have bl : Bits 4003 (lo : Int) := ba.le (by omega)
    walk_at "mp"
    refine ite_dec (fun h6 => ?_) fun h6 => ?_
    · have em : ((lo : Int) + hi) / 2 = (((lo + hi) / 2 : Nat) : Int) := by omega
      have bm : Bits 4003 (((lo + hi) / 2 : Nat) : Int) := ba.le (by omega)
      walk_at "mp"
      · rw [em]; exact cml bm bm
      rw [em]
      refine e_ifD (fun h7 => ?_) fun h7 => ?_
      · have h8 : (lo + hi) / 2 * ((lo + hi) / 2) ≤ n := by exact_mod_cast h7
        walk_at "mp"
        exact ⟨hi - (lo + hi) / 2, by omega, (lo + hi) / 2, hi, _, rfl, h8, h4, h5, rfl⟩
      · have h8 : ¬ (lo + hi) / 2 * ((lo + hi) / 2) ≤ n := fun z => h7 (by exact_mod_cast z)
        walk_at "mp"
        exact ⟨(lo + hi) / 2 - lo, by omega, lo, (lo + hi) / 2, _, rfl, h3, by omega, by omega, rfl⟩
    · have e1 : hi = lo + 1 := by omega
      subst e1
      walk_at "mp"
      · exact cml bl bl
      have e2 := rootN_floor h3 h4
      unfold rootD at h
      rw [e2] at h
      refine e_ifeB (fun h7 => ?_) fun h7 => ?_
      · replace h7 := of_decide_eq_true h7
        have h8 : lo * lo = n := by exact_mod_cast h7
        rw [if_pos h8] at h
        walk_at "mp"
        exact h
      · replace h7 := of_decide_eq_false h7
        have h8 : ¬ lo * lo = n := fun z => h7 (by exact_mod_cast z)
        rw [if_neg h8] at h
        walk_at "mp"
        exact h
theorem ex_floor : ∀ n : Nat, ∃ s : Nat, s * s ≤ n ∧ n < (s + 1) * (s + 1)
  | 0 => ⟨0, by omega, by omega⟩
  | n + 1 => by
    obtain ⟨s, h1, h2⟩ := ex_floor n
    by_cases h : n + 1 < (s + 1) * (s + 1)
    · exact ⟨s, by omega, h⟩
    · have : (s + 1 + 1) * (s + 1 + 1) = (s + 1) * (s + 1) + 2 * (s + 1) + 1 := by grind
      exact ⟨s + 1, by omega, by omega⟩
/-- one step of Newton's: not below the root, and half as far off -/
theorem newton {n s r : Nat} (h1 : s * s ≤ n) (h2 : n < (s + 1) * (s + 1)) (hr : s ≤ r) (h0 : 1 ≤ r) : s ≤ (r + n / r) / 2 ∧ (r ≤ (r + n / r) / 2 → r = s) ∧ ((r + n / r) / 2 < r → 2 * ((r + n / r) / 2 - s) ≤ r - s) := by
  have e1 : r * (n / r) ≤ n := Nat.mul_div_le n r
  have e2 : n < r * (n / r + 1) := Nat.lt_mul_div_succ n (by omega)
  generalize n / r = q at *
  have f2 : 2 * s ≤ r + q := by
    rcases Nat.lt_or_ge (r + q) (2 * s) with h | h
    · exfalso
      have h3 : q + 1 ≤ 2 * s - r := by omega
      have h4 : r * (q + 1) ≤ r * (2 * s - r) := Nat.mul_le_mul_left r h3
      have h5 : r * (2 * s - r) ≤ s * s := by
        obtain ⟨d, rfl⟩ : ∃ d, r = s + d := ⟨r - s, by omega⟩
        obtain ⟨c, hc⟩ : ∃ c, s = d + c := ⟨s - d, by omega⟩
        subst hc
        have : 2 * (d + c) - (d + c + d) = c := by omega
        rw [this]
        have : (d + c) * (d + c) = (d + c + d) * c + d * d := by grind
        omega
      omega
    · exact h
  have f3 : s + 1 ≤ r → q ≤ s := fun h => by
    rcases Nat.lt_or_ge s q with h3 | h3
    · exfalso
      have : (s + 1) * (s + 1) ≤ r * q := Nat.mul_le_mul h h3
      omega
    · exact h3
  refine ⟨by omega, fun h => ?_, fun h => ?_⟩
  · have h3 : r ≤ q := by omega
    have h4 : r * r ≤ r * q := Nat.mul_le_mul_left r h3
    have := lt_of_sq (a := r) (b := s + 1) (by omega)
    omega
  · by_cases h3 : s + 1 ≤ r
    · have := f3 h3
      omega
    · omega
/-- _law_root(number): slots number, root, k, better -/
def rd__law_root : WS :=
  (sSeq (sIf (wTst (wEq (wVar 0) (wC (.int 0)))) (sRet (wC (.int 0))) sNil)
    (sSeq (sAsg (wII CShl (fun i j => .int (i * 2 ^ j.toNat)) (wC (.int 1)) (wII CDivW (fun i j => .int (i / j)) (wAdd (wBits (wVar 0)) (wC (.int 1))) (wC (.int 2)))) (wgName 1))
    (sSeq (sFor (wiRng1 (wAdd (wBits (wVar 0)) (wC (.int 2)))) (wgName 2) (sSeq (sAsg (wII CDivW (fun i j => .int (i / j)) (wAdd (wVar 1) (wII CDv (fun i j => .int (i.fdiv j)) (wVar 0) (wVar 1))) (wC (.int 2))) (wgName 3))
    (sSeq (sIf (wTst (wII0 (fun i j => .bl (decide (j ≤ i))) (wVar 3) (wVar 1))) sBreak sNil)
    (sAsg (wVar 3) (wgName 1)))))
    (sSeq (sIf (wTst (wEq (wII CMl (fun i j => .int (i * j)) (wVar 1) (wVar 1)) (wVar 0))) (sRet (wVar 1)) sNil)
    (sRet (wC .non))))))

def F__law_root : FS := F_whole_root
theorem len__law_root (as : List Val) (κ : List Mu) (R : Rt → List Mu → Prop) (h : F__law_root as κ R) : as.length = 1 := len_whole_root as κ R h
theorem pure__law_root (as : List Val) (κ : List Mu) (R : Rt → List Mu → Prop) (h : F__law_root as κ R) : rd__law_root { nx := RetP R (.d .non), rt := RetP R } (start0 4 as κ) := by
  obtain ⟨n, rfl, rfl, hb, h⟩ := h
  unfold rd__law_root
  walk_at "nm"
  walk_at "mp"
  refine e_ifB (fun h0 => ?_) fun h0 => ?_
  · have h0' : n = 0 := by
      have := of_decide_eq_true h0
      omega
    subst h0'
    walk_at "mp"
    have e : rootD 0 = .int 0 := by
      unfold rootD
      rw [show (0 : Nat) = 0 * 0 from rfl, rootN_sq]
      rfl
    rw [e] at h
    exact h
  have n0 : 1 ≤ n := by
    have := of_decide_eq_false h0
    omega
  obtain ⟨s, s1, s2⟩ := ex_floor n
  have s0 : 1 ≤ s := by
    rcases Nat.eq_zero_or_pos s with z | z
    · subst z; omega
    · exact z
  obtain ⟨b, hbd⟩ : ∃ b : Nat, b = Builtin.Int.intBits (n : Int) := ⟨_, rfl⟩
  have b1 : n < 2 ^ b := by
    rw [hbd]
    unfold Builtin.Int.intBits
    rw [if_neg (by simp; omega), Int.natAbs_natCast]
    exact Nat.lt_log2_self
  have b2 : b ≤ 4000 := by
    rw [hbd]
    exact PyProof.Rows.intBits_le hb
  walk_at "mp"
  all_goals rw [← hbd]
  · have := shl_ok (i := 1) (j := (b + 1) / 2) (n := 1) (by decide) (by omega)
    have e : ((b : Int) + 1) / 2 = (((b + 1) / 2 : Nat) : Int) := by omega
    rw [e]; exact this
  · have e : (1 * 2 ^ (((b : Int) + 1) / 2).toNat : Int) = ((2 ^ ((b + 1) / 2) : Nat) : Int) := by
      have e1 : (((b : Int) + 1) / 2).toNat = (b + 1) / 2 := by omega
      rw [e1, Int.one_mul]
      exact (Int.natCast_pow 2 _).symm
    rw [e]
    have kb : 2 ^ ((b + 1) / 2) < 2 ^ (b + 2) := Nat.pow_lt_pow_right (by decide) (by omega)
    have bk : Bits 2100 (((2 ^ ((b + 1) / 2) : Nat)) : Int) := by
      rw [bits_nat]
      exact Nat.pow_lt_pow_right (by decide) (by omega)
    have sk : s ≤ 2 ^ ((b + 1) / 2) := by
      refine le_of_sq ?_
      rw [← Nat.pow_add]
      have : 2 ^ b ≤ 2 ^ ((b + 1) / 2 + (b + 1) / 2) := Nat.pow_le_pow_right (by decide) (by omega)
      omega
    generalize hK : 2 ^ ((b + 1) / 2) = K at *
    have bs : ∀ r : Nat, r ≤ K → Bits 2100 (r : Int) := fun r hr => bk.le (by omega)
    have lenR : (rngD 0 ((b : Int) + 2).toNat).length = b + 2 := by
      rw [rngD_length]; omega
    have e2 := rootN_floor s1 s2
    unfold rootD at h
    rw [e2] at h
    have cs : CMl (s : Int) s := cml (bs s sk) (bs s sk)
    refine ⟨fun i S => ∃ (r : Nat) (x y : Val), S = ⟨[.d (.int n), .d (.int r), x, y], [], 0, noX⟩ ∧ s ≤ r ∧ r ≤ K ∧ (r - s) * 2 ^ i ≤ K,
      ⟨K, .un, .un, rfl, sk, by omega, by omega⟩, fun _ _ _ => trivial, ?_, ?_⟩
    · rintro i x S hx ⟨r, y, z, rfl, h1, h2, h3⟩
      obtain ⟨n1, n2, n3⟩ := newton s1 s2 h1 (by omega)
      have ef : ((n : Int)).fdiv (r : Int) = ((n / r : Nat) : Int) := by
        rw [Int.fdiv_eq_ediv_of_nonneg _ (by omega)]
        rfl
      have eh : ((r : Int) + ((n / r : Nat) : Int)) / 2 = (((r + n / r) / 2 : Nat) : Int) := by omega
      walk_at "mp"
      · exact cdv (by omega) (bs r h2)
      rw [ef, eh]
      walk_at "mp"
      refine e_ifB (fun h4 => ?_) fun h4 => ?_
      · have h5 := of_decide_eq_true h4
        have : r = s := n2 (by omega)
        subst this
        walk_at "mp"
        · exact cs
        refine e_ifB (fun h7 => ?_) fun h7 => ?_
        · have h8 : r * r = n := by exact_mod_cast of_decide_eq_true h7
          rw [if_pos h8] at h
          walk_at "mp"
          exact h
        · have h8 : ¬ r * r = n := fun z => of_decide_eq_false h7 (by exact_mod_cast z)
          rw [if_neg h8] at h
          walk_at "mp"
          exact h
      · have h5 := of_decide_eq_false h4
        walk_at "mp"
        refine ⟨(r + n / r) / 2, _, _, rfl, n1, by omega, ?_⟩
        have h6 := n3 (by omega)
        have : ((r + n / r) / 2 - s) * 2 ^ (i + 1) = 2 * ((r + n / r) / 2 - s) * 2 ^ i := by
          rw [Nat.pow_succ]; grind
        rw [this]
        exact Nat.le_trans (Nat.mul_le_mul_right _ h6) h3
    · rintro S ⟨r, y, z, rfl, h1, h2, h3⟩
      rw [lenR] at h3
      have : r = s := by
        rcases Nat.eq_zero_or_pos (r - s) with z | z
        · omega
        · have := Nat.le_mul_of_pos_left (2 ^ (b + 2)) z
          omega
      subst this
      walk_at "mp"
      · exact cs
      refine e_ifB (fun h7 => ?_) fun h7 => ?_
      · have h8 : r * r = n := by exact_mod_cast of_decide_eq_true h7
        rw [if_pos h8] at h
        walk_at "mp"
        exact h
      · have h8 : ¬ r * r = n := fun z => of_decide_eq_false h7 (by exact_mod_cast z)
        rw [if_neg h8] at h
        walk_at "mp"
        exact h
/-! ### roots of fractions -/
noncomputable def rootQ (q : Rat) : D := if q.num < 0 then .non else match rootN q.num.toNat, rootN q.den with
  | some r, some s => .tup [.int r, .int s]
  | _, _ => .non
/-- root_of(one): slots one, top, bottom -/
def rd_root_of : WS :=
  (sSeq (sIf (wTst (wII0 (fun i j => .bl (decide (i < j))) (wIx (wVar 0) (wC (.int 0))) (wC (.int 0)))) (sRet (wC .non)) sNil)
    (sSeq (sAsg (wCall [false] F_whole_root (aCons (wIx (wVar 0) (wC (.int 0))) aNil)) (wgName 1))
    (sSeq (sAsg (wCall [false] F_whole_root (aCons (wIx (wVar 0) (wC (.int 1))) aNil)) (wgName 2))
    (sSeq (sIf (wOrT (wTst (wIsN (wVar 1))) (wTst (wIsN (wVar 2)))) (sRet (wC .non)) sNil)
    (sRet (wTup (aCons (wVar 1) (aCons (wVar 2) aNil))))))))

def F_root_of : FS := fun as κ R => ∃ q : Rat, as = [.d (qF q)] ∧ κ = [] ∧ RB 4000 q ∧ R (.d (rootQ q)) []
theorem len_root_of (as : List Val) (κ : List Mu) (R : Rt → List Mu → Prop) (h : F_root_of as κ R) : as.length = 1 := by
  obtain ⟨i, rfl, _⟩ := h
  rfl
theorem pure_root_of (as : List Val) (κ : List Mu) (R : Rt → List Mu → Prop) (h : F_root_of as κ R) : rd_root_of { nx := RetP R (.d .non), rt := RetP R } (start0 3 as κ) := by
  obtain ⟨q, rfl, rfl, hb, h⟩ := h
  unfold rd_root_of
  walk_at "nm"
  walk_at "mp"
  refine e_ifB (fun h0 => ?_) fun h0 => ?_
  · have h1 := of_decide_eq_true h0
    unfold rootQ at h
    rw [if_pos h1] at h
    walk_at "mp"
    exact h
  have h1 := of_decide_eq_false h0
  unfold rootQ at h
  rw [if_neg h1] at h
  have e : ((q.num.toNat : Nat) : Int) = q.num := by omega
  walk_at "mp"
  refine ⟨q.num.toNat, by rw [e], rfl, by rw [e]; exact hb.1, ?_⟩
  walk_at "mp"
  refine ⟨q.den, rfl, rfl, hb.2, ?_⟩
  walk_at "mp"
  unfold rootD
  cases e1 : rootN q.num.toNat with
  | none =>
    rw [e1] at h
    walk_at "mp"
    exact h
  | some r =>
    rw [e1] at h
    cases e2 : rootN q.den with
    | none =>
      rw [e2] at h
      walk_at "mp"
      exact h
    | some s =>
      rw [e2] at h
      walk_at "mp"
      exact h
end MP

/-! law k04: roots of fractions -/
namespace MP
open PySem PySem.Spec PyProof.Rows L2
local macro_rules | `(tactic| walk_at "mp") => `(tactic| repeat' (first
  | with_reducible refine e_set ?_
  | with_reducible refine e_put ?_
  | with_reducible refine e_new ?_
  | with_reducible refine e_frz ?_
  | with_reducible refine e_seq ?_
  | with_reducible refine e_asgNx ?_
  | with_reducible refine e_gNamex ?_
  | (with_reducible refine e_varD (by with_unfolding_all exact rfl) ?_)
  | (with_reducible refine e_varO (by with_unfolding_all exact rfl) ?_)
  | with_reducible refine e_c ?_
  | with_reducible refine e_aCons ?_
  | with_reducible refine e_aNil ?_
  | with_reducible refine e_call ?_
  | with_reducible refine e_prepF ?_
  | with_reducible refine e_asDd ?_
  | with_reducible refine e_prep0 ?_
  | with_reducible refine e_prepT0 ?_
  | with_reducible refine e_prepT1 ?_
  | with_reducible refine e_call0 ?_
  | (with_reducible refine e_call1 (by with_unfolding_all exact rfl) ?_)
  | (with_reducible refine e_call2 (by decide) (by with_unfolding_all exact rfl) (by with_unfolding_all exact rfl) ?_)
  | with_reducible refine e_retD1 ?_
  | with_reducible refine e_retD2 ?_
  | with_reducible refine e_retN0 ?_
  | with_reducible refine e_retN1 ?_
  | with_reducible refine e_retD ?_
  | with_reducible refine e_ix ?_
  | (with_reducible refine e_ixV (by with_unfolding_all exact rfl) (by first | exact atI_0 _ _ | exact atI_1 _ _ _ | exact atI_2 _ _ _ _ | exact atI_3 _ _ _ _ _ | with_unfolding_all exact rfl) ?_)
  | with_reducible refine e_if ?_
  | with_reducible refine e_ifT ?_
  | with_reducible refine e_ifF ?_
  | (with_reducible refine e_ifT' (by with_unfolding_all exact rfl) ?_)
  | (with_reducible refine e_ifF' (by with_unfolding_all exact rfl) ?_)
  | with_reducible refine e_ret ?_
  | with_reducible refine e_retN ?_
  | with_reducible refine e_expr ?_
  | with_reducible refine e_nil ?_
  | with_reducible refine e_asg ?_
  | with_reducible refine e_gTup rfl ?_
  | with_reducible refine e_gNil ?_
  | with_reducible refine e_gCons ?_
  | with_reducible refine e_gName ?_
  | with_reducible refine e_gSub ?_
  | (with_reducible refine e_subVx (by with_unfolding_all exact rfl) (by with_unfolding_all exact rfl) ?_)
  | (with_reducible refine e_subV (by with_unfolding_all exact rfl) (by with_unfolding_all exact rfl) ?_)
  | with_reducible refine e_par' ?_
  | with_reducible refine e_parV ?_
  | with_reducible refine e_ii ?_
  | with_reducible refine e_iiV (C := CMd) (by exact cmd64) ?_
  | with_reducible refine e_iiV (C := CDivW) (by exact cdw64) ?_
  | with_reducible refine e_iiV (C := CPow) (by with_unfolding_all exact cpw rfl) ?_
  | with_reducible refine e_iiV (C := CMl) (by exact cml64) ?_
  | with_reducible refine e_iiV (C := CMl) (by exact cml60) ?_
  | with_reducible refine e_iiV (C := CDv) (by exact cdv64) ?_
  | with_reducible refine e_iiV ?_ ?_
  | with_reducible refine e_ii0 ?_
  | with_reducible refine e_ii0V ?_
  | with_reducible refine e_i ?_
  | with_reducible refine e_iV ?_
  | with_reducible refine e_add ?_
  | with_reducible refine e_addI ?_
  | with_reducible refine e_addS ?_ ?_
  | with_reducible refine e_addT ?_ ?_
  | (with_reducible refine e_addLx (by with_unfolding_all exact rfl) (by with_unfolding_all exact rfl) (by exact len_size2 rfl) ?_)
  | (with_reducible refine e_addLx (by with_unfolding_all exact rfl) (by with_unfolding_all exact rfl) ?_ ?_)
  | (with_reducible refine e_addL (by with_unfolding_all exact rfl) (by with_unfolding_all exact rfl) ?_ ?_)
  | with_reducible refine e_tup ?_
  | with_reducible refine e_lst ?_
  | with_reducible refine e_asDs0 ?_
  | with_reducible refine e_asDs1 ?_
  | (with_reducible refine e_tupV (by exact len_size rfl) ?_)
  | (with_reducible refine e_lstWx (by exact len_size rfl) ?_)
  | (with_reducible refine e_lstW (by exact len_size rfl) ?_)
  | (with_reducible refine e_asDox (by with_unfolding_all exact rfl) (by with_unfolding_all exact rfl) ?_)
  | (with_reducible refine e_asDo (by with_unfolding_all exact rfl) (by with_unfolding_all exact rfl) ?_)
  | with_reducible refine e_eq ?_
  | with_reducible refine e_ne ?_
  | with_reducible refine e_eqI ?_
  | with_reducible refine e_neI ?_
  | with_reducible refine e_eqB ?_
  | with_reducible refine e_neB ?_
  | with_reducible refine e_eqQ ?_
  | with_reducible refine e_neQ ?_
  | with_reducible refine e_isN ?_
  | with_reducible refine e_notN ?_
  | with_reducible refine e_in ?_
  | with_reducible refine e_tst ?_
  | with_reducible refine e_tstV ?_
  | with_reducible refine e_and ?_
  | with_reducible refine e_or ?_
  | with_reducible refine e_not ?_
  | with_reducible refine e_andT ?_
  | with_reducible refine e_andF ?_
  | with_reducible refine e_orT ?_
  | with_reducible refine e_orF ?_
  | (with_reducible refine e_andT' (by with_unfolding_all exact rfl) ?_)
  | (with_reducible refine e_andF' (by with_unfolding_all exact rfl) ?_)
  | (with_reducible refine e_orT' (by with_unfolding_all exact rfl) ?_)
  | (with_reducible refine e_orF' (by with_unfolding_all exact rfl) ?_)
  | with_reducible refine e_vand ?_
  | with_reducible refine e_vor ?_
  | with_reducible refine e_vnot ?_
  | with_reducible refine e_vandT ?_
  | with_reducible refine e_vandF ?_
  | with_reducible refine e_vorT ?_
  | with_reducible refine e_vorF ?_
  | with_reducible refine e_vnotV ?_
  | with_reducible refine e_ife ?_
  | with_reducible refine e_ifeT ?_
  | with_reducible refine e_ifeF ?_
  | with_reducible refine e_cb ?_
  | with_reducible refine e_abs ?_
  | with_reducible refine e_intI ?_
  | with_reducible refine e_intB ?_
  | with_reducible refine e_min ?_
  | with_reducible refine e_max ?_
  | (with_reducible refine e_lenV (by with_unfolding_all exact rfl) ?_)
  | (with_reducible refine e_listx (by with_unfolding_all exact rfl) ?_)
  | (with_reducible refine e_list (by with_unfolding_all exact rfl) ?_)
  | (with_reducible refine e_tuple (by with_unfolding_all exact rfl) ?_)
  | with_reducible refine e_isi ?_
  | (with_reducible refine e_isiT (by with_unfolding_all exact rfl) (by with_unfolding_all exact rfl) ?_)
  | (with_reducible refine e_isiF (by with_unfolding_all exact rfl) (by with_unfolding_all exact rfl) ?_)
  | with_reducible refine e_isi2 ?_
  | (with_reducible refine e_isi2T (by with_unfolding_all exact rfl) (by with_unfolding_all exact rfl) ?_)
  | (with_reducible refine e_isi2F (by with_unfolding_all exact rfl) (by with_unfolding_all exact rfl) ?_)
  | with_reducible refine e_sl ?_
  | with_reducible refine e_noPart ?_
  | with_reducible refine e_part ?_
  | with_reducible refine e_partV ?_
  | with_reducible refine e_slT ?_
  | with_reducible refine e_slLx ?_
  | (with_reducible refine e_slOx (by with_unfolding_all exact rfl) ?_)
  | with_reducible refine e_slL ?_
  | with_reducible refine e_slS ?_
  | with_reducible refine e_lm ?_
  | (with_reducible refine e_lmV (by with_unfolding_all exact rfl) ?_)
  | (with_reducible refine e_lmWx (by with_unfolding_all exact rfl) ?_)
  | (with_reducible refine e_lmW (by with_unfolding_all exact rfl) ?_)
  | with_reducible refine e_app ?_ ?_
  | with_reducible refine e_break ?_
  | with_reducible refine e_cont ?_
  | with_reducible refine e_pass ?_
  | (with_reducible refine e_retP (by with_unfolding_all exact rfl) ?_)
  | (with_reducible refine e_retPo (by with_unfolding_all exact rfl) rfl (by with_unfolding_all exact rfl) ?_)
  | with_reducible refine e_lc ?_
  | with_reducible refine e_yes ?_
  | with_reducible refine e_lcBT ?_
  | with_reducible refine e_forR ?_
  | with_reducible refine e_wiSeq ?_
  | with_reducible refine e_rng1 ?_
  | (with_reducible refine e_rng1R (by omega) (by omega) ?_)
  | with_reducible refine e_rng2 ?_
  | (with_reducible refine e_rng2R (by omega) (by omega) (by omega) (by omega) ?_)
  | with_reducible refine e_try ?_
  | with_reducible refine e_raise ?_
  | with_reducible refine e_callX ?_
  | with_reducible refine e_callX0 ?_
  | with_reducible refine e_atNx ?_
  | with_reducible refine e_atRt ?_
  | with_reducible refine e_atBk ?_
  | with_reducible refine e_atCt ?_
  | with_reducible refine e_xret0 ?_
  | with_reducible refine e_xret1 ?_
  | (with_reducible refine e_catch (by with_unfolding_all exact rfl) ?_)
  | with_reducible refine e_bits ?_
  | with_reducible refine e_dct0 ?_
  | with_reducible refine e_nT ?_
  | with_reducible refine e_nF ?_
  ))
local macro_rules | `(tactic| walk_at "nm") => `(tactic| try simp only [start0, wipeS, wipeE, Int.reducePow, Int.reduceMul, Int.reduceSub, Int.reduceAdd, Int.reduceNeg, Int.one_mul, setε, Sm.new, Sm.put, Int.reduceToNat, Sm.frz, List.nil_append, toD_lst, List.append_nil, List.length_map, List.length_cons, List.length_nil, Nat.reduceSub, Nat.reduceAdd, List.replicate, List.cons_append, List.nil_append, List.map_cons, List.map_nil, List.set_cons_zero, List.set_cons_succ, unown, List.length_set, reduceIte, Nat.zero_ne_one, Nat.one_ne_zero])
/-- frac_root(one): slots one -/
def rd_frac_root : WS :=
  (sSeq (sIf (wNotT (wTst (wCall [false] F_is_fraction (aCons (wVar 0) aNil)))) (sRaise "NoFraction") sNil)
    (sRet (wCall [false] F_root_of (aCons (wVar 0) aNil))))

def F_frac_root : FX := fun as κ R RX => ∃ x : D, as = [.d x] ∧ κ = [] ∧ ((∃ q, x = qF q ∧ RB 4000 q ∧ R (.d (rootQ q)) []) ∨ (isFracD x = false ∧ okF x = true ∧ RX ⟨"NoFraction", []⟩ []))
theorem len_frac_root (as : List Val) (κ : List Mu) (R : Rt → List Mu → Prop) (RX : Xc → List Mu → Prop) (h : F_frac_root as κ R RX) : as.length = 1 := by
  obtain ⟨i, rfl, _⟩ := h
  rfl
theorem pure_frac_root (as : List Val) (κ : List Mu) (R : Rt → List Mu → Prop) (RX : Xc → List Mu → Prop) (h : F_frac_root as κ R RX) : rd_frac_root { nx := RetP R (.d .non), rt := RetP R } (startX 1 as κ RX) := by
  obtain ⟨x, rfl, rfl, ⟨q, rfl, hb, h⟩ | ⟨h0, h1, h⟩⟩ := h
  · unfold rd_frac_root startX
    walk_at "nm"
    walk_at "mp"
    refine isF_call ?_
    walk_at "mp"
    refine ⟨q, rfl, rfl, hb, ?_⟩
    walk_at "mp"
    exact h
  · unfold rd_frac_root startX
    walk_at "nm"
    walk_at "mp"
    refine ⟨x, rfl, rfl, h1, ?_⟩
    rw [h0]
    walk_at "mp"
    exact h
/-- has it a root -/
noncomputable def hasR (q : Rat) : Bool := match rootQ q with
  | .non => false
  | _ => true
/-- _law_has_root(one): slots one -/
def rd__law_has_root : WS :=
  (sRet (wAndV (wII0 (fun i j => .bl (decide (j ≤ i))) (wIx (wVar 0) (wC (.int 0))) (wC (.int 0))) (wAndV (wNotN (wCall [false] F__law_root (aCons (wIx (wVar 0) (wC (.int 0))) aNil))) (wNotN (wCall [false] F__law_root (aCons (wIx (wVar 0) (wC (.int 1))) aNil))))))

def F__law_has_root : FS := fun as κ R => ∃ q : Rat, as = [.d (qF q)] ∧ κ = [] ∧ RB 4000 q ∧ R (.d (.bl (hasR q))) []
theorem len__law_has_root (as : List Val) (κ : List Mu) (R : Rt → List Mu → Prop) (h : F__law_has_root as κ R) : as.length = 1 := by
  obtain ⟨i, rfl, _⟩ := h
  rfl
theorem pure__law_has_root (as : List Val) (κ : List Mu) (R : Rt → List Mu → Prop) (h : F__law_has_root as κ R) : rd__law_has_root { nx := RetP R (.d .non), rt := RetP R } (start0 1 as κ) := by
  obtain ⟨q, rfl, rfl, hb, h⟩ := h
  unfold rd__law_has_root
  walk_at "nm"
  walk_at "mp"
  refine e_vandB (fun h0 => ?_) fun h0 => ?_
  · have h1 : ¬ q.num < 0 := by
      have := of_decide_eq_true h0
      omega
    unfold hasR rootQ at h
    rw [if_neg h1] at h
    have e : ((q.num.toNat : Nat) : Int) = q.num := by omega
    walk_at "mp"
    refine ⟨q.num.toNat, by rw [e], rfl, by rw [e]; exact hb.1, ?_⟩
    walk_at "mp"
    unfold rootD
    cases e1 : rootN q.num.toNat with
    | none =>
      rw [e1] at h
      walk_at "mp"
      exact h
    | some r =>
      rw [e1] at h
      walk_at "mp"
      refine e_vandB (fun _ => ?_) fun z => Bool.noConfusion z
      walk_at "mp"
      refine ⟨q.den, rfl, rfl, hb.2, ?_⟩
      walk_at "mp"
      unfold rootD
      cases e2 : rootN q.den with
      | none =>
        rw [e2] at h
        walk_at "mp"
        exact h
      | some s =>
        rw [e2] at h
        walk_at "mp"
        exact h
  · have h1 : q.num < 0 := by
      have := of_decide_eq_false h0
      omega
    unfold hasR rootQ at h
    rw [if_pos h1] at h
    walk_at "mp"
    exact h
/-- what the law asks about: a fraction, or none -/
def Th (x : D) : Prop := (∃ q, x = qF q ∧ RB 400 q) ∨ (isFracD x = false ∧ okF x = true ∧ bitsF x)
theorem atI_mem {xs : List D} {i : Int} (h0 : 0 ≤ i) (h1 : i < (xs.length : Int)) : ∃ z, z ∈ xs ∧ L2.atI xs i = some z := by
  obtain ⟨z, h2, _, h3⟩ := atI_map (f := id) h0 h1
  rw [List.map_id] at h3
  exact ⟨z, h2, h3⟩
def bitsB : D → Bool
  | .tup [.int _, .int d] => decide (d.natAbs < 2 ^ 8900)
  | _ => true
theorem bitsB_F : ∀ {x : D}, bitsB x = true → bitsF x
  | .tup [.int _, .int d], h => of_decide_eq_true (p := d.natAbs < 2 ^ 8900) h
  | .tup [], _ => trivial
  | .tup [x], _ => by cases x <;> trivial
  | .tup (x :: y :: _ :: _), _ => by cases x <;> cases y <;> trivial
  | .tup [.int _, .non], _ => trivial
  | .tup [.int _, .bl _], _ => trivial
  | .tup [.int _, .str _], _ => trivial
  | .tup [.int _, .ty _], _ => trivial
  | .tup [.int _, .tup _], _ => trivial
  | .tup [.int _, .lst _], _ => trivial
  | .tup [.int _, .scr _], _ => trivial
  | .tup [.int _, .dct _ _], _ => trivial
  | .tup [.non, _], _ => trivial
  | .tup [.bl _, _], _ => trivial
  | .tup [.str _, _], _ => trivial
  | .tup [.ty _, _], _ => trivial
  | .tup [.tup _, _], _ => trivial
  | .tup [.lst _, _], _ => trivial
  | .tup [.scr _, _], _ => trivial
  | .tup [.dct _ _, _], _ => trivial
  | .non, _ => trivial
  | .bl _, _ => trivial
  | .int _, _ => trivial
  | .str _, _ => trivial
  | .ty _, _ => trivial
  | .lst _, _ => trivial
  | .scr _, _ => trivial
  | .dct _ _, _ => trivial
def rowsNF : List D := [.non, .bl true, .int 3, .str "1/2", .lst [.int 1, .int 2], .tup [.int 2, .int 4], .tup [.int 1, .int 0], .tup [.int 1, .int (-2)], .tup [.bl true, .int 1], .tup [.int 0, .int 2], .tup [.int 1],
  .tup [.int 1, .int 2, .int 3], .dct [] [], .tup [.tup [.int 1, .int 2], .int 1], .tup [.int 1, .bl true], .tup [], .str "", .int 0, .bl false, .tup [.int 1, .str "2"], .lst [.tup [.int 1, .int 2]], .tup [.non, .int 1], .tup [.int (-4), .int 6], .tup [.int 0, .int (-1)]]
theorem th_rows : ∀ z ∈ rowsNF, Th z := by
  have h : rowsNF.all (fun z => !isFracD z && okF z && bitsB z) = true := by decide
  intro z hz
  have := List.all_eq_true.mp h z hz
  simp only [Bool.and_eq_true, Bool.not_eq_true'] at this
  exact .inr ⟨this.1.1, this.1.2, bitsB_F this.2⟩
/-- _law_no_fraction(stream): slots stream, rows -/
def rd__law_no_fraction : WS :=
  (sSeq (sAsg (wLst (aCons (wC .non) (aCons (wC (.bl true)) (aCons (wC (.int 3)) (aCons (wC (.str "1/2")) (aCons (wLst (aCons (wC (.int 1)) (aCons (wC (.int 2)) aNil))) (aCons (wTup (aCons (wC (.int 2)) (aCons (wC (.int 4)) aNil))) (aCons (wTup (aCons (wC (.int 1)) (aCons (wC (.int 0)) aNil))) (aCons (wTup (aCons (wC (.int 1)) (aCons (wI (fun i => .int (-i)) (wC (.int 2))) aNil))) (aCons (wTup (aCons (wC (.bl true)) (aCons (wC (.int 1)) aNil))) (aCons (wTup (aCons (wC (.int 0)) (aCons (wC (.int 2)) aNil))) (aCons (wTup (aCons (wC (.int 1)) aNil)) (aCons (wTup (aCons (wC (.int 1)) (aCons (wC (.int 2)) (aCons (wC (.int 3)) aNil)))) (aCons wDct0 (aCons (wTup (aCons (wTup (aCons (wC (.int 1)) (aCons (wC (.int 2)) aNil))) (aCons (wC (.int 1)) aNil))) aNil))))))))))))))) (wgName 1))
    (sSeq (sAsg (wAdd (wVar 1) (wLst (aCons (wTup (aCons (wC (.int 1)) (aCons (wC (.bl true)) aNil))) (aCons (wTup aNil) (aCons (wC (.str "")) (aCons (wC (.int 0)) (aCons (wC (.bl false)) (aCons (wTup (aCons (wC (.int 1)) (aCons (wC (.str "2")) aNil))) (aCons (wLst (aCons (wTup (aCons (wC (.int 1)) (aCons (wC (.int 2)) aNil))) aNil)) (aCons (wTup (aCons (wC .non) (aCons (wC (.int 1)) aNil))) (aCons (wTup (aCons (wI (fun i => .int (-i)) (wC (.int 4))) (aCons (wC (.int 6)) aNil))) (aCons (wTup (aCons (wC (.int 0)) (aCons (wI (fun i => .int (-i)) (wC (.int 1))) aNil))) aNil)))))))))))) (wgName 1))
    (sRet (wIx (wVar 1) (wCall [true, false] F__law_take (aCons (wVar 0) (aCons (wCB fLen (aCons (wVar 1) aNil)) aNil)))))))

def F__law_no_fraction : FS := fun as κ R => ∃ (n : Int) (m : Mu), as = [.o 0] ∧ κ = [m] ∧ StOk n m ∧ n + 1 < 1000000 ∧ ∀ (x : D) (m' : Mu), Th x → StOk (n + 1) m' → R (.d x) [m']
theorem len__law_no_fraction (as : List Val) (κ : List Mu) (R : Rt → List Mu → Prop) (h : F__law_no_fraction as κ R) : as.length = 1 := by
  obtain ⟨i, m, rfl, _⟩ := h
  rfl
theorem pure__law_no_fraction (as : List Val) (κ : List Mu) (R : Rt → List Mu → Prop) (h : F__law_no_fraction as κ R) : rd__law_no_fraction { nx := RetP R (.d .non), rt := RetP R } (start0 2 as κ) := by
  obtain ⟨n, m, rfl, rfl, hs, hn, h⟩ := h
  unfold rd__law_no_fraction
  walk_at "nm"
  walk_at "mp"
  walk_at "nm"
  refine take_call hs (by omega) (by omega) (by omega) fun d m1 d0 d1 hs1 => ?_
  walk_at "mp"
  walk_at "nm"
  obtain ⟨z, hz, ez⟩ := atI_mem (xs := rowsNF) d0 d1
  refine e_ixV (xs := rowsNF) (by with_unfolding_all exact rfl) ez ?_
  walk_at "mp"
  exact h z _ (th_rows z hz) hs1
/-- _law_thing(stream): slots stream, kind, small, top, bottom, base, square -/
def rd__law_thing : WS :=
  (sSeq (sAsg (wCall [true, false] F__law_take (aCons (wVar 0) (aCons (wC (.int 8)) aNil))) (wgName 1))
    (sSeq (sAsg (wCall [false, false] F__law_low (aCons (wAdd (wC (.int 1)) (wCall [true, false] F__law_take (aCons (wVar 0) (aCons (wC (.int 6)) aNil)))) (aCons (wAdd (wC (.int 1)) (wCall [true, false] F__law_take (aCons (wVar 0) (aCons (wC (.int 6)) aNil)))) aNil))) (wgName 2))
    (sSeq (sAsg (wCall [true, false] F__law_take (aCons (wVar 0) (aCons (wC (.int 1000000000)) aNil))) (wgName 3))
    (sSeq (sAsg (wAdd (wC (.int 1)) (wCall [true, false] F__law_take (aCons (wVar 0) (aCons (wC (.int 1000000000)) aNil)))) (wgName 4))
    (sSeq (sIf (wTst (wEq (wCall [true, false] F__law_take (aCons (wVar 0) (aCons (wC (.int 2)) aNil))) (wC (.int 0)))) (sSeq (sAsg (wAdd (wII CMl (fun i j => .int (i * j)) (wVar 3) (wC (.int 1000000000))) (wCall [true, false] F__law_take (aCons (wVar 0) (aCons (wC (.int 1000000000)) aNil)))) (wgName 3))
    (sAsg (wAdd (wII CMl (fun i j => .int (i * j)) (wVar 4) (wC (.int 1000000000))) (wCall [true, false] F__law_take (aCons (wVar 0) (aCons (wC (.int 1000000000)) aNil)))) (wgName 4))) sNil)
    (sSeq (sAsg (wCall [false, false] F__law_low (aCons (wVar 3) (aCons (wVar 4) aNil))) (wgName 5))
    (sSeq (sAsg (wTup (aCons (wII CMl (fun i j => .int (i * j)) (wIx (wVar 5) (wC (.int 0))) (wIx (wVar 5) (wC (.int 0)))) (aCons (wII CMl (fun i j => .int (i * j)) (wIx (wVar 5) (wC (.int 1))) (wIx (wVar 5) (wC (.int 1)))) aNil))) (wgName 6))
    (sSeq (sIf (wTst (wII0 (fun i j => .bl (decide (i < j))) (wVar 1) (wC (.int 3)))) (sRet (wVar 6)) sNil)
    (sSeq (sIf (wTst (wEq (wVar 1) (wC (.int 3)))) (sRet (wCall [false, false] F__law_mul (aCons (wVar 6) (aCons (wVar 2) aNil)))) sNil)
    (sSeq (sIf (wTst (wEq (wVar 1) (wC (.int 4)))) (sRet (wTup (aCons (wI (fun i => .int (-i)) (wIx (wVar 6) (wC (.int 0)))) (aCons (wIx (wVar 6) (wC (.int 1))) aNil)))) sNil)
    (sSeq (sIf (wTst (wEq (wVar 1) (wC (.int 5)))) (sRet (wVar 2)) sNil)
    (sSeq (sIf (wTst (wEq (wVar 1) (wC (.int 6)))) (sRet (wCall [true] F__law_no_fraction (aCons (wVar 0) aNil))) sNil)
    (sRet (wCall [true] F__law_fraction (aCons (wVar 0) aNil)))))))))))))))

def F__law_thing : FS := fun as κ R => ∃ (n : Int) (m : Mu), as = [.o 0] ∧ κ = [m] ∧ StOk n m ∧ n + 20 < 1000000 ∧ ∀ (x : D) (m' : Mu), Th x → StOk (n + 20) m' → R (.d x) [m']
theorem len__law_thing (as : List Val) (κ : List Mu) (R : Rt → List Mu → Prop) (h : F__law_thing as κ R) : as.length = 1 := by
  obtain ⟨i, m, rfl, _⟩ := h
  rfl
theorem low_call {i j : Int} {R : Rt → List Mu → Prop} (hj : j ≠ 0) (hb : Bits 8900 j) (h : R (.d (qF (Rat.divInt i j))) []) : F__law_low [.d (.int i), .d (.int j)] [] R := ⟨i, j, rfl, rfl, hj, hb, h⟩
theorem lmul_call {a b : Rat} {R : Rt → List Mu → Prop} (ha : RB 4000 a) (hb : RB 4000 b) (h : R (.d (qF (a * b))) []) : F__law_mul [.d (qF a), .d (qF b)] [] R := ⟨a, b, rfl, rfl, ha, hb, trivial, h⟩
theorem fmul_call {a b : Rat} {R : Rt → List Mu → Prop} (ha : RB 4000 a) (hb : RB 4000 b) (h : R (.d (qF (a * b))) []) : F_frac_mul [.d (qF a), .d (qF b)] [] R := ⟨a, b, rfl, rfl, ha, hb, trivial, h⟩
theorem sq_cop (q : Rat) : (q.num * q.num).natAbs.gcd (q.den * q.den) = 1 := by
  have h : Nat.Coprime q.num.natAbs q.den := q.reduced
  rw [Int.natAbs_mul]
  exact Nat.Coprime.mul_left (Nat.Coprime.mul_right h h) (Nat.Coprime.mul_right h h)
theorem sq_num (q : Rat) : (q * q).num = q.num * q.num := by
  rw [Rat.num_mul, sq_cop]
  simp
theorem sq_den (q : Rat) : (q * q).den = q.den * q.den := by
  rw [Rat.den_mul, sq_cop, Nat.div_one]
theorem sq_qF (q : Rat) : D.tup [.int (q.num * q.num), .int ((q.den : Int) * q.den)] = qF (q * q) := by
  unfold qF
  rw [sq_num, sq_den]
  rfl
theorem pure__law_thing (as : List Val) (κ : List Mu) (R : Rt → List Mu → Prop) (h : F__law_thing as κ R) : rd__law_thing { nx := RetP R (.d .non), rt := RetP R } (start0 7 as κ) := by
  obtain ⟨n, m, rfl, rfl, hs, hn, h⟩ := h
  unfold rd__law_thing
  walk_at "nm"
  walk_at "mp"
  refine take_call hs (by omega) (by omega) (by omega) fun kind m1 d0 d1 hs1 => ?_
  walk_at "mp"
  refine take_call hs1 (by omega) (by omega) (by omega) fun a1 m2 a10 a11 hs2 => ?_
  walk_at "mp"
  refine take_call hs2 (by omega) (by omega) (by omega) fun a2 m3 a20 a21 hs3 => ?_
  walk_at "mp"
  walk_at "nm"
  refine low_call (by omega) (Nat.lt_of_lt_of_le (m := 100) (by omega) (by decide)) ?_
  have rs : RB 10 (Rat.divInt (1 + a1) (1 + a2)) := RB.divInt (by omega) (Nat.lt_of_lt_of_le (m := 100) (by omega) (by decide)) (Nat.lt_of_lt_of_le (m := 100) (by omega) (by decide))
  generalize Rat.divInt (1 + a1) (1 + a2) = small at *
  walk_at "mp"
  refine take_call hs3 (by omega) (by omega) (by omega) fun top m4 t0 t1 hs4 => ?_
  walk_at "mp"
  refine take_call hs4 (by omega) (by omega) (by omega) fun bot m5 b0 b1 hs5 => ?_
  walk_at "mp"
  refine take_call hs5 (by omega) (by omega) (by omega) fun co m6 c0 c1 hs6 => ?_
  walk_at "mp"
  walk_at "nm"
  refine e_ifFin (P := fun NX => ∀ (T B : Int) (m' : Mu), T.natAbs < 2 ^ 70 → B.natAbs < 2 ^ 70 → B ≠ 0 → StOk (n + 8) m' → NX ⟨[.o 0, .d (.int kind), .d (qF small), .d (.int T), .d (.int B), .un, .un], [some m'], 1, noX⟩) ?_ fun NX fin => ?_
  · intro T B m' hT hB h0 hs'
    walk_at "mp"
    refine low_call h0 (Bits.mono (n := 70) hB (by decide)) ?_
    have rq : RB 70 (Rat.divInt T B) := RB.divInt h0 hT hB
    generalize Rat.divInt T B = q at *
    walk_at "mp"
    · exact cml rq.1 rq.1
    · exact cml rq.2 rq.2
    rw [sq_qF]
    have rqq : RB 140 (q * q) := rq.mul rq
    generalize q * q = p at *
    walk_at "mp"
    walk_at "nm"
    refine e_ifB (fun _ => ?_) fun _ => ?_
    · walk_at "mp"
      exact h _ _ (.inl ⟨p, rfl, rqq.mono (by decide)⟩) (hs'.mono (by omega))
    walk_at "mp"
    refine e_ifB (fun _ => ?_) fun _ => ?_
    · walk_at "mp"
      refine lmul_call (rqq.mono (by decide)) (rs.mono (by decide)) ?_
      walk_at "mp"
      exact h _ _ (.inl ⟨_, rfl, (rqq.mul rs).mono (by decide)⟩) (hs'.mono (by omega))
    walk_at "mp"
    refine e_ifB (fun _ => ?_) fun _ => ?_
    · walk_at "mp"
      exact h _ _ (.inl ⟨-p, rfl, rqq.neg.mono (by decide)⟩) (hs'.mono (by omega))
    walk_at "mp"
    refine e_ifB (fun _ => ?_) fun _ => ?_
    · walk_at "mp"
      exact h _ _ (.inl ⟨small, rfl, rs.mono (by decide)⟩) (hs'.mono (by omega))
    walk_at "mp"
    refine e_ifB (fun _ => ?_) fun _ => ?_
    · walk_at "mp"
      refine ⟨n + 8, m', rfl, rfl, hs', by omega, fun x m9 hx hs9 => ?_⟩
      walk_at "mp"
      exact h _ _ hx (hs9.mono (by omega))
    walk_at "mp"
    refine ⟨n + 8, m', rfl, rfl, hs', by omega, fun x m9 hx hs9 => ?_⟩
    walk_at "mp"
    exact h _ _ (.inl ⟨x, rfl, hx.mono (by decide)⟩) (hs9.mono (by omega))
  refine e_ifB (fun _ => ?_) fun _ => ?_
  · walk_at "mp"
    refine take_call hs6 (by omega) (by omega) (by omega) fun x m7 x0 x1 hs7 => ?_
    walk_at "mp"
    refine take_call hs7 (by omega) (by omega) (by omega) fun y m8 y0 y1 hs8 => ?_
    walk_at "mp"
    walk_at "nm"
    refine fin _ _ _ ?_ ?_ ?_ (hs8.mono (by omega)) <;> omega
  · walk_at "mp"
    walk_at "nm"
    refine fin _ _ _ ?_ ?_ ?_ (hs6.mono (by omega)) <;> omega
/-! ### what is asked -/
theorem rootQ_cases (q : Rat) : (rootQ q = .non ∧ hasR q = false) ∨ ∃ p : Rat, rootQ q = qF p ∧ hasR q = true ∧ p * p = q ∧ 0 ≤ p.num := by
  have key : rootQ q = .non ∨ ∃ p : Rat, rootQ q = qF p ∧ p * p = q ∧ 0 ≤ p.num := by
    unfold rootQ
    by_cases h : q.num < 0
    · rw [if_pos h]; exact .inl rfl
    rw [if_neg h]
    cases e1 : rootN q.num.toNat with
    | none => exact .inl rfl
    | some r =>
      cases e2 : rootN q.den with
      | none => exact .inl rfl
      | some s =>
        have h1 := rootN_some e1
        have h2 := rootN_some e2
        have hs : s ≠ 0 := fun z => by
          subst z
          have := q.den_pos
          omega
        have hc : Nat.Coprime r s := by
          have c : Nat.Coprime q.num.natAbs q.den := q.reduced
          have e : q.num.natAbs = r * r := by omega
          rw [e, ← h2] at c
          exact Nat.Coprime.coprime_dvd_left ⟨r, rfl⟩ (Nat.Coprime.coprime_dvd_right ⟨s, rfl⟩ c)
        refine .inr ⟨⟨(r : Int), s, hs, hc⟩, rfl, ?_, Int.natCast_nonneg _⟩
        refine Rat.ext ?_ ?_
        · rw [sq_num]
          show (r : Int) * r = q.num
          have : ((r * r : Nat) : Int) = q.num := by omega
          rw [← this]; rfl
        · rw [sq_den]
          exact h2
  rcases key with h | ⟨p, h1, h2, h3⟩
  · exact .inl ⟨h, by unfold hasR; rw [h]⟩
  · exact .inr ⟨p, h1, by unfold hasR; rw [h1]; rfl, h2, h3⟩
theorem rootQ_sq {p : Rat} (h : 0 ≤ p.num) : rootQ (p * p) = qF p := by
  unfold rootQ
  have e : ((p.num.toNat : Nat) : Int) = p.num := by omega
  have e2 : (p.num * p.num).toNat = p.num.toNat * p.num.toNat := by
    rw [← e]
    have : ((p.num.toNat : Nat) : Int) * (p.num.toNat : Nat) = ((p.num.toNat * p.num.toNat : Nat) : Int) := rfl
    rw [this]
    exact Int.toNat_natCast _
  have n0 : ¬ p.num * p.num < 0 := by
    rw [← e]
    have : ((p.num.toNat : Nat) : Int) * (p.num.toNat : Nat) = ((p.num.toNat * p.num.toNat : Nat) : Int) := rfl
    omega
  rw [sq_num, sq_den, if_neg n0, e2, rootN_sq, rootN_sq]
  show D.tup [.int ((p.num.toNat : Nat) : Int), .int (p.den : Int)] = qF p
  rw [e]
  rfl
theorem rb_root {p : Rat} {n : Nat} (h : RB n (p * p)) : RB n p := by
  obtain ⟨h1, h2⟩ := h
  rw [sq_num] at h1
  rw [sq_den] at h2
  refine ⟨h1.le ?_, h2.le ?_⟩
  · rw [Int.natAbs_mul]
    rcases Nat.eq_zero_or_pos p.num.natAbs with z | z
    · omega
    · exact Nat.le_mul_of_pos_left _ z
  · rw [Int.natAbs_natCast, Int.natAbs_natCast]
    exact Nat.le_mul_of_pos_left _ p.den_pos
theorem isLF_call {q : Rat} {R : Rt → List Mu → Prop} (hb : RB 4000 q) (h : R (.d (.bl true)) []) : F__law_is_frac [.d (qF q)] [] R := ⟨qF q, rfl, rfl, okF_qF q, hb.2.mono (by decide), by rw [isFrac_qF]; exact h⟩
/-- _law_asked(thing): slots thing, refused, told -/
def rd__law_asked : WS :=
  (sSeq (sAsg (wC (.bl false)) (wgName 1))
    (sSeq (sAsg (wC .non) (wgName 2))
    (sSeq (sTry [("NoFraction", true)] (sAsg (wCallX [false] F_frac_root (aCons (wVar 0) aNil)) (wgName 2)) (sAsg (wC (.bl true)) (wgName 1)))
    (sSeq (sIf (wNotT (wTst (wCall [false] F__law_is_frac (aCons (wVar 0) aNil)))) (sRet (wVar 1)) sNil)
    (sSeq (sIf (wTst (wVar 1)) (sRet (wC (.bl false))) sNil)
    (sSeq (sIf (wNotT (wTst (wCall [false] F__law_has_root (aCons (wVar 0) aNil)))) (sRet (wIsN (wVar 2))) sNil)
    (sSeq (sIf (wOrT (wNotT (wTst (wCall [false] F__law_is_frac (aCons (wVar 2) aNil)))) (wTst (wII0 (fun i j => .bl (decide (i < j))) (wIx (wVar 2) (wC (.int 0))) (wC (.int 0))))) (sRet (wC (.bl false))) sNil)
    (sSeq (sIf (wTst (wNe (wII CMl (fun i j => .int (i * j)) (wII CMl (fun i j => .int (i * j)) (wIx (wVar 2) (wC (.int 0))) (wIx (wVar 2) (wC (.int 0)))) (wIx (wVar 0) (wC (.int 1)))) (wII CMl (fun i j => .int (i * j)) (wII CMl (fun i j => .int (i * j)) (wIx (wVar 0) (wC (.int 0))) (wIx (wVar 2) (wC (.int 1)))) (wIx (wVar 2) (wC (.int 1)))))) (sRet (wC (.bl false))) sNil)
    (sRet (wEq (wCall [false] (FX.calm F_frac_root) (aCons (wCall [false, false] F_frac_mul (aCons (wVar 2) (aCons (wVar 2) aNil))) aNil)) (wVar 2)))))))))))

def F__law_asked : FS := fun as κ R => ∃ x : D, as = [.d x] ∧ κ = [] ∧ Th x ∧ R (.d (.bl true)) []
theorem len__law_asked (as : List Val) (κ : List Mu) (R : Rt → List Mu → Prop) (h : F__law_asked as κ R) : as.length = 1 := by
  obtain ⟨i, rfl, _⟩ := h
  rfl
theorem pure__law_asked (as : List Val) (κ : List Mu) (R : Rt → List Mu → Prop) (h : F__law_asked as κ R) : rd__law_asked { nx := RetP R (.d .non), rt := RetP R } (start0 3 as κ) := by
  obtain ⟨x, rfl, rfl, hx, h⟩ := h
  unfold rd__law_asked
  walk_at "nm"
  walk_at "mp"
  obtain ⟨q, rfl, hb⟩ | ⟨h0, h1, h2⟩ := hx
  · refine ⟨qF q, rfl, rfl, .inl ⟨q, rfl, hb.mono (by decide), ?_⟩⟩
    walk_at "mp"
    refine isLF_call (hb.mono (by decide)) ?_
    walk_at "mp"
    refine ⟨q, rfl, rfl, hb.mono (by decide), ?_⟩
    obtain ⟨e1, e2⟩ | ⟨p, e1, e2, rfl, e4⟩ := rootQ_cases q
    · rw [e1, e2]
      walk_at "mp"
      exact h
    · rw [e1, e2]
      have rp := rb_root hb
      walk_at "mp"
      refine isLF_call (rp.mono (by decide)) ?_
      walk_at "mp"
      refine e_ifB (fun z => ?_) fun _ => ?_
      · have := of_decide_eq_true z
        omega
      walk_at "mp"
      · exact cml rp.1 rp.1
      · exact cml (rp.1.mul rp.1) hb.2
      · exact cml hb.1 rp.2
      · exact cml (hb.1.mul rp.2) rp.2
      have e5 : p.num * p.num * ((p * p).den : Int) = (p * p).num * (p.den : Int) * (p.den : Int) := by
        rw [sq_num, sq_den, Int.mul_assoc ((p.num * p.num)) (p.den : Int) (p.den : Int)]
        rfl
      rw [e5, decide_eq_true rfl]
      walk_at "mp"
      refine fmul_call (rp.mono (by decide)) (rp.mono (by decide)) ?_
      walk_at "mp"
      refine ⟨_, rfl, rfl, .inl ⟨p * p, rfl, hb.mono (by decide), ?_⟩⟩
      rw [e1]
      walk_at "mp"
      rw [decide_eq_true rfl]
      exact h
  · refine ⟨x, rfl, rfl, .inr ⟨h0, h1, ?_⟩⟩
    walk_at "mp"
    refine ⟨x, rfl, rfl, h1, h2, ?_⟩
    rw [h0]
    walk_at "mp"
    exact h
/-- law(script): slots script, stream, k -/
def rd_law : WS :=
  (sSeq (sAsg (wCall [false] F__law_stream (aCons (wVar 0) aNil)) (wgName 1))
    (sSeq (sFor (wiRng1 (wAdd (wC (.int 2)) (wCB fMin2 (aCons (wC (.int 14)) (aCons (wCB fLen (aCons (wVar 0) aNil)) aNil))))) (wgName 2) (sIf (wNotT (wTst (wCall [false] F__law_asked (aCons (wCall [true] F__law_thing (aCons (wVar 1) aNil)) aNil)))) (sRet (wC (.bl false))) sNil))
    (sRet (wC (.bl true)))))

def F_law : FS := fun as κ R => ∃ ns : List Int, as = [.d (.scr ns)] ∧ κ = [] ∧ ns.length ≤ 63 ∧ R (.d (.bl true)) []
theorem len_law (as : List Val) (κ : List Mu) (R : Rt → List Mu → Prop) (h : F_law as κ R) : as.length = 1 := by
  obtain ⟨ns, rfl, _⟩ := h
  rfl
theorem law_ok (ns : List Int) (h : ns.length ≤ 63) : F_law [.d (.scr ns)] [] fun r _ => r = .d (.bl true) := ⟨ns, rfl, rfl, h, rfl⟩
theorem pure_law (as : List Val) (κ : List Mu) (R : Rt → List Mu → Prop) (h : F_law as κ R) : rd_law { nx := RetP R (.d .non), rt := RetP R } (start0 3 as κ) := by
  obtain ⟨ns, rfl, rfl, hl, h⟩ := h
  unfold rd_law
  walk_at "nm"
  walk_at "mp"
  refine ⟨ns, rfl, rfl, fun m hm => ?_⟩
  walk_at "mp"
  walk_at "nm"
  refine ⟨fun i S => ∃ (m : Mu) (e : Val), S = ⟨[.d (.scr ns), .o 0, e], [some m], 0, noX⟩ ∧ StOk (20 * (i : Int)) m,
    ⟨m, .un, rfl, hm.mono (by omega)⟩, fun _ _ _ => trivial, ?_, ?_⟩
  · rintro i x S hx ⟨m, e, rfl, hs⟩
    have hi : i < 16 := by
      have := (rngD_get hx).1
      split at this <;> omega
    obtain ⟨_, rfl⟩ := rngD_get hx
    walk_at "mp"
    refine ⟨20 * (i : Int), m, rfl, rfl, hs, by omega, fun x m' hx hs' => ?_⟩
    walk_at "mp"
    refine ⟨x, rfl, rfl, hx, ?_⟩
    walk_at "mp"
    exact ⟨m', _, rfl, hs'.mono (by omega)⟩
  · rintro S ⟨m, e, rfl, hs⟩
    walk_at "mp"
    exact h
end MP

namespace W
open PySem PySem.Spec PyProof.Rows L2 MP
def topS (i : Nat) : Stmt := PySem.Challenge.pw_creasehall_k04_roots_of_fractions.main.body.getD i (.Pass ⟨0, 0, 0, 0⟩)
section
variable {P : Program} {w : World} {K : PySem.W.Frag} {mg : Str → Option Value} {base : Heap}
abbrev s_is_integer : Stmt := topS 5
theorem sc_is_integer : FnScope ["thing"] ["thing"] (defScope s_is_integer) := ⟨rfl, rfl, rfl, by decide +kernel, rfl, by decide +kernel, by decide +kernel⟩
theorem fn_is_integer {cl : String → Value} {f : Addr} {fd : FuncData} (Fn : Fun K "is_integer" "is_integer" s_is_integer f fd) (g : mg "is_integer" = some (.ref f)) (z_isinstance : mg "isinstance" = none) (z_int : mg "int" = none) (z_bool : mg "bool" = none)      : FnOk P w K mg base CX0 1 f fd ["thing"] (spOf K F_is_integer) :=
  def_ok (cl := cl) Fn sc_is_integer len_is_integer (t := rd_is_integer) (fun cdv A outer s H E hr => (mss_one (ms_ret (m_and (m_isi .int (by decide) (by rfl) z_isinstance (by rfl) z_int (by decide +kernel) (m_var (pv 0))) (m_one (m_not (m_isi .bool (by decide) (by rfl) z_isinstance (by rfl) z_bool (by decide +kernel) (m_var (pv 0))))))))) pure_is_integer
abbrev s_common_part : Stmt := topS 6
theorem sc_common_part : FnScope ["one", "other"] ["one", "other"] (defScope s_common_part) := ⟨rfl, rfl, rfl, by decide +kernel, rfl, by decide +kernel, by decide +kernel⟩
theorem fn_common_part {cl : String → Value} {f : Addr} {fd : FuncData} (Fn : Fun K "common_part" "common_part" s_common_part f fd) (g : mg "common_part" = some (.ref f)) (z_abs : mg "abs" = none)      : FnOk P w K mg base CX0 1 f fd ["one", "other"] (spOf K F_common_part) :=
  def_ok (cl := cl) Fn sc_common_part len_common_part (t := rd_common_part) (fun cdv A outer s H E hr => (mss_cons (ms_set (i := 0) sc_common_part.nd rfl (Or.inl rfl) (m_callB call_abs cb_abs (by rfl) z_abs (by decide +kernel) (ma_cons (m_var (pv 0)) ma_nil)))
    (mss_cons (ms_set (i := 1) sc_common_part.nd rfl (Or.inl rfl) (m_callB call_abs cb_abs (by rfl) z_abs (by decide +kernel) (ma_cons (m_var (pv 1)) ma_nil)))
    (mss_cons (ms_while PassesOwn.never (mc_int op_gt (m_var (pv 1)) m_int).t (mss_one (ms_par (i := 0) (j := 1) (ma_cons (m_var (pv 1)) (ma_cons (m_opI op_modL (m_var (pv 0)) (m_var (pv 1))) ma_nil)) fun h => ps_par (by rfl) sc_common_part.nd rfl rfl (by decide) rfl rfl h (by rfl))))
    (mss_one (ms_ret (m_var (pv 0)))))))) pure_common_part
abbrev s_lowest : Stmt := topS 7
theorem sc_lowest : FnScope ["top", "bottom", "part"] ["top", "bottom"] (defScope s_lowest) := ⟨rfl, rfl, rfl, by decide +kernel, rfl, by decide +kernel, by decide +kernel⟩
theorem fn_lowest {cl : String → Value} {f : Addr} {fd : FuncData} (Fn : Fun K "lowest" "lowest" s_lowest f fd) (g : mg "lowest" = some (.ref f))     (c_common_part : Callee P w K mg base 1 "common_part" ["one", "other"] F_common_part)  : FnOk P w K mg base CX0 2 f fd ["top", "bottom"] (spOf K F_lowest) :=
  def_ok (cl := cl) Fn sc_lowest len_lowest (t := rd_lowest) (fun cdv A outer s H E hr => (mss_cons (ms_set (i := 2) sc_lowest.nd rfl (Or.inl rfl) (m_callC [false, false] c_common_part (hr.mono (by decide)) (by rfl) (ma_cons (m_var (pv 0)) (ma_cons (m_var (pv 1)) ma_nil))))
    (mss_cons (ms_if (mc_int op_lt (m_var (pv 1)) m_int).t (mss_one (ms_set (i := 2) sc_lowest.nd rfl (Or.inl rfl) (m_unI un_neg (m_var (pv 2))))) mss_nil)
    (mss_one (ms_ret (m_tup (ma_cons (m_opI op_fdivL (m_var (pv 0)) (m_var (pv 2))) (ma_cons (m_opI op_fdivL (m_var (pv 1)) (m_var (pv 2))) ma_nil)))))))) pure_lowest
abbrev s_is_fraction : Stmt := topS 8
theorem sc_is_fraction : FnScope ["thing"] ["thing"] (defScope s_is_fraction) := ⟨rfl, rfl, rfl, by decide +kernel, rfl, by decide +kernel, by decide +kernel⟩
theorem fn_is_fraction {cl : String → Value} {f : Addr} {fd : FuncData} (Fn : Fun K "is_fraction" "is_fraction" s_is_fraction f fd) (g : mg "is_fraction" = some (.ref f)) (z_isinstance : mg "isinstance" = none) (z_tuple : mg "tuple" = none) (z_len : mg "len" = none)    (c_common_part : Callee P w K mg base 1 "common_part" ["one", "other"] F_common_part) (c_is_integer : Callee P w K mg base 1 "is_integer" ["thing"] F_is_integer)  : FnOk P w K mg base CX0 2 f fd ["thing"] (spOf K F_is_fraction) :=
  def_ok (cl := cl) Fn sc_is_fraction len_is_fraction (t := rd_is_fraction) (fun cdv A outer s H E hr => (mss_cons (ms_if (mt_w (mw_or (mt_not (mt_val (m_isi .tup (by decide) (by rfl) z_isinstance (by rfl) z_tuple (by decide +kernel) (m_var (pv 0))))) (mw_or1 (mc_ne hr.units (m_callB MP.call_len cb_len (by rfl) z_len (by decide +kernel) (ma_cons (m_var (pv 0)) ma_nil)) m_int).t))) (mss_one (ms_ret m_bl)) mss_nil)
    (mss_cons (ms_if (mt_w (mw_or (mt_not (mt_val (m_callC [false] c_is_integer (hr.mono (by decide)) (by rfl) (ma_cons (m_ix (m_var (pv 0)) m_int (fun _ _ => rfl)) ma_nil)))) (mw_or (mt_not (mt_val (m_callC [false] c_is_integer (hr.mono (by decide)) (by rfl) (ma_cons (m_ix (m_var (pv 0)) m_int (fun _ _ => rfl)) ma_nil)))) (mw_or1 (mc_int op_lt (m_ix (m_var (pv 0)) m_int (fun _ _ => rfl)) m_int).t)))) (mss_one (ms_ret m_bl)) mss_nil)
    (mss_one (ms_ret (mc_eq hr.units (m_callC [false, false] c_common_part (hr.mono (by decide)) (by rfl) (ma_cons (m_ix (m_var (pv 0)) m_int (fun _ _ => rfl)) (ma_cons (m_ix (m_var (pv 0)) m_int (fun _ _ => rfl)) ma_nil))) m_int).e))))) pure_is_fraction
abbrev s_product : Stmt := topS 9
theorem sc_product : FnScope ["one", "other"] ["one", "other"] (defScope s_product) := ⟨rfl, rfl, rfl, by decide +kernel, rfl, by decide +kernel, by decide +kernel⟩
theorem fn_product {cl : String → Value} {f : Addr} {fd : FuncData} (Fn : Fun K "product" "product" s_product f fd) (g : mg "product" = some (.ref f))  {v_ZERO : V} {u_ZERO : Value} (q_ZERO : mg "ZERO" = some u_ZERO ∧ KD K v_ZERO d_ZERO) (r_ZERO : RelV v_ZERO u_ZERO)   (c_lowest : Callee P w K mg base 2 "lowest" ["top", "bottom"] F_lowest)  : FnOk P w K mg base CX0 3 f fd ["one", "other"] (spOf K F_product) :=
  def_ok (cl := cl) Fn sc_product len_product (t := rd_product) (fun cdv A outer s H E hr => (mss_cons (ms_if (mt_w (mw_or (mc_eq hr.units (m_ix (m_var (pv 0)) m_int (fun _ _ => rfl)) m_int).t (mw_or1 (mc_eq hr.units (m_ix (m_var (pv 1)) m_int (fun _ _ => rfl)) m_int).t))) (mss_one (ms_ret (m_glob (by rfl) q_ZERO.1 r_ZERO q_ZERO.2))) mss_nil)
    (mss_one (ms_ret (m_callC [false, false] c_lowest (hr.mono (by decide)) (by rfl) (ma_cons (m_opI op_mulL (m_ix (m_var (pv 0)) m_int (fun _ _ => rfl)) (m_ix (m_var (pv 1)) m_int (fun _ _ => rfl))) (ma_cons (m_opI op_mulL (m_ix (m_var (pv 0)) m_int (fun _ _ => rfl)) (m_ix (m_var (pv 1)) m_int (fun _ _ => rfl))) ma_nil))))))) pure_product
abbrev s_whole_root : Stmt := topS 10
theorem sc_whole_root : FnScope ["number", "low", "high", "middle"] ["number"] (defScope s_whole_root) := ⟨rfl, rfl, rfl, by decide +kernel, rfl, by decide +kernel, by decide +kernel⟩
theorem fn_whole_root {cl : String → Value} {f : Addr} {fd : FuncData} (Fn : Fun K "whole_root" "whole_root" s_whole_root f fd) (g : mg "whole_root" = some (.ref f))       : FnOk P w K mg base CX0 1 f fd ["number"] (spOf K F_whole_root) :=
  def_ok (cl := cl) Fn sc_whole_root len_whole_root (t := rd_whole_root) (fun cdv A outer s H E hr => (mss_cons (ms_set (i := 1) sc_whole_root.nd rfl (Or.inl rfl) m_int)
    (mss_cons (ms_set (i := 2) sc_whole_root.nd rfl (Or.inl rfl) m_int)
    (mss_cons (ms_while PassesOwn.never (mc_int op_le (m_opI op_mulL (m_var (pv 2)) (m_var (pv 2))) (m_var (pv 0))).t (mss_one (ms_set (i := 2) sc_whole_root.nd rfl (Or.inl rfl) (m_opI op_mulL m_int (m_var (pv 2))))))
    (mss_cons (ms_while PassesOwn.never (mc_int op_gt (m_opI0 op_sub (m_var (pv 2)) (m_var (pv 1))) m_int).t (mss_cons (ms_set (i := 3) sc_whole_root.nd rfl (Or.inl rfl) (m_opI op_fdivW (m_add (m_var (pv 1)) (m_var (pv 2))) m_int))
    (mss_one (ms_if (mc_int op_le (m_opI op_mulL (m_var (pv 3)) (m_var (pv 3))) (m_var (pv 0))).t (mss_one (ms_set (i := 1) sc_whole_root.nd rfl (Or.inl rfl) (m_var (pv 3)))) (mss_one (ms_set (i := 2) sc_whole_root.nd rfl (Or.inl rfl) (m_var (pv 3))))))))
    (mss_one (ms_ret (m_ifExp (mc_eq hr.units (m_opI op_mulL (m_var (pv 1)) (m_var (pv 1))) (m_var (pv 0))).t (m_var (pv 1)) m_non)))))))) pure_whole_root
abbrev s_root_of : Stmt := topS 11
theorem sc_root_of : FnScope ["one", "top", "bottom"] ["one"] (defScope s_root_of) := ⟨rfl, rfl, rfl, by decide +kernel, rfl, by decide +kernel, by decide +kernel⟩
theorem fn_root_of {cl : String → Value} {f : Addr} {fd : FuncData} (Fn : Fun K "root_of" "root_of" s_root_of f fd) (g : mg "root_of" = some (.ref f))     (c_whole_root : Callee P w K mg base 1 "whole_root" ["number"] F_whole_root)  : FnOk P w K mg base CX0 2 f fd ["one"] (spOf K F_root_of) :=
  def_ok (cl := cl) Fn sc_root_of len_root_of (t := rd_root_of) (fun cdv A outer s H E hr => (mss_cons (ms_if (mc_int op_lt (m_ix (m_var (pv 0)) m_int (fun _ _ => rfl)) m_int).t (mss_one (ms_ret m_non)) mss_nil)
    (mss_cons (ms_set (i := 1) sc_root_of.nd rfl (Or.inl rfl) (m_callC [false] c_whole_root (hr.mono (by decide)) (by rfl) (ma_cons (m_ix (m_var (pv 0)) m_int (fun _ _ => rfl)) ma_nil)))
    (mss_cons (ms_set (i := 2) sc_root_of.nd rfl (Or.inl rfl) (m_callC [false] c_whole_root (hr.mono (by decide)) (by rfl) (ma_cons (m_ix (m_var (pv 0)) m_int (fun _ _ => rfl)) ma_nil)))
    (mss_cons (ms_if (mt_w (mw_or (mc_isN (m_var (pv 1))).t (mw_or1 (mc_isN (m_var (pv 2))).t))) (mss_one (ms_ret m_non)) mss_nil)
    (mss_one (ms_ret (m_tup (ma_cons (m_var (pv 1)) (ma_cons (m_var (pv 2)) ma_nil)))))))))) pure_root_of
abbrev s_check_fractions : Stmt := topS 12
theorem sc_check_fractions : FnScope ["one", "other"] ["one", "other"] (defScope s_check_fractions) := ⟨rfl, rfl, rfl, by decide +kernel, rfl, by decide +kernel, by decide +kernel⟩
theorem fn_check_fractions {cl : String → Value} {f : Addr} {fd : FuncData} (Fn : Fun K "check_fractions" "check_fractions" s_check_fractions f fd) (g : mg "check_fractions" = some (.ref f))     (c_is_fraction : Callee P w K mg base 2 "is_fraction" ["thing"] F_is_fraction)  : FnOk P w K mg base CX0 3 f fd ["one", "other"] (spOf K F_check_fractions) :=
  def_ok (cl := cl) Fn sc_check_fractions len_check_fractions (t := rd_check_fractions) (fun cdv A outer s H E hr => (mss_one (ms_if (mt_w (mw_or (mt_not (mt_val (m_callC [false] c_is_fraction (hr.mono (by decide)) (by rfl) (ma_cons (m_var (pv 0)) ma_nil)))) (mw_or1 (mt_not (mt_val (m_callC [false] c_is_fraction (hr.mono (by decide)) (by rfl) (ma_cons (m_var (pv 1)) ma_nil))))))) (mss_one ms_never) mss_nil))) pure_check_fractions
abbrev s_frac_mul : Stmt := topS 13
theorem sc_frac_mul : FnScope ["one", "other"] ["one", "other"] (defScope s_frac_mul) := ⟨rfl, rfl, rfl, by decide +kernel, rfl, by decide +kernel, by decide +kernel⟩
theorem fn_frac_mul {cl : String → Value} {f : Addr} {fd : FuncData} (Fn : Fun K "frac_mul" "frac_mul" s_frac_mul f fd) (g : mg "frac_mul" = some (.ref f))     (c_check_fractions : Callee P w K mg base 3 "check_fractions" ["one", "other"] F_check_fractions) (c_product : Callee P w K mg base 3 "product" ["one", "other"] F_product)  : FnOk P w K mg base CX0 4 f fd ["one", "other"] (spOf K F_frac_mul) :=
  def_ok (cl := cl) Fn sc_frac_mul len_frac_mul (t := rd_frac_mul) (fun cdv A outer s H E hr => (mss_cons (ms_expr (m_callC [false, false] c_check_fractions (hr.mono (by decide)) (by rfl) (ma_cons (m_var (pv 0)) (ma_cons (m_var (pv 1)) ma_nil))))
    (mss_one (ms_ret (m_callC [false, false] c_product (hr.mono (by decide)) (by rfl) (ma_cons (m_var (pv 0)) (ma_cons (m_var (pv 1)) ma_nil))))))) pure_frac_mul
abbrev s_frac_root : Stmt := topS 14
theorem sc_frac_root : FnScope ["one"] ["one"] (defScope s_frac_root) := ⟨rfl, rfl, rfl, by decide +kernel, rfl, by decide +kernel, by decide +kernel⟩
theorem fn_frac_root {cl : String → Value} {f : Addr} {fd : FuncData} (Fn : Fun K "frac_root" "frac_root" s_frac_root f fd) (g : mg "frac_root" = some (.ref f))   {i_NoFraction : Addr} (H_NoFraction : ClsF K mg cl "NoFraction" i_NoFraction)  (c_root_of : Callee P w K mg base 2 "root_of" ["one"] F_root_of) (c_is_fraction : Callee P w K mg base 2 "is_fraction" ["thing"] F_is_fraction)  : FnOk P w K mg base (L2.CX P w) 3 f fd ["one"] (spX K cl F_frac_root) :=
  def_okX Fn sc_frac_root len_frac_root (t := rd_frac_root) (fun cdv A outer s H E hr => (mss_cons (ms_if (mt_not (mt_val (m_callC [false] c_is_fraction (hr.mono (by decide)) (by rfl) (ma_cons (m_var (pv 0)) ma_nil)))) (mss_one (ms_raise0 rfl (takes_of rfl rfl rfl rfl) H_NoFraction.n (pmk_own0 PySem.F.excBase_ValueError H_NoFraction.x H_NoFraction.g H_NoFraction.k (raises_own H_NoFraction.b H_NoFraction.t) rfl))) mss_nil)
    (mss_one (ms_ret (m_callC [false] c_root_of (hr.mono (by decide)) (by rfl) (ma_cons (m_var (pv 0)) ma_nil)))))) pure_frac_root
abbrev s__law_mixed : Stmt := topS 16
theorem sc__law_mixed : FnScope ["cell", "k", "number"] ["cell", "k"] (defScope s__law_mixed) := ⟨rfl, rfl, rfl, by decide +kernel, rfl, by decide +kernel, by decide +kernel⟩
theorem fn__law_mixed {cl : String → Value} {f : Addr} {fd : FuncData} (Fn : Fun K "_law_mixed" "_law_mixed" s__law_mixed f fd) (g : mg "_law_mixed" = some (.ref f)) (z_int : mg "int" = none)      : FnOk P w K mg base CX0 1 f fd ["cell", "k"] (spOf K F__law_mixed) :=
  def_ok (cl := cl) Fn sc__law_mixed len__law_mixed (t := rd__law_mixed) (fun cdv A outer s H E hr => (mss_cons (ms_set (i := 2) sc__law_mixed.nd rfl (Or.inl rfl) (m_opI op_modL (m_callTy call_int1 cb_int (by rfl) z_int (by decide +kernel) (ma_cons (m_opI op_mulL (m_add (m_add (m_opI op_modL (m_callTy call_int1 cb_int (by rfl) z_int (by decide +kernel) (ma_cons (m_var (pv 0)) ma_nil)) m_int) (m_opI op_mulL m_int (m_var (pv 1)))) m_int) m_int) ma_nil)) m_int))
    (mss_cons (ms_set (i := 2) sc__law_mixed.nd rfl (Or.inl rfl) (m_opI op_modL (m_callTy call_int1 cb_int (by rfl) z_int (by decide +kernel) (ma_cons (m_opI op_mulL (m_var (pv 2)) (m_add (m_opI op_fdivW (m_var (pv 2)) m_int) m_int)) ma_nil)) m_int))
    (mss_one (ms_ret (m_opI op_modL (m_callTy call_int1 cb_int (by rfl) z_int (by decide +kernel) (ma_cons (m_opI op_mulL (m_var (pv 2)) (m_add (m_opI op_fdivW (m_var (pv 2)) m_int) m_int)) ma_nil)) m_int)))))) pure__law_mixed
abbrev s__law_great : Stmt := topS 17
theorem sc__law_great : FnScope ["cells", "place"] ["cells", "place"] (defScope s__law_great) := ⟨rfl, rfl, rfl, by decide +kernel, rfl, by decide +kernel, by decide +kernel⟩
theorem fn__law_great {cl : String → Value} {f : Addr} {fd : FuncData} (Fn : Fun K "_law_great" "_law_great" s__law_great f fd) (g : mg "_law_great" = some (.ref f)) (z_len : mg "len" = none) (z_abs : mg "abs" = none)      : FnOk P w K mg base CX0 1 f fd ["cells", "place"] (spOf K F__law_great) :=
  def_ok (cl := cl) Fn sc__law_great len__law_great (t := rd__law_great) (fun cdv A outer s H E hr => (mss_cons (ms_if (mt_w (mw_and (mc_int op_lt (m_var (pv 1)) (m_callB MP.call_len cb_len (by rfl) z_len (by decide +kernel) (ma_cons (m_var (pv 0)) ma_nil))).t (mw_and1 (mc_int op_ge (m_callB call_abs cb_abs (by rfl) z_abs (by decide +kernel) (ma_cons (m_ix (m_var (pv 0)) (m_var (pv 1)) (fun _ _ => rfl)) ma_nil)) (m_powC (by decide) (by decide +kernel))).t))) (mss_one (ms_ret (m_callB call_abs cb_abs (by rfl) z_abs (by decide +kernel) (ma_cons (m_ix (m_var (pv 0)) (m_var (pv 1)) (fun _ _ => rfl)) ma_nil)))) mss_nil)
    (mss_one (ms_ret m_int)))) pure__law_great
abbrev s__law_stream : Stmt := topS 18
theorem sc__law_stream : FnScope ["script", "cells"] ["script"] (defScope s__law_stream) := ⟨rfl, rfl, rfl, by decide +kernel, rfl, by decide +kernel, by decide +kernel⟩
theorem fn__law_stream {cl : String → Value} {f : Addr} {fd : FuncData} (Fn : Fun K "_law_stream" "_law_stream" s__law_stream f fd) (g : mg "_law_stream" = some (.ref f)) (z_list : mg "list" = none) (z_len : mg "len" = none)    (c__law_great : Callee P w K mg base 1 "_law_great" ["cells", "place"] F__law_great)  : FnOk P w K mg base CX0 2 f fd ["script"] (spOf K F__law_stream) :=
  def_ok (cl := cl) Fn sc__law_stream len__law_stream (t := rd__law_stream) (fun cdv A outer s H E hr => (mss_cons (ms_set (i := 1) sc__law_stream.nd rfl (Or.inl rfl) (m_callTy call_list_of cb_list (by rfl) z_list (by decide +kernel) (ma_cons (m_var (pv 0)) ma_nil)))
    (mss_cons (ms_if (mc_eq hr.units (m_callB MP.call_len cb_len (by rfl) z_len (by decide +kernel) (ma_cons (m_var (pv 1)) ma_nil)) m_int).t (mss_one (ms_set (i := 1) sc__law_stream.nd rfl (Or.inl rfl) (m_lst (ma_cons m_int ma_nil)))) mss_nil)
    (mss_one (ms_ret (m_lst (ma_cons (m_var (pv 1)) (ma_cons m_int (ma_cons (m_callC [true, false] c__law_great (hr.mono (by decide)) (by rfl) (ma_cons (m_var (pv 1)) (ma_cons m_int ma_nil))) (ma_cons m_int ma_nil)))))))))) pure__law_stream
abbrev s__law_take : Stmt := topS 19
theorem sc__law_take : FnScope ["stream", "many", "cells", "place", "digit"] ["stream", "many"] (defScope s__law_take) := ⟨rfl, rfl, rfl, by decide +kernel, rfl, by decide +kernel, by decide +kernel⟩
theorem fn__law_take {cl : String → Value} {f : Addr} {fd : FuncData} (Fn : Fun K "_law_take" "_law_take" s__law_take f fd) (g : mg "_law_take" = some (.ref f)) (z_int : mg "int" = none) (z_len : mg "len" = none)    (c__law_great : Callee P w K mg base 1 "_law_great" ["cells", "place"] F__law_great) (c__law_mixed : Callee P w K mg base 1 "_law_mixed" ["cell", "k"] F__law_mixed)  : FnOk P w K mg base CX0 2 f fd ["stream", "many"] (spOf K F__law_take) :=
  def_ok (cl := cl) Fn sc__law_take len__law_take (t := rd__law_take) (fun cdv A outer s H E hr => (mss_cons (ms_set (i := 2) sc__law_take.nd rfl (Or.inl rfl) (m_ix (m_var (pv 0)) m_int (fun _ _ => rfl)))
    (mss_cons (ms_set (i := 3) sc__law_take.nd rfl (Or.inl rfl) (m_ix (m_var (pv 0)) m_int (fun _ _ => rfl)))
    (mss_cons (ms_asg (m_add (m_ix (m_var (pv 0)) m_int (fun _ _ => rfl)) m_int) (mg_sub (m_var (pv 0)) m_int fun h1 h2 => pg_sub h1 h2 set_list))
    (mss_cons (ms_if (mc_int op_gt (m_ix (m_var (pv 0)) m_int (fun _ _ => rfl)) m_int).t (mss_cons (ms_set (i := 4) sc__law_take.nd rfl (Or.inl rfl) (m_opI op_modL (m_callTy call_int1 cb_int (by rfl) z_int (by decide +kernel) (ma_cons (m_ix (m_var (pv 0)) m_int (fun _ _ => rfl)) ma_nil)) (m_var (pv 1))))
    (mss_cons (ms_asg (m_opI op_fdivL (m_ix (m_var (pv 0)) m_int (fun _ _ => rfl)) (m_var (pv 1))) (mg_sub (m_var (pv 0)) m_int fun h1 h2 => pg_sub h1 h2 set_list))
    (mss_one (ms_if (mc_int op_gt (m_ix (m_var (pv 0)) m_int (fun _ _ => rfl)) m_int).t (mss_one (ms_ret (m_var (pv 4)))) mss_nil)))) (mss_one (ms_set (i := 4) sc__law_take.nd rfl (Or.inl rfl) (m_opI op_modL (m_callC [false, false] c__law_mixed (hr.mono (by decide)) (by rfl) (ma_cons (m_ix (m_var (pv 2)) (m_opI op_modL (m_callTy call_int1 cb_int (by rfl) z_int (by decide +kernel) (ma_cons (m_var (pv 3)) ma_nil)) (m_callB MP.call_len cb_len (by rfl) z_len (by decide +kernel) (ma_cons (m_var (pv 2)) ma_nil))) (fun _ _ => rfl)) (ma_cons (m_ix (m_var (pv 0)) m_int (fun _ _ => rfl)) ma_nil))) (m_var (pv 1))))))
    (mss_cons (ms_asg (m_add (m_var (pv 3)) m_int) (mg_sub (m_var (pv 0)) m_int fun h1 h2 => pg_sub h1 h2 set_list))
    (mss_cons (ms_asg (m_callC [false, false] c__law_great (hr.mono (by decide)) (by rfl) (ma_cons (m_var (pv 2)) (ma_cons (m_add (m_var (pv 3)) m_int) ma_nil))) (mg_sub (m_var (pv 0)) m_int fun h1 h2 => pg_sub h1 h2 set_list))
    (mss_one (ms_ret (m_var (pv 4))))))))))) pure__law_take
abbrev s__law_low : Stmt := topS 20
theorem sc__law_low : FnScope ["top", "bottom", "one", "other"] ["top", "bottom"] (defScope s__law_low) := ⟨rfl, rfl, rfl, by decide +kernel, rfl, by decide +kernel, by decide +kernel⟩
theorem fn__law_low {cl : String → Value} {f : Addr} {fd : FuncData} (Fn : Fun K "_law_low" "_law_low" s__law_low f fd) (g : mg "_law_low" = some (.ref f)) (z_abs : mg "abs" = none) (z_int : mg "int" = none)      : FnOk P w K mg base CX0 1 f fd ["top", "bottom"] (spOf K F__law_low) :=
  def_ok (cl := cl) Fn sc__law_low len__law_low (t := rd__law_low) (fun cdv A outer s H E hr => (mss_cons (ms_set (i := 2) sc__law_low.nd rfl (Or.inl rfl) (m_callB call_abs cb_abs (by rfl) z_abs (by decide +kernel) (ma_cons (m_var (pv 0)) ma_nil)))
    (mss_cons (ms_set (i := 3) sc__law_low.nd rfl (Or.inl rfl) (m_callB call_abs cb_abs (by rfl) z_abs (by decide +kernel) (ma_cons (m_var (pv 1)) ma_nil)))
    (mss_cons (ms_while PassesOwn.never (mc_int op_gt (m_var (pv 3)) m_int).t (mss_one (ms_par (i := 2) (j := 3) (ma_cons (m_var (pv 3)) (ma_cons (m_opI op_modL (m_callTy call_int1 cb_int (by rfl) z_int (by decide +kernel) (ma_cons (m_var (pv 2)) ma_nil)) (m_var (pv 3))) ma_nil)) fun h => ps_par (by rfl) sc__law_low.nd rfl rfl (by decide) rfl rfl h (by rfl))))
    (mss_cons (ms_if (mc_int op_lt (m_var (pv 1)) m_int).t (mss_one (ms_set (i := 2) sc__law_low.nd rfl (Or.inl rfl) (m_unI un_neg (m_var (pv 2))))) mss_nil)
    (mss_one (ms_ret (m_tup (ma_cons (m_opI op_fdivL (m_var (pv 0)) (m_var (pv 2))) (ma_cons (m_opI op_fdivL (m_var (pv 1)) (m_var (pv 2))) ma_nil)))))))))) pure__law_low
abbrev s__law_mul : Stmt := topS 21
theorem sc__law_mul : FnScope ["one", "other"] ["one", "other"] (defScope s__law_mul) := ⟨rfl, rfl, rfl, by decide +kernel, rfl, by decide +kernel, by decide +kernel⟩
theorem fn__law_mul {cl : String → Value} {f : Addr} {fd : FuncData} (Fn : Fun K "_law_mul" "_law_mul" s__law_mul f fd) (g : mg "_law_mul" = some (.ref f))     (c__law_low : Callee P w K mg base 1 "_law_low" ["top", "bottom"] F__law_low)  : FnOk P w K mg base CX0 2 f fd ["one", "other"] (spOf K F__law_mul) :=
  def_ok (cl := cl) Fn sc__law_mul len__law_mul (t := rd__law_mul) (fun cdv A outer s H E hr => (mss_one (ms_ret (m_callC [false, false] c__law_low (hr.mono (by decide)) (by rfl) (ma_cons (m_opI op_mulL (m_ix (m_var (pv 0)) m_int (fun _ _ => rfl)) (m_ix (m_var (pv 1)) m_int (fun _ _ => rfl))) (ma_cons (m_opI op_mulL (m_ix (m_var (pv 0)) m_int (fun _ _ => rfl)) (m_ix (m_var (pv 1)) m_int (fun _ _ => rfl))) ma_nil)))))) pure__law_mul
abbrev s__law_root : Stmt := topS 22
theorem sc__law_root : FnScope ["number", "root", "k", "better"] ["number"] (defScope s__law_root) := ⟨rfl, rfl, rfl, by decide +kernel, rfl, by decide +kernel, by decide +kernel⟩
theorem fn__law_root {cl : String → Value} {f : Addr} {fd : FuncData} (Fn : Fun K "_law_root" "_law_root" s__law_root f fd) (g : mg "_law_root" = some (.ref f)) (z_range : mg "range" = none)      : FnOk P w K mg base CX0 1 f fd ["number"] (spOf K F__law_root) :=
  def_ok (cl := cl) Fn sc__law_root len__law_root (t := rd__law_root) (fun cdv A outer s H E hr => (mss_cons (ms_if (mc_eq hr.units (m_var (pv 0)) m_int).t (mss_one (ms_ret m_int)) mss_nil)
    (mss_cons (ms_set (i := 1) sc__law_root.nd rfl (Or.inl rfl) (m_opI op_shlW m_int (m_opI op_fdivW (m_add (m_bits (m_var (pv 0))) m_int) m_int)))
    (mss_cons (ms_for PassesOwn.never rfl (mi_range1 (by rfl) z_range (m_add (m_bits (m_var (pv 0))) m_int)) (mg_name (pg_name (i := 2) sc__law_root.nd rfl (Or.inl rfl))) (mss_cons (ms_set (i := 3) sc__law_root.nd rfl (Or.inl rfl) (m_opI op_fdivW (m_add (m_var (pv 1)) (m_opI op_fdivL (m_var (pv 0)) (m_var (pv 1)))) m_int))
    (mss_cons (ms_if (mc_int op_ge (m_var (pv 3)) (m_var (pv 1))).t (mss_one ms_break) mss_nil)
    (mss_one (ms_set (i := 1) sc__law_root.nd rfl (Or.inl rfl) (m_var (pv 3)))))))
    (mss_cons (ms_if (mc_eq hr.units (m_opI op_mulL (m_var (pv 1)) (m_var (pv 1))) (m_var (pv 0))).t (mss_one (ms_ret (m_var (pv 1)))) mss_nil)
    (mss_one (ms_ret m_non))))))) pure__law_root
abbrev s__law_whole : Stmt := topS 23
theorem sc__law_whole : FnScope ["stream", "size", "sign", "number"] ["stream"] (defScope s__law_whole) := ⟨rfl, rfl, rfl, by decide +kernel, rfl, by decide +kernel, by decide +kernel⟩
theorem fn__law_whole {cl : String → Value} {f : Addr} {fd : FuncData} (Fn : Fun K "_law_whole" "_law_whole" s__law_whole f fd) (g : mg "_law_whole" = some (.ref f))     (c__law_take : Callee P w K mg base 2 "_law_take" ["stream", "many"] F__law_take)  : FnOk P w K mg base CX0 3 f fd ["stream"] (spOf K F__law_whole) :=
  def_ok (cl := cl) Fn sc__law_whole len__law_whole (t := rd__law_whole) (fun cdv A outer s H E hr => (mss_cons (ms_set (i := 1) sc__law_whole.nd rfl (Or.inl rfl) (m_callC [true, false] c__law_take (hr.mono (by decide)) (by rfl) (ma_cons (m_var (pv 0)) (ma_cons m_int ma_nil))))
    (mss_cons (ms_set (i := 2) sc__law_whole.nd rfl (Or.inl rfl) (m_opI0 op_sub m_int (m_opI op_mulL m_int (m_callC [true, false] c__law_take (hr.mono (by decide)) (by rfl) (ma_cons (m_var (pv 0)) (ma_cons m_int ma_nil))))))
    (mss_cons (ms_if (mc_eq hr.units (m_var (pv 1)) m_int).t (mss_one (ms_ret (m_opI op_mulL (m_var (pv 2)) (m_callC [true, false] c__law_take (hr.mono (by decide)) (by rfl) (ma_cons (m_var (pv 0)) (ma_cons m_int ma_nil)))))) mss_nil)
    (mss_cons (ms_if (mc_eq hr.units (m_var (pv 1)) m_int).t (mss_one (ms_ret (m_opI op_mulL (m_var (pv 2)) (m_callC [true, false] c__law_take (hr.mono (by decide)) (by rfl) (ma_cons (m_var (pv 0)) (ma_cons m_int ma_nil)))))) mss_nil)
    (mss_cons (ms_if (mc_eq hr.units (m_var (pv 1)) m_int).t (mss_one (ms_ret (m_opI op_mulL (m_var (pv 2)) (m_callC [true, false] c__law_take (hr.mono (by decide)) (by rfl) (ma_cons (m_var (pv 0)) (ma_cons (m_powC (by decide) (by decide +kernel)) ma_nil)))))) mss_nil)
    (mss_cons (ms_set (i := 3) sc__law_whole.nd rfl (Or.inl rfl) (m_add (m_opI op_mulL (m_callC [true, false] c__law_take (hr.mono (by decide)) (by rfl) (ma_cons (m_var (pv 0)) (ma_cons (m_powC (by decide) (by decide +kernel)) ma_nil))) (m_powC (by decide) (by decide +kernel))) (m_callC [true, false] c__law_take (hr.mono (by decide)) (by rfl) (ma_cons (m_var (pv 0)) (ma_cons (m_powC (by decide) (by decide +kernel)) ma_nil)))))
    (mss_cons (ms_if (mc_eq hr.units (m_var (pv 1)) m_int).t (mss_one (ms_ret (m_opI op_mulL (m_var (pv 2)) (m_var (pv 3))))) mss_nil)
    (mss_one (ms_ret (m_opI op_mulL (m_var (pv 2)) (m_add (m_opI op_mulL (m_var (pv 3)) (m_powC (by decide) (by decide +kernel))) (m_callC [true, false] c__law_take (hr.mono (by decide)) (by rfl) (ma_cons (m_var (pv 0)) (ma_cons (m_powC (by decide) (by decide +kernel)) ma_nil))))))))))))))) pure__law_whole
abbrev s__law_fraction : Stmt := topS 24
theorem sc__law_fraction : FnScope ["stream", "top"] ["stream"] (defScope s__law_fraction) := ⟨rfl, rfl, rfl, by decide +kernel, rfl, by decide +kernel, by decide +kernel⟩
theorem fn__law_fraction {cl : String → Value} {f : Addr} {fd : FuncData} (Fn : Fun K "_law_fraction" "_law_fraction" s__law_fraction f fd) (g : mg "_law_fraction" = some (.ref f)) (z_abs : mg "abs" = none)    (c__law_whole : Callee P w K mg base 3 "_law_whole" ["stream"] F__law_whole) (c__law_low : Callee P w K mg base 1 "_law_low" ["top", "bottom"] F__law_low)  : FnOk P w K mg base CX0 4 f fd ["stream"] (spOf K F__law_fraction) :=
  def_ok (cl := cl) Fn sc__law_fraction len__law_fraction (t := rd__law_fraction) (fun cdv A outer s H E hr => (mss_cons (ms_set (i := 1) sc__law_fraction.nd rfl (Or.inl rfl) (m_callC [true] c__law_whole (hr.mono (by decide)) (by rfl) (ma_cons (m_var (pv 0)) ma_nil)))
    (mss_one (ms_ret (m_callC [false, false] c__law_low (hr.mono (by decide)) (by rfl) (ma_cons (m_var (pv 1)) (ma_cons (m_add m_int (m_callB call_abs cb_abs (by rfl) z_abs (by decide +kernel) (ma_cons (m_callC [true] c__law_whole (hr.mono (by decide)) (by rfl) (ma_cons (m_var (pv 0)) ma_nil)) ma_nil))) ma_nil))))))) pure__law_fraction
abbrev s__law_is_integer : Stmt := topS 25
theorem sc__law_is_integer : FnScope ["thing"] ["thing"] (defScope s__law_is_integer) := ⟨rfl, rfl, rfl, by decide +kernel, rfl, by decide +kernel, by decide +kernel⟩
theorem fn__law_is_integer {cl : String → Value} {f : Addr} {fd : FuncData} (Fn : Fun K "_law_is_integer" "_law_is_integer" s__law_is_integer f fd) (g : mg "_law_is_integer" = some (.ref f)) (z_isinstance : mg "isinstance" = none) (z_int : mg "int" = none) (z_bool : mg "bool" = none)      : FnOk P w K mg base CX0 1 f fd ["thing"] (spOf K F__law_is_integer) :=
  def_ok (cl := cl) Fn sc__law_is_integer len__law_is_integer (t := rd__law_is_integer) (fun cdv A outer s H E hr => (mss_one (ms_ret (m_and (m_isi .int (by decide) (by rfl) z_isinstance (by rfl) z_int (by decide +kernel) (m_var (pv 0))) (m_one (m_not (m_isi .bool (by decide) (by rfl) z_isinstance (by rfl) z_bool (by decide +kernel) (m_var (pv 0))))))))) pure__law_is_integer
abbrev s__law_is_frac : Stmt := topS 26
theorem sc__law_is_frac : FnScope ["thing"] ["thing"] (defScope s__law_is_frac) := ⟨rfl, rfl, rfl, by decide +kernel, rfl, by decide +kernel, by decide +kernel⟩
theorem fn__law_is_frac {cl : String → Value} {f : Addr} {fd : FuncData} (Fn : Fun K "_law_is_frac" "_law_is_frac" s__law_is_frac f fd) (g : mg "_law_is_frac" = some (.ref f)) (z_isinstance : mg "isinstance" = none) (z_tuple : mg "tuple" = none) (z_len : mg "len" = none)    (c__law_low : Callee P w K mg base 1 "_law_low" ["top", "bottom"] F__law_low) (c__law_is_integer : Callee P w K mg base 1 "_law_is_integer" ["thing"] F__law_is_integer)  : FnOk P w K mg base CX0 2 f fd ["thing"] (spOf K F__law_is_frac) :=
  def_ok (cl := cl) Fn sc__law_is_frac len__law_is_frac (t := rd__law_is_frac) (fun cdv A outer s H E hr => (mss_cons (ms_if (mt_w (mw_or (mt_not (mt_val (m_isi .tup (by decide) (by rfl) z_isinstance (by rfl) z_tuple (by decide +kernel) (m_var (pv 0))))) (mw_or1 (mc_ne hr.units (m_callB MP.call_len cb_len (by rfl) z_len (by decide +kernel) (ma_cons (m_var (pv 0)) ma_nil)) m_int).t))) (mss_one (ms_ret m_bl)) mss_nil)
    (mss_cons (ms_if (mt_w (mw_or (mt_not (mt_val (m_callC [false] c__law_is_integer (hr.mono (by decide)) (by rfl) (ma_cons (m_ix (m_var (pv 0)) m_int (fun _ _ => rfl)) ma_nil)))) (mw_or (mt_not (mt_val (m_callC [false] c__law_is_integer (hr.mono (by decide)) (by rfl) (ma_cons (m_ix (m_var (pv 0)) m_int (fun _ _ => rfl)) ma_nil)))) (mw_or1 (mc_int op_lt (m_ix (m_var (pv 0)) m_int (fun _ _ => rfl)) m_int).t)))) (mss_one (ms_ret m_bl)) mss_nil)
    (mss_one (ms_ret (mc_eq hr.units (m_callC [false, false] c__law_low (hr.mono (by decide)) (by rfl) (ma_cons (m_ix (m_var (pv 0)) m_int (fun _ _ => rfl)) (ma_cons (m_ix (m_var (pv 0)) m_int (fun _ _ => rfl)) ma_nil))) (m_var (pv 0))).e))))) pure__law_is_frac
abbrev s__law_no_fraction : Stmt := topS 27
theorem sc__law_no_fraction : FnScope ["stream", "rows"] ["stream"] (defScope s__law_no_fraction) := ⟨rfl, rfl, rfl, by decide +kernel, rfl, by decide +kernel, by decide +kernel⟩
theorem fn__law_no_fraction {cl : String → Value} {f : Addr} {fd : FuncData} (Fn : Fun K "_law_no_fraction" "_law_no_fraction" s__law_no_fraction f fd) (g : mg "_law_no_fraction" = some (.ref f)) (z_len : mg "len" = none)    (c__law_take : Callee P w K mg base 2 "_law_take" ["stream", "many"] F__law_take)  : FnOk P w K mg base CX0 3 f fd ["stream"] (spOf K F__law_no_fraction) :=
  def_ok (cl := cl) Fn sc__law_no_fraction len__law_no_fraction (t := rd__law_no_fraction) (fun cdv A outer s H E hr => (mss_cons (ms_set (i := 1) sc__law_no_fraction.nd rfl (Or.inl rfl) (m_lst (ma_cons m_non (ma_cons m_bl (ma_cons m_int (ma_cons m_str (ma_cons (m_lst (ma_cons m_int (ma_cons m_int ma_nil))) (ma_cons (m_tup (ma_cons m_int (ma_cons m_int ma_nil))) (ma_cons (m_tup (ma_cons m_int (ma_cons m_int ma_nil))) (ma_cons (m_tup (ma_cons m_int (ma_cons (m_unI un_neg m_int) ma_nil))) (ma_cons (m_tup (ma_cons m_bl (ma_cons m_int ma_nil))) (ma_cons (m_tup (ma_cons m_int (ma_cons m_int ma_nil))) (ma_cons (m_tup (ma_cons m_int ma_nil)) (ma_cons (m_tup (ma_cons m_int (ma_cons m_int (ma_cons m_int ma_nil)))) (ma_cons m_dct0 (ma_cons (m_tup (ma_cons (m_tup (ma_cons m_int (ma_cons m_int ma_nil))) (ma_cons m_int ma_nil))) ma_nil))))))))))))))))
    (mss_cons (ms_set (i := 1) sc__law_no_fraction.nd rfl (Or.inl rfl) (m_add (m_var (pv 1)) (m_lst (ma_cons (m_tup (ma_cons m_int (ma_cons m_bl ma_nil))) (ma_cons (m_tup ma_nil) (ma_cons m_str (ma_cons m_int (ma_cons m_bl (ma_cons (m_tup (ma_cons m_int (ma_cons m_str ma_nil))) (ma_cons (m_lst (ma_cons (m_tup (ma_cons m_int (ma_cons m_int ma_nil))) ma_nil)) (ma_cons (m_tup (ma_cons m_non (ma_cons m_int ma_nil))) (ma_cons (m_tup (ma_cons (m_unI un_neg m_int) (ma_cons m_int ma_nil))) (ma_cons (m_tup (ma_cons m_int (ma_cons (m_unI un_neg m_int) ma_nil))) ma_nil)))))))))))))
    (mss_one (ms_ret (m_ix (m_var (pv 1)) (m_callC [true, false] c__law_take (hr.mono (by decide)) (by rfl) (ma_cons (m_var (pv 0)) (ma_cons (m_callB MP.call_len cb_len (by rfl) z_len (by decide +kernel) (ma_cons (m_var (pv 1)) ma_nil)) ma_nil))) (fun _ _ => rfl))))))) pure__law_no_fraction
abbrev s__law_thing : Stmt := topS 28
theorem sc__law_thing : FnScope ["stream", "kind", "small", "top", "bottom", "base", "square"] ["stream"] (defScope s__law_thing) := ⟨rfl, rfl, rfl, by decide +kernel, rfl, by decide +kernel, by decide +kernel⟩
theorem fn__law_thing {cl : String → Value} {f : Addr} {fd : FuncData} (Fn : Fun K "_law_thing" "_law_thing" s__law_thing f fd) (g : mg "_law_thing" = some (.ref f))     (c__law_take : Callee P w K mg base 2 "_law_take" ["stream", "many"] F__law_take) (c__law_low : Callee P w K mg base 1 "_law_low" ["top", "bottom"] F__law_low) (c__law_fraction : Callee P w K mg base 4 "_law_fraction" ["stream"] F__law_fraction) (c__law_mul : Callee P w K mg base 2 "_law_mul" ["one", "other"] F__law_mul) (c__law_no_fraction : Callee P w K mg base 3 "_law_no_fraction" ["stream"] F__law_no_fraction)  : FnOk P w K mg base CX0 5 f fd ["stream"] (spOf K F__law_thing) :=
  def_ok (cl := cl) Fn sc__law_thing len__law_thing (t := rd__law_thing) (fun cdv A outer s H E hr => (mss_cons (ms_set (i := 1) sc__law_thing.nd rfl (Or.inl rfl) (m_callC [true, false] c__law_take (hr.mono (by decide)) (by rfl) (ma_cons (m_var (pv 0)) (ma_cons m_int ma_nil))))
    (mss_cons (ms_set (i := 2) sc__law_thing.nd rfl (Or.inl rfl) (m_callC [false, false] c__law_low (hr.mono (by decide)) (by rfl) (ma_cons (m_add m_int (m_callC [true, false] c__law_take (hr.mono (by decide)) (by rfl) (ma_cons (m_var (pv 0)) (ma_cons m_int ma_nil)))) (ma_cons (m_add m_int (m_callC [true, false] c__law_take (hr.mono (by decide)) (by rfl) (ma_cons (m_var (pv 0)) (ma_cons m_int ma_nil)))) ma_nil))))
    (mss_cons (ms_set (i := 3) sc__law_thing.nd rfl (Or.inl rfl) (m_callC [true, false] c__law_take (hr.mono (by decide)) (by rfl) (ma_cons (m_var (pv 0)) (ma_cons (m_powC (by decide) (by decide +kernel)) ma_nil))))
    (mss_cons (ms_set (i := 4) sc__law_thing.nd rfl (Or.inl rfl) (m_add m_int (m_callC [true, false] c__law_take (hr.mono (by decide)) (by rfl) (ma_cons (m_var (pv 0)) (ma_cons (m_powC (by decide) (by decide +kernel)) ma_nil)))))
    (mss_cons (ms_if (mc_eq hr.units (m_callC [true, false] c__law_take (hr.mono (by decide)) (by rfl) (ma_cons (m_var (pv 0)) (ma_cons m_int ma_nil))) m_int).t (mss_cons (ms_set (i := 3) sc__law_thing.nd rfl (Or.inl rfl) (m_add (m_opI op_mulL (m_var (pv 3)) (m_powC (by decide) (by decide +kernel))) (m_callC [true, false] c__law_take (hr.mono (by decide)) (by rfl) (ma_cons (m_var (pv 0)) (ma_cons (m_powC (by decide) (by decide +kernel)) ma_nil)))))
    (mss_one (ms_set (i := 4) sc__law_thing.nd rfl (Or.inl rfl) (m_add (m_opI op_mulL (m_var (pv 4)) (m_powC (by decide) (by decide +kernel))) (m_callC [true, false] c__law_take (hr.mono (by decide)) (by rfl) (ma_cons (m_var (pv 0)) (ma_cons (m_powC (by decide) (by decide +kernel)) ma_nil))))))) mss_nil)
    (mss_cons (ms_set (i := 5) sc__law_thing.nd rfl (Or.inl rfl) (m_callC [false, false] c__law_low (hr.mono (by decide)) (by rfl) (ma_cons (m_var (pv 3)) (ma_cons (m_var (pv 4)) ma_nil))))
    (mss_cons (ms_set (i := 6) sc__law_thing.nd rfl (Or.inl rfl) (m_tup (ma_cons (m_opI op_mulL (m_ix (m_var (pv 5)) m_int (fun _ _ => rfl)) (m_ix (m_var (pv 5)) m_int (fun _ _ => rfl))) (ma_cons (m_opI op_mulL (m_ix (m_var (pv 5)) m_int (fun _ _ => rfl)) (m_ix (m_var (pv 5)) m_int (fun _ _ => rfl))) ma_nil))))
    (mss_cons (ms_if (mc_int op_lt (m_var (pv 1)) m_int).t (mss_one (ms_ret (m_var (pv 6)))) mss_nil)
    (mss_cons (ms_if (mc_eq hr.units (m_var (pv 1)) m_int).t (mss_one (ms_ret (m_callC [false, false] c__law_mul (hr.mono (by decide)) (by rfl) (ma_cons (m_var (pv 6)) (ma_cons (m_var (pv 2)) ma_nil))))) mss_nil)
    (mss_cons (ms_if (mc_eq hr.units (m_var (pv 1)) m_int).t (mss_one (ms_ret (m_tup (ma_cons (m_unI un_neg (m_ix (m_var (pv 6)) m_int (fun _ _ => rfl))) (ma_cons (m_ix (m_var (pv 6)) m_int (fun _ _ => rfl)) ma_nil))))) mss_nil)
    (mss_cons (ms_if (mc_eq hr.units (m_var (pv 1)) m_int).t (mss_one (ms_ret (m_var (pv 2)))) mss_nil)
    (mss_cons (ms_if (mc_eq hr.units (m_var (pv 1)) m_int).t (mss_one (ms_ret (m_callC [true] c__law_no_fraction (hr.mono (by decide)) (by rfl) (ma_cons (m_var (pv 0)) ma_nil)))) mss_nil)
    (mss_one (ms_ret (m_callC [true] c__law_fraction (hr.mono (by decide)) (by rfl) (ma_cons (m_var (pv 0)) ma_nil))))))))))))))))) pure__law_thing
abbrev s__law_has_root : Stmt := topS 29
theorem sc__law_has_root : FnScope ["one"] ["one"] (defScope s__law_has_root) := ⟨rfl, rfl, rfl, by decide +kernel, rfl, by decide +kernel, by decide +kernel⟩
theorem fn__law_has_root {cl : String → Value} {f : Addr} {fd : FuncData} (Fn : Fun K "_law_has_root" "_law_has_root" s__law_has_root f fd) (g : mg "_law_has_root" = some (.ref f))     (c__law_root : Callee P w K mg base 1 "_law_root" ["number"] F__law_root)  : FnOk P w K mg base CX0 2 f fd ["one"] (spOf K F__law_has_root) :=
  def_ok (cl := cl) Fn sc__law_has_root len__law_has_root (t := rd__law_has_root) (fun cdv A outer s H E hr => (mss_one (ms_ret (m_and (mc_int op_ge (m_ix (m_var (pv 0)) m_int (fun _ _ => rfl)) m_int).e (m_and (mc_notN (m_callC [false] c__law_root (hr.mono (by decide)) (by rfl) (ma_cons (m_ix (m_var (pv 0)) m_int (fun _ _ => rfl)) ma_nil))).e (m_one (mc_notN (m_callC [false] c__law_root (hr.mono (by decide)) (by rfl) (ma_cons (m_ix (m_var (pv 0)) m_int (fun _ _ => rfl)) ma_nil))).e)))))) pure__law_has_root
abbrev s__law_asked : Stmt := topS 30
theorem sc__law_asked : FnScope ["thing", "refused", "told"] ["thing"] (defScope s__law_asked) := ⟨rfl, rfl, rfl, by decide +kernel, rfl, by decide +kernel, by decide +kernel⟩
theorem fn__law_asked {cl : String → Value} {f : Addr} {fd : FuncData} (Fn : Fun K "_law_asked" "_law_asked" s__law_asked f fd) (g : mg "_law_asked" = some (.ref f))   {i_NoFraction : Addr} (H_NoFraction : ClsF K mg cl "NoFraction" i_NoFraction) (e_NoFraction_NoFraction : PySem.W.exmOne K (.ref i_NoFraction) (.ref i_NoFraction) = some true) (c_frac_root : CalleeX P w K mg base cl 3 "frac_root" ["one"] F_frac_root) (c__law_is_frac : Callee P w K mg base 2 "_law_is_frac" ["thing"] F__law_is_frac) (c__law_has_root : Callee P w K mg base 2 "_law_has_root" ["one"] F__law_has_root) (c_frac_mul : Callee P w K mg base 4 "frac_mul" ["one", "other"] F_frac_mul) (kw_frac_root : CallKw P w K mg base 3 "frac_root" ["one"] (FX.calm F_frac_root)) : FnOk P w K mg base CX0 5 f fd ["thing"] (spOf K F__law_asked) :=
  def_ok (cl := cl) Fn sc__law_asked len__law_asked (t := rd__law_asked) (fun cdv A outer s H E hr => (mss_cons (ms_set (i := 1) sc__law_asked.nd rfl (Or.inl rfl) m_bl)
    (mss_cons (ms_set (i := 2) sc__law_asked.nd rfl (Or.inl rfl) m_non)
    (mss_cons (ms_try (tab := [("NoFraction", true)]) rfl rfl ⟨rfl, by decide, .inl H_NoFraction.g⟩ takes0 (tab_cons H_NoFraction.n e_NoFraction_NoFraction tab_nil) (fun W pn xe tk po => (mss_one (ms_set (i := 2) sc__law_asked.nd rfl (Or.inl rfl) (m_callX [false] tk c_frac_root (hr.mono (by decide)) (by rfl) (ma_cons (m_var (pv 0)) ma_nil))))) (fun a oe pn => (mss_one (ms_set (i := 1) sc__law_asked.nd rfl (Or.inl rfl) m_bl))))
    (mss_cons (ms_if (mt_not (mt_val (m_callC [false] c__law_is_frac (hr.mono (by decide)) (by rfl) (ma_cons (m_var (pv 0)) ma_nil)))) (mss_one (ms_ret (m_var (pv 1)))) mss_nil)
    (mss_cons (ms_if (mt_val (m_var (pv 1))) (mss_one (ms_ret m_bl)) mss_nil)
    (mss_cons (ms_if (mt_not (mt_val (m_callC [false] c__law_has_root (hr.mono (by decide)) (by rfl) (ma_cons (m_var (pv 0)) ma_nil)))) (mss_one (ms_ret (mc_isN (m_var (pv 2))).e)) mss_nil)
    (mss_cons (ms_if (mt_w (mw_or (mt_not (mt_val (m_callC [false] c__law_is_frac (hr.mono (by decide)) (by rfl) (ma_cons (m_var (pv 2)) ma_nil)))) (mw_or1 (mc_int op_lt (m_ix (m_var (pv 2)) m_int (fun _ _ => rfl)) m_int).t))) (mss_one (ms_ret m_bl)) mss_nil)
    (mss_cons (ms_if (mc_ne hr.units (m_opI op_mulL (m_opI op_mulL (m_ix (m_var (pv 2)) m_int (fun _ _ => rfl)) (m_ix (m_var (pv 2)) m_int (fun _ _ => rfl))) (m_ix (m_var (pv 0)) m_int (fun _ _ => rfl))) (m_opI op_mulL (m_opI op_mulL (m_ix (m_var (pv 0)) m_int (fun _ _ => rfl)) (m_ix (m_var (pv 2)) m_int (fun _ _ => rfl))) (m_ix (m_var (pv 2)) m_int (fun _ _ => rfl)))).t (mss_one (ms_ret m_bl)) mss_nil)
    (mss_one (ms_ret (mc_eq hr.units (m_callKw [false] kw_frac_root (hr.mono (by decide)) (by rfl) (mk_cons (m_callC [false, false] c_frac_mul (hr.mono (by decide)) (by rfl) (ma_cons (m_var (pv 2)) (ma_cons (m_var (pv 2)) ma_nil))) mk_nil)) (m_var (pv 2))).e))))))))))) pure__law_asked
abbrev s_law : Stmt := topS 31
theorem sc_law : FnScope ["script", "stream", "k"] ["script"] (defScope s_law) := ⟨rfl, rfl, rfl, by decide +kernel, rfl, by decide +kernel, by decide +kernel⟩
theorem fn_law {cl : String → Value} {f : Addr} {fd : FuncData} (Fn : Fun K "law" "law" s_law f fd) (g : mg "law" = some (.ref f)) (z_range : mg "range" = none) (z_min : mg "min" = none) (z_len : mg "len" = none)    (c__law_stream : Callee P w K mg base 2 "_law_stream" ["script"] F__law_stream) (c__law_asked : Callee P w K mg base 5 "_law_asked" ["thing"] F__law_asked) (c__law_thing : Callee P w K mg base 5 "_law_thing" ["stream"] F__law_thing)  : FnOk P w K mg base CX0 6 f fd ["script"] (spOf K F_law) :=
  def_ok (cl := cl) Fn sc_law len_law (t := rd_law) (fun cdv A outer s H E hr => (mss_cons (ms_set (i := 1) sc_law.nd rfl (Or.inl rfl) (m_callC [false] c__law_stream (hr.mono (by decide)) (by rfl) (ma_cons (m_var (pv 0)) ma_nil)))
    (mss_cons (ms_for PassesOwn.never rfl (mi_range1 (by rfl) z_range (m_add m_int (m_callB (call_min2 rfl) cb_min2 (by rfl) z_min (by decide +kernel) (ma_cons m_int (ma_cons (m_callB MP.call_len cb_len (by rfl) z_len (by decide +kernel) (ma_cons (m_var (pv 0)) ma_nil)) ma_nil))))) (mg_name (pg_name (i := 2) sc_law.nd rfl (Or.inl rfl))) (mss_one (ms_if (mt_not (mt_val (m_callC [false] c__law_asked (hr.mono (by decide)) (by rfl) (ma_cons (m_callC [true] c__law_thing (hr.mono (by decide)) (by rfl) (ma_cons (m_var (pv 1)) ma_nil)) ma_nil)))) (mss_one (ms_ret m_bl)) mss_nil)))
    (mss_one (ms_ret m_bl))))) pure_law
end
theorem all_mk {P : Program} {w : World} {K : PySem.W.Frag} {h : Heap} {mg : Str → Option Value} {fa f_is_integer f_common_part f_lowest f_is_fraction f_product f_whole_root f_root_of f_check_fractions f_frac_mul f_frac_root f__law_mixed f__law_great f__law_stream f__law_take f__law_low f__law_mul f__law_root f__law_whole f__law_fraction f__law_is_integer f__law_is_frac f__law_no_fraction f__law_thing f__law_has_root f__law_asked f_law : Addr} (X : K.In h) (G : h.Ns mainGlobals mg) (hfa : mg "law" = some (.ref fa))
    {od_is_integer an_is_integer od_common_part an_common_part od_lowest an_lowest od_is_fraction an_is_fraction od_product an_product od_whole_root an_whole_root od_root_of an_root_of od_check_fractions an_check_fractions od_frac_mul an_frac_mul od_frac_root an_frac_root od__law_mixed an__law_mixed od__law_great an__law_great od__law_stream an__law_stream od__law_take an__law_take od__law_low an__law_low od__law_mul an__law_mul od__law_root an__law_root od__law_whole an__law_whole od__law_fraction an__law_fraction od__law_is_integer an__law_is_integer od__law_is_frac an__law_is_frac od__law_no_fraction an__law_no_fraction od__law_thing an__law_thing od__law_has_root an__law_has_root od__law_asked an__law_asked od_law an_law : Option Addr} {sl_is_integer sl_common_part sl_lowest sl_is_fraction sl_product sl_whole_root sl_root_of sl_check_fractions sl_frac_mul sl_frac_root sl__law_mixed sl__law_great sl__law_stream sl__law_take sl__law_low sl__law_mul sl__law_root sl__law_whole sl__law_fraction sl__law_is_integer sl__law_is_frac sl__law_no_fraction sl__law_thing sl__law_has_root sl__law_asked sl_law : Array (Option Value)} {oc_is_integer kV_is_integer dc_is_integer pm_is_integer cd_is_integer ct_is_integer oc_common_part kV_common_part dc_common_part pm_common_part cd_common_part ct_common_part oc_lowest kV_lowest dc_lowest pm_lowest cd_lowest ct_lowest oc_is_fraction kV_is_fraction dc_is_fraction pm_is_fraction cd_is_fraction ct_is_fraction oc_product kV_product dc_product pm_product cd_product ct_product oc_whole_root kV_whole_root dc_whole_root pm_whole_root cd_whole_root ct_whole_root oc_root_of kV_root_of dc_root_of pm_root_of cd_root_of ct_root_of oc_check_fractions kV_check_fractions dc_check_fractions pm_check_fractions cd_check_fractions ct_check_fractions oc_frac_mul kV_frac_mul dc_frac_mul pm_frac_mul cd_frac_mul ct_frac_mul oc_frac_root kV_frac_root dc_frac_root pm_frac_root cd_frac_root ct_frac_root oc__law_mixed kV__law_mixed dc__law_mixed pm__law_mixed cd__law_mixed ct__law_mixed oc__law_great kV__law_great dc__law_great pm__law_great cd__law_great ct__law_great oc__law_stream kV__law_stream dc__law_stream pm__law_stream cd__law_stream ct__law_stream oc__law_take kV__law_take dc__law_take pm__law_take cd__law_take ct__law_take oc__law_low kV__law_low dc__law_low pm__law_low cd__law_low ct__law_low oc__law_mul kV__law_mul dc__law_mul pm__law_mul cd__law_mul ct__law_mul oc__law_root kV__law_root dc__law_root pm__law_root cd__law_root ct__law_root oc__law_whole kV__law_whole dc__law_whole pm__law_whole cd__law_whole ct__law_whole oc__law_fraction kV__law_fraction dc__law_fraction pm__law_fraction cd__law_fraction ct__law_fraction oc__law_is_integer kV__law_is_integer dc__law_is_integer pm__law_is_integer cd__law_is_integer ct__law_is_integer oc__law_is_frac kV__law_is_frac dc__law_is_frac pm__law_is_frac cd__law_is_frac ct__law_is_frac oc__law_no_fraction kV__law_no_fraction dc__law_no_fraction pm__law_no_fraction cd__law_no_fraction ct__law_no_fraction oc__law_thing kV__law_thing dc__law_thing pm__law_thing cd__law_thing ct__law_thing oc__law_has_root kV__law_has_root dc__law_has_root pm__law_has_root cd__law_has_root ct__law_has_root oc__law_asked kV__law_asked dc__law_asked pm__law_asked cd__law_asked ct__law_asked oc_law kV_law dc_law pm_law cd_law ct_law : Value}
    (a_is_integer : PySem.W.nsIn K mainGlobals "is_integer" = some (some (.ref f_is_integer))) (l_is_integer : K.lookup f_is_integer = some ⟨oc_is_integer, od_is_integer, .func (PySem.W.fnOf "is_integer" "is_integer" (defArgs s_is_integer) (defBody s_is_integer) (defScope s_is_integer) .none kV_is_integer dc_is_integer pm_is_integer an_is_integer cd_is_integer ct_is_integer), sl_is_integer⟩) (e_is_integer : PySem.W.codeIn K cd_is_integer "is_integer" = true) (k_is_integer : PySem.W.keepIn K (.ref f_is_integer) = true)
    (a_common_part : PySem.W.nsIn K mainGlobals "common_part" = some (some (.ref f_common_part))) (l_common_part : K.lookup f_common_part = some ⟨oc_common_part, od_common_part, .func (PySem.W.fnOf "common_part" "common_part" (defArgs s_common_part) (defBody s_common_part) (defScope s_common_part) .none kV_common_part dc_common_part pm_common_part an_common_part cd_common_part ct_common_part), sl_common_part⟩) (e_common_part : PySem.W.codeIn K cd_common_part "common_part" = true) (k_common_part : PySem.W.keepIn K (.ref f_common_part) = true)
    (a_lowest : PySem.W.nsIn K mainGlobals "lowest" = some (some (.ref f_lowest))) (l_lowest : K.lookup f_lowest = some ⟨oc_lowest, od_lowest, .func (PySem.W.fnOf "lowest" "lowest" (defArgs s_lowest) (defBody s_lowest) (defScope s_lowest) .none kV_lowest dc_lowest pm_lowest an_lowest cd_lowest ct_lowest), sl_lowest⟩) (e_lowest : PySem.W.codeIn K cd_lowest "lowest" = true) (k_lowest : PySem.W.keepIn K (.ref f_lowest) = true)
    (a_is_fraction : PySem.W.nsIn K mainGlobals "is_fraction" = some (some (.ref f_is_fraction))) (l_is_fraction : K.lookup f_is_fraction = some ⟨oc_is_fraction, od_is_fraction, .func (PySem.W.fnOf "is_fraction" "is_fraction" (defArgs s_is_fraction) (defBody s_is_fraction) (defScope s_is_fraction) .none kV_is_fraction dc_is_fraction pm_is_fraction an_is_fraction cd_is_fraction ct_is_fraction), sl_is_fraction⟩) (e_is_fraction : PySem.W.codeIn K cd_is_fraction "is_fraction" = true) (k_is_fraction : PySem.W.keepIn K (.ref f_is_fraction) = true)
    (a_product : PySem.W.nsIn K mainGlobals "product" = some (some (.ref f_product))) (l_product : K.lookup f_product = some ⟨oc_product, od_product, .func (PySem.W.fnOf "product" "product" (defArgs s_product) (defBody s_product) (defScope s_product) .none kV_product dc_product pm_product an_product cd_product ct_product), sl_product⟩) (e_product : PySem.W.codeIn K cd_product "product" = true) (k_product : PySem.W.keepIn K (.ref f_product) = true)
    (a_whole_root : PySem.W.nsIn K mainGlobals "whole_root" = some (some (.ref f_whole_root))) (l_whole_root : K.lookup f_whole_root = some ⟨oc_whole_root, od_whole_root, .func (PySem.W.fnOf "whole_root" "whole_root" (defArgs s_whole_root) (defBody s_whole_root) (defScope s_whole_root) .none kV_whole_root dc_whole_root pm_whole_root an_whole_root cd_whole_root ct_whole_root), sl_whole_root⟩) (e_whole_root : PySem.W.codeIn K cd_whole_root "whole_root" = true) (k_whole_root : PySem.W.keepIn K (.ref f_whole_root) = true)
    (a_root_of : PySem.W.nsIn K mainGlobals "root_of" = some (some (.ref f_root_of))) (l_root_of : K.lookup f_root_of = some ⟨oc_root_of, od_root_of, .func (PySem.W.fnOf "root_of" "root_of" (defArgs s_root_of) (defBody s_root_of) (defScope s_root_of) .none kV_root_of dc_root_of pm_root_of an_root_of cd_root_of ct_root_of), sl_root_of⟩) (e_root_of : PySem.W.codeIn K cd_root_of "root_of" = true) (k_root_of : PySem.W.keepIn K (.ref f_root_of) = true)
    (a_check_fractions : PySem.W.nsIn K mainGlobals "check_fractions" = some (some (.ref f_check_fractions))) (l_check_fractions : K.lookup f_check_fractions = some ⟨oc_check_fractions, od_check_fractions, .func (PySem.W.fnOf "check_fractions" "check_fractions" (defArgs s_check_fractions) (defBody s_check_fractions) (defScope s_check_fractions) .none kV_check_fractions dc_check_fractions pm_check_fractions an_check_fractions cd_check_fractions ct_check_fractions), sl_check_fractions⟩) (e_check_fractions : PySem.W.codeIn K cd_check_fractions "check_fractions" = true) (k_check_fractions : PySem.W.keepIn K (.ref f_check_fractions) = true)
    (a_frac_mul : PySem.W.nsIn K mainGlobals "frac_mul" = some (some (.ref f_frac_mul))) (l_frac_mul : K.lookup f_frac_mul = some ⟨oc_frac_mul, od_frac_mul, .func (PySem.W.fnOf "frac_mul" "frac_mul" (defArgs s_frac_mul) (defBody s_frac_mul) (defScope s_frac_mul) .none kV_frac_mul dc_frac_mul pm_frac_mul an_frac_mul cd_frac_mul ct_frac_mul), sl_frac_mul⟩) (e_frac_mul : PySem.W.codeIn K cd_frac_mul "frac_mul" = true) (k_frac_mul : PySem.W.keepIn K (.ref f_frac_mul) = true)
    (a_frac_root : PySem.W.nsIn K mainGlobals "frac_root" = some (some (.ref f_frac_root))) (l_frac_root : K.lookup f_frac_root = some ⟨oc_frac_root, od_frac_root, .func (PySem.W.fnOf "frac_root" "frac_root" (defArgs s_frac_root) (defBody s_frac_root) (defScope s_frac_root) .none kV_frac_root dc_frac_root pm_frac_root an_frac_root cd_frac_root ct_frac_root), sl_frac_root⟩) (e_frac_root : PySem.W.codeIn K cd_frac_root "frac_root" = true) (k_frac_root : PySem.W.keepIn K (.ref f_frac_root) = true)
    (a__law_mixed : PySem.W.nsIn K mainGlobals "_law_mixed" = some (some (.ref f__law_mixed))) (l__law_mixed : K.lookup f__law_mixed = some ⟨oc__law_mixed, od__law_mixed, .func (PySem.W.fnOf "_law_mixed" "_law_mixed" (defArgs s__law_mixed) (defBody s__law_mixed) (defScope s__law_mixed) .none kV__law_mixed dc__law_mixed pm__law_mixed an__law_mixed cd__law_mixed ct__law_mixed), sl__law_mixed⟩) (e__law_mixed : PySem.W.codeIn K cd__law_mixed "_law_mixed" = true) (k__law_mixed : PySem.W.keepIn K (.ref f__law_mixed) = true)
    (a__law_great : PySem.W.nsIn K mainGlobals "_law_great" = some (some (.ref f__law_great))) (l__law_great : K.lookup f__law_great = some ⟨oc__law_great, od__law_great, .func (PySem.W.fnOf "_law_great" "_law_great" (defArgs s__law_great) (defBody s__law_great) (defScope s__law_great) .none kV__law_great dc__law_great pm__law_great an__law_great cd__law_great ct__law_great), sl__law_great⟩) (e__law_great : PySem.W.codeIn K cd__law_great "_law_great" = true) (k__law_great : PySem.W.keepIn K (.ref f__law_great) = true)
    (a__law_stream : PySem.W.nsIn K mainGlobals "_law_stream" = some (some (.ref f__law_stream))) (l__law_stream : K.lookup f__law_stream = some ⟨oc__law_stream, od__law_stream, .func (PySem.W.fnOf "_law_stream" "_law_stream" (defArgs s__law_stream) (defBody s__law_stream) (defScope s__law_stream) .none kV__law_stream dc__law_stream pm__law_stream an__law_stream cd__law_stream ct__law_stream), sl__law_stream⟩) (e__law_stream : PySem.W.codeIn K cd__law_stream "_law_stream" = true) (k__law_stream : PySem.W.keepIn K (.ref f__law_stream) = true)
    (a__law_take : PySem.W.nsIn K mainGlobals "_law_take" = some (some (.ref f__law_take))) (l__law_take : K.lookup f__law_take = some ⟨oc__law_take, od__law_take, .func (PySem.W.fnOf "_law_take" "_law_take" (defArgs s__law_take) (defBody s__law_take) (defScope s__law_take) .none kV__law_take dc__law_take pm__law_take an__law_take cd__law_take ct__law_take), sl__law_take⟩) (e__law_take : PySem.W.codeIn K cd__law_take "_law_take" = true) (k__law_take : PySem.W.keepIn K (.ref f__law_take) = true)
    (a__law_low : PySem.W.nsIn K mainGlobals "_law_low" = some (some (.ref f__law_low))) (l__law_low : K.lookup f__law_low = some ⟨oc__law_low, od__law_low, .func (PySem.W.fnOf "_law_low" "_law_low" (defArgs s__law_low) (defBody s__law_low) (defScope s__law_low) .none kV__law_low dc__law_low pm__law_low an__law_low cd__law_low ct__law_low), sl__law_low⟩) (e__law_low : PySem.W.codeIn K cd__law_low "_law_low" = true) (k__law_low : PySem.W.keepIn K (.ref f__law_low) = true)
    (a__law_mul : PySem.W.nsIn K mainGlobals "_law_mul" = some (some (.ref f__law_mul))) (l__law_mul : K.lookup f__law_mul = some ⟨oc__law_mul, od__law_mul, .func (PySem.W.fnOf "_law_mul" "_law_mul" (defArgs s__law_mul) (defBody s__law_mul) (defScope s__law_mul) .none kV__law_mul dc__law_mul pm__law_mul an__law_mul cd__law_mul ct__law_mul), sl__law_mul⟩) (e__law_mul : PySem.W.codeIn K cd__law_mul "_law_mul" = true) (k__law_mul : PySem.W.keepIn K (.ref f__law_mul) = true)
    (a__law_root : PySem.W.nsIn K mainGlobals "_law_root" = some (some (.ref f__law_root))) (l__law_root : K.lookup f__law_root = some ⟨oc__law_root, od__law_root, .func (PySem.W.fnOf "_law_root" "_law_root" (defArgs s__law_root) (defBody s__law_root) (defScope s__law_root) .none kV__law_root dc__law_root pm__law_root an__law_root cd__law_root ct__law_root), sl__law_root⟩) (e__law_root : PySem.W.codeIn K cd__law_root "_law_root" = true) (k__law_root : PySem.W.keepIn K (.ref f__law_root) = true)
    (a__law_whole : PySem.W.nsIn K mainGlobals "_law_whole" = some (some (.ref f__law_whole))) (l__law_whole : K.lookup f__law_whole = some ⟨oc__law_whole, od__law_whole, .func (PySem.W.fnOf "_law_whole" "_law_whole" (defArgs s__law_whole) (defBody s__law_whole) (defScope s__law_whole) .none kV__law_whole dc__law_whole pm__law_whole an__law_whole cd__law_whole ct__law_whole), sl__law_whole⟩) (e__law_whole : PySem.W.codeIn K cd__law_whole "_law_whole" = true) (k__law_whole : PySem.W.keepIn K (.ref f__law_whole) = true)
    (a__law_fraction : PySem.W.nsIn K mainGlobals "_law_fraction" = some (some (.ref f__law_fraction))) (l__law_fraction : K.lookup f__law_fraction = some ⟨oc__law_fraction, od__law_fraction, .func (PySem.W.fnOf "_law_fraction" "_law_fraction" (defArgs s__law_fraction) (defBody s__law_fraction) (defScope s__law_fraction) .none kV__law_fraction dc__law_fraction pm__law_fraction an__law_fraction cd__law_fraction ct__law_fraction), sl__law_fraction⟩) (e__law_fraction : PySem.W.codeIn K cd__law_fraction "_law_fraction" = true) (k__law_fraction : PySem.W.keepIn K (.ref f__law_fraction) = true)
    (a__law_is_integer : PySem.W.nsIn K mainGlobals "_law_is_integer" = some (some (.ref f__law_is_integer))) (l__law_is_integer : K.lookup f__law_is_integer = some ⟨oc__law_is_integer, od__law_is_integer, .func (PySem.W.fnOf "_law_is_integer" "_law_is_integer" (defArgs s__law_is_integer) (defBody s__law_is_integer) (defScope s__law_is_integer) .none kV__law_is_integer dc__law_is_integer pm__law_is_integer an__law_is_integer cd__law_is_integer ct__law_is_integer), sl__law_is_integer⟩) (e__law_is_integer : PySem.W.codeIn K cd__law_is_integer "_law_is_integer" = true) (k__law_is_integer : PySem.W.keepIn K (.ref f__law_is_integer) = true)
    (a__law_is_frac : PySem.W.nsIn K mainGlobals "_law_is_frac" = some (some (.ref f__law_is_frac))) (l__law_is_frac : K.lookup f__law_is_frac = some ⟨oc__law_is_frac, od__law_is_frac, .func (PySem.W.fnOf "_law_is_frac" "_law_is_frac" (defArgs s__law_is_frac) (defBody s__law_is_frac) (defScope s__law_is_frac) .none kV__law_is_frac dc__law_is_frac pm__law_is_frac an__law_is_frac cd__law_is_frac ct__law_is_frac), sl__law_is_frac⟩) (e__law_is_frac : PySem.W.codeIn K cd__law_is_frac "_law_is_frac" = true) (k__law_is_frac : PySem.W.keepIn K (.ref f__law_is_frac) = true)
    (a__law_no_fraction : PySem.W.nsIn K mainGlobals "_law_no_fraction" = some (some (.ref f__law_no_fraction))) (l__law_no_fraction : K.lookup f__law_no_fraction = some ⟨oc__law_no_fraction, od__law_no_fraction, .func (PySem.W.fnOf "_law_no_fraction" "_law_no_fraction" (defArgs s__law_no_fraction) (defBody s__law_no_fraction) (defScope s__law_no_fraction) .none kV__law_no_fraction dc__law_no_fraction pm__law_no_fraction an__law_no_fraction cd__law_no_fraction ct__law_no_fraction), sl__law_no_fraction⟩) (e__law_no_fraction : PySem.W.codeIn K cd__law_no_fraction "_law_no_fraction" = true) (k__law_no_fraction : PySem.W.keepIn K (.ref f__law_no_fraction) = true)
    (a__law_thing : PySem.W.nsIn K mainGlobals "_law_thing" = some (some (.ref f__law_thing))) (l__law_thing : K.lookup f__law_thing = some ⟨oc__law_thing, od__law_thing, .func (PySem.W.fnOf "_law_thing" "_law_thing" (defArgs s__law_thing) (defBody s__law_thing) (defScope s__law_thing) .none kV__law_thing dc__law_thing pm__law_thing an__law_thing cd__law_thing ct__law_thing), sl__law_thing⟩) (e__law_thing : PySem.W.codeIn K cd__law_thing "_law_thing" = true) (k__law_thing : PySem.W.keepIn K (.ref f__law_thing) = true)
    (a__law_has_root : PySem.W.nsIn K mainGlobals "_law_has_root" = some (some (.ref f__law_has_root))) (l__law_has_root : K.lookup f__law_has_root = some ⟨oc__law_has_root, od__law_has_root, .func (PySem.W.fnOf "_law_has_root" "_law_has_root" (defArgs s__law_has_root) (defBody s__law_has_root) (defScope s__law_has_root) .none kV__law_has_root dc__law_has_root pm__law_has_root an__law_has_root cd__law_has_root ct__law_has_root), sl__law_has_root⟩) (e__law_has_root : PySem.W.codeIn K cd__law_has_root "_law_has_root" = true) (k__law_has_root : PySem.W.keepIn K (.ref f__law_has_root) = true)
    (a__law_asked : PySem.W.nsIn K mainGlobals "_law_asked" = some (some (.ref f__law_asked))) (l__law_asked : K.lookup f__law_asked = some ⟨oc__law_asked, od__law_asked, .func (PySem.W.fnOf "_law_asked" "_law_asked" (defArgs s__law_asked) (defBody s__law_asked) (defScope s__law_asked) .none kV__law_asked dc__law_asked pm__law_asked an__law_asked cd__law_asked ct__law_asked), sl__law_asked⟩) (e__law_asked : PySem.W.codeIn K cd__law_asked "_law_asked" = true) (k__law_asked : PySem.W.keepIn K (.ref f__law_asked) = true)
    (a_law : PySem.W.nsIn K mainGlobals "law" = some (some (.ref f_law))) (l_law : K.lookup f_law = some ⟨oc_law, od_law, .func (PySem.W.fnOf "law" "law" (defArgs s_law) (defBody s_law) (defScope s_law) .none kV_law dc_law pm_law an_law cd_law ct_law), sl_law⟩) (e_law : PySem.W.codeIn K cd_law "law" = true) (k_law : PySem.W.keepIn K (.ref f_law) = true)
    (z_isinstance : PySem.W.nsIn K mainGlobals "isinstance" = some none)
    (z_int : PySem.W.nsIn K mainGlobals "int" = some none)
    (z_bool : PySem.W.nsIn K mainGlobals "bool" = some none)
    (z_abs : PySem.W.nsIn K mainGlobals "abs" = some none)
    (z_tuple : PySem.W.nsIn K mainGlobals "tuple" = some none)
    (z_len : PySem.W.nsIn K mainGlobals "len" = some none)
    (z_list : PySem.W.nsIn K mainGlobals "list" = some none)
    (z_range : PySem.W.nsIn K mainGlobals "range" = some none)
    (z_min : PySem.W.nsIn K mainGlobals "min" = some none)
    {j_NoFraction : Addr} (ca_NoFraction : PySem.W.nsIn K mainGlobals "NoFraction" = some (some (.ref j_NoFraction))) (cx_NoFraction : PySem.W.excIn K j_NoFraction [.type "ValueError", .type "Exception", .type "BaseException", .type "object"] "ValueError.__new__" = true) (ck_NoFraction : PySem.W.keepIn K (.ref j_NoFraction) = true) (cb_NoFraction : PySem.W.subIn K (.ref j_NoFraction) (.type "BaseException") = some true) (ct_NoFraction : PySem.W.typeIn K (.ref j_NoFraction) = some (.type "type")) (ci_NoFraction : PySem.W.isClsIn K j_NoFraction = true)
    (cs_NoFraction_NoFraction : PySem.W.subIn K (.ref j_NoFraction) (.ref j_NoFraction) = some true)
    {y_ZERO : Addr} {t_ZERO u_ZERO : Tok} {b_ZERO : Option Addr} {n_ZERO : Nat} {s_ZERO : Array (Option Value)} (x_ZERO : PySem.W.nsIn K mainGlobals "ZERO" = some (some (.ref y_ZERO))) (w_ZERO : K.lookup y_ZERO = some ⟨.type "tuple", b_ZERO, .seq #[.int 0 t_ZERO, .int 1 u_ZERO] n_ZERO, s_ZERO⟩)
    : ∃ fd : FuncData, (∀ (s : Shared) (v : Value), BindsTo s fd ⟨[v], []⟩ [("script", v)]) ∧ ∀ base : Heap, K.In base → base.Ns mainGlobals mg → FnOk P w K mg base CX0 6 fa fd ["script"] (spOf K F_law) := by
  have e := hfa.symm.trans (PySem.W.mg_of X G a_law)
  cases e
  have z_isinstance := PySem.W.mg_none_of X G z_isinstance
  have z_int := PySem.W.mg_none_of X G z_int
  have z_bool := PySem.W.mg_none_of X G z_bool
  have z_abs := PySem.W.mg_none_of X G z_abs
  have z_tuple := PySem.W.mg_none_of X G z_tuple
  have z_len := PySem.W.mg_none_of X G z_len
  have z_list := PySem.W.mg_none_of X G z_list
  have z_range := PySem.W.mg_none_of X G z_range
  have z_min := PySem.W.mg_none_of X G z_min
  have q_ZERO : mg "ZERO" = some (.ref y_ZERO) ∧ KD K (.ref y_ZERO) d_ZERO := ⟨PySem.W.mg_of X G x_ZERO, kd_pair w_ZERO rfl⟩
  obtain ⟨cl, hcl⟩ : ∃ cl : String → Value, cl = fun s => (if s = "NoFraction" then .ref j_NoFraction else .none) := ⟨_, rfl⟩
  have H_NoFraction : ClsF K mg cl "NoFraction" j_NoFraction := ⟨by rw [hcl]; simp, cx_NoFraction, PySem.W.mg_of X G ca_NoFraction, ck_NoFraction, cb_NoFraction, ct_NoFraction⟩
  have T_is_integer := fun_mk (st := s_is_integer) l_is_integer e_is_integer k_is_integer
  have g_is_integer := PySem.W.mg_of X G a_is_integer
  have T_common_part := fun_mk (st := s_common_part) l_common_part e_common_part k_common_part
  have g_common_part := PySem.W.mg_of X G a_common_part
  have T_lowest := fun_mk (st := s_lowest) l_lowest e_lowest k_lowest
  have g_lowest := PySem.W.mg_of X G a_lowest
  have T_is_fraction := fun_mk (st := s_is_fraction) l_is_fraction e_is_fraction k_is_fraction
  have g_is_fraction := PySem.W.mg_of X G a_is_fraction
  have T_product := fun_mk (st := s_product) l_product e_product k_product
  have g_product := PySem.W.mg_of X G a_product
  have T_whole_root := fun_mk (st := s_whole_root) l_whole_root e_whole_root k_whole_root
  have g_whole_root := PySem.W.mg_of X G a_whole_root
  have T_root_of := fun_mk (st := s_root_of) l_root_of e_root_of k_root_of
  have g_root_of := PySem.W.mg_of X G a_root_of
  have T_check_fractions := fun_mk (st := s_check_fractions) l_check_fractions e_check_fractions k_check_fractions
  have g_check_fractions := PySem.W.mg_of X G a_check_fractions
  have T_frac_mul := fun_mk (st := s_frac_mul) l_frac_mul e_frac_mul k_frac_mul
  have g_frac_mul := PySem.W.mg_of X G a_frac_mul
  have T_frac_root := fun_mk (st := s_frac_root) l_frac_root e_frac_root k_frac_root
  have g_frac_root := PySem.W.mg_of X G a_frac_root
  have T__law_mixed := fun_mk (st := s__law_mixed) l__law_mixed e__law_mixed k__law_mixed
  have g__law_mixed := PySem.W.mg_of X G a__law_mixed
  have T__law_great := fun_mk (st := s__law_great) l__law_great e__law_great k__law_great
  have g__law_great := PySem.W.mg_of X G a__law_great
  have T__law_stream := fun_mk (st := s__law_stream) l__law_stream e__law_stream k__law_stream
  have g__law_stream := PySem.W.mg_of X G a__law_stream
  have T__law_take := fun_mk (st := s__law_take) l__law_take e__law_take k__law_take
  have g__law_take := PySem.W.mg_of X G a__law_take
  have T__law_low := fun_mk (st := s__law_low) l__law_low e__law_low k__law_low
  have g__law_low := PySem.W.mg_of X G a__law_low
  have T__law_mul := fun_mk (st := s__law_mul) l__law_mul e__law_mul k__law_mul
  have g__law_mul := PySem.W.mg_of X G a__law_mul
  have T__law_root := fun_mk (st := s__law_root) l__law_root e__law_root k__law_root
  have g__law_root := PySem.W.mg_of X G a__law_root
  have T__law_whole := fun_mk (st := s__law_whole) l__law_whole e__law_whole k__law_whole
  have g__law_whole := PySem.W.mg_of X G a__law_whole
  have T__law_fraction := fun_mk (st := s__law_fraction) l__law_fraction e__law_fraction k__law_fraction
  have g__law_fraction := PySem.W.mg_of X G a__law_fraction
  have T__law_is_integer := fun_mk (st := s__law_is_integer) l__law_is_integer e__law_is_integer k__law_is_integer
  have g__law_is_integer := PySem.W.mg_of X G a__law_is_integer
  have T__law_is_frac := fun_mk (st := s__law_is_frac) l__law_is_frac e__law_is_frac k__law_is_frac
  have g__law_is_frac := PySem.W.mg_of X G a__law_is_frac
  have T__law_no_fraction := fun_mk (st := s__law_no_fraction) l__law_no_fraction e__law_no_fraction k__law_no_fraction
  have g__law_no_fraction := PySem.W.mg_of X G a__law_no_fraction
  have T__law_thing := fun_mk (st := s__law_thing) l__law_thing e__law_thing k__law_thing
  have g__law_thing := PySem.W.mg_of X G a__law_thing
  have T__law_has_root := fun_mk (st := s__law_has_root) l__law_has_root e__law_has_root k__law_has_root
  have g__law_has_root := PySem.W.mg_of X G a__law_has_root
  have T__law_asked := fun_mk (st := s__law_asked) l__law_asked e__law_asked k__law_asked
  have g__law_asked := PySem.W.mg_of X G a__law_asked
  have T_law := fun_mk (st := s_law) l_law e_law k_law
  have g_law := PySem.W.mg_of X G a_law
  refine ⟨PySem.W.fnOf "law" "law" (defArgs s_law) (defBody s_law) (defScope s_law) .none kV_law dc_law pm_law an_law cd_law ct_law, fun s v => .of_eq rfl, fun base _ _ => ?_⟩
  have fn_is_integer := fn_is_integer (P := P) (w := w) (base := base) (cl := cl) T_is_integer g_is_integer z_isinstance z_int z_bool     
  have c_is_integer : MP.Callee P w K mg base 1 "is_integer" ["thing"] F_is_integer := ⟨_, _, fn_is_integer, g_is_integer, T_is_integer.kp, T_is_integer.binds fun _ _ _ _ _ _ us hl => match us, hl with | [_], _ => rfl⟩
  have fn_common_part := fn_common_part (P := P) (w := w) (base := base) (cl := cl) T_common_part g_common_part z_abs     
  have c_common_part : MP.Callee P w K mg base 1 "common_part" ["one", "other"] F_common_part := ⟨_, _, fn_common_part, g_common_part, T_common_part.kp, T_common_part.binds fun _ _ _ _ _ _ us hl => match us, hl with | [_, _], _ => rfl⟩
  have fn_lowest := fn_lowest (P := P) (w := w) (base := base) (cl := cl) T_lowest g_lowest     c_common_part 
  have c_lowest : MP.Callee P w K mg base 2 "lowest" ["top", "bottom"] F_lowest := ⟨_, _, fn_lowest, g_lowest, T_lowest.kp, T_lowest.binds fun _ _ _ _ _ _ us hl => match us, hl with | [_, _], _ => rfl⟩
  have fn_is_fraction := fn_is_fraction (P := P) (w := w) (base := base) (cl := cl) T_is_fraction g_is_fraction z_isinstance z_tuple z_len    c_common_part c_is_integer 
  have c_is_fraction : MP.Callee P w K mg base 2 "is_fraction" ["thing"] F_is_fraction := ⟨_, _, fn_is_fraction, g_is_fraction, T_is_fraction.kp, T_is_fraction.binds fun _ _ _ _ _ _ us hl => match us, hl with | [_], _ => rfl⟩
  have fn_product := fn_product (P := P) (w := w) (base := base) (cl := cl) T_product g_product  q_ZERO rfl   c_lowest 
  have c_product : MP.Callee P w K mg base 3 "product" ["one", "other"] F_product := ⟨_, _, fn_product, g_product, T_product.kp, T_product.binds fun _ _ _ _ _ _ us hl => match us, hl with | [_, _], _ => rfl⟩
  have fn_whole_root := fn_whole_root (P := P) (w := w) (base := base) (cl := cl) T_whole_root g_whole_root      
  have c_whole_root : MP.Callee P w K mg base 1 "whole_root" ["number"] F_whole_root := ⟨_, _, fn_whole_root, g_whole_root, T_whole_root.kp, T_whole_root.binds fun _ _ _ _ _ _ us hl => match us, hl with | [_], _ => rfl⟩
  have fn_root_of := fn_root_of (P := P) (w := w) (base := base) (cl := cl) T_root_of g_root_of     c_whole_root 
  have c_root_of : MP.Callee P w K mg base 2 "root_of" ["one"] F_root_of := ⟨_, _, fn_root_of, g_root_of, T_root_of.kp, T_root_of.binds fun _ _ _ _ _ _ us hl => match us, hl with | [_], _ => rfl⟩
  have fn_check_fractions := fn_check_fractions (P := P) (w := w) (base := base) (cl := cl) T_check_fractions g_check_fractions     c_is_fraction 
  have c_check_fractions : MP.Callee P w K mg base 3 "check_fractions" ["one", "other"] F_check_fractions := ⟨_, _, fn_check_fractions, g_check_fractions, T_check_fractions.kp, T_check_fractions.binds fun _ _ _ _ _ _ us hl => match us, hl with | [_, _], _ => rfl⟩
  have fn_frac_mul := fn_frac_mul (P := P) (w := w) (base := base) (cl := cl) T_frac_mul g_frac_mul     c_check_fractions c_product 
  have c_frac_mul : MP.Callee P w K mg base 4 "frac_mul" ["one", "other"] F_frac_mul := ⟨_, _, fn_frac_mul, g_frac_mul, T_frac_mul.kp, T_frac_mul.binds fun _ _ _ _ _ _ us hl => match us, hl with | [_, _], _ => rfl⟩
  have fn_frac_root := fn_frac_root (P := P) (w := w) (base := base) (cl := cl) T_frac_root g_frac_root   H_NoFraction  c_root_of c_is_fraction 
  have c_frac_root : CalleeX P w K mg base cl 3 "frac_root" ["one"] F_frac_root := ⟨_, _, fn_frac_root, g_frac_root, T_frac_root.kp, T_frac_root.binds fun _ _ _ _ _ _ us hl => match us, hl with | [_], _ => rfl⟩
  have kw_frac_root : CallKw P w K mg base 3 "frac_root" ["one"] (FX.calm F_frac_root) := ⟨_, _, _, _, fn_frac_root, fun us H Q h => spX_calm h, fun X σ e1 e2 => by subst e1 e2; exact passLAt σ, g_frac_root, T_frac_root.kp, MP.Fun.kwb T_frac_root fun _ _ _ _ _ _ us hl => match us, hl with | [_], _ => rfl⟩
  have fn__law_mixed := fn__law_mixed (P := P) (w := w) (base := base) (cl := cl) T__law_mixed g__law_mixed z_int     
  have c__law_mixed : MP.Callee P w K mg base 1 "_law_mixed" ["cell", "k"] F__law_mixed := ⟨_, _, fn__law_mixed, g__law_mixed, T__law_mixed.kp, T__law_mixed.binds fun _ _ _ _ _ _ us hl => match us, hl with | [_, _], _ => rfl⟩
  have fn__law_great := fn__law_great (P := P) (w := w) (base := base) (cl := cl) T__law_great g__law_great z_len z_abs     
  have c__law_great : MP.Callee P w K mg base 1 "_law_great" ["cells", "place"] F__law_great := ⟨_, _, fn__law_great, g__law_great, T__law_great.kp, T__law_great.binds fun _ _ _ _ _ _ us hl => match us, hl with | [_, _], _ => rfl⟩
  have fn__law_stream := fn__law_stream (P := P) (w := w) (base := base) (cl := cl) T__law_stream g__law_stream z_list z_len    c__law_great 
  have c__law_stream : MP.Callee P w K mg base 2 "_law_stream" ["script"] F__law_stream := ⟨_, _, fn__law_stream, g__law_stream, T__law_stream.kp, T__law_stream.binds fun _ _ _ _ _ _ us hl => match us, hl with | [_], _ => rfl⟩
  have fn__law_take := fn__law_take (P := P) (w := w) (base := base) (cl := cl) T__law_take g__law_take z_int z_len    c__law_great c__law_mixed 
  have c__law_take : MP.Callee P w K mg base 2 "_law_take" ["stream", "many"] F__law_take := ⟨_, _, fn__law_take, g__law_take, T__law_take.kp, T__law_take.binds fun _ _ _ _ _ _ us hl => match us, hl with | [_, _], _ => rfl⟩
  have fn__law_low := fn__law_low (P := P) (w := w) (base := base) (cl := cl) T__law_low g__law_low z_abs z_int     
  have c__law_low : MP.Callee P w K mg base 1 "_law_low" ["top", "bottom"] F__law_low := ⟨_, _, fn__law_low, g__law_low, T__law_low.kp, T__law_low.binds fun _ _ _ _ _ _ us hl => match us, hl with | [_, _], _ => rfl⟩
  have fn__law_mul := fn__law_mul (P := P) (w := w) (base := base) (cl := cl) T__law_mul g__law_mul     c__law_low 
  have c__law_mul : MP.Callee P w K mg base 2 "_law_mul" ["one", "other"] F__law_mul := ⟨_, _, fn__law_mul, g__law_mul, T__law_mul.kp, T__law_mul.binds fun _ _ _ _ _ _ us hl => match us, hl with | [_, _], _ => rfl⟩
  have fn__law_root := fn__law_root (P := P) (w := w) (base := base) (cl := cl) T__law_root g__law_root z_range     
  have c__law_root : MP.Callee P w K mg base 1 "_law_root" ["number"] F__law_root := ⟨_, _, fn__law_root, g__law_root, T__law_root.kp, T__law_root.binds fun _ _ _ _ _ _ us hl => match us, hl with | [_], _ => rfl⟩
  have fn__law_whole := fn__law_whole (P := P) (w := w) (base := base) (cl := cl) T__law_whole g__law_whole     c__law_take 
  have c__law_whole : MP.Callee P w K mg base 3 "_law_whole" ["stream"] F__law_whole := ⟨_, _, fn__law_whole, g__law_whole, T__law_whole.kp, T__law_whole.binds fun _ _ _ _ _ _ us hl => match us, hl with | [_], _ => rfl⟩
  have fn__law_fraction := fn__law_fraction (P := P) (w := w) (base := base) (cl := cl) T__law_fraction g__law_fraction z_abs    c__law_whole c__law_low 
  have c__law_fraction : MP.Callee P w K mg base 4 "_law_fraction" ["stream"] F__law_fraction := ⟨_, _, fn__law_fraction, g__law_fraction, T__law_fraction.kp, T__law_fraction.binds fun _ _ _ _ _ _ us hl => match us, hl with | [_], _ => rfl⟩
  have fn__law_is_integer := fn__law_is_integer (P := P) (w := w) (base := base) (cl := cl) T__law_is_integer g__law_is_integer z_isinstance z_int z_bool     
  have c__law_is_integer : MP.Callee P w K mg base 1 "_law_is_integer" ["thing"] F__law_is_integer := ⟨_, _, fn__law_is_integer, g__law_is_integer, T__law_is_integer.kp, T__law_is_integer.binds fun _ _ _ _ _ _ us hl => match us, hl with | [_], _ => rfl⟩
  have fn__law_is_frac := fn__law_is_frac (P := P) (w := w) (base := base) (cl := cl) T__law_is_frac g__law_is_frac z_isinstance z_tuple z_len    c__law_low c__law_is_integer 
  have c__law_is_frac : MP.Callee P w K mg base 2 "_law_is_frac" ["thing"] F__law_is_frac := ⟨_, _, fn__law_is_frac, g__law_is_frac, T__law_is_frac.kp, T__law_is_frac.binds fun _ _ _ _ _ _ us hl => match us, hl with | [_], _ => rfl⟩
  have fn__law_no_fraction := fn__law_no_fraction (P := P) (w := w) (base := base) (cl := cl) T__law_no_fraction g__law_no_fraction z_len    c__law_take 
  have c__law_no_fraction : MP.Callee P w K mg base 3 "_law_no_fraction" ["stream"] F__law_no_fraction := ⟨_, _, fn__law_no_fraction, g__law_no_fraction, T__law_no_fraction.kp, T__law_no_fraction.binds fun _ _ _ _ _ _ us hl => match us, hl with | [_], _ => rfl⟩
  have fn__law_thing := fn__law_thing (P := P) (w := w) (base := base) (cl := cl) T__law_thing g__law_thing     c__law_take c__law_low c__law_fraction c__law_mul c__law_no_fraction 
  have c__law_thing : MP.Callee P w K mg base 5 "_law_thing" ["stream"] F__law_thing := ⟨_, _, fn__law_thing, g__law_thing, T__law_thing.kp, T__law_thing.binds fun _ _ _ _ _ _ us hl => match us, hl with | [_], _ => rfl⟩
  have fn__law_has_root := fn__law_has_root (P := P) (w := w) (base := base) (cl := cl) T__law_has_root g__law_has_root     c__law_root 
  have c__law_has_root : MP.Callee P w K mg base 2 "_law_has_root" ["one"] F__law_has_root := ⟨_, _, fn__law_has_root, g__law_has_root, T__law_has_root.kp, T__law_has_root.binds fun _ _ _ _ _ _ us hl => match us, hl with | [_], _ => rfl⟩
  have fn__law_asked := fn__law_asked (P := P) (w := w) (base := base) (cl := cl) T__law_asked g__law_asked   H_NoFraction (exm_cls cb_NoFraction ci_NoFraction ct_NoFraction cs_NoFraction_NoFraction) c_frac_root c__law_is_frac c__law_has_root c_frac_mul kw_frac_root
  have c__law_asked : MP.Callee P w K mg base 5 "_law_asked" ["thing"] F__law_asked := ⟨_, _, fn__law_asked, g__law_asked, T__law_asked.kp, T__law_asked.binds fun _ _ _ _ _ _ us hl => match us, hl with | [_], _ => rfl⟩
  exact fn_law (P := P) (w := w) (base := base) (cl := cl) T_law g_law z_range z_min z_len    c__law_stream c__law_asked c__law_thing 
end W
open PySem PySem.W PyProof.Rows
set_option maxHeartbeats 0 in
theorem PySem.Challenge.cw_creasehall_k04_roots_of_fractions_holds : PySem.Challenge.rw_creasehall_k04_roots_of_fractions.Holds := by
  w_on; o_law; k_head; (case hw => w_witness2)
  k_fill
  refine L2.walk_of (l := PySem.Challenge.rw_creasehall_k04_roots_of_fractions) (n := 63) (k := 6) (x := "script") (CX := fun _ => L2.CX0) (sp := fun w => MP.spOf _ MP.F_law) rfl (by decide) rfl ⟨rfl, by decide, by decide⟩ (fun w h Y => PySem.W.kIn_of Y) ?F (fun _ H a ns hl hO hS => MP.law_entry hl hS MP.law_ok) (fun _ _ _ _ _ h => h)
  case F =>
    intro w mg fa h KX G hmg
    refine' W.all_mk KX G hmg ?a_is_integer ?l_is_integer ?e_is_integer ?k_is_integer ?a_common_part ?l_common_part ?e_common_part ?k_common_part ?a_lowest ?l_lowest ?e_lowest ?k_lowest ?a_is_fraction ?l_is_fraction ?e_is_fraction ?k_is_fraction ?a_product ?l_product ?e_product ?k_product ?a_whole_root ?l_whole_root ?e_whole_root ?k_whole_root ?a_root_of ?l_root_of ?e_root_of ?k_root_of ?a_check_fractions ?l_check_fractions ?e_check_fractions ?k_check_fractions ?a_frac_mul ?l_frac_mul ?e_frac_mul ?k_frac_mul ?a_frac_root ?l_frac_root ?e_frac_root ?k_frac_root ?a__law_mixed ?l__law_mixed ?e__law_mixed ?k__law_mixed ?a__law_great ?l__law_great ?e__law_great ?k__law_great ?a__law_stream ?l__law_stream ?e__law_stream ?k__law_stream ?a__law_take ?l__law_take ?e__law_take ?k__law_take ?a__law_low ?l__law_low ?e__law_low ?k__law_low ?a__law_mul ?l__law_mul ?e__law_mul ?k__law_mul ?a__law_root ?l__law_root ?e__law_root ?k__law_root ?a__law_whole ?l__law_whole ?e__law_whole ?k__law_whole ?a__law_fraction ?l__law_fraction ?e__law_fraction ?k__law_fraction ?a__law_is_integer ?l__law_is_integer ?e__law_is_integer ?k__law_is_integer ?a__law_is_frac ?l__law_is_frac ?e__law_is_frac ?k__law_is_frac ?a__law_no_fraction ?l__law_no_fraction ?e__law_no_fraction ?k__law_no_fraction ?a__law_thing ?l__law_thing ?e__law_thing ?k__law_thing ?a__law_has_root ?l__law_has_root ?e__law_has_root ?k__law_has_root ?a__law_asked ?l__law_asked ?e__law_asked ?k__law_asked ?a_law ?l_law ?e_law ?k_law ?z_isinstance ?z_int ?z_bool ?z_abs ?z_tuple ?z_len ?z_list ?z_range ?z_min ?ca_NoFraction ?cx_NoFraction ?ck_NoFraction ?cb_NoFraction ?ct_NoFraction ?ci_NoFraction ?cs_NoFraction_NoFraction ?x_ZERO ?w_ZERO
    (case a_is_integer => k_is)
    (case l_is_integer => k_is)
    (case e_is_integer => k_is)
    (case k_is_integer => k_is)
    (case a_common_part => k_is)
    (case l_common_part => k_is)
    (case e_common_part => k_is)
    (case k_common_part => k_is)
    (case a_lowest => k_is)
    (case l_lowest => k_is)
    (case e_lowest => k_is)
    (case k_lowest => k_is)
    (case a_is_fraction => k_is)
    (case l_is_fraction => k_is)
    (case e_is_fraction => k_is)
    (case k_is_fraction => k_is)
    (case a_product => k_is)
    (case l_product => k_is)
    (case e_product => k_is)
    (case k_product => k_is)
    (case a_whole_root => k_is)
    (case l_whole_root => k_is)
    (case e_whole_root => k_is)
    (case k_whole_root => k_is)
    (case a_root_of => k_is)
    (case l_root_of => k_is)
    (case e_root_of => k_is)
    (case k_root_of => k_is)
    (case a_check_fractions => k_is)
    (case l_check_fractions => k_is)
    (case e_check_fractions => k_is)
    (case k_check_fractions => k_is)
    (case a_frac_mul => k_is)
    (case l_frac_mul => k_is)
    (case e_frac_mul => k_is)
    (case k_frac_mul => k_is)
    (case a_frac_root => k_is)
    (case l_frac_root => k_is)
    (case e_frac_root => k_is)
    (case k_frac_root => k_is)
    (case a__law_mixed => k_is)
    (case l__law_mixed => k_is)
    (case e__law_mixed => k_is)
    (case k__law_mixed => k_is)
    (case a__law_great => k_is)
    (case l__law_great => k_is)
    (case e__law_great => k_is)
    (case k__law_great => k_is)
    (case a__law_stream => k_is)
    (case l__law_stream => k_is)
    (case e__law_stream => k_is)
    (case k__law_stream => k_is)
    (case a__law_take => k_is)
    (case l__law_take => k_is)
    (case e__law_take => k_is)
    (case k__law_take => k_is)
    (case a__law_low => k_is)
    (case l__law_low => k_is)
    (case e__law_low => k_is)
    (case k__law_low => k_is)
    (case a__law_mul => k_is)
    (case l__law_mul => k_is)
    (case e__law_mul => k_is)
    (case k__law_mul => k_is)
    (case a__law_root => k_is)
    (case l__law_root => k_is)
    (case e__law_root => k_is)
    (case k__law_root => k_is)
    (case a__law_whole => k_is)
    (case l__law_whole => k_is)
    (case e__law_whole => k_is)
    (case k__law_whole => k_is)
    (case a__law_fraction => k_is)
    (case l__law_fraction => k_is)
    (case e__law_fraction => k_is)
    (case k__law_fraction => k_is)
    (case a__law_is_integer => k_is)
    (case l__law_is_integer => k_is)
    (case e__law_is_integer => k_is)
    (case k__law_is_integer => k_is)
    (case a__law_is_frac => k_is)
    (case l__law_is_frac => k_is)
    (case e__law_is_frac => k_is)
    (case k__law_is_frac => k_is)
    (case a__law_no_fraction => k_is)
    (case l__law_no_fraction => k_is)
    (case e__law_no_fraction => k_is)
    (case k__law_no_fraction => k_is)
    (case a__law_thing => k_is)
    (case l__law_thing => k_is)
    (case e__law_thing => k_is)
    (case k__law_thing => k_is)
    (case a__law_has_root => k_is)
    (case l__law_has_root => k_is)
    (case e__law_has_root => k_is)
    (case k__law_has_root => k_is)
    (case a__law_asked => k_is)
    (case l__law_asked => k_is)
    (case e__law_asked => k_is)
    (case k__law_asked => k_is)
    (case a_law => k_is)
    (case l_law => k_is)
    (case e_law => k_is)
    (case k_law => k_is)
    (case z_isinstance => k_is)
    (case z_int => k_is)
    (case z_bool => k_is)
    (case z_abs => k_is)
    (case z_tuple => k_is)
    (case z_len => k_is)
    (case z_list => k_is)
    (case z_range => k_is)
    (case z_min => k_is)
    (case ca_NoFraction => k_is)
    (case cx_NoFraction => k_exc)
    (case ck_NoFraction => k_is)
    (case cb_NoFraction => k_is)
    (case ct_NoFraction => k_is)
    (case ci_NoFraction => k_is)
    (case cs_NoFraction_NoFraction => k_is)
    (case x_ZERO => k_is)
    (case w_ZERO => k_is)
