import PyProof.Rows.All
import PySem.Challenge.RW_spoutlines_k89_whole_words_and_edges_on
import Wide.All
import OpenK.AllK
import Wide.FinOn
import HandS.Base
import HandS.Call
import HandS.List
import HandS.Dict
import HandS.Comp
import HandS.Iter
import HandS.Text
import HandS.Ends
import HandS.Words
import HandS.Flow
import HandS.Style
import HandS.Wide
import HandS.Conv
import HandS.IsInst
import HandS.Deep
import HandS.TupAny
import HandS.Gcd
import HandS.Walk
import HandS.Exc
import HandS.Defaults
import HandS.WordsExc
import HandS.ExcInit
import KE.KMathG
import PyProof.ReprRoads
import KE.KStateDown
import HandS.Head0
import HandS.Head1
import HandS.Head2
import HandS.HeadEnd
import HandS.HeadHook1
import HandS.HeadHook2
import HandS.Head3
import KE.GoesEnum
import HandS.Star
import HandS.Zip
import HandS.WideBits
import Flt.RightSqrt
set_option autoImplicit false
set_option Elab.async false
set_option linter.all false
set_option maxRecDepth 100000
set_option maxHeartbeats 2000000
set_option exponentiation.threshold 10000
namespace Pm
open PySem PySem.Spec L2

/-! ## pure values, the store, outcomes -/
inductive PV where
  | non | bl (b : Bool) | int (i : Int) | str (x : Str)
  | tup (xs : List PV) | lst (xs : List PV) | frz (xs : List PV) | loc (n : Nat) | dct
inductive Ent where
  | lst (xs : List PV)
abbrev Sto := List Ent
abbrev Rho := List (Option PV)
inductive Out (α : Type) where
  | ok (a : α) (S : Sto) | exn (c : Str) (x : Option (Str × PV)) (S : Sto) | stuck
abbrev M (α : Type) := Sto → Out α
def bnd {α β : Type} (m : M α) (f : α → M β) : M β := fun S => match m S with
  | .ok a S1 => f a S1
  | .exn c x S1 => .exn c x S1
  | .stuck => .stuck
def ret {α : Type} (a : α) : M α := fun S => .ok a S
def stk {α : Type} : M α := fun _ => .stuck
theorem bnd_ok {α β : Type} {m : M α} {f : α → M β} {S S1 : Sto} {a : α} (h : m S = .ok a S1) : bnd m f S = f a S1 := by
  unfold bnd; rw [h]
theorem bnd_ret {α β : Type} {a : α} {f : α → M β} : bnd (ret a) f = f a := rfl
abbrev ED := Rho → M PV
abbrev BD := Rho → M Bool
abbrev AD := Rho → M (List PV)

/-! ## the relation to the heap -/
/-- the addresses of the store's places, and those of lists that are being made -/
structure Mu where
  ls : List Addr
  hid : List Addr
def Mu.has (μ : Mu) (a : Addr) : Prop := a ∈ μ.ls ∨ a ∈ μ.hid
abbrev Mu.push (μ : Mu) (p : Addr) : Mu := ⟨μ.ls ++ [p], μ.hid⟩
abbrev Mu.hide (μ : Mu) (p : Addr) : Mu := ⟨μ.ls, p :: μ.hid⟩
/-- a list that nobody writes: known to the object, or of the module -/
def FrzL (K : PySem.W.Frag) (H : Hp) (a : Addr) (vs : List V) : Prop := (∃ o, H a = some (.frz o (.lst vs))) ∨
  ∃ (o : Obj) (its : Array Value) (n : Nat), K.lookup a = some o ∧ o.cls = .type "list" ∧ o.dict = none ∧ o.data = .seq its n ∧ its.size ≤ sizeLine ∧ Vals vs its.toList
theorem FrzL.sqL {K : PySem.W.Frag} {H : Hp} {a : Addr} {vs : List V} (h : FrzL K H a vs) : SqL K H a vs := h.elim (fun ⟨o, e⟩ => .inl (.inr ⟨o, e⟩)) .inr
section
variable (K : PySem.W.Frag)
mutual
inductive Rp (H : Hp) (μ : Mu) : V → PV → Prop
  | non : Rp H μ .non .non
  | bl (b : Bool) : Rp H μ (.bl b) (.bl b)
  | int (i : Int) : Rp H μ (.int i) (.int i)
  | str (x : Str) : Rp H μ (.str x) (.str x)
  | tup {a : Addr} {vs : List V} {ps : List PV} : SqT K H a vs → RpL H μ vs ps → Rp H μ (.ref a) (.tup ps)
  | lst {a : Addr} {vs : List V} {ps : List PV} : ¬ μ.has a → H a = some (.lst vs) → RpL H μ vs ps → Rp H μ (.ref a) (.lst ps)
  | frz {a : Addr} {vs : List V} {ps : List PV} : FrzL K H a vs → RpL H μ vs ps → Rp H μ (.ref a) (.frz ps)
  | loc {a : Addr} {n : Nat} : μ.ls[n]? = some a → Rp H μ (.ref a) (.loc n)
  | dct {a : Addr} : ¬ μ.has a → H a = some (.dK []) → Rp H μ (.ref a) .dct
inductive RpL (H : Hp) (μ : Mu) : List V → List PV → Prop
  | nil : RpL H μ [] []
  | cons {v : V} {vs : List V} {p : PV} {ps : List PV} : Rp H μ v p → RpL H μ vs ps → RpL H μ (v :: vs) (p :: ps)
end
end

def Imm : HO → Prop
  | .tup _ => True
  | .frz _ _ => True
  | _ => False
structure GrowW (H : Hp) (μ : Mu) (H' : Hp) (μ' : Mu) : Prop where
  ext : ∃ ν, μ'.ls = μ.ls ++ ν ∧ ∀ p ∈ ν, H p = none
  hid : ∃ hs, μ'.hid = hs ++ μ.hid ∧ ∀ p ∈ hs, H p = none
  keep : ∀ a o, H a = some o → (¬ μ.has a ∨ Imm o) → H' a = some o
  there : ∀ a o, H a = some o → ∃ o', H' a = some o'
theorem GrowW.refl {H : Hp} {μ : Mu} : GrowW H μ H μ := ⟨⟨[], by simp, by simp⟩, ⟨[], by simp, by simp⟩, fun _ _ h _ => h, fun _ o h => ⟨o, h⟩⟩
theorem GrowW.notin {H H' : Hp} {μ μ' : Mu} (g : GrowW H μ H' μ') {a : Addr} {o : HO} (h : H a = some o) (n : ¬ μ.has a) : ¬ μ'.has a := fun hx => by
  obtain ⟨ν, e, f⟩ := g.ext
  obtain ⟨hs, e2, f2⟩ := g.hid
  rcases hx with hx | hx
  · rw [e] at hx
    rcases List.mem_append.mp hx with z | z
    · exact n (.inl z)
    · rw [f a z] at h; cases h
  · rw [e2] at hx
    rcases List.mem_append.mp hx with z | z
    · rw [f2 a z] at h; cases h
    · exact n (.inr z)
theorem GrowW.trans {H H1 H2 : Hp} {μ μ1 μ2 : Mu} (a : GrowW H μ H1 μ1) (b : GrowW H1 μ1 H2 μ2) : GrowW H μ H2 μ2 := by
  have nn := fun x o h q => a.notin (a := x) (o := o) h q
  obtain ⟨⟨n1, e1, f1⟩, ⟨d1, y1, z1⟩, k1, t1⟩ := a
  obtain ⟨⟨n2, e2, f2⟩, ⟨d2, y2, z2⟩, k2, t2⟩ := b
  have lift : ∀ x o, H x = some o → (¬ μ.has x ∨ Imm o) → ¬ μ1.has x ∨ Imm o := fun x o h q => q.elim (fun q => .inl (nn x o h q)) .inr
  have fr : ∀ p, H1 p = none → H p = none := fun p hp => by
    cases q : H p with
    | none => rfl
    | some o =>
      obtain ⟨o', h'⟩ := t1 p o q
      rw [hp] at h'; cases h'
  refine ⟨⟨n1 ++ n2, by rw [e2, e1, List.append_assoc], fun p hp => ?_⟩, ⟨d2 ++ d1, by rw [y2, y1, List.append_assoc], fun p hp => ?_⟩, fun x o h q => k2 x o (k1 x o h q) (lift x o h q), fun x o h => ?_⟩
  · exact (List.mem_append.mp hp).elim (f1 p) fun z => fr p (f2 p z)
  · exact (List.mem_append.mp hp).elim (fun z => fr p (z2 p z)) (z1 p)
  · obtain ⟨o', h'⟩ := t1 x o h
    exact t2 x o' h'
theorem GrowW.pre {H H' : Hp} {μ μ' : Mu} (g : GrowW H μ H' μ') {n : Nat} {a : Addr} (h : μ.ls[n]? = some a) : μ'.ls[n]? = some a := by
  obtain ⟨ν, e, _⟩ := g.ext
  rw [e, List.getElem?_append_left (List.getElem?_eq_some_iff.mp h).1]
  exact h
/-- the lists that are being made are forgotten -/
theorem GrowW.drop {H H' : Hp} {μ μ' : Mu} (g : GrowW H μ H' μ') : GrowW H μ H' ⟨μ'.ls, μ.hid⟩ := ⟨g.ext, ⟨[], by simp, by simp⟩, g.keep, g.there⟩
section
variable {K : PySem.W.Frag} {H H' : Hp} {μ μ' : Mu}
theorem GrowW.sqT (g : GrowW H μ H' μ') {a : Addr} {vs : List V} (h : SqT K H a vs) : SqT K H' a vs := by
  rcases h with (h | ⟨o, h⟩) | h
  · exact .inl (.inl (g.keep _ _ h (.inr trivial)))
  · exact .inl (.inr ⟨o, g.keep _ _ h (.inr trivial)⟩)
  · exact .inr h
theorem GrowW.frz (g : GrowW H μ H' μ') {a : Addr} {vs : List V} (h : FrzL K H a vs) : FrzL K H' a vs := h.elim (fun ⟨o, e⟩ => .inl ⟨o, g.keep _ _ e (.inr trivial)⟩) .inr
mutual
theorem Rp.growW' (g : GrowW H μ H' μ') : ∀ {v : V} {p : PV}, Rp K H μ v p → Rp K H' μ' v p
  | _, _, .non => .non
  | _, _, .bl b => .bl b
  | _, _, .int i => .int i
  | _, _, .str x => .str x
  | _, _, .tup h r => .tup (g.sqT h) (RpL.growW' g r)
  | _, _, .lst n h r => .lst (g.notin h n) (g.keep _ _ h (.inl n)) (RpL.growW' g r)
  | _, _, .frz h r => .frz (g.frz h) (RpL.growW' g r)
  | _, _, .loc h => .loc (g.pre h)
  | _, _, .dct n h => .dct (g.notin h n) (g.keep _ _ h (.inl n))
theorem RpL.growW' (g : GrowW H μ H' μ') : ∀ {vs : List V} {ps : List PV}, RpL K H μ vs ps → RpL K H' μ' vs ps
  | _, _, .nil => .nil
  | _, _, .cons h r => .cons (Rp.growW' g h) (RpL.growW' g r)
end
theorem Rp.growW {v : V} {p : PV} (h : Rp K H μ v p) (g : GrowW H μ H' μ') : Rp K H' μ' v p := Rp.growW' g h
theorem RpL.growW {v : List V} {p : List PV} (h : RpL K H μ v p) (g : GrowW H μ H' μ') : RpL K H' μ' v p := RpL.growW' g h
theorem RpL.length : ∀ {vs : List V} {ps : List PV}, RpL K H μ vs ps → vs.length = ps.length
  | _, _, .nil => rfl
  | _, _, .cons _ r => by simp [RpL.length r]
theorem RpL.get : ∀ {vs : List V} {ps : List PV} {i : Nat} {p : PV}, RpL K H μ vs ps → ps[i]? = some p → ∃ v, vs[i]? = some v ∧ Rp K H μ v p
  | _, _, _, _, .nil, e => by simp at e
  | _, _, 0, _, .cons r _, e => by simp at e; subst e; exact ⟨_, rfl, r⟩
  | _, _, i + 1, p, .cons _ t, e => by
    obtain ⟨u, h1, h2⟩ := RpL.get (i := i) (p := p) t (by simpa using e)
    exact ⟨u, by simpa using h1, h2⟩
theorem RpL.append : ∀ {vs ws : List V} {ps qs : List PV}, RpL K H μ vs ps → RpL K H μ ws qs → RpL K H μ (vs ++ ws) (ps ++ qs)
  | _, _, _, _, .nil, s => s
  | _, _, _, _, .cons r t, s => .cons r (RpL.append t s)
theorem RpL.take : ∀ {vs : List V} {ps : List PV} (n : Nat), RpL K H μ vs ps → RpL K H μ (vs.take n) (ps.take n)
  | _, _, 0, _ => .nil
  | _, _, _ + 1, .nil => .nil
  | _, _, n + 1, .cons r t => .cons r (RpL.take n t)
theorem RpL.drop : ∀ {vs : List V} {ps : List PV} (n : Nat), RpL K H μ vs ps → RpL K H μ (vs.drop n) (ps.drop n)
  | _, _, 0, r => r
  | _, _, _ + 1, .nil => .nil
  | _, _, n + 1, .cons _ t => RpL.drop n t
theorem RpL.set {v : V} {p : PV} (r : Rp K H μ v p) : ∀ {vs : List V} {ps : List PV} (i : Nat), RpL K H μ vs ps → RpL K H μ (vs.set i v) (ps.set i p)
  | _, _, _, .nil => .nil
  | _, _, 0, .cons _ t => .cons r t
  | _, _, i + 1, .cons q t => .cons q (RpL.set r i t)
theorem RpL.reverse {vs : List V} {ps : List PV} (h : RpL K H μ vs ps) : RpL K H μ vs.reverse ps.reverse := by
  induction h using RpL.rec (motive_1 := fun _ _ _ => True) with
  | nil => exact .nil
  | cons r t _ ih => simp only [List.reverse_cons]; exact RpL.append ih (.cons r .nil)
  | _ => trivial
end

/-! ## the store's relation -/
def EntOk (K : PySem.W.Frag) (H : Hp) (μ : Mu) (a : Addr) : Ent → Prop
  | .lst ps => ∃ vs, H a = some (.lst vs) ∧ RpL K H μ vs ps
structure RelS (K : PySem.W.Frag) (H : Hp) (μ : Mu) (S : Sto) : Prop where
  len : μ.ls.length = S.length
  nd : μ.ls.Nodup
  hids : ∀ a ∈ μ.hid, a ∉ μ.ls ∧ ∃ vs, H a = some (.lst vs)
  at_ : ∀ (n : Nat) (e : Ent) (a : Addr), S[n]? = some e → μ.ls[n]? = some a → EntOk K H μ a e
def RelE (K : PySem.W.Frag) (H : Hp) (μ : Mu) (σ : St) (ρ : Rho) : Prop :=
  σ.length = ρ.length ∧ ∀ (i : Nat) (p : PV), ρ[i]? = some (some p) → ∃ v, σ[i]? = some (some v) ∧ Rp K H μ v p
/-- .. the lists that are being made stay as they are -/
structure Grow (H : Hp) (μ : Mu) (H' : Hp) (μ' : Mu) : Prop where
  w : GrowW H μ H' μ'
  stay : ∀ a ∈ μ.hid, H' a = H a
theorem Grow.refl {H : Hp} {μ : Mu} : Grow H μ H μ := ⟨.refl, fun _ _ => rfl⟩
theorem Grow.trans {H H1 H2 : Hp} {μ μ1 μ2 : Mu} (a : Grow H μ H1 μ1) (b : Grow H1 μ1 H2 μ2) : Grow H μ H2 μ2 := by
  refine ⟨a.w.trans b.w, fun x hx => ?_⟩
  obtain ⟨hs, e, _⟩ := a.w.hid
  rw [b.stay x (by rw [e]; exact List.mem_append_right _ hx), a.stay x hx]
theorem Grow.pre {H H' : Hp} {μ μ' : Mu} (g : Grow H μ H' μ') {n : Nat} {a : Addr} (h : μ.ls[n]? = some a) : μ'.ls[n]? = some a := g.w.pre h
theorem Grow.keep {H H' : Hp} {μ μ' : Mu} (g : Grow H μ H' μ') (a : Addr) (o : HO) (h : H a = some o) (q : ¬ μ.has a ∨ Imm o) : H' a = some o := g.w.keep a o h q
theorem Grow.sqT {K : PySem.W.Frag} {H H' : Hp} {μ μ' : Mu} (g : Grow H μ H' μ') {a : Addr} {vs : List V} (h : SqT K H a vs) : SqT K H' a vs := g.w.sqT h
theorem Rp.grow {K : PySem.W.Frag} {H H' : Hp} {μ μ' : Mu} {v : V} {p : PV} (h : Rp K H μ v p) (g : Grow H μ H' μ') : Rp K H' μ' v p := h.growW g.w
theorem RpL.grow {K : PySem.W.Frag} {H H' : Hp} {μ μ' : Mu} {v : List V} {p : List PV} (h : RpL K H μ v p) (g : Grow H μ H' μ') : RpL K H' μ' v p := h.growW g.w
section
variable {K : PySem.W.Frag} {H H' : Hp} {μ μ' : Mu} {S : Sto} {σ : St} {ρ : Rho}
theorem RelE.growW (h : RelE K H μ σ ρ) (g : GrowW H μ H' μ') : RelE K H' μ' σ ρ :=
  ⟨h.1, fun i p e => let ⟨v, e1, r⟩ := h.2 i p e; ⟨v, e1, r.growW g⟩⟩
theorem RelE.grow (h : RelE K H μ σ ρ) (g : Grow H μ H' μ') : RelE K H' μ' σ ρ := h.growW g.w
theorem RelE.set (h : RelE K H μ σ ρ) {v : V} {p : PV} (r : Rp K H μ v p) (i : Nat) : RelE K H μ (σ.set i (some v)) (ρ.set i (some p)) := by
  refine ⟨by simp [h.1], fun j q e => ?_⟩
  by_cases hj : i = j
  · subst hj
    rw [List.getElem?_set] at e ⊢
    rw [if_pos rfl] at e ⊢
    split at e
    · rename_i hl
      have e' : p = q := by simpa using e
      subst e'
      exact ⟨v, by simp [h.1, hl], r⟩
    · cases e
  · rw [List.getElem?_set_ne hj] at e ⊢
    exact h.2 j q e
theorem RelE.unset (h : RelE K H μ σ ρ) (i : Nat) : RelE K H μ (σ.set i none) (ρ.set i none) := by
  refine ⟨by simp [h.1], fun j q e => ?_⟩
  by_cases hj : i = j
  · subst hj
    rw [List.getElem?_set, if_pos rfl] at e
    split at e <;> cases e
  · rw [List.getElem?_set_ne hj] at e ⊢
    exact h.2 j q e
theorem EntOk.grow {a : Addr} {e : Ent} (h : EntOk K H μ a e) (g : GrowW H μ H' μ') (e1 : H' a = H a) : EntOk K H' μ' a e := by
  cases e with
  | lst ps =>
    obtain ⟨vs, h1, r⟩ := h
    exact ⟨vs, by rw [e1]; exact h1, r.growW g⟩
/-- nothing of the store's own changed -/
theorem RelS.same (h : RelS K H μ S) (g : GrowW H μ H' μ) (k : ∀ a, μ.has a → H' a = H a) : RelS K H' μ S :=
  ⟨h.len, h.nd, fun a ha => ⟨(h.hids a ha).1, by rw [k a (.inr ha)]; exact (h.hids a ha).2⟩, fun n e a e1 e2 => (h.at_ n e a e1 e2).grow g (k a (.inl (List.mem_of_getElem? e2)))⟩
/-- what stands at the store's own places -/
theorem RelS.has (h : RelS K H μ S) {a : Addr} (ha : μ.has a) : ∃ vs, H a = some (.lst vs) := by
  rcases ha with ha | ha
  · obtain ⟨n, hn, e⟩ := List.getElem_of_mem ha
    have e2 : μ.ls[n]? = some a := by rw [List.getElem?_eq_getElem hn, e]
    have hs : n < S.length := by rw [← h.len]; exact hn
    have := h.at_ n S[n] a (List.getElem?_eq_getElem hs) e2
    cases q : S[n] with
    | lst ps => rw [q] at this; obtain ⟨vs, h1, _⟩ := this; exact ⟨vs, h1⟩
  · exact (h.hids a ha).2
theorem RelS.fresh (h : RelS K H μ S) {p : Addr} (hp : H p = none) : ¬ μ.has p := fun hm => by
  obtain ⟨vs, e⟩ := h.has hm
  rw [hp] at e; cases e
/-- a new object that is not of the store -/
theorem growW_new {p : Addr} {o : HO} (hp : H p = none) : GrowW H μ (upd H p o) μ :=
  ⟨⟨[], by simp, by simp⟩, ⟨[], by simp, by simp⟩, fun a u h _ => by rw [upd_ne (ne_of_none h hp)]; exact h, fun a u h => ⟨u, by rw [upd_ne (ne_of_none h hp)]; exact h⟩⟩
theorem RelS.new (h : RelS K H μ S) {p : Addr} {o : HO} (hp : H p = none) : RelS K (upd H p o) μ S :=
  h.same (growW_new hp) fun a ha => by
    obtain ⟨vs, e⟩ := h.has ha
    rw [upd_ne (ne_of_none e hp)]
theorem RelS.st (h : RelS K H μ S) {p : Addr} {o : HO} (hp : H p = none) : ∀ a ∈ μ.hid, (upd H p o) a = H a := fun a ha => by
  obtain ⟨_, vs, e⟩ := h.hids a ha
  rw [upd_ne (ne_of_none e hp)]
theorem grow_new (h : RelS K H μ S) {p : Addr} {o : HO} (hp : H p = none) : Grow H μ (upd H p o) μ := ⟨growW_new hp, h.st hp⟩
/-- a new list of the store -/
theorem growW_loc {p : Addr} {o : HO} (hp : H p = none) : GrowW H μ (upd H p o) (μ.push p) :=
  ⟨⟨[p], rfl, fun q hq => by have e : q = p := by simpa using hq
                             subst e; exact hp⟩, ⟨[], by simp, by simp⟩, fun a u h _ => by rw [upd_ne (ne_of_none h hp)]; exact h, fun a u h => ⟨u, by rw [upd_ne (ne_of_none h hp)]; exact h⟩⟩
theorem grow_loc (h : RelS K H μ S) {p : Addr} {o : HO} (hp : H p = none) : Grow H μ (upd H p o) (μ.push p) := ⟨growW_loc hp, h.st hp⟩
theorem RelS.newLoc (h : RelS K H μ S) {p : Addr} {vs : List V} {ps : List PV} (hp : H p = none) (r : RpL K H μ vs ps) : RelS K (upd H p (.lst vs)) (μ.push p) (S ++ [.lst ps]) := by
  have g : GrowW H μ (upd H p (.lst vs)) (μ.push p) := growW_loc hp
  have st : ∀ a, μ.has a → (upd H p (.lst vs)) a = H a := fun a ha => by
    obtain ⟨ws, q⟩ := h.has ha
    rw [upd_ne (ne_of_none q hp)]
  refine ⟨by simp [h.len], ?_, fun a ha => ?_, fun n e a e1 e2 => ?_⟩
  · rw [List.nodup_append]
    refine ⟨h.nd, by simp, fun a ha b hb => ?_⟩
    have e : b = p := by simpa using hb
    subst e
    intro z
    subst z
    exact h.fresh hp (.inl ha)
  · refine ⟨fun hm => ?_, by rw [st a (.inr ha)]; exact (h.hids a ha).2⟩
    rcases List.mem_append.mp hm with z | z
    · exact (h.hids a ha).1 z
    · have e : a = p := by simpa using z
      subst e
      exact h.fresh hp (.inr ha)
  · by_cases hn : n < S.length
    · rw [List.getElem?_append_left hn] at e1
      rw [List.getElem?_append_left (by rw [h.len]; exact hn)] at e2
      exact (h.at_ n e a e1 e2).grow g (st a (.inl (List.mem_of_getElem? e2)))
    · rw [List.getElem?_append_right (by omega)] at e1
      rw [List.getElem?_append_right (by rw [h.len]; omega), h.len] at e2
      have hz : n - S.length = 0 := by
        cases q : n - S.length with
        | zero => rfl
        | succ k => rw [q] at e1; simp at e1
      rw [hz] at e1 e2
      have e1' : Ent.lst ps = e := by simpa using e1
      have e2' : p = a := by simpa using e2
      subst e1' e2'
      exact ⟨vs, upd_same, r.growW g⟩
/-- a list of the store is written -/
theorem growW_put {n : Nat} {a : Addr} {o : HO} (h : RelS K H μ S) (e : μ.ls[n]? = some a) : GrowW H μ (upd H a o) μ := by
  have ha : a ∈ μ.ls := List.mem_of_getElem? e
  obtain ⟨ws, hw⟩ := h.has (.inl ha)
  refine ⟨⟨[], by simp, by simp⟩, ⟨[], by simp, by simp⟩, fun b u hb q => ?_, fun b u hb => ?_⟩
  · have ne : b ≠ a := fun z => by
      subst z
      rcases q with q | q
      · exact q (.inl ha)
      · rw [hw] at hb; cases hb; exact q
    rw [upd_ne ne]; exact hb
  · by_cases z : b = a
    · subst z; exact ⟨o, upd_same⟩
    · exact ⟨u, by rw [upd_ne z]; exact hb⟩
theorem grow_put {n : Nat} {a : Addr} {o : HO} (h : RelS K H μ S) (e : μ.ls[n]? = some a) : Grow H μ (upd H a o) μ := ⟨growW_put h e, fun b hb => by
  rw [upd_ne]
  intro z
  subst z
  exact (h.hids b hb).1 (List.mem_of_getElem? e)⟩
theorem RelS.put (h : RelS K H μ S) {n : Nat} {a : Addr} {vs : List V} {ps : List PV} (e : μ.ls[n]? = some a) (r : RpL K H μ vs ps) : RelS K (upd H a (.lst vs)) μ (S.set n (.lst ps)) := by
  have g : GrowW H μ (upd H a (.lst vs)) μ := growW_put h e
  refine ⟨by simp [h.len], h.nd, fun b hb => ?_, fun m u b e1 e2 => ?_⟩
  · have hh := h.hids b hb
    have ne : b ≠ a := fun z => by subst z; exact hh.1 (List.mem_of_getElem? e)
    exact ⟨hh.1, by rw [upd_ne ne]; exact hh.2⟩
  by_cases hm : n = m
  · subst hm
    rw [e] at e2
    have e2' : a = b := by simpa using e2
    subst e2'
    rw [List.getElem?_set, if_pos rfl] at e1
    split at e1
    · have e1' : Ent.lst ps = u := by simpa using e1
      subst e1'
      exact ⟨vs, upd_same, r.growW g⟩
    · cases e1
  · rw [List.getElem?_set_ne hm] at e1
    have nb : b ≠ a := fun z => by
      subst z
      exact hm (by
        obtain ⟨h1, q1⟩ := List.getElem?_eq_some_iff.mp e
        obtain ⟨h2, q2⟩ := List.getElem?_eq_some_iff.mp e2
        exact (List.getElem_inj h.nd).mp (q1.trans q2.symm))
    exact (h.at_ m u b e1 e2).grow g (upd_ne nb)
/-! ### a list that is being made -/
section
variable {D : Addr} {o : HO}
theorem grow_enter (hD : H D = none) : GrowW H μ (upd H D o) (μ.hide D) :=
  ⟨⟨[], by simp, by simp⟩, ⟨[D], rfl, fun p hp => (List.mem_singleton.mp hp) ▸ hD⟩, fun a u h _ => by rw [upd_ne (ne_of_none h hD)]; exact h, fun a u h => ⟨u, by rw [upd_ne (ne_of_none h hD)]; exact h⟩⟩
mutual
theorem Rp.show_ (e1 : μ'.ls = μ.ls) (e2 : ∀ a ∈ μ'.hid, a ∈ μ.hid) : ∀ {v : V} {p : PV}, Rp K H μ v p → Rp K H μ' v p
  | _, _, .non => .non
  | _, _, .bl b => .bl b
  | _, _, .int i => .int i
  | _, _, .str x => .str x
  | _, _, .tup h r => .tup h (RpL.show_ e1 e2 r)
  | _, _, .lst n h r => .lst (fun z => n (z.elim (fun q => .inl (e1 ▸ q)) fun q => .inr (e2 _ q))) h (RpL.show_ e1 e2 r)
  | _, _, .frz h r => .frz h (RpL.show_ e1 e2 r)
  | _, _, .loc h => .loc (by rw [e1]; exact h)
  | _, _, .dct n h => .dct (fun z => n (z.elim (fun q => .inl (e1 ▸ q)) fun q => .inr (e2 _ q))) h
theorem RpL.show_ (e1 : μ'.ls = μ.ls) (e2 : ∀ a ∈ μ'.hid, a ∈ μ.hid) : ∀ {vs : List V} {ps : List PV}, RpL K H μ vs ps → RpL K H μ' vs ps
  | _, _, .nil => .nil
  | _, _, .cons h r => .cons (Rp.show_ e1 e2 h) (RpL.show_ e1 e2 r)
end
theorem RelS.hide (hD : H D = none) (h : RelS K H μ S) : RelS K (upd H D (.lst [])) (μ.hide D) S := by
  have g : GrowW H μ (upd H D (.lst [])) (μ.hide D) := grow_enter hD
  refine ⟨h.len, h.nd, fun a ha => ?_, fun n e a e1 e2 => ?_⟩
  · rcases List.mem_cons.mp ha with z | z
    · subst z; exact ⟨fun hm => h.fresh hD (.inl hm), [], upd_same⟩
    · obtain ⟨q1, vs, q2⟩ := h.hids a z
      exact ⟨q1, vs, by rw [upd_ne (ne_of_none q2 hD)]; exact q2⟩
  · obtain ⟨vs, q⟩ := h.has (.inl (List.mem_of_getElem? e2))
    exact (h.at_ n e a e1 e2).grow g (by rw [upd_ne (ne_of_none q hD)])
theorem RelS.show_ (h : RelS K H μ S) (e1 : μ'.ls = μ.ls) (e2 : ∀ a ∈ μ'.hid, a ∈ μ.hid) : RelS K H μ' S := by
  refine ⟨by rw [e1]; exact h.len, by rw [e1]; exact h.nd, fun a ha => by rw [e1]; exact h.hids a (e2 a ha), fun n e a q1 q2 => ?_⟩
  have := h.at_ n e a q1 (by rw [← e1]; exact q2)
  cases e with
  | lst ps =>
    obtain ⟨vs, h1, r⟩ := this
    exact ⟨vs, h1, r.show_ e1 e2⟩
/-- the list that is being made is written -/
theorem grow_hid (hm : D ∈ μ.hid) (h : RelS K H μ S) : GrowW H μ (upd H D o) μ := by
  obtain ⟨_, vs, hv⟩ := h.hids D hm
  refine ⟨⟨[], by simp, by simp⟩, ⟨[], by simp, by simp⟩, fun b u hb q => ?_, fun b u hb => ?_⟩
  · have ne : b ≠ D := fun z => by
      subst z
      rcases q with q | q
      · exact q (.inr hm)
      · rw [hv] at hb; cases hb; exact q
    rw [upd_ne ne]; exact hb
  · by_cases z : b = D
    · subst z; exact ⟨o, upd_same⟩
    · exact ⟨u, by rw [upd_ne z]; exact hb⟩
theorem RelS.putHid (hm : D ∈ μ.hid) (h : RelS K H μ S) {ws : List V} : RelS K (upd H D (.lst ws)) μ S := by
  have g : GrowW H μ (upd H D (.lst ws)) μ := grow_hid hm h
  refine ⟨h.len, h.nd, fun a ha => ⟨(h.hids a ha).1, ?_⟩, fun n e a e1 e2 => ?_⟩
  · by_cases z : a = D
    · subst z; exact ⟨ws, upd_same⟩
    · rw [upd_ne z]; exact (h.hids a ha).2
  · have ne : a ≠ D := fun z => by
      subst z
      exact (h.hids a hm).1 (List.mem_of_getElem? e2)
    exact (h.at_ n e a e1 e2).grow g (upd_ne ne)
end
end

/-! ## what is wanted behind an outcome -/
def XOk (K : PySem.W.Frag) (H : Hp) (μ : Mu) : Option Addr → Option (Str × PV) → Prop
  | none, none => True
  | some d, some (f, p) => ∃ v, H d = some (.xd [(f, v)]) ∧ Rp K H μ v p
  | _, _ => False
def Post (K : PySem.W.Frag) (mg : Str → Option Value) (E : XK) (H : Hp) (μ : Mu) {α : Type} (o : Out α) (k : α → Sto → Hp → Mu → Prop) : Prop :=
  match o with
  | .ok a S' => ∀ H' μ', Grow H μ H' μ' → RelS K H' μ' S' → k a S' H' μ'
  | .exn c x S' => ∀ C od H' μ', mg c = some (.ref C) → Grow H μ H' μ' → RelS K H' μ' S' → XOk K H' μ' od x → E (.ref C) od H'
  | .stuck => False
section
variable {K : PySem.W.Frag} {mg : Str → Option Value} {E : XK} {H H' : Hp} {μ μ' : Mu} {S : Sto} {α β : Type}
theorem Post.grow {o : Out α} {k : α → Sto → Hp → Mu → Prop} (g : Grow H μ H' μ') (h : Post K mg E H μ o k) : Post K mg E H' μ' o k := by
  cases o with
  | ok a S1 => exact fun H2 μ2 g2 r2 => h H2 μ2 (g.trans g2) r2
  | exn c x S1 => exact fun C od H2 μ2 hm g2 r2 q => h C od H2 μ2 hm (g.trans g2) r2 q
  | stuck => exact h
theorem Post.mono {o : Out α} {k k' : α → Sto → Hp → Mu → Prop} (h : Post K mg E H μ o k) (q : ∀ a S1 H1 μ1, Grow H μ H1 μ1 → RelS K H1 μ1 S1 → k a S1 H1 μ1 → k' a S1 H1 μ1) : Post K mg E H μ o k' := by
  cases o with
  | ok a S1 => exact fun H2 μ2 g2 r2 => q _ _ _ _ g2 r2 (h H2 μ2 g2 r2)
  | exn c x S1 => exact h
  | stuck => exact h
theorem Post.bnd {m : M α} {f : α → M β} {k : β → Sto → Hp → Mu → Prop} (h : Post K mg E H μ (bnd m f S) k) : Post K mg E H μ (m S) (fun a S1 H1 μ1 => Post K mg E H1 μ1 (f a S1) k) := by
  unfold Pm.bnd at h
  cases q : m S with
  | ok a S1 => rw [q] at h; exact fun H1 μ1 g1 _ => h.grow g1
  | exn c x S1 => rw [q] at h; exact h
  | stuck => rw [q] at h; exact h
end

/-! ## readings -/
section
variable (K : PySem.W.Frag) (mg : Str → Option Value) (E : XK)
def kE (Q : VK) : PV → Sto → Hp → Mu → Prop := fun p _ H' μ' => ∀ v, Rp K H' μ' v p → Q v H'
def kT (Q : Bool → Hp → Prop) : Bool → Sto → Hp → Mu → Prop := fun b _ H' _ => Q b H'
def kA (Q : List V → Hp → Prop) : List PV → Sto → Hp → Mu → Prop := fun ps _ H' μ' => ∀ vs, RpL K H' μ' vs ps → Q vs H'
def tE (m : ED) : TE := fun σ H Q => ∃ ρ S μ, RelE K H μ σ ρ ∧ RelS K H μ S ∧ Post K mg E H μ (m ρ S) (kE K Q)
def tT (m : BD) : TT := fun σ H Q => ∃ ρ S μ, RelE K H μ σ ρ ∧ RelS K H μ S ∧ Post K mg E H μ (m ρ S) (kT Q)
def tA (m : AD) : TA := fun σ H Q => ∃ ρ S μ, RelE K H μ σ ρ ∧ RelS K H μ S ∧ Post K mg E H μ (m ρ S) (kA K Q)
end
section
variable {K : PySem.W.Frag} {mg : Str → Option Value} {E : XK} {H : Hp} {μ : Mu} {S : Sto} {σ : St} {ρ : Rho} {β : Type}
theorem stepE {m : ED} {f : PV → M β} {k : β → Sto → Hp → Mu → Prop} {Q : VK} (re : RelE K H μ σ ρ) (rs : RelS K H μ S) (h : Post K mg E H μ (bnd (m ρ) f S) k)
    (hq : ∀ v p S1 H1 μ1, RelE K H1 μ1 σ ρ → RelS K H1 μ1 S1 → Rp K H1 μ1 v p → Grow H μ H1 μ1 → Post K mg E H1 μ1 (f p S1) k → Q v H1) : tE K mg E m σ H Q :=
  ⟨ρ, S, μ, re, rs, h.bnd.mono fun p S1 H1 μ1 g r q v rv => hq v p S1 H1 μ1 (re.grow g) r rv g q⟩
theorem stepT {m : BD} {f : Bool → M β} {k : β → Sto → Hp → Mu → Prop} {Q : Bool → Hp → Prop} (re : RelE K H μ σ ρ) (rs : RelS K H μ S) (h : Post K mg E H μ (bnd (m ρ) f S) k)
    (hq : ∀ b S1 H1 μ1, RelE K H1 μ1 σ ρ → RelS K H1 μ1 S1 → Grow H μ H1 μ1 → Post K mg E H1 μ1 (f b S1) k → Q b H1) : tT K mg E m σ H Q :=
  ⟨ρ, S, μ, re, rs, h.bnd.mono fun b S1 H1 μ1 g r q => hq b S1 H1 μ1 (re.grow g) r g q⟩
theorem stepA {m : AD} {f : List PV → M β} {k : β → Sto → Hp → Mu → Prop} {Q : List V → Hp → Prop} (re : RelE K H μ σ ρ) (rs : RelS K H μ S) (h : Post K mg E H μ (bnd (m ρ) f S) k)
    (hq : ∀ vs ps S1 H1 μ1, RelE K H1 μ1 σ ρ → RelS K H1 μ1 S1 → RpL K H1 μ1 vs ps → Grow H μ H1 μ1 → Post K mg E H1 μ1 (f ps S1) k → Q vs H1) : tA K mg E m σ H Q :=
  ⟨ρ, S, μ, re, rs, h.bnd.mono fun p S1 H1 μ1 g r q v rv => hq v p S1 H1 μ1 (re.grow g) r rv g q⟩
theorem lastE {m : ED} {Q : VK} (re : RelE K H μ σ ρ) (rs : RelS K H μ S) (h : Post K mg E H μ (m ρ S) (kE K Q)) : tE K mg E m σ H Q := ⟨ρ, S, μ, re, rs, h⟩
theorem lastT {m : BD} {Q : Bool → Hp → Prop} (re : RelE K H μ σ ρ) (rs : RelS K H μ S) (h : Post K mg E H μ (m ρ S) (kT Q)) : tT K mg E m σ H Q := ⟨ρ, S, μ, re, rs, h⟩
/-- the answer of an outcome that is there at once -/
theorem Post.now {α : Type} {a : α} {k : α → Sto → Hp → Mu → Prop} (rs : RelS K H μ S) (h : Post K mg E H μ (.ok a S) k) : k a S H μ := h H μ .refl rs
end

/-! ## weakening -/
section
variable {X : Cx}
theorem PE.imp {e : Expr} {t t' : TE} (h : PE X e t) (q : ∀ σ H Q, t' σ H Q → t σ H Q) : PE X e t' := ⟨fun pins s σ H Q I w => h.run pins s σ H Q I (q σ H Q w)⟩
theorem PT.imp {e : Expr} {t t' : TT} (h : PT X e t) (q : ∀ σ H Q, t' σ H Q → t σ H Q) : PT X e t' := ⟨fun pins s σ H Q I w => h.run pins s σ H Q I (q σ H Q w)⟩
theorem PW.imp {e : Expr} {t t' : TT} (h : PW X e t) (q : ∀ σ H Q, t' σ H Q → t σ H Q) : PW X e t' := ⟨fun wh pins s σ H Q I w => h.run wh pins s σ H Q I (q σ H Q w)⟩
theorem PA.imp {es : List Expr} {t t' : TA} (h : PA X es t) (q : ∀ σ H Q, t' σ H Q → t σ H Q) : PA X es t' := ⟨fun pos pins s σ H Q I w => h.run pos pins s σ H Q I (q σ H Q w)⟩
theorem PS.imp {st : Stmt} {t t' : TS} (h : PS X st t) (q : ∀ D σ H, t' D σ H → t D σ H) : PS X st t' := ⟨fun pins s σ H D I w => h.run pins s σ H D I (q D σ H w)⟩
theorem PSs.imp {st : List Stmt} {t t' : TS} (h : PSs X st t) (q : ∀ D σ H, t' D σ H → t D σ H) : PSs X st t' := ⟨fun pins s σ H D I w => h.run pins s σ H D I (q D σ H w)⟩
end
end Pm

namespace Pm
open PySem PySem.Spec L2

def LIM : Nat := 100000
theorem lim_le {n : Nat} (h : n ≤ LIM) : n ≤ sizeLine := by
  rw [sizeLine_eq]; unfold LIM at h; omega
theorem lim_lt {n : Nat} (h : n < LIM) : n < sizeLine := by
  rw [sizeLine_eq]; unfold LIM at h; omega

/-! ## combinators of expressions -/
def dVar (i : Nat) : ED := fun ρ S => match ρ[i]? with
  | some (some p) => .ok p S
  | _ => .stuck
def dC (p : PV) : ED := fun _ S => .ok p S
def dNil : AD := fun _ S => .ok [] S
def dCons (m : ED) (as : AD) : AD := fun ρ => bnd (m ρ) fun p => bnd (as ρ) fun ps => ret (p :: ps)
def mkTup (ps : List PV) : M PV := fun S => if ps.length ≤ LIM then .ok (.tup ps) S else .stuck
def mkLst (ps : List PV) : M PV := fun S => if ps.length ≤ LIM then .ok (.lst ps) S else .stuck
/-- a list that will be written: a place of the store -/
def mkLoc (ps : List PV) : M PV := fun S => if ps.length ≤ LIM then .ok (.loc S.length) (S ++ [.lst ps]) else .stuck
def dAp (f : List PV → M PV) (as : AD) : ED := fun ρ => bnd (as ρ) f
def dOp (g : PV → PV → M PV) (m n : ED) : ED := fun ρ => bnd (m ρ) fun x => bnd (n ρ) fun y => g x y
def dUn (g : PV → M PV) (m : ED) : ED := fun ρ => bnd (m ρ) g
def dIf (c : BD) (m n : ED) : ED := fun ρ => bnd (c ρ) fun b => if b = true then m ρ else n ρ
def asB : PV → M Bool
  | .bl b => ret b
  | _ => stk
/-- truth by value -/
def truM : PV → M Bool
  | .non => ret false
  | .bl b => ret b
  | .int i => ret (i != 0)
  | .str x => fun S => if x.length ≤ LIM then .ok ((x.length : Int) != 0) S else .stuck
  | .tup xs => ret (!xs.isEmpty)
  | .lst xs => ret (!xs.isEmpty)
  | .frz xs => ret (!xs.isEmpty)
  | .loc n => fun S => match S[n]? with
    | some (.lst xs) => .ok (!xs.isEmpty) S
    | _ => .stuck
  | .dct => stk
def bTru (m : ED) : BD := fun ρ => bnd (m ρ) truM
def bCmp (m : ED) : BD := fun ρ => bnd (m ρ) asB
def bNot (c : BD) : BD := fun ρ => bnd (c ρ) fun b => ret (!b)
def bAnd (c d : BD) : BD := fun ρ => bnd (c ρ) fun b => if b = true then d ρ else ret false
def bOr (c d : BD) : BD := fun ρ => bnd (c ρ) fun b => if b = true then ret true else d ρ
def dAnd (m n : ED) : ED := fun ρ => bnd (m ρ) fun x => bnd (truM x) fun b => if b = true then n ρ else ret x
def dOr (m n : ED) : ED := fun ρ => bnd (m ρ) fun x => bnd (truM x) fun b => if b = true then ret x else n ρ
def dNot (m : ED) : ED := fun ρ => bnd (m ρ) fun x => bnd (truM x) fun b => ret (.bl (!b))
def dChain (g h : PV → PV → M PV) (a b c : ED) : ED := fun ρ => bnd (a ρ) fun x => bnd (b ρ) fun y => bnd (g x y) fun z => bnd (asB z) fun k => if k = true then bnd (c ρ) fun w => h y w else ret (.bl false)

/-! ## lists that are read -/
def asL : PV → Sto → Option (List PV)
  | .lst xs, _ => some xs
  | .frz xs, _ => some xs
  | .loc n, S => match S[n]? with
    | some (.lst xs) => some xs
    | _ => none
  | _, _ => none
def asM : PV → Sto → Option (List PV)
  | .lst xs, _ => some xs
  | .loc n, S => match S[n]? with
    | some (.lst xs) => some xs
    | _ => none
  | _, _ => none
section
variable {K : PySem.W.Frag} {H : Hp} {μ : Mu} {S : Sto} {v : V} {p : PV} {ps : List PV}
theorem asM_ok (e : asM p S = some ps) (rs : RelS K H μ S) (r : Rp K H μ v p) : ∃ a vs, v = .ref a ∧ H a = some (.lst vs) ∧ RpL K H μ vs ps := by
  cases r with
  | lst n h r => simp only [asM, Option.some.injEq] at e; subst e; exact ⟨_, _, rfl, h, r⟩
  | @loc a n h =>
    simp only [asM] at e
    split at e
    · rename_i xs q
      cases e
      obtain ⟨vs, h1, r1⟩ := rs.at_ n _ a q h
      exact ⟨a, vs, rfl, h1, r1⟩
    · cases e
  | _ => simp [asM] at e
theorem asL_ok (e : asL p S = some ps) (rs : RelS K H μ S) (r : Rp K H μ v p) : ∃ a vs, v = .ref a ∧ SqL K H a vs ∧ RpL K H μ vs ps := by
  cases r with
  | lst n h r => simp only [asL, Option.some.injEq] at e; subst e; exact ⟨_, _, rfl, SqL.of h, r⟩
  | frz h r => simp only [asL, Option.some.injEq] at e; subst e; exact ⟨_, _, rfl, h.sqL, r⟩
  | @loc a n h =>
    simp only [asL] at e
    split at e
    · rename_i xs q
      cases e
      obtain ⟨vs, h1, r1⟩ := rs.at_ n _ a q h
      exact ⟨a, vs, rfl, SqL.of h1, r1⟩
    · cases e
  | _ => simp [asL] at e
end

/-! ## new objects -/
section
variable {K : PySem.W.Frag} {mg : Str → Option Value} {E : XK} {H : Hp} {μ : Mu} {S : Sto} {vs : List V} {ps : List PV} {Q : VK}
theorem new_tup (rs : RelS K H μ S) (r : RpL K H μ vs ps) (h : Post K mg E H μ (.ok (.tup ps) S) (kE K Q)) (p : Addr) (hp : H p = none) : Q (.ref p) (upd H p (.tup vs)) :=
  h _ _ (grow_new rs hp) (rs.new hp) _ (.tup (SqT.of upd_same) (r.grow (grow_new rs hp)))
theorem new_lst (rs : RelS K H μ S) (r : RpL K H μ vs ps) (h : Post K mg E H μ (.ok (.lst ps) S) (kE K Q)) (p : Addr) (hp : H p = none) : Q (.ref p) (upd H p (.lst vs)) :=
  h _ _ (grow_new rs hp) (rs.new hp) _ (.lst (rs.fresh hp) upd_same (r.grow (grow_new rs hp)))
theorem new_loc (rs : RelS K H μ S) (r : RpL K H μ vs ps) (h : Post K mg E H μ (.ok (.loc S.length) (S ++ [.lst ps])) (kE K Q)) (p : Addr) (hp : H p = none) : Q (.ref p) (upd H p (.lst vs)) :=
  h _ _ (grow_loc rs hp) (rs.newLoc hp r) _ (.loc (by rw [← rs.len]; simp))
theorem new_dct (rs : RelS K H μ S) (h : Post K mg E H μ (.ok .dct S) (kE K Q)) (p : Addr) (hp : H p = none) : Q (.ref p) (upd H p (.dK [])) :=
  h _ _ (grow_new rs hp) (rs.new hp) _ (.dct (rs.fresh hp) upd_same)
/-- the same value, the heap as it is -/
theorem now_ (rs : RelS K H μ S) {v : V} {p : PV} (r : Rp K H μ v p) (h : Post K mg E H μ (.ok p S) (kE K Q)) : Q v H := h H μ .refl rs v r
end

/-! ## rules: names, constants, displays -/
section
variable {X : Cx} {E : XK} {e a b c : Expr} {es : List Expr} {m n l : ED} {as : AD} {pos : Pos}
abbrev PM (X : Cx) (E : XK) (e : Expr) (m : ED) : Prop := PE X e (tE X.K X.mg E m)
abbrev PB (X : Cx) (E : XK) (e : Expr) (m : BD) : Prop := PT X e (tT X.K X.mg E m)
abbrev PBW (X : Cx) (E : XK) (e : Expr) (m : BD) : Prop := PW X e (tT X.K X.mg E m)
abbrev PAs (X : Cx) (E : XK) (es : List Expr) (m : AD) : Prop := PA X es (tA X.K X.mg E m)
theorem pm_var (i : Nat) {x : Str} (hN : X.N[i]? = some x := by rfl) (hv : Vis X.env.scope x := by first | exact Or.inl rfl | exact Or.inr (Or.inl rfl) | exact Or.inr (Or.inr rfl)) (hd : (x == ("__debug__" : Str)) = false := by decide)
    (hcd : (x == ("__classdict__" : Str)) = false := by decide) : PM X E (.Name x pos) (dVar i) := by
  refine PE.imp (pe_var hN hv hd hcd) fun σ H Q ⟨ρ, S, μ, re, rs, h⟩ => ?_
  unfold dVar at h
  split at h
  · rename_i p e
    obtain ⟨v, e1, r⟩ := re.2 i p e
    exact ⟨v, e1, now_ rs r h⟩
  · exact h.elim
theorem pm_const {v : V} {p : PV} (h : PE X e (tC v)) (r : ∀ H μ, Rp X.K H μ v p) : PM X E e (dC p) :=
  PE.imp h fun σ H Q ⟨ρ, S, μ, re, rs, h⟩ => now_ rs (r H μ) h
theorem pm_int {i : Int} {j : Nat} : PM X E (.Constant (.int i) j pos) (dC (.int i)) := pm_const pe_int fun _ _ => .int i
theorem pm_bl {b : Bool} {j : Nat} : PM X E (.Constant (.bool b) j pos) (dC (.bl b)) := pm_const pe_bl fun _ _ => .bl b
theorem pm_non {j : Nat} : PM X E (.Constant .none j pos) (dC .non) := pm_const pe_non fun _ _ => .non
theorem pm_str {x : Str} {j : Nat} : PM X E (.Constant (.str x) j pos) (dC (.str x)) := pm_const pe_str fun _ _ => .str x
/-- a module's constant -/
def GlobIs (K : PySem.W.Frag) (mg : Str → Option Value) (x : Str) (p : PV) : Prop := ∃ u v, mg x = some u ∧ RelV v u ∧ ∀ H μ, Rp K H μ v p
theorem pm_glob {x : Str} {p : PV} (g : GlobIs X.K X.mg x p) (hg : Gl X x) (hd : (x == ("__debug__" : Str)) = false := by decide) : PM X E (.Name x pos) (dC p) := by
  obtain ⟨u, v, hm, r, q⟩ := g
  exact pm_const (pe_glob hg hm r hd) q
theorem pma_nil : PAs X E [] dNil := PA.imp pa_nil fun σ H Q ⟨ρ, S, μ, re, rs, h⟩ => h H μ .refl rs [] .nil
theorem pma_cons (ha : PM X E e m) (hr : PAs X E es as) (hs : starEach (e :: es) X.env = (false, eval e X.env) :: starEach es X.env := by rfl) : PAs X E (e :: es) (dCons m as) := by
  refine PA.imp (pa_cons ha hr hs) fun σ H Q ⟨ρ, S, μ, re, rs, h⟩ => ?_
  refine stepE re rs h fun v p S1 H1 μ1 re1 rs1 rv g1 h1 => ?_
  refine stepA re1 rs1 h1 fun vs ps S2 H2 μ2 re2 rs2 rvs g2 h2 => ?_
  exact h2 H2 μ2 .refl rs2 _ (.cons (rv.grow g2) rvs)
theorem pm_tup {x1} (h : PAs X E es as) : PM X E (.Tuple es x1 pos) (dAp mkTup as) := by
  refine PE.imp (pe_tup h) fun σ H Q ⟨ρ, S, μ, re, rs, h⟩ => ?_
  refine stepA re rs h fun vs ps S1 H1 μ1 re1 rs1 rv g1 h1 => ?_
  unfold mkTup at h1
  split at h1
  · rename_i hl
    exact ⟨by rw [rv.length]; exact lim_le hl, fun p hp => new_tup rs1 rv h1 p hp⟩
  · exact h1.elim
theorem pm_lst (h : PAs X E es as) : PM X E (.List es pos) (dAp mkLst as) := by
  refine PE.imp (pe_lst h) fun σ H Q ⟨ρ, S, μ, re, rs, h⟩ => ?_
  refine stepA re rs h fun vs ps S1 H1 μ1 re1 rs1 rv g1 h1 => ?_
  unfold mkLst at h1
  split at h1
  · rename_i hl
    exact ⟨by rw [rv.length]; exact lim_le hl, fun p hp => new_lst rs1 rv h1 p hp⟩
  · exact h1.elim
theorem pm_dct : PM X E (.Dict [] [] pos) (dC .dct) := by
  refine PE.imp pe_dnewK fun σ H Q ⟨ρ, S, μ, re, rs, h⟩ => ?_
  exact fun p hp => new_dct rs h p hp
theorem pm_loc (h : PAs X E es as) : PM X E (.List es pos) (dAp mkLoc as) := by
  refine PE.imp (pe_lst h) fun σ H Q ⟨ρ, S, μ, re, rs, h⟩ => ?_
  refine stepA re rs h fun vs ps S1 H1 μ1 re1 rs1 rv g1 h1 => ?_
  unfold mkLoc at h1
  split at h1
  · rename_i hl
    exact ⟨by rw [rv.length]; exact lim_le hl, fun p hp => new_loc rs1 rv h1 p hp⟩
  · exact h1.elim

/-! ## operators -/
def OpM (X : Cx) (E : XK) (r : R2) (g : PV → PV → M PV) : Prop := ∀ v w p q H μ S Q, RelS X.K H μ S → Rp X.K H μ v p → Rp X.K H μ w q → Post X.K X.mg E H μ (g p q S) (kE X.K Q) → r v w H Q
def UnM (X : Cx) (E : XK) (r : V → Hp → VK → Prop) (g : PV → M PV) : Prop := ∀ v p H μ S Q, RelS X.K H μ S → Rp X.K H μ v p → Post X.K X.mg E H μ (g p S) (kE X.K Q) → r v H Q
theorem tOp_of {r : R2} {g : PV → PV → M PV} (hg : OpM X E r g) {σ : L2.St} {H : Hp} {Q : VK} (h : tE X.K X.mg E (dOp g m n) σ H Q) : tOp r (tE X.K X.mg E m) (tE X.K X.mg E n) σ H Q := by
  obtain ⟨ρ, S, μ, re, rs, h⟩ := h
  refine stepE re rs h fun v p S1 H1 μ1 re1 rs1 rv g1 h1 => ?_
  refine stepE re1 rs1 h1 fun w q S2 H2 μ2 re2 rs2 rw' g2 h2 => ?_
  exact hg v w p q H2 μ2 S2 Q rs2 (rv.grow g2) rw' h2
theorem pm_op {op : Operator} {r : R2} {g : PV → PV → M PV} (o : OpR X (binaryOp op) r ∧ OpM X E r g) (ha : PM X E a m) (hb : PM X E b n) : PM X E (.BinOp a op b pos) (dOp g m n) :=
  PE.imp (pe_op o.1 ha hb) fun σ H Q h => tOp_of o.2 h
theorem pm_cmp {op : CmpOp} {r : R2} {g : PV → PV → M PV} (o : OpR X (compareOp op) r ∧ OpM X E r g) (ha : PM X E a m) (hb : PM X E b n) (hm : behindInMarks op b = false) : PM X E (.Compare a [op] [b] pos) (dOp g m n) :=
  PE.imp (pe_cmpR o.1 ha hb hm) fun σ H Q h => tOp_of o.2 h
theorem pb_cmp {op : CmpOp} {r : R2} {g : PV → PV → M PV} (o : OpR X (compareOp op) r ∧ OpM X E r g) (ha : PM X E a m) (hb : PM X E b n) (hm : behindInMarks op b = false) : PB X E (.Compare a [op] [b] pos) (bCmp (dOp g m n)) := by
  refine PT.imp (pt_cmpR o.1 ha hb hm) fun σ H Q ⟨ρ, S, μ, re, rs, h⟩ => ?_
  have h' := h.bnd
  refine tOp_of o.2 (Q := fun x H' => ∃ k, x = .bl k ∧ Q k H') ⟨ρ, S, μ, re, rs, h'.mono fun p S1 H1 μ1 g r q v rv => ?_⟩
  cases rv with
  | bl k => exact ⟨k, rfl, q H1 μ1 .refl r⟩
  | _ => exact q.elim
theorem pm_un {op : UnaryOp} {r : V → Hp → VK → Prop} {g : PV → M PV} (o : UnR X (unaryOp op) r ∧ UnM X E r g) (ha : PM X E a m) : PM X E (.UnaryOp op a pos) (dUn g m) := by
  refine PE.imp (pe_un o.1 ha) fun σ H Q ⟨ρ, S, μ, re, rs, h⟩ => ?_
  exact stepE re rs h fun v p S1 H1 μ1 re1 rs1 rv g1 h1 => o.2 v p H1 μ1 S1 Q rs1 rv h1
theorem pm_chain {op op' : CmpOp} {r r' : R2} {g g' : PV → PV → M PV} (o : OpR X (compareOp op) r ∧ OpM X E r g) (o' : OpR X (compareOp op') r' ∧ OpM X E r' g') (ha : PM X E a m) (hb : PM X E b n) (hc : PM X E c l)
    (hp : ∀ (r r' : R2) (ta tb tc : TE), OpR X (compareOp op) r → OpR X (compareOp op') r' → PE X a ta → PE X b tb → PE X c tc → PE X (.Compare a [op, op'] [b, c] pos) (tChain r r' ta tb tc) := by intro r r' ta tb tc h1 h2 h3 h4 h5; exact pe_chain h1 h2 h3 h4 h5) :
    PM X E (.Compare a [op, op'] [b, c] pos) (dChain g g' m n l) := by
  refine PE.imp (hp r r' _ _ _ o.1 o'.1 ha hb hc) fun σ H Q ⟨ρ, S, μ, re, rs, h⟩ => ?_
  refine stepE re rs h fun v p S1 H1 μ1 re1 rs1 rv g1 h1 => ?_
  refine stepE re1 rs1 h1 fun w q S2 H2 μ2 re2 rs2 rw' g2 h2 => ?_
  refine o.2 v w p q H2 μ2 S2 _ rs2 (rv.grow g2) rw' (h2.bnd.mono fun z S3 H3 μ3 g3 r3 q3 y ry => ?_)
  cases ry with
  | bl k =>
    refine ⟨k, rfl, ?_⟩
    rw [show asB (.bl k) = ret k from rfl, bnd_ret] at q3
    by_cases hk : k = true
    · rw [if_pos hk] at q3 ⊢
      refine stepE (re2.grow g3) r3 q3 fun u t S4 H4 μ4 re4 rs4 ru g4 h4 => ?_
      exact o'.2 w u q t H4 μ4 S4 Q rs4 ((rw'.grow g3).grow g4) ru h4
    · rw [if_neg hk] at q3 ⊢
      exact q3 H3 μ3 .refl r3 _ (.bl false)
  | _ => exact q3.elim

/-! ## tests -/
theorem tru_of {H : Hp} {μ : Mu} {S : Sto} {v : V} {p : PV} {k : Bool → Sto → Hp → Mu → Prop} (rs : RelS X.K H μ S) (r : Rp X.K H μ v p) (h : Post X.K X.mg E H μ (truM p S) k) : ∃ b, TruV X.K v H b ∧ truM p S = .ok b S := by
  cases r with
  | non => exact ⟨false, rfl, rfl⟩
  | bl b => exact ⟨b, rfl, rfl⟩
  | int i => exact ⟨_, rfl, rfl⟩
  | str x =>
    unfold truM at h ⊢
    simp only at h ⊢
    split at h
    · rename_i hl
      exact ⟨_, ⟨lim_le hl, rfl⟩, by rw [if_pos hl]⟩
    · exact h.elim
  | @tup a vs ps hq r =>
    refine ⟨_, .inr (.inl ⟨vs, hq, rfl⟩), ?_⟩
    cases r <;> rfl
  | @lst a vs ps n hq r =>
    refine ⟨_, .inl ⟨vs, SqL.of hq, rfl⟩, ?_⟩
    cases r <;> rfl
  | @frz a vs ps hq r =>
    refine ⟨_, .inl ⟨vs, hq.sqL, rfl⟩, ?_⟩
    cases r <;> rfl
  | @loc a n hq =>
    unfold truM at h ⊢
    simp only at h ⊢
    split at h
    · rename_i xs q
      obtain ⟨vs, h1, r1⟩ := rs.at_ n _ a q hq
      refine ⟨_, .inl ⟨vs, SqL.of h1, rfl⟩, ?_⟩
      cases r1 <;> rfl
    · exact h.elim
  | dct _ _ => exact h.elim
theorem pb_tru (ha : PM X E a m) (he : ∀ whole, isTrue a X.env whole = (do let v ← whole; standAt a.pos; holding [v] (truthy v)) := by intro _; rfl) : PB X E a (bTru m) := by
  refine PT.imp (pt_truth ha he) fun σ H Q ⟨ρ, S, μ, re, rs, h⟩ => ?_
  refine stepE re rs h fun v p S1 H1 μ1 re1 rs1 rv g1 h1 => ?_
  obtain ⟨b, tv, e⟩ := tru_of rs1 rv h1
  rw [e] at h1
  exact ⟨b, tv, h1 H1 μ1 .refl rs1⟩
theorem pb_not {d : BD} (ha : PB X E a d) : PB X E (.UnaryOp .Not a pos) (bNot d) := by
  refine PT.imp (pt_not ha) fun σ H Q ⟨ρ, S, μ, re, rs, h⟩ => ?_
  exact stepT re rs h fun b S1 H1 μ1 re1 rs1 g1 h1 => h1 H1 μ1 .refl rs1
theorem pw1_and {d : BD} (ha : PB X E a d) : PBW X E (.BoolOp .And [a] pos) d := pw_and1 ha
theorem pw1_or {d : BD} (ha : PB X E a d) : PBW X E (.BoolOp .Or [a] pos) d := pw_or1 ha
theorem pbw_and {d f : BD} (ha : PB X E a d) (hb : PBW X E (.BoolOp .And (b :: es) pos) f) : PBW X E (.BoolOp .And (a :: b :: es) pos) (bAnd d f) := by
  refine PW.imp (pw_and ha hb) fun σ H Q ⟨ρ, S, μ, re, rs, h⟩ => ?_
  refine stepT re rs h fun k S1 H1 μ1 re1 rs1 g1 h1 => ?_
  by_cases hk : k = true
  · rw [if_pos hk] at h1 ⊢; exact lastT re1 rs1 h1
  · rw [if_neg hk] at h1 ⊢; exact h1 H1 μ1 .refl rs1
theorem pbw_or {d f : BD} (ha : PB X E a d) (hb : PBW X E (.BoolOp .Or (b :: es) pos) f) : PBW X E (.BoolOp .Or (a :: b :: es) pos) (bOr d f) := by
  refine PW.imp (pw_or ha hb) fun σ H Q ⟨ρ, S, μ, re, rs, h⟩ => ?_
  refine stepT re rs h fun k S1 H1 μ1 re1 rs1 g1 h1 => ?_
  by_cases hk : k = true
  · rw [if_pos hk] at h1 ⊢; exact h1 H1 μ1 .refl rs1
  · rw [if_neg hk] at h1 ⊢; exact lastT re1 rs1 h1
theorem pm_one {op} (h : PM X E a m) : PM X E (.BoolOp op [a] pos) m := pe_one h
theorem pm_and (ha : PM X E a m) (hb : PM X E (.BoolOp .And (b :: es) pos) n) : PM X E (.BoolOp .And (a :: b :: es) pos) (dAnd m n) := by
  refine PE.imp (pe_andT ha hb) fun σ H Q ⟨ρ, S, μ, re, rs, h⟩ => ?_
  refine stepE re rs h fun v p S1 H1 μ1 re1 rs1 rv g1 h1 => ?_
  obtain ⟨k, tv, e⟩ := tru_of rs1 rv h1.bnd
  rw [bnd_ok e] at h1
  refine ⟨k, tv, ?_⟩
  by_cases hk : k = true
  · rw [if_pos hk] at h1 ⊢; exact lastE re1 rs1 h1
  · rw [if_neg hk] at h1 ⊢; exact now_ rs1 rv h1
theorem pm_or (ha : PM X E a m) (hb : PM X E (.BoolOp .Or (b :: es) pos) n) : PM X E (.BoolOp .Or (a :: b :: es) pos) (dOr m n) := by
  refine PE.imp (pe_orT ha hb) fun σ H Q ⟨ρ, S, μ, re, rs, h⟩ => ?_
  refine stepE re rs h fun v p S1 H1 μ1 re1 rs1 rv g1 h1 => ?_
  obtain ⟨k, tv, e⟩ := tru_of rs1 rv h1.bnd
  rw [bnd_ok e] at h1
  refine ⟨k, tv, ?_⟩
  by_cases hk : k = true
  · rw [if_pos hk] at h1 ⊢; exact now_ rs1 rv h1
  · rw [if_neg hk] at h1 ⊢; exact lastE re1 rs1 h1
theorem pm_not (ha : PM X E a m) : PM X E (.UnaryOp .Not a pos) (dNot m) := by
  refine PE.imp (pe_notT ha) fun σ H Q ⟨ρ, S, μ, re, rs, h⟩ => ?_
  refine stepE re rs h fun v p S1 H1 μ1 re1 rs1 rv g1 h1 => ?_
  obtain ⟨k, tv, e⟩ := tru_of rs1 rv h1.bnd
  rw [bnd_ok e] at h1
  exact ⟨k, tv, now_ rs1 (.bl _) h1⟩
theorem pm_if {d : BD} (hc : PB X E c d) (ha : PM X E a m) (hb : PM X E b n) : PM X E (.IfExp c a b pos) (dIf d m n) := by
  refine PE.imp (pe_ifExp hc ha hb) fun σ H Q ⟨ρ, S, μ, re, rs, h⟩ => ?_
  refine stepT re rs h fun k S1 H1 μ1 re1 rs1 g1 h1 => ?_
  by_cases hk : k = true
  · rw [if_pos hk] at h1 ⊢; exact lastE re1 rs1 h1
  · rw [if_neg hk] at h1 ⊢; exact lastE re1 rs1 h1
end
end Pm

namespace Pm
open PySem PySem.Spec L2

/-! ## operators by values -/
def catM (p q : PV) : M PV := fun S => match asM p S, asM q S with
  | some xs, some ys => if xs.length + ys.length ≤ LIM then .ok (.lst (xs ++ ys)) S else .stuck
  | _, _ => .stuck
def addM : PV → PV → M PV
  | .int i, .int j => ret (.int (i + j))
  | .str x, .str y => fun S => if x.length + y.length ≤ LIM then .ok (.str (x ++ y)) S else .stuck
  | .tup xs, .tup ys => fun S => if xs.length + ys.length ≤ LIM then .ok (.tup (xs ++ ys)) S else .stuck
  | .lst xs, q => catM (.lst xs) q
  | .loc n, q => catM (.loc n) q
  | _, _ => stk
def subM : PV → PV → M PV
  | .int i, .int j => ret (.int (i - j))
  | _, _ => stk
def repL (k : Int) (xs : List PV) : List PV := (List.replicate k.toNat xs).flatten
def mulM : PV → PV → M PV
  | .int i, .int j => fun S => if i.natAbs.log2 + j.natAbs.log2 < 1000000 then .ok (.int (i * j)) S else .stuck
  | .lst xs, .int k => fun S => if -1000 ≤ k ∧ k ≤ 1000 ∧ xs.length ≤ 100 then .ok (.lst (repL k xs)) S else .stuck
  | _, _ => stk
def fdivM : PV → PV → M PV
  | .int i, .int j => fun S => if j ≠ 0 ∧ j.natAbs.log2 < 9000 then .ok (.int (i.fdiv j)) S else .stuck
  | _, _ => stk
def modM : PV → PV → M PV
  | .int i, .int j => fun S => if j ≠ 0 then .ok (.int (i.fmod j)) S else .stuck
  | _, _ => stk
def powM : PV → PV → M PV
  | .int i, .int j => fun S => if 0 ≤ j ∧ j ≤ 1000000 ∧ i.natAbs < 2 ^ 64 then .ok (.int (i ^ j.toNat)) S else .stuck
  | _, _ => stk
def negM : PV → M PV
  | .int i => ret (.int (-i))
  | _ => stk
def ltM : PV → PV → M PV
  | .int i, .int j => ret (.bl (decide (i < j)))
  | _, _ => stk
def leM : PV → PV → M PV
  | .int i, .int j => ret (.bl (decide (i ≤ j)))
  | _, _ => stk
def gtM : PV → PV → M PV
  | .int i, .int j => ret (.bl (decide (j < i)))
  | _, _ => stk
def geM : PV → PV → M PV
  | .int i, .int j => ret (.bl (decide (j ≤ i)))
  | _, _ => stk
def isN : PV → Bool
  | .non => true
  | _ => false
def isNM (p _ : PV) : M PV := ret (.bl (isN p))
def notNM (p _ : PV) : M PV := ret (.bl (!isN p))
def isBM : PV → PV → M PV
  | .bl a, .bl b => ret (.bl (decide (a = b)))
  | _, _ => stk
def notBM : PV → PV → M PV
  | .bl a, .bl b => ret (.bl (!decide (a = b)))
  | _, _ => stk
/-- what a tuple's and a list's index may be -/
def ixM : PV → PV → M PV
  | .tup xs, .int i => fun S => match atI xs i with
    | some p => .ok p S
    | none => .stuck
  | .str z, .int i => fun S => if z.length ≤ LIM then match atI z.cps.toList i with
      | some c => .ok (.str ⟨#[c]⟩) S
      | none => .stuck
    else .stuck
  | p, .int i => fun S => match asL p S with
    | some xs => match atI xs i with
      | some p => .ok p S
      | none => .stuck
    | none => .stuck
  | _, _ => stk
def cutP (xs : List PV) (lo hi : Option Int) : List PV := (xs.drop (HT.sIx xs.length 0 lo)).take (HT.sIx xs.length xs.length hi - HT.sIx xs.length 0 lo)
def slM (p : PV) (lo hi : Option Int) : M PV := fun S => match p with
  | .tup xs => .ok (.tup (cutP xs lo hi)) S
  | p => match asL p S with
    | some xs => .ok (.lst (cutP xs lo hi)) S
    | none => .stuck
def OD := Rho → M (Option Int)
def oNone : OD := fun _ S => .ok none S
def oSome (m : ED) : OD := fun ρ => bnd (m ρ) fun p => match p with
  | .int i => ret (some i)
  | _ => stk
def dSl (m : ED) (lo hi : OD) : ED := fun ρ => bnd (m ρ) fun p => bnd (lo ρ) fun l => bnd (hi ρ) fun h => slM p l h

/-! ## data: equality, membership -/
mutual
def PV.data : PV → Option PyData
  | .non => some .none
  | .bl b => some (.bool b)
  | .int i => some (.int i)
  | .str x => some (.str x)
  | .tup xs => match dataL xs with
    | some ds => some (.tuple ds)
    | none => none
  | .lst xs => match dataL xs with
    | some ds => some (.list ds)
    | none => none
  | .frz xs => match dataL xs with
    | some ds => some (.list ds)
    | none => none
  | .loc _ => none
  | .dct => none
def dataL : List PV → Option (List PyData)
  | [] => some []
  | p :: ps => match PV.data p, dataL ps with
    | some d, some ds => some (d :: ds)
    | _, _ => none
end
/-- a place of the store, read at the top -/
def deref : PV → Sto → PV
  | .loc n, S => match S[n]? with
    | some (.lst xs) => .lst xs
    | _ => .loc n
  | p, _ => p
def mapD (f : PV → Option PyData) : List PV → Option (List PyData)
  | [] => some []
  | p :: ps => match f p, mapD f ps with
    | some d, some ds => some (d :: ds)
    | _, _ => none
/-- .. places within lists and tuples, too -/
def dataF (S : Sto) : Nat → PV → Option PyData
  | 0, _ => none
  | _ + 1, .non => some .none
  | _ + 1, .bl b => some (.bool b)
  | _ + 1, .int i => some (.int i)
  | _ + 1, .str x => some (.str x)
  | k + 1, .tup xs => (mapD (dataF S k) xs).map .tuple
  | k + 1, .lst xs => (mapD (dataF S k) xs).map .list
  | k + 1, .frz xs => (mapD (dataF S k) xs).map .list
  | k + 1, .loc n => match S[n]? with
    | some (.lst xs) => (mapD (dataF S k) xs).map .list
    | _ => none
  | _ + 1, .dct => none
def dataS (p : PV) (S : Sto) : Option PyData := match (deref p S).data with
  | some d => some d
  | none => dataF S 8 p
/-- two texts are told apart without a look at their signs -/
def twoStr : PV → PV → Option Bool
  | .str x, .str y => some (x == y)
  | _, _ => none
def eqD (p q : PV) (S : Sto) : Option Bool := match dataS p S, dataS q S with
  | some d, some e => if SeqAt.shaped d = true ∧ SeqAt.shaped e = true then some (PyData.eqv d e) else none
  | _, _ => none
def eqB (p q : PV) (S : Sto) : Option Bool := match twoStr p q with
  | some b => some b
  | none => eqD p q S
def eqM (p q : PV) : M PV := fun S => match eqB p q S with
  | some b => .ok (.bl b) S
  | none => .stuck
def neM (p q : PV) : M PV := fun S => match eqB p q S with
  | some b => .ok (.bl (!b)) S
  | none => .stuck
def flatP : PV → Option V
  | .non => some .non
  | .bl b => some (.bl b)
  | .int i => some (.int i)
  | .str x => some (.str x)
  | _ => none
def flatL : List PV → Option (List V)
  | [] => some []
  | p :: ps => match flatP p, flatL ps with
    | some d, some ds => some (d :: ds)
    | _, _ => none
def inFl (x : PV) (ps : List PV) : Option Bool := match flatP x, flatL ps with
  | some v, some vs => some (inV v vs)
  | _, _ => none
/-- x in c: flat things or data in a tuple, any data in a list -/
def inB (x c : PV) (S : Sto) : Option Bool := match c with
  | .tup ps => match inFl x ps with
    | some b => some b
    | none => match dataS x S, dataS (.tup ps) S with
      | some d, some (.tuple ds) => if SeqAt.shaped d = true ∧ SeqAt.shaped (.list ds) = true then some (ds.any fun z => PyData.eqv z d) else none
      | _, _ => none
  | c => match dataS x S, dataS c S with
    | some d, some (.list ds) => if SeqAt.shaped d = true ∧ SeqAt.shaped (.list ds) = true then some (ds.any fun z => PyData.eqv z d) else none
    | _, _ => none
def inM (x c : PV) : M PV := fun S => match inB x c S with
  | some b => .ok (.bl b) S
  | none => .stuck
def ninM (x c : PV) : M PV := fun S => match inB x c S with
  | some b => .ok (.bl (!b)) S
  | none => .stuck

section
variable {K : PySem.W.Frag} {H : Hp} {μ : Mu} {S : Sto}
mutual
theorem Rp.dp : ∀ {v : V} {p : PV} {d : PyData}, Rp K H μ v p → p.data = some d → Dp K H v d
  | _, _, _, .non, e => by simp only [PV.data, Option.some.injEq] at e; subst e; exact .non
  | _, _, _, .bl b, e => by simp only [PV.data, Option.some.injEq] at e; subst e; exact .bl b
  | _, _, _, .int i, e => by simp only [PV.data, Option.some.injEq] at e; subst e; exact .int i
  | _, _, _, .str x, e => by simp only [PV.data, Option.some.injEq] at e; subst e; exact .str x
  | _, _, _, .tup h r, e => by
    simp only [PV.data] at e
    split at e
    · rename_i ds q; cases e; exact .tup h (RpL.dp r q)
    · cases e
  | _, _, _, .lst n h r, e => by
    simp only [PV.data] at e
    split at e
    · rename_i ds q; cases e; exact .lst (SqL.of h) (RpL.dp r q)
    · cases e
  | _, _, _, .frz h r, e => by
    simp only [PV.data] at e
    split at e
    · rename_i ds q; cases e; exact .lst h.sqL (RpL.dp r q)
    · cases e
  | _, _, _, .loc h, e => by simp [PV.data] at e
theorem RpL.dp : ∀ {vs : List V} {ps : List PV} {ds : List PyData}, RpL K H μ vs ps → dataL ps = some ds → DpAll K H vs ds
  | _, _, _, .nil, e => by simp only [dataL, Option.some.injEq] at e; subst e; exact .nil
  | _, _, _, .cons r t, e => by
    simp only [dataL] at e
    split at e
    · rename_i d ds q1 q2
      cases e
      exact .cons (Rp.dp r q1) (RpL.dp t q2)
    · cases e
end
theorem data1_dp (rs : RelS K H μ S) {v : V} {p : PV} {d : PyData} (r : Rp K H μ v p) (e : (deref p S).data = some d) : Dp K H v d := by
  cases r with
  | @loc a n h =>
    simp only [deref] at e
    split at e
    · rename_i xs q
      obtain ⟨vs, h1, r1⟩ := rs.at_ n _ a q h
      simp only [PV.data] at e
      split at e
      · rename_i ds q2; cases e; exact .lst (SqL.of h1) (r1.dp q2)
      · cases e
    · simp [PV.data] at e
  | non => exact Rp.dp (μ := μ) .non e
  | bl b => exact Rp.dp (μ := μ) (.bl b) e
  | int i => exact Rp.dp (μ := μ) (.int i) e
  | str x => exact Rp.dp (μ := μ) (.str x) e
  | tup h r => exact Rp.dp (.tup h r) e
  | lst n h r => exact Rp.dp (.lst n h r) e
  | frz h r => exact Rp.dp (.frz h r) e
  | dct _ _ => simp [deref, PV.data] at e
theorem mapD_dp {f : PV → Option PyData} (hf : ∀ v p d, Rp K H μ v p → f p = some d → Dp K H v d) {vs : List V} {ps : List PV} {ds : List PyData} (r : RpL K H μ vs ps) (e : mapD f ps = some ds) : DpAll K H vs ds := by
  induction ps generalizing vs ds with
  | nil => cases r; cases e; exact .nil
  | cons p ps ih =>
    cases r with
    | cons a b =>
      simp only [mapD] at e
      split at e
      · rename_i d ds' e1 e2
        cases e
        exact .cons (hf _ _ _ a e1) (ih b e2)
      · cases e
theorem dataF_dp (rs : RelS K H μ S) : ∀ (k : Nat) (v : V) (p : PV) (d : PyData), Rp K H μ v p → dataF S k p = some d → Dp K H v d := by
  intro k
  induction k with
  | zero => intro v p d r e; cases e
  | succ k ih =>
    intro v p d r e
    cases r with
    | non => simp only [dataF] at e; cases e; exact .non
    | bl b => simp only [dataF] at e; cases e; exact .bl b
    | int i => simp only [dataF] at e; cases e; exact .int i
    | str x => simp only [dataF] at e; cases e; exact .str x
    | tup h r =>
      simp only [dataF, Option.map_eq_some_iff] at e
      obtain ⟨ds, e, rfl⟩ := e
      exact .tup h (mapD_dp ih r e)
    | lst n h r =>
      simp only [dataF, Option.map_eq_some_iff] at e
      obtain ⟨ds, e, rfl⟩ := e
      exact .lst (SqL.of h) (mapD_dp ih r e)
    | frz h r =>
      simp only [dataF, Option.map_eq_some_iff] at e
      obtain ⟨ds, e, rfl⟩ := e
      exact .lst h.sqL (mapD_dp ih r e)
    | @loc a n h =>
      simp only [dataF] at e
      split at e
      · rename_i xs q
        simp only [Option.map_eq_some_iff] at e
        obtain ⟨ds, e, rfl⟩ := e
        obtain ⟨vs, h1, r1⟩ := rs.at_ n _ a q h
        exact .lst (SqL.of h1) (mapD_dp ih r1 e)
      · cases e
    | dct _ _ => simp [dataF] at e
theorem dataS_dp (rs : RelS K H μ S) {v : V} {p : PV} {d : PyData} (r : Rp K H μ v p) (e : dataS p S = some d) : Dp K H v d := by
  unfold dataS at e
  split at e
  · rename_i d' e1
    cases e
    exact data1_dp rs r e1
  · exact dataF_dp rs 8 v p d r e
theorem Rp.flat {v : V} {p : PV} {u : V} (r : Rp K H μ v p) (e : flatP p = some u) : v = u ∧ flatV v = true := by
  cases r <;> simp only [flatP, Option.some.injEq, reduceCtorEq] at e <;> (subst e; exact ⟨rfl, rfl⟩)
theorem RpL.flat : ∀ {vs : List V} {ps : List PV} {us : List V}, RpL K H μ vs ps → flatL ps = some us → vs = us ∧ vs.all flatV = true
  | _, _, _, .nil, e => by simp only [flatL, Option.some.injEq] at e; subst e; exact ⟨rfl, rfl⟩
  | _, _, _, .cons r t, e => by
    simp only [flatL] at e
    split at e
    · rename_i d ds q1 q2
      cases e
      obtain ⟨e1, f1⟩ := Rp.flat r q1
      obtain ⟨e2, f2⟩ := RpL.flat t q2
      subst e1 e2
      exact ⟨rfl, by rw [List.all_cons, f1, f2]; rfl⟩
    · cases e
end

section
variable {X : Cx} {E : XK}
theorem iff_post {c : Prop} [Decidable c] {α : Type} {o : Out α} {k : α → Sto → Hp → Mu → Prop} {H : Hp} {μ : Mu} (h : Post X.K X.mg E H μ (if c then o else .stuck) k) : c ∧ Post X.K X.mg E H μ o k := by
  by_cases hc : c
  · rw [if_pos hc] at h; exact ⟨hc, h⟩
  · rw [if_neg hc] at h; exact h.elim
theorem o_add : OpR X (binaryOp .Add) (fun x y H Q => (rI0 fun i j => .int (i + j)) x y H Q ∨ ((∃ i j, x = .str i ∧ y = .str j ∧ i.length + j.length ≤ sizeLine ∧ Q (.str (i ++ j)) H) ∨ (rCat x y H Q ∨ rCatA X.K x y H Q))) ∧ OpM X E (fun x y H Q => (rI0 fun i j => .int (i + j)) x y H Q ∨ ((∃ i j, x = .str i ∧ y = .str j ∧ i.length + j.length ≤ sizeLine ∧ Q (.str (i ++ j)) H) ∨ (rCat x y H Q ∨ rCatA X.K x y H Q))) addM := by
  refine ⟨op_add.or (op_add_str.or (op_cat.or op_catA)), ?_⟩
  intro v w p q H μ S Q rs rv rw' h
  have cat : ∀ {p q : PV}, Rp X.K H μ v p → Rp X.K H μ w q → Post X.K X.mg E H μ (catM p q S) (kE X.K Q) → rCat v w H Q := by
    intro p q rv rw' h
    unfold catM at h
    split at h
    · rename_i xs ys e1 e2
      obtain ⟨a, vs, rfl, h1, r1⟩ := asM_ok e1 rs rv
      obtain ⟨b, ws, rfl, h2, r2⟩ := asM_ok e2 rs rw'
      obtain ⟨hl, h⟩ := iff_post h
      exact ⟨a, b, vs, ws, rfl, rfl, h1, h2, by rw [r1.length, r2.length]; exact lim_le hl, fun p hp => new_lst rs (r1.append r2) h p hp⟩
    · exact h.elim
  cases rv with
  | int i =>
    cases rw' with
    | int j => exact .inl ⟨i, j, rfl, rfl, now_ rs (.int _) h⟩
    | _ => exact h.elim
  | str x =>
    cases rw' with
    | str y =>
      obtain ⟨hl, h⟩ := iff_post h
      exact .inr (.inl ⟨x, y, rfl, rfl, lim_le hl, now_ rs (.str _) h⟩)
    | _ => exact h.elim
  | @tup a vs ps ha r1 =>
    cases rw' with
    | @tup b ws qs hb r2 =>
      obtain ⟨hl, h⟩ := iff_post h
      refine .inr (.inr (.inr ⟨a, b, vs, ws, rfl, rfl, ha, hb, by rw [r1.length, r2.length]; exact lim_le hl, fun e => ?_, fun _ e => ?_, fun _ _ p hp => new_tup rs (r1.append r2) h p hp⟩))
      · subst e
        have e2 : ps = [] := by cases r1; rfl
        subst e2
        exact now_ rs (.tup hb r2) h
      · subst e
        have e2 : qs = [] := by cases r2; rfl
        subst e2
        rw [List.append_nil] at h
        exact now_ rs (.tup ha r1) h
    | _ => exact h.elim
  | lst n h1 r1 => exact .inr (.inr (.inl (cat (.lst n h1 r1) rw' h)))
  | loc h1 => exact .inr (.inr (.inl (cat (.loc h1) rw' h)))
  | _ => exact h.elim
theorem o_sub : OpR X (binaryOp .Sub) (rI0 fun i j => .int (i - j)) ∧ OpM X E (rI0 fun i j => .int (i - j)) subM := by
  refine ⟨op_sub, ?_⟩
  intro v w p q H μ S Q rs rv rw' h
  cases rv with
  | int i =>
    cases rw' with
    | int j => exact ⟨i, j, rfl, rfl, now_ rs (.int _) h⟩
    | _ => exact h.elim
  | _ => exact h.elim
theorem RpL.flatten {K : PySem.W.Frag} {H : Hp} {μ : Mu} {vs : List V} {ps : List PV} (r : RpL K H μ vs ps) : ∀ n : Nat, RpL K H μ (List.replicate n vs).flatten (List.replicate n ps).flatten
  | 0 => .nil
  | n + 1 => by simp only [List.replicate_succ, List.flatten_cons]; exact r.append (RpL.flatten r n)
theorem op_repN : OpR X (binaryOp .Mult) (fun x y H Q => ∃ l k xs, x = .ref l ∧ y = .int k ∧ H l = some (.lst xs) ∧ -1000 ≤ k ∧ k ≤ 1000 ∧ xs.length ≤ 100 ∧ ∀ p, H p = none → Q (.ref p) (upd H p (.lst (List.replicate k.toNat xs).flatten))) := by
  intro pins s σ H x y v u Q I rx ry h
  obtain ⟨l, k, xs, e1, e2, hH, k1, k2, hl, q⟩ := h
  refine op_rep pins s σ H x y v u Q I rx ry ⟨l, k, xs, e1, e2, hH, by omega, by omega, ?_, q⟩
  have h1 : k.toNat ≤ 1000 := by omega
  have h2 := Nat.mul_le_mul hl h1
  rw [sizeLine_eq]
  omega
theorem o_mul : OpR X (binaryOp .Mult) (fun x y H Q => rI CMulW (fun i j => .int (i * j)) x y H Q ∨ (∃ l k xs, x = .ref l ∧ y = .int k ∧ H l = some (.lst xs) ∧ -1000 ≤ k ∧ k ≤ 1000 ∧ xs.length ≤ 100 ∧ ∀ p, H p = none → Q (.ref p) (upd H p (.lst (List.replicate k.toNat xs).flatten)))) ∧
    OpM X E (fun x y H Q => rI CMulW (fun i j => .int (i * j)) x y H Q ∨ (∃ l k xs, x = .ref l ∧ y = .int k ∧ H l = some (.lst xs) ∧ -1000 ≤ k ∧ k ≤ 1000 ∧ xs.length ≤ 100 ∧ ∀ p, H p = none → Q (.ref p) (upd H p (.lst (List.replicate k.toNat xs).flatten)))) mulM := by
  refine ⟨op_mulW.or op_repN, ?_⟩
  intro v w p q H μ S Q rs rv rw' h
  cases rv with
  | int i =>
    cases rw' with
    | int j =>
      obtain ⟨hl, h⟩ := iff_post h
      exact .inl ⟨i, j, rfl, rfl, hl, now_ rs (.int _) h⟩
    | _ => exact h.elim
  | @lst a vs ps n h1 r1 =>
    cases rw' with
    | int j =>
      obtain ⟨⟨k1, k2, hl⟩, h⟩ := iff_post h
      exact .inr ⟨a, j, vs, rfl, rfl, h1, k1, k2, by rw [r1.length]; exact hl, fun p hp => new_lst rs (r1.flatten _) h p hp⟩
    | _ => exact h.elim
  | _ => exact h.elim
def CDivX (_ j : Int) : Prop := j ≠ 0 ∧ j.natAbs.log2 < 9000
theorem op_fdivX : OpR X (binaryOp .FloorDiv) (rI CDivX fun i j => .int (i.fdiv j)) := opI fun _ _ _ _ _ _ _ hc q => PyProof.Rows.floordiv_int hc.1 q (.inl (PyProof.noPylong_of_log2 hc.2))
theorem o_fdiv : OpR X (binaryOp .FloorDiv) (rI CDivX fun i j => .int (i.fdiv j)) ∧ OpM X E (rI CDivX fun i j => .int (i.fdiv j)) fdivM := by
  refine ⟨op_fdivX, ?_⟩
  intro v w p q H μ S Q rs rv rw' h
  cases rv with
  | int i =>
    cases rw' with
    | int j =>
      obtain ⟨hl, h⟩ := iff_post h
      exact ⟨i, j, rfl, rfl, hl, now_ rs (.int _) h⟩
    | _ => exact h.elim
  | _ => exact h.elim
theorem o_mod : OpR X (binaryOp .Mod) (rI (fun _ j => j ≠ 0) fun i j => .int (i.fmod j)) ∧ OpM X E (rI (fun _ j => j ≠ 0) fun i j => .int (i.fmod j)) modM := by
  refine ⟨op_modN, ?_⟩
  intro v w p q H μ S Q rs rv rw' h
  cases rv with
  | int i =>
    cases rw' with
    | int j =>
      obtain ⟨hl, h⟩ := iff_post h
      exact ⟨i, j, rfl, rfl, hl, now_ rs (.int _) h⟩
    | _ => exact h.elim
  | _ => exact h.elim
theorem o_pow : OpR X (binaryOp .Pow) (rI CPow fun i j => .int (i ^ j.toNat)) ∧ OpM X E (rI CPow fun i j => .int (i ^ j.toNat)) powM := by
  refine ⟨op_pow, ?_⟩
  intro v w p q H μ S Q rs rv rw' h
  cases rv with
  | int i =>
    cases rw' with
    | int j =>
      obtain ⟨hl, h⟩ := iff_post h
      exact ⟨i, j, rfl, rfl, hl, now_ rs (.int _) h⟩
    | _ => exact h.elim
  | _ => exact h.elim
theorem o_neg : UnR X (unaryOp .USub) (rU fun i => .int (-i)) ∧ UnM X E (rU fun i => .int (-i)) negM := by
  refine ⟨un_neg, ?_⟩
  intro v p H μ S Q rs rv h
  cases rv with
  | int i => exact ⟨i, rfl, now_ rs (.int _) h⟩
  | _ => exact h.elim
theorem opM_int {g : PV → PV → M PV} {f : Int → Int → Bool} (hg : ∀ i j, g (.int i) (.int j) = ret (.bl (f i j))) (hs : ∀ p q S, (∀ i j, ¬(p = .int i ∧ q = .int j)) → g p q S = .stuck) : OpM X E (rI0 fun i j => .bl (f i j)) g := by
  intro v w p q H μ S Q rs rv rw' h
  by_cases hc : ∃ i j, p = .int i ∧ q = .int j
  · obtain ⟨i, j, rfl, rfl⟩ := hc
    rw [hg] at h
    cases rv
    cases rw'
    exact ⟨i, j, rfl, rfl, now_ rs (.bl _) h⟩
  · rw [hs p q S fun i j z => hc ⟨i, j, z⟩] at h
    exact h.elim
theorem o_lt : OpR X (compareOp .Lt) (rI0 fun i j => .bl (decide (i < j))) ∧ OpM X E (rI0 fun i j => .bl (decide (i < j))) ltM :=
  ⟨op_lt, opM_int (fun _ _ => rfl) fun p q S h => by cases p <;> cases q <;> first | rfl | exact absurd ⟨rfl, rfl⟩ (h _ _)⟩
theorem o_le : OpR X (compareOp .LtE) (rI0 fun i j => .bl (decide (i ≤ j))) ∧ OpM X E (rI0 fun i j => .bl (decide (i ≤ j))) leM :=
  ⟨op_le, opM_int (fun _ _ => rfl) fun p q S h => by cases p <;> cases q <;> first | rfl | exact absurd ⟨rfl, rfl⟩ (h _ _)⟩
theorem o_gt : OpR X (compareOp .Gt) (rI0 fun i j => .bl (decide (j < i))) ∧ OpM X E (rI0 fun i j => .bl (decide (j < i))) gtM :=
  ⟨op_gt, opM_int (fun _ _ => rfl) fun p q S h => by cases p <;> cases q <;> first | rfl | exact absurd ⟨rfl, rfl⟩ (h _ _)⟩
theorem o_ge : OpR X (compareOp .GtE) (rI0 fun i j => .bl (decide (j ≤ i))) ∧ OpM X E (rI0 fun i j => .bl (decide (j ≤ i))) geM :=
  ⟨op_ge, opM_int (fun _ _ => rfl) fun p q S h => by cases p <;> cases q <;> first | rfl | exact absurd ⟨rfl, rfl⟩ (h _ _)⟩
theorem Rp.isN {K : PySem.W.Frag} {H : Hp} {μ : Mu} {v : V} {p : PV} (r : Rp K H μ v p) : decide (v = .non) = Pm.isN p := by cases r <;> rfl
theorem o_isN : OpR X (compareOp .Is) (fun x y H Q => y = .non ∧ Q (.bl (decide (x = .non))) H) ∧ OpM X E (fun x y H Q => y = .non ∧ Q (.bl (decide (x = .non))) H) (fun p q => match q with | .non => isNM p q | _ => stk) := by
  refine ⟨op_isN, ?_⟩
  intro v w p q H μ S Q rs rv rw' h
  cases rw' with
  | non => exact ⟨rfl, by rw [rv.isN]; exact now_ rs (.bl _) h⟩
  | _ => exact h.elim
theorem o_notN : OpR X (compareOp .IsNot) (fun x y H Q => y = .non ∧ Q (.bl (!decide (x = .non))) H) ∧ OpM X E (fun x y H Q => y = .non ∧ Q (.bl (!decide (x = .non))) H) (fun p q => match q with | .non => notNM p q | _ => stk) := by
  refine ⟨op_notN, ?_⟩
  intro v w p q H μ S Q rs rv rw' h
  cases rw' with
  | non => exact ⟨rfl, by rw [rv.isN]; exact now_ rs (.bl _) h⟩
  | _ => exact h.elim
theorem o_isB : OpR X (compareOp .Is) rIsB ∧ OpM X E rIsB isBM := by
  refine ⟨op_isBl, ?_⟩
  intro v w p q H μ S Q rs rv rw' h
  cases rv with
  | bl a =>
    cases rw' with
    | bl b => exact ⟨a, b, rfl, rfl, now_ rs (.bl _) h⟩
    | _ => exact h.elim
  | _ => exact h.elim
theorem o_notB : OpR X (compareOp .IsNot) rNotB ∧ OpM X E rNotB notBM := by
  refine ⟨op_notBl, ?_⟩
  intro v w p q H μ S Q rs rv rw' h
  cases rv with
  | bl a =>
    cases rw' with
    | bl b => exact ⟨a, b, rfl, rfl, now_ rs (.bl _) h⟩
    | _ => exact h.elim
  | _ => exact h.elim
def rOr (r t : R2) : R2 := fun v w H Q => r v w H Q ∨ t v w H Q
theorem opOr {f : Value → Value → Sem Value} {r t : R2} (h : OpR X f r) (k : OpR X f t) : OpR X f (rOr r t) := fun pins s σ H x y v u Q I rx ry q => q.elim (h pins s σ H x y v u Q I rx ry) (k pins s σ H x y v u Q I rx ry)
theorem two_of {v w : V} {p q : PV} {H : Hp} {μ : Mu} {b : Bool} (rv : Rp X.K H μ v p) (rw' : Rp X.K H μ w q) (e : twoStr p q = some b) : scal v w = true ∧ decide (v = w) = b := by
  unfold twoStr at e
  split at e
  · cases e
    cases rv with
    | str x => cases rw' with
      | str y => exact ⟨rfl, dec_str⟩
  · cases e
theorem eqD_of {v w : V} {p q : PV} {H : Hp} {μ : Mu} {S : Sto} {b : Bool} (rs : RelS X.K H μ S) (rv : Rp X.K H μ v p) (rw' : Rp X.K H μ w q) (e : eqD p q S = some b) : ∃ d e, Dp X.K H v d ∧ Dp X.K H w e ∧ SeqAt.shaped d = true ∧ SeqAt.shaped e = true ∧ PyData.eqv d e = b := by
  unfold eqD at e
  split at e
  · rename_i d e e1 e2
    split at e
    · rename_i sh
      cases e
      exact ⟨d, _, dataS_dp rs rv e1, dataS_dp rs rw' e2, sh.1, sh.2, rfl⟩
    · cases e
  · cases e
theorem o_eq (hu : X.A.units + 64 < cLine) : OpR X (compareOp .Eq) (rOr rEq (rEqD X.K)) ∧ OpM X E (rOr rEq (rEqD X.K)) eqM := by
  refine ⟨opOr op_eq (op_eqD hu), ?_⟩
  intro v w p q H μ S Q rs rv rw' h
  unfold eqM eqB at h
  cases et : twoStr p q with
  | some b =>
    rw [et] at h
    obtain ⟨h1, h2⟩ := two_of rv rw' et
    exact .inl ⟨h1, h2 ▸ now_ rs (.bl _) h⟩
  | none =>
    rw [et] at h
    cases ed : eqD p q S with
    | none => simp only [ed] at h; exact h.elim
    | some b =>
      simp only [ed] at h
      obtain ⟨d, e, d1, d2, s1, s2, eb⟩ := eqD_of rs rv rw' ed
      exact .inr ⟨d, e, d1, d2, s1, s2, eb ▸ now_ rs (.bl _) h⟩
theorem o_ne (hu : X.A.units + 64 < cLine) : OpR X (compareOp .NotEq) (rOr rNe (rNeD X.K)) ∧ OpM X E (rOr rNe (rNeD X.K)) neM := by
  refine ⟨opOr op_ne (op_neD hu), ?_⟩
  intro v w p q H μ S Q rs rv rw' h
  unfold neM eqB at h
  cases et : twoStr p q with
  | some b =>
    rw [et] at h
    obtain ⟨h1, h2⟩ := two_of rv rw' et
    exact .inl ⟨h1, h2 ▸ now_ rs (.bl _) h⟩
  | none =>
    rw [et] at h
    cases ed : eqD p q S with
    | none => simp only [ed] at h; exact h.elim
    | some b =>
      simp only [ed] at h
      obtain ⟨d, e, d1, d2, s1, s2, eb⟩ := eqD_of rs rv rw' ed
      exact .inr ⟨d, e, d1, d2, s1, s2, eb ▸ now_ rs (.bl _) h⟩
def rInX (neg : Bool) (K : PySem.W.Frag) : R2 := fun x y H Q => ∃ d ds, Dp K H x d ∧ (Dp K H y (.list ds) ∨ Dp K H y (.tuple ds)) ∧ SeqAt.shaped d = true ∧ SeqAt.shaped (.list ds) = true ∧ Q (.bl (if neg = true then !(ds.any fun z => PyData.eqv z d) else ds.any fun z => PyData.eqv z d)) H
theorem op_inX (hu : X.A.units + 65 < cLine) : OpR X (compareOp .In) (rInX false X.K) := by
  intro pins s σ H x y v u Q I rx ry h
  obtain ⟨d, ds, hd, he, sd, se, q⟩ := h
  obtain ⟨as, r1⟩ := Dp.reads I d x v hd rx
  rcases he with he | he
  · obtain ⟨bs, r2⟩ := Dp.reads I (.list ds) y u he ry
    exact SeqAt.in_list_reads r2 r1 (SeqAt.canLay_of_shaped se) (SeqAt.canLay_of_shaped sd) (PyProof.Rows.room_in_shaped sd hu) ⟨.bl _, H, I, rfl, q⟩
  · obtain ⟨bs, r2⟩ := Dp.reads I (.tuple ds) y u he ry
    exact SeqAt.in_tuple_reads r2 r1 (SeqAt.canLay_of_shaped se) (SeqAt.canLay_of_shaped sd) (PyProof.Rows.room_in_shaped sd hu) ⟨.bl _, H, I, rfl, q⟩
theorem op_notInX (hu : X.A.units + 65 < cLine) : OpR X (compareOp .NotIn) (rInX true X.K) := by
  intro pins s σ H x y v u Q I rx ry h
  obtain ⟨d, ds, hd, he, sd, se, q⟩ := h
  obtain ⟨as, r1⟩ := Dp.reads I d x v hd rx
  rcases he with he | he
  · obtain ⟨bs, r2⟩ := Dp.reads I (.list ds) y u he ry
    exact SeqAt.notIn_list_reads r2 r1 (SeqAt.canLay_of_shaped se) (SeqAt.canLay_of_shaped sd) (PyProof.Rows.room_in_shaped sd hu) ⟨.bl _, H, I, rfl, q⟩
  · obtain ⟨bs, r2⟩ := Dp.reads I (.tuple ds) y u he ry
    exact SeqAt.notIn_tuple_reads r2 r1 (SeqAt.canLay_of_shaped se) (SeqAt.canLay_of_shaped sd) (PyProof.Rows.room_in_shaped sd hu) ⟨.bl _, H, I, rfl, q⟩
theorem in_of {neg : Bool} {v w : V} {p q : PV} {H : Hp} {μ : Mu} {S : Sto} {b : Bool} {Q : VK} (rs : RelS X.K H μ S) (rv : Rp X.K H μ v p) (rw' : Rp X.K H μ w q) (e : inB p q S = some b) (h : Q (.bl (if neg = true then !b else b)) H) :
    rIn X.K neg v w H Q ∨ rInX neg X.K v w H Q := by
  have gen : ∀ {q : PV}, Rp X.K H μ w q → (match dataS p S, dataS q S with
    | some d, some (.list ds) => if SeqAt.shaped d = true ∧ SeqAt.shaped (.list ds) = true then some (ds.any fun z => PyData.eqv z d) else none
    | _, _ => none) = some b → rInX neg X.K v w H Q := by
    intro q rw' e
    split at e
    · rename_i d ds e1 e2
      split at e
      · rename_i sh
        cases e
        exact ⟨d, ds, dataS_dp rs rv e1, .inl (dataS_dp rs rw' e2), sh.1, sh.2, h⟩
      · cases e
    · cases e
  cases rw' with
  | @tup a vs ps hq r =>
    simp only [inB] at e
    split at e
    · rename_i b' ef
      cases e
      unfold inFl at ef
      split at ef
      · rename_i x xs e1 e2
        cases ef
        obtain ⟨q1, f1⟩ := rv.flat e1
        obtain ⟨q2, f2⟩ := r.flat e2
        subst q1 q2
        exact .inl ⟨a, vs, rfl, .inr hq, f1, f2, h⟩
      · cases ef
    · split at e
      · rename_i d ds e1 e2
        split at e
        · rename_i sh
          cases e
          exact .inr ⟨d, ds, dataS_dp rs rv e1, .inr (dataS_dp rs (.tup hq r) e2), sh.1, sh.2, h⟩
        · cases e
      · cases e
  | non => exact .inr (gen .non e)
  | bl b' => exact .inr (gen (.bl b') e)
  | int i => exact .inr (gen (.int i) e)
  | str x => exact .inr (gen (.str x) e)
  | lst n h1 r => exact .inr (gen (.lst n h1 r) e)
  | frz h1 r => exact .inr (gen (.frz h1 r) e)
  | loc h1 => exact .inr (gen (.loc h1) e)
  | dct h1 h2 => exact .inr (gen (.dct h1 h2) e)
theorem o_in (hu : X.A.units + 65 < cLine) : OpR X (compareOp .In) (fun x y H Q => rIn X.K false x y H Q ∨ rInX false X.K x y H Q) ∧ OpM X E (fun x y H Q => rIn X.K false x y H Q ∨ rInX false X.K x y H Q) inM := by
  refine ⟨op_in_seq.or (op_inX hu), ?_⟩
  intro v w p q H μ S Q rs rv rw' h
  unfold inM at h
  split at h
  · rename_i b e
    exact in_of (neg := false) rs rv rw' e (now_ rs (.bl _) h)
  · exact h.elim
theorem o_nin (hu : X.A.units + 65 < cLine) : OpR X (compareOp .NotIn) (fun x y H Q => rIn X.K true x y H Q ∨ rInX true X.K x y H Q) ∧ OpM X E (fun x y H Q => rIn X.K true x y H Q ∨ rInX true X.K x y H Q) ninM := by
  refine ⟨op_notIn_seq.or (op_notInX hu), ?_⟩
  intro v w p q H μ S Q rs rv rw' h
  unfold ninM at h
  split at h
  · rename_i b e
    exact in_of (neg := true) rs rv rw' e (now_ rs (.bl _) h)
  · exact h.elim

/-! ## subscripts, slices -/
theorem ixN_len {n : Nat} {i : Int} {j : Nat} (h : ixN n i = some j) : j < n := (ixN_seq h).2.1
theorem atI_rp {K : PySem.W.Frag} {H : Hp} {μ : Mu} {vs : List V} {ps : List PV} {i : Int} {p : PV} (r : RpL K H μ vs ps) (e : atI ps i = some p) : ∃ v, atI vs i = some v ∧ Rp K H μ v p := by
  unfold atI at e ⊢
  rw [r.length]
  cases q : ixN ps.length i with
  | none => rw [q] at e; cases e
  | some j =>
    rw [q] at e
    obtain ⟨v, e1, r1⟩ := r.get (show ps[j]? = some p from e)
    exact ⟨v, e1, r1⟩
variable {a b : Expr} {m n : ED} {pos p2 : Pos}
theorem ix_opM : OpM X E (rIx X.K) ixM := by
  intro v w p q H μ S Q rs rv rw' h
  have gen : ∀ {p : PV} {i : Int}, Rp X.K H μ v p → Post X.K X.mg E H μ (match asL p S with
    | some xs => match atI xs i with
      | some p => .ok p S
      | none => .stuck
    | none => .stuck) (kE X.K Q) → rIxL X.K v (.int i) H Q := by
    intro p i rv h
    split at h
    · rename_i xs e1
      split at h
      · rename_i z e2
        obtain ⟨a, vs, rfl, hq, r⟩ := asL_ok e1 rs rv
        obtain ⟨u, e3, r3⟩ := atI_rp r e2
        exact ⟨a, vs, i, u, rfl, rfl, hq, e3, now_ rs r3 h⟩
      · exact h.elim
    · exact h.elim
  cases rv with
  | @tup a vs ps hq r =>
    cases rw' with
    | int i =>
      unfold ixM at h
      simp only at h
      split at h
      · rename_i z e2
        obtain ⟨u, e3, r3⟩ := atI_rp r e2
        exact .inr (.inl ⟨a, vs, i, u, rfl, rfl, hq, e3, now_ rs r3 h⟩)
      · exact h.elim
    | _ => exact h.elim
  | str z =>
    cases rw' with
    | int i =>
      unfold ixM at h
      simp only at h
      obtain ⟨hl, h⟩ := iff_post h
      split at h
      · rename_i c e2
        exact .inr (.inr ⟨z, i, c, rfl, rfl, lim_le hl, e2, now_ rs (.str _) h⟩)
      · exact h.elim
    | _ => exact h.elim
  | lst n h1 r => cases rw' with
    | int i => exact .inl (gen (.lst n h1 r) h)
    | _ => exact h.elim
  | frz h1 r => cases rw' with
    | int i => exact .inl (gen (.frz h1 r) h)
    | _ => exact h.elim
  | loc h1 => cases rw' with
    | int i => exact .inl (gen (.loc h1) h)
    | _ => exact h.elim
  | dct h1 h2 => cases rw' with
    | int i => exact .inl (gen (.dct h1 h2) h)
    | _ => exact h.elim
  | non => cases rw' with
    | int i => exact .inl (gen .non h)
    | _ => exact h.elim
  | bl b => cases rw' with
    | int i => exact .inl (gen (.bl b) h)
    | _ => exact h.elim
  | int k => cases rw' with
    | int i => exact .inl (gen (.int k) h)
    | _ => exact h.elim
theorem pm_ix (ha : PM X E a m) (hb : PM X E b n) (hs : PlainIx b := by exact fun _ _ => rfl) : PM X E (.Subscript a b pos) (dOp ixM m n) :=
  PE.imp (pe_ix ix_seq ha hb hs) fun σ H Q h => tOp_of ix_opM h
def tO (K : PySem.W.Frag) (mg : Str → Option Value) (E : XK) (m : OD) : TO := fun σ H Q => ∃ ρ S μ, RelE K H μ σ ρ ∧ RelS K H μ S ∧ Post K mg E H μ (m ρ S) (fun o _ H' _ => Q o H')
theorem PO.imp {e : Option Expr} {t t' : TO} (h : PO X e t) (q : ∀ σ H Q, t' σ H Q → t σ H Q) : PO X e t' := ⟨fun pins s σ H Q I w => h.run pins s σ H Q I (q σ H Q w)⟩
theorem pmo_none : PO X none (tO X.K X.mg E oNone) := PO.imp po_none fun σ H Q ⟨ρ, S, μ, re, rs, h⟩ => h H μ .refl rs
theorem pmo_some (h : PM X E a m) : PO X (some a) (tO X.K X.mg E (oSome m)) := by
  refine PO.imp (po_some h) fun σ H Q ⟨ρ, S, μ, re, rs, h⟩ => ?_
  refine stepE re rs h fun v p S1 H1 μ1 re1 rs1 rv g1 h1 => ?_
  cases rv with
  | int i => exact ⟨i, rfl, h1 H1 μ1 .refl rs1⟩
  | _ => exact h1.elim
theorem cut_rp {K : PySem.W.Frag} {H : Hp} {μ : Mu} {vs : List V} {ps : List PV} (r : RpL K H μ vs ps) (lo hi : Option Int) : RpL K H μ (cutV vs lo hi) (cutP ps lo hi) := by
  unfold cutV cutP
  rw [r.length]
  exact (r.drop _).take _
theorem stepO {β : Type} {m : OD} {ρ : Rho} {σ : L2.St} {H : Hp} {μ : Mu} {S : Sto} {f : Option Int → M β} {k : β → Sto → Hp → Mu → Prop} {Q : Option Int → Hp → Prop} (re : RelE X.K H μ σ ρ) (rs : RelS X.K H μ S) (h : Post X.K X.mg E H μ (bnd (m ρ) f S) k)
    (hq : ∀ o S1 H1 μ1, RelE X.K H1 μ1 σ ρ → RelS X.K H1 μ1 S1 → Grow H μ H1 μ1 → Post X.K X.mg E H1 μ1 (f o S1) k → Q o H1) : tO X.K X.mg E m σ H Q :=
  ⟨ρ, S, μ, re, rs, h.bnd.mono fun b S1 H1 μ1 g r q => hq b S1 H1 μ1 (re.grow g) r g q⟩
theorem pm_sl {lo hi : Option Expr} {ml mh : OD} (ha : PM X E a m) (hl : PO X lo (tO X.K X.mg E ml)) (hh : PO X hi (tO X.K X.mg E mh)) : PM X E (.Subscript a (.Slice lo hi none p2) pos) (dSl m ml mh) := by
  refine PE.imp (pe_slice (SlR.or sl_tupA sl_list) ha hl hh) fun σ H Q ⟨ρ, S, μ, re, rs, h⟩ => ?_
  refine stepE re rs h fun v p S1 H1 μ1 re1 rs1 rv g1 h1 => ?_
  refine stepO re1 rs1 h1 fun l S2 H2 μ2 re2 rs2 g2 h2 => ?_
  refine stepO re2 rs2 h2 fun u S3 H3 μ3 re3 rs3 g3 h3 => ?_
  have rv3 := (rv.grow g2).grow g3
  have gen : ∀ {p : PV}, Rp X.K H3 μ3 v p → Post X.K X.mg E H3 μ3 (match asL p S3 with
    | some xs => .ok (.lst (cutP xs l u)) S3
    | none => .stuck) (kE X.K Q) → rSlL X.K v l u H3 Q := by
    intro p rv h
    split at h
    · rename_i xs e1
      obtain ⟨a, vs, rfl, hq, r⟩ := asL_ok e1 rs3 rv
      exact ⟨a, vs, rfl, hq, fun p hp => new_lst rs3 (cut_rp r l u) h p hp⟩
    · exact h.elim
  cases rv3 with
  | @tup a vs ps hq r =>
    refine .inl ⟨a, vs, rfl, hq, fun ⟨e1, e2⟩ => ?_, fun _ p hp => new_tup rs3 (cut_rp r l u) h3 p hp⟩
    have ec : cutP ps l u = ps := by
      unfold cutP
      rw [← r.length, e1, e2, List.drop_zero, Nat.sub_zero, r.length, List.take_length]
    have h3' : Post X.K X.mg E H3 μ3 (.ok (.tup (cutP ps l u)) S3) (kE X.K Q) := h3
    rw [ec] at h3'
    exact now_ rs3 (.tup hq r) h3'
  | non => exact .inr (gen .non h3)
  | bl b => exact .inr (gen (.bl b) h3)
  | int k => exact .inr (gen (.int k) h3)
  | str k => exact .inr (gen (.str k) h3)
  | lst n z1 r => exact .inr (gen (.lst n z1 r) h3)
  | frz z1 r => exact .inr (gen (.frz z1 r) h3)
  | loc z1 => exact .inr (gen (.loc z1) h3)
  | dct z1 z2 => exact .inr (gen (.dct z1 z2) h3)
end
end Pm

namespace Pm
open PySem PySem.Spec L2
section
variable {prog : Program} {w : World} {A : Around} {E : Value → Shared → Prop}
theorem draw_list {it l : Addr} {items : Array Value} (hne : l ≠ it) : ∀ (n i : Nat) (s : Shared) (Q : List Value → Shared → Prop), s.heap.IsListIter it l i → s.heap.IsList l items → i + n ≤ items.size →
    (∀ h' : Heap, h'.IsListIter it l (i + n) → Heap.SameBut it s.heap h' → Q ((items.toList.drop i).take n) { s with heap := h' }) → wpAny (model prog w) A (draw (.ref it) n) Q E s
  | 0, i, s, Q, hit, _, _, hQ => by
    show wpAny _ _ (pure []) Q E s
    exact wpAny_pure (by simpa using hQ s.heap hit (Heap.SameBut.refl ..))
  | n + 1, i, s, Q, hit, ht, hle, hQ => by
    have hlt : i < items.size := by omega
    show wpAny _ _ (pyNext (.ref it) >>= _) Q E s
    refine wpAny_bind (wpAny_pyNext_list_item hit ht (x := items[i]) (by simp [hlt]) fun h₁ hit₁ hs₁ => ?_)
    refine wpAny_bind (wpAny_holding (draw_list hne n (i + 1) _ _ hit₁ (ht.extBut hs₁.extBut hne) (by omega) fun h₂ hit₂ hs₂ => wpAny_pure ?_))
    have hd : items.toList.drop i = items[i] :: items.toList.drop (i + 1) := by simp [List.drop_eq_getElem_cons, hlt]
    have := hQ h₂ (by rw [show i + (n + 1) = i + 1 + n by omega]; exact hit₂) (hs₁.trans hs₂)
    rw [hd, List.take_succ_cons] at this
    exact this
theorem unpackItems_list {s : Shared} {l : Addr} {items : Array Value} {Q : List Value → Shared → Prop} (hh : A.handled = none) (ht : s.heap.IsList l items)
    (hQ : ∀ h', Heap.ExtBut s.heap.objs.size s.heap h' → Q items.toList { s with heap := h' }) : wpAny (model prog w) A (unpackItems (.ref l) items.size none) Q E s := by
  have hlt : l ≠ s.heap.objs.size := by obtain ⟨o, ho, _⟩ := ht; exact Nat.ne_of_lt (Heap.lt_size ho)
  unfold unpackItems
  refine wpAny_bind ?_
  unfold notIterableAtAll
  refine wpAny_bind (wpAny_specialOf ht.typeIs slot_list_iter.lookup ?_)
  refine wpAny_pure ?_
  simp only [Bool.false_eq_true, if_false]
  refine wpAny_bind (wpAny_holding (wpAny_pyIter_list ht ?_))
  refine wpAny_bind (wpAny_holding (draw_list hlt items.size 0 _ _ ⟨_, Heap.get?_push_size _ rfl, rfl, rfl⟩ (ht.push _) (by omega) fun h₁ hit₁ hs₁ => ?_))
  have hall : List.take items.size (List.drop 0 items.toList) = items.toList := by
    rw [List.drop_zero]; exact List.take_of_length_le (by simp)
  rw [hall]
  rw [if_neg (by simp)]
  have ht₁ : h₁.IsList l items := (ht.push _).extBut hs₁.extBut hlt
  refine wpAny_bind (wpAny_holding (wpAny_pyNext_list_end hh hit₁ ht₁ (by simp) fun h₂ he₂ => ?_))
  simp only [Option.isSome_none, Bool.false_eq_true, if_false]
  exact wpAny_pure (hQ h₂ fun b o hb e => he₂ b o hb (hs₁.extBut b o hb (Heap.get?_push_of_some _ e)))
end
section
variable {X : Cx} {pos : Pos}
theorem assign_Tuple_list {prog : Program} {w : World} {A : Around} {E : Value → Shared → Prop} {s : Shared} {env : Env} {elts : List Expr} {x1} {pos : Pos} {t : Addr} {items : Array Value} {Q : Unit → Shared → Prop} (hh : A.handled = none) (ht : s.heap.IsList t items)
    (hn : (assignEach elts env).length = items.size) (hstar : (assignEach elts env).findIdx? (·.1) = none)
    (h : ∀ h', Heap.ExtBut s.heap.objs.size s.heap h' → wpAny (model prog w) A (assignInOrder ((assignEach elts env).map (·.2)) items.toList) Q E { s with heap := h' }) :
    wpAny (model prog w) A (assign (.Tuple elts x1 pos) env (.ref t)) Q E s := by
  rw [PyProof.Rows.assign_Tuple]
  refine wpAny_bind (wpAny_standAt ?_)
  unfold unpack
  rw [hn, hstar]
  exact wpAny_bind (wpAny_holding (unpackItems_list hh ht h))
/-- (a, b, ..) = a tuple or a list of that length -/
def gTupE (K : PySem.W.Frag) (n : Nat) (t : TGs) : TG := fun v σ H Q => ∃ a xs, v = .ref a ∧ (SqT K H a xs ∨ SqL K H a xs) ∧ xs.length = n ∧ t xs σ H Q
theorem pg_tupE {es : List Expr} {k : Nat} {t : TGs} {n : Nat} (hc : X.calm = true) (h : PGs X es t)
    (hn : (assignEach es X.env).length = n := by rfl) (hst : (assignEach es X.env).findIdx? (·.1) = none := by rfl) : PG X (.Tuple es k pos) (gTupE X.K n t) := by
  refine ⟨fun pins s σ H v u Q I r hw => ?_⟩
  obtain ⟨a, xs, e1, hq, hl, hw⟩ := hw
  subst e1
  cases r
  rcases hq with hq | hq
  · obtain ⟨its, rv, ht, hz⟩ := I.tuple hq
    refine PyProof.Rows.assign_Tuple_tuple (I.ok.hd hc) ht (by simp [hn, ← hl, rv.length]) hst fun h' hx => ?_
    have I1 : Inv X pins σ H { s with heap := h' } := I.kept (t' := s.toks) fun b o e => hx b o (Nat.ne_of_lt (Heap.lt_size e)) e
    exact h.run pins _ σ H xs _ Q I1 (by simpa using rv) hw
  · obtain ⟨its, rv, pl, hz⟩ := I.list hq
    refine assign_Tuple_list (I.ok.hd hc) pl.isList (by simp [hn, ← hl, rv.length]) hst fun h' hx => ?_
    have I1 : Inv X pins σ H { s with heap := h' } := I.kept (t' := s.toks) fun b o e => hx b o (Nat.ne_of_lt (Heap.lt_size e)) e
    exact h.run pins _ σ H xs _ Q I1 (by simpa using rv) hw
end

/-! ## statements -/
inductive Fl where
  | nx (ρ : Rho) | rt (p : PV) | bk (ρ : Rho) | ct (ρ : Rho)
abbrev SD := Rho → M Fl
section
variable (K : PySem.W.Frag) (mg : Str → Option Value) (E : XK)
def kS (D : Ends) : Fl → Sto → Hp → Mu → Prop := fun f _ H' μ' => match f with
  | .nx ρ' => ∀ σ', RelE K H' μ' σ' ρ' → D.nx σ' H'
  | .rt p => ∀ v, Rp K H' μ' v p → D.rt v H'
  | .bk ρ' => ∀ σ', RelE K H' μ' σ' ρ' → D.bk σ' H'
  | .ct ρ' => ∀ σ', RelE K H' μ' σ' ρ' → D.ct σ' H'
def tS (d : SD) : TS := fun D σ H => ∃ ρ S μ, RelE K H μ σ ρ ∧ RelS K H μ S ∧ Post K mg E H μ (d ρ S) (kS K D)
end
def sNil : SD := fun ρ S => .ok (.nx ρ) S
def sSeq (d f : SD) : SD := fun ρ => bnd (d ρ) fun r => match r with
  | .nx ρ' => f ρ'
  | r => ret r
def sRet (m : ED) : SD := fun ρ => bnd (m ρ) fun p => ret (.rt p)
def sRetN : SD := fun _ S => .ok (.rt .non) S
def sExpr (m : ED) : SD := fun ρ => bnd (m ρ) fun _ => ret (.nx ρ)
def sIf (c : BD) (d f : SD) : SD := fun ρ => bnd (c ρ) fun b => if b = true then d ρ else f ρ
def sBrk : SD := fun ρ S => .ok (.bk ρ) S
def sCt : SD := fun ρ S => .ok (.ct ρ) S
/-- a target: what it makes of the names -/
abbrev GD := PV → Rho → M Rho
def gName (i : Nat) : GD := fun p ρ S => .ok (ρ.set i (some p)) S
def sAsg (m : ED) (g : GD) : SD := fun ρ => bnd (m ρ) fun p => bnd (g p ρ) fun ρ' => ret (.nx ρ')
abbrev GDs := List PV → Rho → M Rho
def gsNil : GDs := fun ps ρ S => match ps with
  | [] => .ok ρ S
  | _ => .stuck
def gsCons (g : GD) (gs : GDs) : GDs := fun ps ρ => match ps with
  | p :: ps => bnd (g p ρ) fun ρ' => gs ps ρ'
  | [] => stk
def gTup (n : Nat) (gs : GDs) : GD := fun p ρ => match p with
  | .tup ps => if ps.length = n then gs ps ρ else stk
  | .lst ps => if ps.length = n then gs ps ρ else stk
  | _ => stk
/-- a list that is unpacked -/
def gLst (n : Nat) (gs : GDs) : GD := fun p ρ => match p with
  | .lst ps => if ps.length = n then gs ps ρ else stk
  | _ => stk
/-- o[i] = v, o a list of the store -/
def gSub (mo mi : ED) : GD := fun p ρ => bnd (mo ρ) fun o => bnd (mi ρ) fun i => fun S => match o, i with
  | .loc n, .int k => match S[n]? with
    | some (.lst xs) => match ixN xs.length k with
      | some j => .ok ρ (S.set n (.lst (xs.set j p)))
      | none => .stuck
    | _ => .stuck
  | _, _ => .stuck
def sPar (i j : Nat) (as : AD) : SD := fun ρ => bnd (as ρ) fun ps => match ps with
  | [p, q] => ret (.nx ((ρ.set i (some p)).set j (some q)))
  | _ => stk
def sPar3 (i j l : Nat) (as : AD) : SD := fun ρ => bnd (as ρ) fun ps => match ps with
  | [p, q, r] => ret (.nx (((ρ.set i (some p)).set j (some q)).set l (some r)))
  | _ => stk
section
variable {X : Cx} {E : XK} {e c : Expr} {es : List Expr} {m n : ED} {as : AD} {d f : SD} {st : Stmt} {sts : List Stmt} {pos : Pos}
abbrev PMS (X : Cx) (E : XK) (st : Stmt) (d : SD) : Prop := PS X st (tS X.K X.mg E d)
abbrev PMB (X : Cx) (E : XK) (st : List Stmt) (d : SD) : Prop := PSs X st (tS X.K X.mg E d)
theorem pmb_nil : PMB X E [] sNil := PSs.imp pss_nil fun D σ H ⟨ρ, S, μ, re, rs, h⟩ => h H μ .refl rs σ re
theorem seq_of {D : Ends} {H : Hp} {μ : Mu} {S : Sto} {ρ : Rho} (h : Post X.K X.mg E H μ (sSeq d f ρ S) (kS X.K D)) : Post X.K X.mg E H μ (d ρ S) (kS X.K { D with nx := fun σ' H' => tS X.K X.mg E f D σ' H' }) := by
  refine h.bnd.mono fun r S1 H1 μ1 g r1 q => ?_
  cases r with
  | nx ρ' => exact fun σ' re => ⟨ρ', S1, μ1, re, r1, q⟩
  | rt p => exact q H1 μ1 .refl r1
  | bk ρ' => exact q H1 μ1 .refl r1
  | ct ρ' => exact q H1 μ1 .refl r1
theorem pmb_cons (h1 : PMS X E st d) (h2 : PMB X E sts f) : PMB X E (st :: sts) (sSeq d f) :=
  PSs.imp (pss_cons h1 h2) fun D σ H ⟨ρ, S, μ, re, rs, h⟩ => ⟨ρ, S, μ, re, rs, seq_of h⟩
theorem pmb_one (h1 : PMS X E st d) : PMB X E [st] d := pss_one h1
theorem pms_ret (he : PM X E e m) : PMS X E (.Return (some e) pos) (sRet m) := by
  refine PS.imp (ps_ret he) fun D σ H ⟨ρ, S, μ, re, rs, h⟩ => ?_
  exact stepE re rs h fun v p S1 H1 μ1 re1 rs1 rv g1 h1 => h1 H1 μ1 .refl rs1 v rv
theorem pms_retN : PMS X E (.Return none pos) sRetN := PS.imp ps_retN fun D σ H ⟨ρ, S, μ, re, rs, h⟩ => h H μ .refl rs _ .non
theorem pms_pass : PMS X E (.Pass pos) sNil := PS.imp ps_pass fun D σ H ⟨ρ, S, μ, re, rs, h⟩ => h H μ .refl rs σ re
theorem pms_brk : PMS X E (.Break pos) sBrk := PS.imp ps_break fun D σ H ⟨ρ, S, μ, re, rs, h⟩ => h H μ .refl rs σ re
theorem pms_ct : PMS X E (.Continue pos) sCt := PS.imp ps_continue fun D σ H ⟨ρ, S, μ, re, rs, h⟩ => h H μ .refl rs σ re
theorem pms_expr (he : PM X E e m) (hs : swapsWith e none pos.line X.env = pure false := by rfl) : PMS X E (.Expr e pos) (sExpr m) := by
  refine PS.imp (ps_expr he hs) fun D σ H ⟨ρ, S, μ, re, rs, h⟩ => ?_
  exact stepE re rs h fun v p S1 H1 μ1 re1 rs1 rv g1 h1 => h1 H1 μ1 .refl rs1 σ re1
theorem pms_if {b : BD} {p q : List Stmt} (hc : PB X E c b) (ha : PMB X E p d) (hb : PMB X E q f) : PMS X E (.If c p q pos) (sIf b d f) := by
  refine PS.imp (ps_if hc ha hb) fun D σ H ⟨ρ, S, μ, re, rs, h⟩ => ?_
  refine stepT re rs h fun k S1 H1 μ1 re1 rs1 g1 h1 => ?_
  by_cases hk : k = true
  · rw [if_pos hk] at h1 ⊢; exact ⟨ρ, S1, μ1, re1, rs1, h1⟩
  · rw [if_neg hk] at h1 ⊢; exact ⟨ρ, S1, μ1, re1, rs1, h1⟩
/-! ### targets -/
def tG (K : PySem.W.Frag) (mg : Str → Option Value) (E : XK) (g : GD) : TG := fun v σ H Q => ∃ ρ S μ p, RelE K H μ σ ρ ∧ RelS K H μ S ∧ Rp K H μ v p ∧ Post K mg E H μ (g p ρ S) (fun ρ' _ H' μ' => ∀ σ', RelE K H' μ' σ' ρ' → Q σ' H')
def tGs (K : PySem.W.Frag) (mg : Str → Option Value) (E : XK) (g : GDs) : TGs := fun vs σ H Q => ∃ ρ S μ ps, RelE K H μ σ ρ ∧ RelS K H μ S ∧ RpL K H μ vs ps ∧ Post K mg E H μ (g ps ρ S) (fun ρ' _ H' μ' => ∀ σ', RelE K H' μ' σ' ρ' → Q σ' H')
theorem PG.imp {e : Expr} {t t' : TG} (h : PG X e t) (q : ∀ v σ H Q, t' v σ H Q → t v σ H Q) : PG X e t' := ⟨fun pins s σ H v u Q I r w => h.run pins s σ H v u Q I r (q v σ H Q w)⟩
theorem PGs.imp {es : List Expr} {t t' : TGs} (h : PGs X es t) (q : ∀ v σ H Q, t' v σ H Q → t v σ H Q) : PGs X es t' := ⟨fun pins s σ H v u Q I r w => h.run pins s σ H v u Q I r (q v σ H Q w)⟩
theorem PI.imp {tg e : Expr} {t t' : TI} (h : PI X tg e t) (q : ∀ σ H R, t' σ H R → t σ H R) : PI X tg e t' := ⟨fun pins s σ H R I w => h.run pins s σ H R I (q σ H R w)⟩
abbrev PMG (X : Cx) (E : XK) (e : Expr) (g : GD) : Prop := PG X e (tG X.K X.mg E g)
abbrev PMGs (X : Cx) (E : XK) (es : List Expr) (g : GDs) : Prop := PGs X es (tGs X.K X.mg E g)
theorem pmg_name (i : Nat) {x : Str} (hN : X.N.Nodup) (hi : X.N[i]? = some x := by rfl) (hx : Loc X.env.scope x := by first | exact Or.inl rfl | exact Or.inr rfl) (hf : X.fn x = true ∨ X.env.scope.names.lookup x = some .local := by first | exact .inl rfl | exact .inr rfl | assumption) : PMG X E (.Name x pos) (gName i) := by
  refine PG.imp (pg_name hN hi hx hf) fun v σ H Q ⟨ρ, S, μ, p, re, rs, rv, h⟩ => ?_
  exact h H μ .refl rs _ (re.set rv i)
theorem pmgs_nil : PMGs X E [] gsNil := by
  refine PGs.imp pgs_nil fun vs σ H Q ⟨ρ, S, μ, ps, re, rs, rv, h⟩ => ?_
  cases rv with
  | nil => exact ⟨rfl, h H μ .refl rs σ re⟩
  | cons _ _ => exact h.elim
theorem pmgs_cons {g : GD} {gs : GDs} (h1 : PMG X E e g) (h2 : PMGs X E es gs) (hs : (assignEach (e :: es) X.env).map (·.2) = assign e X.env :: (assignEach es X.env).map (·.2) := by rfl) : PMGs X E (e :: es) (gsCons g gs) := by
  refine PGs.imp (pgs_cons h1 h2 hs) fun vs σ H Q ⟨ρ, S, μ, ps, re, rs, rv, h⟩ => ?_
  cases rv with
  | nil => exact h.elim
  | @cons v vs p ps r t =>
    refine ⟨v, vs, rfl, ρ, S, μ, p, re, rs, r, h.bnd.mono fun ρ' S1 H1 μ1 g1 r1 q σ' re' => ?_⟩
    exact ⟨ρ', S1, μ1, ps, re', r1, t.grow g1, q⟩
theorem pmg_tup {k : Nat} {gs : GDs} {n : Nat} (hc : X.calm = true) (h : PMGs X E es gs) (hn : (assignEach es X.env).length = n := by rfl) (hst : (assignEach es X.env).findIdx? (·.1) = none := by rfl) : PMG X E (.Tuple es k pos) (gTup n gs) := by
  refine PG.imp (pg_tupE hc h hn hst) fun v σ H Q ⟨ρ, S, μ, p, re, rs, rv, h⟩ => ?_
  cases rv with
  | @tup a vs ps hq r =>
    unfold gTup at h
    simp only at h
    by_cases hl : ps.length = n
    · rw [if_pos hl] at h
      exact ⟨a, vs, rfl, .inl hq, r.length.trans hl, ρ, S, μ, ps, re, rs, r, h⟩
    · rw [if_neg hl] at h; exact h.elim
  | @lst a vs ps hn2 hq r =>
    unfold gTup at h
    simp only at h
    by_cases hl : ps.length = n
    · rw [if_pos hl] at h
      exact ⟨a, vs, rfl, .inr (SqL.of hq), r.length.trans hl, ρ, S, μ, ps, re, rs, r, h⟩
    · rw [if_neg hl] at h; exact h.elim
  | _ => exact h.elim
theorem pmg_sub {o i : Expr} {mo mi : ED} (ho : PM X E o mo) (hi : PM X E i mi)
    (ha : ∀ v, assign (.Subscript o i pos) X.env v = (do
      let ov ← holding [v] (eval o X.env)
      let iv ← holding [v, ov] (eval i X.env)
      standAt pos
      holding [v, ov, iv] (setItem ov iv v)
      release [v, ov, iv] []) := by intro _; rfl) : PMG X E (.Subscript o i pos) (gSub mo mi) := by
  refine PG.imp (pg_sub ho hi set_list ha) fun v σ H Q ⟨ρ, S, μ, p, re, rs, rv, h⟩ => ?_
  refine stepE re rs h fun ov op S1 H1 μ1 re1 rs1 ro g1 h1 => ?_
  refine stepE re1 rs1 h1 fun iv ip S2 H2 μ2 re2 rs2 ri g2 h2 => ?_
  have ro2 := ro.grow g2
  have rv2 := (rv.grow g1).grow g2
  cases ro2 with
  | @loc a n hn =>
    cases ri with
    | int k =>
      simp only at h2
      split at h2
      · rename_i xs q
        split at h2
        · rename_i j qj
          obtain ⟨vs, hv, rl⟩ := rs2.at_ n _ a q hn
          refine ⟨a, vs, k, j, rfl, rfl, hv, by rw [rl.length]; exact qj, ?_⟩
          have g := grow_put (o := .lst (vs.set j v)) rs2 hn
          exact h2 _ _ g (rs2.put hn (rl.set rv2 j)) σ (re2.grow g)
        · exact h2.elim
      · exact h2.elim
    | _ => exact h2.elim
  | _ => exact h2.elim
theorem pms_asg {tg : Expr} {g : GD} (he : PM X E e m) (hg : PMG X E tg g) (hs : swapsWithSole [tg] e pos.line X.env = pure false := by rfl) (hw : swappedStores [tg] e X.env = pure none := by rfl)
    (h1 : (assignEach [tg] X.env).map (·.2) = [assign tg X.env] := by rfl) : PMS X E (.Assign [tg] e pos) (sAsg m g) := by
  refine PS.imp (ps_asg he hg hs hw h1) fun D σ H ⟨ρ, S, μ, re, rs, h⟩ => ?_
  refine stepE re rs h fun v p S1 H1 μ1 re1 rs1 rv g1 h1 => ?_
  exact ⟨ρ, S1, μ1, p, re1, rs1, rv, h1.bnd.mono fun ρ' S2 H2 μ2 g2 r2 q σ' re' => q H2 μ2 .refl r2 σ' re'⟩
theorem pms_set (i : Nat) {x : Str} {pos' : Pos} (hN : X.N.Nodup) (he : PM X E e m) (hi : X.N[i]? = some x := by rfl) (hx : Loc X.env.scope x := by first | exact Or.inl rfl | exact Or.inr rfl) (hs : swapsWith e (some (.Name x pos')) pos.line X.env = pure false := by rfl) (hf : X.fn x = true ∨ X.env.scope.names.lookup x = some .local := by first | exact .inl rfl | exact .inr rfl | assumption) :
    PMS X E (.Assign [.Name x pos'] e pos) (sAsg m (gName i)) := by
  refine PS.imp (ps_set hN hi hx he hs hf) fun D σ H ⟨ρ, S, μ, re, rs, h⟩ => ?_
  refine stepE re rs h fun v p S1 H1 μ1 re1 rs1 rv g1 h1 => ?_
  exact h1 H1 μ1 .refl rs1 _ (re1.set rv i)
theorem pms_par {i j : Nat} {x y : Str} {a b : Expr} {px py pt : Pos} {kt k2 pt2} (hc : X.calm = true) (hN : X.N.Nodup) (ha : PAs X E [a, b] as) (hi : X.N[i]? = some x := by rfl) (hj : X.N[j]? = some y := by rfl) (hij : i ≠ j := by decide)
    (hx : X.env.scope.names.lookup x = some .local := by rfl) (hy : X.env.scope.names.lookup y = some .local := by rfl)
    (hw : swappedStores [.Tuple [.Name x px, .Name y py] kt pt] (.Tuple [a, b] k2 pt2) X.env = pure (some [x, y]) := by rfl)
    (hs : swapsWithSole [.Tuple [.Name x px, .Name y py] kt pt] (.Tuple [a, b] k2 pt2) pos.line X.env = pure false := by rfl) :
    PMS X E (.Assign [.Tuple [.Name x px, .Name y py] kt pt] (.Tuple [a, b] k2 pt2) pos) (sPar i j as) := by
  refine PS.imp (ps_par hc hN hi hj hij hx hy ha hw hs) fun D σ H ⟨ρ, S, μ, re, rs, h⟩ => ?_
  refine stepA re rs h fun vs ps S1 H1 μ1 re1 rs1 rv g1 h1 => ?_
  cases rv with
  | nil => exact h1.elim
  | cons r t => cases t with
    | nil => exact h1.elim
    | cons r2 t2 => cases t2 with
      | nil => exact ⟨_, _, rfl, h1 H1 μ1 .refl rs1 _ ((re1.set r i).set r2 j)⟩
      | cons _ _ => exact h1.elim
theorem pms_par3 {i j l : Nat} {x y z : Str} {a b c : Expr} {px py pz pt : Pos} {kt k2 pt2} (hc : X.calm = true) (hN : X.N.Nodup) (ha : PAs X E [a, b, c] as) (hi : X.N[i]? = some x := by rfl) (hj : X.N[j]? = some y := by rfl) (hl : X.N[l]? = some z := by rfl) (hij : i ≠ j := by decide) (hil : i ≠ l := by decide) (hjl : j ≠ l := by decide)
    (hx : X.env.scope.names.lookup x = some .local := by rfl) (hy : X.env.scope.names.lookup y = some .local := by rfl) (hz : X.env.scope.names.lookup z = some .local := by rfl)
    (hw : swappedStores [.Tuple [.Name x px, .Name y py, .Name z pz] kt pt] (.Tuple [a, b, c] k2 pt2) X.env = pure (some [x, y, z]) := by rfl)
    (hs : swapsWithSole [.Tuple [.Name x px, .Name y py, .Name z pz] kt pt] (.Tuple [a, b, c] k2 pt2) pos.line X.env = pure false := by rfl) :
    PMS X E (.Assign [.Tuple [.Name x px, .Name y py, .Name z pz] kt pt] (.Tuple [a, b, c] k2 pt2) pos) (sPar3 i j l as) := by
  refine PS.imp (ps_par3 hc hN hi hj hl hij hil hjl hx hy hz ha hw hs) fun D σ H ⟨ρ, S, μ, re, rs, h⟩ => ?_
  refine stepA re rs h fun vs ps S1 H1 μ1 re1 rs1 rv g1 h1 => ?_
  cases rv with
  | nil => exact h1.elim
  | cons r t => cases t with
    | nil => exact h1.elim
    | cons r2 t2 => cases t2 with
      | nil => exact h1.elim
      | cons r3 t3 => cases t3 with
        | nil => exact ⟨_, _, _, rfl, h1 H1 μ1 .refl rs1 _ (((re1.set r i).set r2 j).set r3 l)⟩
        | cons _ _ => exact h1.elim

/-! ## what is walked -/
/-- the turns of an iterator give these things while ok holds of the store -/
structure ItOk (K : PySem.W.Frag) (H0 : Hp) (μ0 : Mu) (ok : Sto → Prop) (J : It) (ps : List PV) : Prop where
  go : ∀ i H μ S, i < ps.length → GrowW H0 μ0 H μ → RelS K H μ S → ok S → J.go i H
  yld : ∀ i H μ S x H', i < ps.length → GrowW H0 μ0 H μ → RelS K H μ S → ok S → J.yld i H x H' → ∃ p, ps[i]? = some p ∧ Grow H μ H' μ ∧ RelS K H' μ S ∧ Rp K H' μ x p
  stop : ∀ H μ S, GrowW H0 μ0 H μ → RelS K H μ S → ok S → J.stop ps.length H
structure Src where
  items : List PV
  ok : Sto → Prop
abbrev ID := Rho → M Src
def tI (K : PySem.W.Frag) (mg : Str → Option Value) (E : XK) (m : ID) : TI := fun σ H R => ∃ ρ S μ, RelE K H μ σ ρ ∧ RelS K H μ S ∧ Post K mg E H μ (m ρ S) (fun s _ H' μ' => ∀ J, ItOk K H' μ' s.ok J s.items → R J H')
abbrev PMI (X : Cx) (E : XK) (tg e : Expr) (m : ID) : Prop := PI X tg e (tI X.K X.mg E m)
theorem stepI {β : Type} {im : ID} {ρ : Rho} {σ : L2.St} {H : Hp} {μ : Mu} {S : Sto} {f : Src → M β} {k : β → Sto → Hp → Mu → Prop} {R : It → Hp → Prop} (re : RelE X.K H μ σ ρ) (rs : RelS X.K H μ S) (h : Post X.K X.mg E H μ (bnd (im ρ) f S) k)
    (hq : ∀ s S1 H1 μ1 J, RelE X.K H1 μ1 σ ρ → RelS X.K H1 μ1 S1 → ItOk X.K H1 μ1 s.ok J s.items → Grow H μ H1 μ1 → Post X.K X.mg E H1 μ1 (f s S1) k → R J H1) : tI X.K X.mg E im σ H R :=
  ⟨ρ, S, μ, re, rs, h.bnd.mono fun s S1 H1 μ1 g r q J j => hq s S1 H1 μ1 J (re.grow g) r j g q⟩
/-- a list or tuple that is walked -/
def seqSrc (p : PV) : M Src := fun S => match p with
  | .tup ps => .ok ⟨ps, fun _ => True⟩ S
  | .lst ps => .ok ⟨ps, fun _ => True⟩ S
  | .frz ps => .ok ⟨ps, fun _ => True⟩ S
  | .loc n => match S[n]? with
    | some (.lst ps) => .ok ⟨ps, fun S' => S'[n]? = some (.lst ps)⟩ S
    | _ => .stuck
  | _ => .stuck
def iSeq (m : ED) : ID := fun ρ => bnd (m ρ) seqSrc
theorem itok_list {H : Hp} {μ : Mu} {a : Addr} {vs : List V} {ps : List PV} {ok : Sto → Prop} (hq : ∀ H' μ' S', GrowW H μ H' μ' → RelS X.K H' μ' S' → ok S' → ∃ vs', SqL X.K H' a vs' ∧ RpL X.K H' μ' vs' ps) : ItOk X.K H μ ok (Itl X.K a) ps where
  go := fun i H' μ' S' hi g rs o => by
    obtain ⟨vs', h1, r⟩ := hq H' μ' S' g rs o
    obtain ⟨v, e, _⟩ := r.get (List.getElem?_eq_getElem hi)
    exact ⟨vs', v, h1, e⟩
  yld := fun i H' μ' S' x H2 hi g rs o ⟨e, y⟩ => by
    subst e
    obtain ⟨vs', h1, r⟩ := hq H2 μ' S' g rs o
    obtain ⟨v, e, rv⟩ := r.get (List.getElem?_eq_getElem hi)
    have := y _ h1
    rw [e] at this
    cases this
    exact ⟨_, List.getElem?_eq_getElem hi, .refl, rs, rv⟩
  stop := fun H' μ' S' g rs o => by
    obtain ⟨vs', h1, r⟩ := hq H' μ' S' g rs o
    exact ⟨vs', h1, by rw [r.length]; exact Nat.le_refl _⟩
theorem itok_tup {H : Hp} {μ : Mu} {a : Addr} {vs : List V} {ps : List PV} {ok : Sto → Prop} (hq : SqT X.K H a vs) (r : RpL X.K H μ vs ps) : ItOk X.K H μ ok (Itt X.K a) ps where
  go := fun i H' μ' S' hi g rs o => by
    obtain ⟨v, e, _⟩ := r.get (List.getElem?_eq_getElem hi)
    exact ⟨vs, v, g.sqT hq, e⟩
  yld := fun i H' μ' S' x H2 hi g rs o ⟨e, y⟩ => by
    subst e
    obtain ⟨v, e, rv⟩ := r.get (List.getElem?_eq_getElem hi)
    have := y _ (g.sqT hq)
    rw [e] at this
    cases this
    exact ⟨_, List.getElem?_eq_getElem hi, .refl, rs, rv.growW g⟩
  stop := fun H' μ' S' g rs o => ⟨vs, g.sqT hq, by rw [r.length]; exact Nat.le_refl _⟩
theorem pmi_seq {tg : Expr} (he : PM X E e m) : PMI X E tg e (iSeq m) := by
  refine ⟨fun pins s σ H R I ⟨ρ, S, μ, re, rs, h⟩ => ?_⟩
  unfold iSeq bnd at h
  cases q : m ρ S with
  | stuck => rw [q] at h; exact h.elim
  | exn c x S1 =>
    rw [q] at h
    exact (pi_tup he).run pins s σ H R I ⟨ρ, S, μ, re, rs, by rw [q]; exact h⟩
  | ok p S1 =>
    rw [q] at h
    simp only at h
    cases p with
    | tup ps =>
      refine (pi_tup he).run pins s σ H R I ⟨ρ, S, μ, re, rs, ?_⟩
      rw [q]
      intro H1 μ1 g r v rv
      cases rv with
      | @tup a vs _ hq rl => exact ⟨a, rfl, ⟨vs, hq⟩, h H1 μ1 g r _ (itok_tup hq rl)⟩
    | lst ps =>
      refine (pi_list he).run pins s σ H R I ⟨ρ, S, μ, re, rs, ?_⟩
      rw [q]
      intro H1 μ1 g r v rv
      cases rv with
      | @lst a vs _ n hq rl => exact ⟨a, rfl, ⟨vs, SqL.of hq⟩, h H1 μ1 g r _ (itok_list (vs := vs) fun H' μ' S' g _ _ => ⟨vs, SqL.of (g.keep _ _ hq (.inl n)), rl.growW g⟩)⟩
    | frz ps =>
      refine (pi_list he).run pins s σ H R I ⟨ρ, S, μ, re, rs, ?_⟩
      rw [q]
      intro H1 μ1 g r v rv
      cases rv with
      | @frz a vs _ hq rl => exact ⟨a, rfl, ⟨vs, hq.sqL⟩, h H1 μ1 g r _ (itok_list (vs := vs) fun H' μ' S' g _ _ => ⟨vs, (g.frz hq).sqL, rl.growW g⟩)⟩
    | loc n =>
      simp only [seqSrc] at h
      cases e2 : S1[n]? with
      | none => rw [e2] at h; exact h.elim
      | some en =>
        cases en with
        | lst ps =>
          rw [e2] at h
          refine (pi_list he).run pins s σ H R I ⟨ρ, S, μ, re, rs, ?_⟩
          rw [q]
          intro H1 μ1 g r v rv
          cases rv with
          | @loc a _ hn =>
            obtain ⟨vs, hv, rl⟩ := r.at_ n _ a e2 hn
            refine ⟨a, rfl, ⟨vs, SqL.of hv⟩, h H1 μ1 g r _ (itok_list (vs := vs) fun H' μ' S' g rs' o => ?_)⟩
            obtain ⟨ws, hw, rw'⟩ := rs'.at_ n _ a o (g.pre hn)
            exact ⟨ws, SqL.of hw, rw'⟩
    | non => exact h.elim
    | bl _ => exact h.elim
    | int _ => exact h.elim
    | str _ => exact h.elim
    | dct => exact h.elim
/-! ### ranges -/
def rngL (lo : Int) (n : Nat) : List PV := (List.range n).map fun i => .int (lo + (i : Nat))
theorem itok_rng {H : Hp} {μ : Mu} {ok : Sto → Prop} {lo : Int} {n : Nat} : ItOk X.K H μ ok (Itr lo n) (rngL lo n) where
  go := fun i H' μ' S' hi g rs o => by
    show i < n
    simpa [rngL] using hi
  yld := fun i H' μ' S' x H2 hi g rs o ⟨e, y⟩ => by
    subst e y
    have hi' : i < n := by simpa [rngL] using hi
    exact ⟨.int (lo + (i : Nat)), by simp [rngL, hi'], .refl, rs, .int _⟩
  stop := fun H' μ' S' g rs o => by simp [rngL, Itr]
def rng1 (ps : List PV) : M Src := fun S => match ps with
  | [.int j] => if -(2 ^ 62) ≤ j ∧ j < 2 ^ 62 then .ok ⟨rngL 0 j.toNat, fun _ => True⟩ S else .stuck
  | _ => .stuck
def rng2 (ps : List PV) : M Src := fun S => match ps with
  | [.int i, .int j] => if -(2 ^ 62) ≤ i ∧ i < 2 ^ 62 ∧ -(2 ^ 62) ≤ j ∧ j < 2 ^ 62 then .ok ⟨rngL i (j - i).toNat, fun _ => True⟩ S else .stuck
  | _ => .stuck
def iAp (f : List PV → M Src) (as : AD) : ID := fun ρ => bnd (as ρ) f
theorem pmi_rng1 {tg a : Expr} {p : Pos} (hm : X.mg "range" = none) (ha : PAs X E [a] as) (hg : Gl X "range" := by rfl) (hs : starEach [a] X.env = [(false, eval a X.env)] := by rfl) : PMI X E tg (.Call (.Name "range" p) [a] [] pos) (iAp rng1 as) := by
  refine PI.imp (pi_range1 hg hm ha hs) fun σ H R ⟨ρ, S, μ, re, rs, h⟩ => ?_
  refine stepA re rs h fun vs ps S1 H1 μ1 re1 rs1 rv g1 h1 => ?_
  cases rv with
  | nil => exact h1.elim
  | cons r t =>
    cases t with
    | nil =>
      cases r with
      | int j =>
        obtain ⟨⟨b1, b2⟩, h1⟩ := iff_post h1
        exact ⟨j, rfl, b1, b2, h1 H1 μ1 .refl rs1 _ itok_rng⟩
      | _ => exact h1.elim
    | cons _ _ => cases r <;> exact h1.elim
theorem pmi_rng2 {tg a b : Expr} {p : Pos} (hm : X.mg "range" = none) (ha : PAs X E [a, b] as) (hg : Gl X "range" := by rfl) (hs : starEach [a, b] X.env = [(false, eval a X.env), (false, eval b X.env)] := by rfl) (hs2 : starEach [b] X.env = [(false, eval b X.env)] := by rfl) : PMI X E tg (.Call (.Name "range" p) [a, b] [] pos) (iAp rng2 as) := by
  refine PI.imp (pi_range2 hg hm ha hs hs2) fun σ H R ⟨ρ, S, μ, re, rs, h⟩ => ?_
  refine stepA re rs h fun vs ps S1 H1 μ1 re1 rs1 rv g1 h1 => ?_
  cases rv with
  | nil => exact h1.elim
  | cons r t =>
    cases t with
    | nil => cases r <;> exact h1.elim
    | cons r2 t2 =>
      cases t2 with
      | nil =>
        cases r with
        | int i =>
          cases r2 with
          | int j =>
            obtain ⟨bb, h1⟩ := iff_post h1
            exact ⟨i, j, rfl, bb, h1 H1 μ1 .refl rs1 _ itok_rng⟩
          | _ => exact h1.elim
        | _ => cases r2 <;> exact h1.elim
      | cons _ _ => cases r <;> cases r2 <;> exact h1.elim

/-! ## for -/
open Classical in
noncomputable def forM (ok : Sto → Prop) (g : GD) (d : SD) : List PV → Rho → M Fl
  | [], ρ => fun S => if ok S then .ok (.nx ρ) S else .stuck
  | p :: ps, ρ => fun S => if ok S then (bnd (g p ρ) fun ρ1 => bnd (d ρ1) fun r => match r with
    | .nx ρ2 => forM ok g d ps ρ2
    | .ct ρ2 => forM ok g d ps ρ2
    | .bk ρ2 => ret (.nx ρ2)
    | .rt v => ret (.rt v)) S else .stuck
noncomputable def sFor (im : ID) (g : GD) (d : SD) : SD := fun ρ => bnd (im ρ) fun s => forM s.ok g d s.items ρ
open Classical in
theorem pms_for {tg iter : Expr} {im : ID} {g : GD} {body : List Stmt} (hp : PassesOwn (model X.prog X.w) X.A X.env X.xe) (hc : X.calm = true) (hi : PMI X E tg iter im) (hg : PMG X E tg g) (hb : PMB X E body d)
    (hs : ∀ x, foldedSetIterable iter X.env x = pure x := by intro _; rfl) : PMS X E (.For tg iter body [] pos) (sFor im g d) := by
  refine PS.imp (ps_for hp hc hi hg hb hs) fun D σ H ⟨ρ, S, μ, re, rs, h⟩ => ?_
  refine stepI re rs h fun s S1 H1 μ1 J re1 rs1 j g1 h1 => ?_
  refine ⟨fun i m σ' H' => m = s.items.length - i ∧ i ≤ s.items.length ∧ ∃ ρ' S' μ', Grow H1 μ1 H' μ' ∧ RelE X.K H' μ' σ' ρ' ∧ RelS X.K H' μ' S' ∧ Post X.K X.mg E H' μ' (forM s.ok g d (s.items.drop i) ρ' S') (kS X.K D), ⟨s.items.length, by simp, Nat.zero_le _, ρ, S1, μ1, .refl, re1, rs1, h1⟩, ?_⟩
  rintro i m σ' H' ⟨rfl, hi, ρ', S', μ', gr, re', rs', h'⟩
  by_cases hlt : i < s.items.length
  · rw [List.drop_eq_getElem_cons hlt] at h'
    simp only [forM] at h'
    obtain ⟨o, h'⟩ := iff_post h'
    refine .inr ⟨j.go i H' μ' S' hlt gr.w rs' o, fun σ2 H2 => ∃ ρ2 S2 μ2, Grow H1 μ1 H2 μ2 ∧ RelE X.K H2 μ2 σ2 ρ2 ∧ RelS X.K H2 μ2 S2 ∧ Post X.K X.mg E H2 μ2 (forM s.ok g d (s.items.drop (i + 1)) ρ2 S2) (kS X.K D), fun σ2 H2 ⟨ρ2, S2, μ2, q⟩ => ⟨s.items.length - (i + 1), by omega, rfl, hlt, ρ2, S2, μ2, q⟩, fun x H2 y => ?_⟩
    obtain ⟨p, ep, g2, rs2, rx⟩ := j.yld i H' μ' S' x H2 hlt gr.w rs' o y
    have ep' : p = s.items[i] := by rw [List.getElem?_eq_getElem hlt] at ep; exact (Option.some.inj ep).symm
    subst ep'
    refine ⟨ρ', S', μ', _, re'.grow g2, rs2, rx, (h'.grow g2).bnd.mono fun ρ1 S3 H3 μ3 g3 rs3 q3 σ3 re3 => ?_⟩
    refine ⟨ρ1, S3, μ3, re3, rs3, q3.bnd.mono fun r S4 H4 μ4 g4 rs4 q4 => ?_⟩
    have gAll : Grow H1 μ1 H4 μ4 := ((gr.trans g2).trans g3).trans g4
    cases r with
    | nx ρ4 => exact fun σ4 re4 => ⟨ρ4, S4, μ4, gAll, re4, rs4, q4⟩
    | ct ρ4 => exact fun σ4 re4 => ⟨ρ4, S4, μ4, gAll, re4, rs4, q4⟩
    | bk ρ4 => exact fun σ4 re4 => q4 H4 μ4 .refl rs4 σ4 re4
    | rt v => exact fun u ru => q4 H4 μ4 .refl rs4 u ru
  · have e : i = s.items.length := by omega
    subst e
    rw [List.drop_length] at h'
    simp only [forM] at h'
    obtain ⟨o, h'⟩ := iff_post h'
    exact .inl ⟨j.stop H' μ' S' gr.w rs' o, h' H' μ' .refl rs' σ' re'⟩

/-! ## while -/
def whileF (c : BD) (d : SD) : Nat → Rho → M Fl
  | 0, _ => stk
  | n + 1, ρ => bnd (c ρ) fun b => if b = true then (bnd (d ρ) fun r => match r with
    | .nx ρ2 => whileF c d n ρ2
    | .ct ρ2 => whileF c d n ρ2
    | .bk ρ2 => ret (.nx ρ2)
    | .rt v => ret (.rt v)) else ret (.nx ρ)
open Classical in
/-- the outcome of the loop, with as many turns as it needs -/
noncomputable def sWhile (c : BD) (d : SD) : SD := fun ρ S => if h : ∃ n, whileF c d n ρ S ≠ .stuck then whileF c d (Classical.choose h) ρ S else .stuck
theorem whileF_more {c : BD} {d : SD} : ∀ (n : Nat) (ρ : Rho) (S : Sto), whileF c d n ρ S ≠ .stuck → whileF c d (n + 1) ρ S = whileF c d n ρ S
  | 0, ρ, S, h => absurd rfl h
  | n + 1, ρ, S, h => by
    rw [whileF] at h
    rw [whileF, whileF]
    unfold bnd at h ⊢
    cases q : c ρ S with
    | stuck => rfl
    | exn _ _ _ => rfl
    | ok b S1 =>
      simp only [q] at h ⊢
      by_cases hb : b = true
      · simp only [hb, if_true] at h ⊢
        cases q2 : d ρ S1 with
        | stuck => rfl
        | exn _ _ _ => rfl
        | ok r S2 =>
          simp only [q2] at h ⊢
          cases r with
          | nx ρ2 => exact whileF_more n ρ2 S2 h
          | ct ρ2 => exact whileF_more n ρ2 S2 h
          | bk ρ2 => rfl
          | rt v => rfl
      · simp only [hb] at h ⊢
        rfl
theorem whileF_le {c : BD} {d : SD} {n m : Nat} {ρ : Rho} {S : Sto} (h : whileF c d n ρ S ≠ .stuck) (hm : n ≤ m) : whileF c d m ρ S = whileF c d n ρ S := by
  induction hm with
  | refl => rfl
  | step _ ih =>
    rw [← ih] at h
    rw [whileF_more _ _ _ h]
    exact ih
theorem sWhile_eq {c : BD} {d : SD} {n : Nat} {ρ : Rho} {S : Sto} (h : whileF c d n ρ S ≠ .stuck) : sWhile c d ρ S = whileF c d n ρ S := by
  have hx : ∃ n, whileF c d n ρ S ≠ .stuck := ⟨n, h⟩
  unfold sWhile
  rw [dif_pos hx]
  have h2 := Classical.choose_spec hx
  rcases Nat.le_total n (Classical.choose hx) with z | z
  · exact whileF_le h z
  · exact (whileF_le h2 z).symm
theorem pms_while {body : List Stmt} {b : BD} (hp : PassesOwn (model X.prog X.w) X.A X.env X.xe) (hc : PB X E c b) (hb : PMB X E body d) : PMS X E (.While c body [] pos) (sWhile b d) := by
  refine PS.imp (ps_while hp hc hb) fun D σ H ⟨ρ, S, μ, re, rs, h⟩ => ?_
  by_cases hx : ∃ n, whileF b d n ρ S ≠ .stuck
  · obtain ⟨n0, h0⟩ := hx
    rw [sWhile_eq h0] at h
    refine ⟨fun n σ' H' => ∃ ρ' S' μ', RelE X.K H' μ' σ' ρ' ∧ RelS X.K H' μ' S' ∧ Post X.K X.mg E H' μ' (whileF b d n ρ' S') (kS X.K D), ⟨n0, ρ, S, μ, re, rs, h⟩, ?_⟩
    rintro n σ' H' ⟨ρ', S', μ', re', rs', h'⟩
    cases n with
    | zero => exact h'.elim
    | succ n =>
      rw [whileF] at h'
      refine stepT re' rs' h' fun k S1 H1 μ1 re1 rs1 g1 h1 => ?_
      by_cases hk : k = true
      · rw [if_pos hk] at h1 ⊢
        refine ⟨fun σ2 H2 => ∃ ρ2 S2 μ2, RelE X.K H2 μ2 σ2 ρ2 ∧ RelS X.K H2 μ2 S2 ∧ Post X.K X.mg E H2 μ2 (whileF b d n ρ2 S2) (kS X.K D), fun σ2 H2 q => ⟨n, Nat.lt_succ_self n, q⟩, ?_⟩
        refine ⟨ρ', S1, μ1, re1, rs1, h1.bnd.mono fun r S4 H4 μ4 g4 rs4 q4 => ?_⟩
        cases r with
        | nx ρ4 => exact fun σ4 re4 => ⟨ρ4, S4, μ4, re4, rs4, q4⟩
        | ct ρ4 => exact fun σ4 re4 => ⟨ρ4, S4, μ4, re4, rs4, q4⟩
        | bk ρ4 => exact fun σ4 re4 => q4 H4 μ4 .refl rs4 σ4 re4
        | rt v => exact fun u ru => q4 H4 μ4 .refl rs4 u ru
      · rw [if_neg hk] at h1 ⊢
        exact h1 H1 μ1 .refl rs1 σ' re1
  · unfold sWhile at h
    rw [dif_neg hx] at h
    exact h.elim
end
end Pm

namespace Pm
open PySem PySem.Spec L2

/-! ## comprehensions -/
def wipeR (ρ : Rho) : List Nat → Rho
  | [] => ρ
  | v :: vs => (wipeR ρ vs).set v none
theorem wipe_len (σ : L2.St) : ∀ vs, (wipe σ vs).length = σ.length
  | [] => rfl
  | v :: vs => by rw [wipe, List.length_set, wipe_len σ vs]
theorem wipe_get (σ : L2.St) (j : Nat) : ∀ vs, (wipe σ vs)[j]? = if j ∈ vs ∧ j < σ.length then some none else σ[j]?
  | [] => by simp [wipe]
  | v :: vs => by
    have ih := wipe_get σ j vs
    rw [wipe, List.getElem?_set]
    by_cases hv : v = j
    · subst hv
      rw [if_pos rfl, wipe_len]
      by_cases hl : v < σ.length
      · rw [if_pos hl, if_pos ⟨List.mem_cons_self, hl⟩]
      · rw [if_neg hl, if_neg fun z => hl z.2, List.getElem?_eq_none (by omega)]
    · rw [if_neg hv, ih]
      by_cases hm : j ∈ vs ∧ j < σ.length
      · rw [if_pos hm, if_pos ⟨List.mem_cons_of_mem _ hm.1, hm.2⟩]
      · rw [if_neg hm, if_neg fun z => hm ⟨(List.mem_cons.mp z.1).resolve_left fun e => hv e.symm, z.2⟩]
theorem wipe_ext {σ σ' : L2.St} {vs : List Nat} (hl : σ.length = σ'.length) (h : ∀ j, j ∉ vs → σ[j]? = σ'[j]?) : wipe σ vs = wipe σ' vs := by
  apply List.ext_getElem?
  intro j
  rw [wipe_get, wipe_get, hl]
  split
  · rfl
  · rename_i z
    by_cases hj : j ∈ vs
    · have : ¬ j < σ'.length := fun q => z ⟨hj, q⟩
      rw [List.getElem?_eq_none (by omega), List.getElem?_eq_none (by omega)]
    · exact h j hj
theorem wipe_set {σ : L2.St} {vs : List Nat} {i : Nat} {x : Option V} (hi : i ∈ vs) : wipe (σ.set i x) vs = wipe σ vs :=
  wipe_ext (by simp) fun j hj => by rw [List.getElem?_set_ne]; intro e; subst e; exact hj hi
theorem wipe_wipe {σ : L2.St} {vs : List Nat} : wipe (wipe σ vs) vs = wipe σ vs :=
  wipe_ext (by rw [wipe_len]) fun j hj => by rw [wipe_get, if_neg fun z => hj z.1]
section
variable {K : PySem.W.Frag} {mg : Str → Option Value} {E : XK} {H H' : Hp} {μ μ' : Mu} {S : Sto} {σ : L2.St} {ρ : Rho}
theorem RelE.wipe (h : RelE K H μ σ ρ) : ∀ vs, RelE K H μ (wipe σ vs) (wipeR ρ vs)
  | [] => h
  | v :: vs => (RelE.wipe h vs).unset v
end
/-- no error comes out -/
def noX {α : Type} (m : M α) : M α := fun S => match m S with
  | .ok a S1 => .ok a S1
  | _ => .stuck
noncomputable section
open Classical
def lcM (ok : Sto → Prop) (g : GD) (t : BD) (m : ED) (ρ : Rho) : List PV → M (List PV)
  | [] => fun S => if ok S then .ok [] S else .stuck
  | p :: ps => fun S => if ok S then (bnd (g p ρ) fun ρ1 => bnd (t ρ1) fun b => if b = true then bnd (m ρ1) fun q => bnd (lcM ok g t m ρ ps) fun qs => ret (q :: qs) else lcM ok g t m ρ ps) S else .stuck
def dLC (im : ID) (g : GD) (t : BD) (m : ED) (vs : List Nat) : ED := fun ρ => bnd (im ρ) fun s => if s.items.length ≤ LIM then bnd (noX (lcM s.ok g t m (wipeR ρ vs) s.items)) fun qs => ret (.lst qs) else stk
end
def bYes : BD := fun _ S => .ok true S
section
variable {X : Cx} {E : XK} {e c : Expr} {es : List Expr} {m n : ED} {as : AD} {pos : Pos}
/-- a target whose slots are all in vs -/
def tGF (K : PySem.W.Frag) (mg : Str → Option Value) (E : XK) (vs : List Nat) (g : GD) : TG := fun v σ H Q => ∃ ρ S μ p, RelE K H μ σ ρ ∧ RelS K H μ S ∧ Rp K H μ v p ∧ Post K mg E H μ (g p ρ S) (fun ρ' _ H' μ' => ∀ σ', RelE K H' μ' σ' ρ' → wipe σ' vs = wipe σ vs → Q σ' H')
def tGsF (K : PySem.W.Frag) (mg : Str → Option Value) (E : XK) (vs : List Nat) (g : GDs) : TGs := fun us σ H Q => ∃ ρ S μ ps, RelE K H μ σ ρ ∧ RelS K H μ S ∧ RpL K H μ us ps ∧ Post K mg E H μ (g ps ρ S) (fun ρ' _ H' μ' => ∀ σ', RelE K H' μ' σ' ρ' → wipe σ' vs = wipe σ vs → Q σ' H')
abbrev PMF (X : Cx) (E : XK) (vs : List Nat) (e : Expr) (g : GD) : Prop := PG X e (tGF X.K X.mg E vs g)
abbrev PMFs (X : Cx) (E : XK) (vs : List Nat) (es : List Expr) (g : GDs) : Prop := PGs X es (tGsF X.K X.mg E vs g)
theorem pmf_name (i : Nat) {vs : List Nat} {x : Str} (hN : X.N.Nodup) (hi : X.N[i]? = some x := by rfl) (hx : Loc X.env.scope x := by first | exact Or.inl rfl | exact Or.inr rfl) (hm : i ∈ vs := by decide) (hf : X.fn x = true ∨ X.env.scope.names.lookup x = some .local := by first | exact .inl rfl | exact .inr rfl | assumption) : PMF X E vs (.Name x pos) (gName i) := by
  refine PG.imp (pg_name hN hi hx hf) fun v σ H Q ⟨ρ, S, μ, p, re, rs, rv, h⟩ => ?_
  exact h H μ .refl rs _ (re.set rv i) (wipe_set hm)
theorem pmfs_nil {vs : List Nat} : PMFs X E vs [] gsNil := by
  refine PGs.imp pgs_nil fun us σ H Q ⟨ρ, S, μ, ps, re, rs, rv, h⟩ => ?_
  cases rv with
  | nil => exact ⟨rfl, h H μ .refl rs σ re rfl⟩
  | cons _ _ => exact h.elim
theorem pmfs_cons {vs : List Nat} {g : GD} {gs : GDs} (h1 : PMF X E vs e g) (h2 : PMFs X E vs es gs) (hs : (assignEach (e :: es) X.env).map (·.2) = assign e X.env :: (assignEach es X.env).map (·.2) := by rfl) : PMFs X E vs (e :: es) (gsCons g gs) := by
  refine PGs.imp (pgs_cons h1 h2 hs) fun us σ H Q ⟨ρ, S, μ, ps, re, rs, rv, h⟩ => ?_
  cases rv with
  | nil => exact h.elim
  | @cons v vs p ps r t =>
    refine ⟨v, vs, rfl, ρ, S, μ, p, re, rs, r, h.bnd.mono fun ρ' S1 H1 μ1 g1 r1 q σ' re' w1 => ?_⟩
    exact ⟨ρ', S1, μ1, ps, re', r1, t.grow g1, q.mono fun ρ2 S2 H2 μ2 _ _ q2 σ2 re2 w2 => q2 σ2 re2 (w2.trans w1)⟩
theorem pmf_tup {k : Nat} {vs : List Nat} {gs : GDs} {n : Nat} (hc : X.calm = true) (h : PMFs X E vs es gs) (hn : (assignEach es X.env).length = n := by rfl) (hst : (assignEach es X.env).findIdx? (·.1) = none := by rfl) : PMF X E vs (.Tuple es k pos) (gTup n gs) := by
  refine PG.imp (pg_tupE hc h hn hst) fun v σ H Q ⟨ρ, S, μ, p, re, rs, rv, h⟩ => ?_
  cases rv with
  | @tup a vs ps hq r =>
    unfold gTup at h
    simp only at h
    by_cases hl : ps.length = n
    · rw [if_pos hl] at h
      exact ⟨a, vs, rfl, .inl hq, r.length.trans hl, ρ, S, μ, ps, re, rs, r, h⟩
    · rw [if_neg hl] at h; exact h.elim
  | @lst a vs ps hn2 hq r =>
    unfold gTup at h
    simp only at h
    by_cases hl : ps.length = n
    · rw [if_pos hl] at h
      exact ⟨a, vs, rfl, .inr (SqL.of hq), r.length.trans hl, ρ, S, μ, ps, re, rs, r, h⟩
    · rw [if_neg hl] at h; exact h.elim
  | _ => exact h.elim
abbrev PBs (X : Cx) (E : XK) (es : List Expr) (m : BD) : Prop := PTs X es (tT X.K X.mg E m)
theorem PTs.imp {es : List Expr} {t t' : TT} (h : PTs X es t) (q : ∀ σ H Q, t' σ H Q → t σ H Q) : PTs X es t' := ⟨fun pins s σ H Q I w => h.run pins s σ H Q I (q σ H Q w)⟩
theorem pbs_nil : PBs X E [] bYes := PTs.imp pts_nil fun σ H Q ⟨ρ, S, μ, re, rs, h⟩ => h H μ .refl rs
theorem pbs_one {b : BD} (h : PB X E c b) : PBs X E [c] b := pts_one h

theorem bnd_inv {α β : Type} {m : M α} {f : α → M β} {S S2 : Sto} {b : β} (h : bnd m f S = .ok b S2) : ∃ a S1, m S = .ok a S1 ∧ f a S1 = .ok b S2 := by
  unfold bnd at h
  cases q : m S with
  | ok a S1 => rw [q] at h; exact ⟨a, S1, rfl, h⟩
  | exn c x S1 => rw [q] at h; cases h
  | stuck => rw [q] at h; cases h
theorem if_ok {α : Type} {c : Prop} [Decidable c] {o : Out α} {a : α} {S : Sto} (h : (if c then o else .stuck) = .ok a S) : c ∧ o = .ok a S := by
  by_cases hc : c
  · rw [if_pos hc] at h; exact ⟨hc, h⟩
  · rw [if_neg hc] at h; cases h
theorem drop_nil_of {α : Type} {l : List α} {i : Nat} (h : ¬ i < l.length) : l.drop i = [] := List.drop_eq_nil_of_le (by omega)
open Classical in
theorem lc_of {im : ID} {g : GD} {t : BD} {vs : List Nat} {σ : L2.St} {H : Hp} {Q : VK} (h : tE X.K X.mg E (dLC im g t m vs) σ H Q) :
    tLc (tI X.K X.mg E im) (tGF X.K X.mg E0 vs g) (tT X.K X.mg E0 t) (tE X.K X.mg E0 m) vs σ H Q := by
  obtain ⟨ρ, S, μ, re, rs, h⟩ := h
  refine stepI re rs h fun s S1 H1 μ1 J re1 rs1 j g1 h1 => ?_
  intro D hD
  by_cases hl : s.items.length ≤ LIM
  case neg => rw [if_neg hl] at h1; exact h1.elim
  case pos =>
    rw [if_pos hl] at h1
    cases qo : lcM s.ok g t m (wipeR ρ vs) s.items S1 with
    | stuck => unfold Pm.bnd noX at h1; rw [qo] at h1; exact h1.elim
    | exn c x S2 => unfold Pm.bnd noX at h1; rw [qo] at h1; exact h1.elim
    | ok rsAll Sf =>
      unfold Pm.bnd noX at h1
      rw [qo] at h1
      have h1' : Post X.K X.mg E H1 μ1 (.ok (.lst rsAll) Sf) (kE X.K Q) := h1
      have ge : GrowW H1 μ1 (upd H1 D (.lst [])) (μ1.hide D) := grow_enter hD
      have rew : RelE X.K (upd H1 D (.lst [])) (μ1.hide D) (L2.wipe σ vs) (wipeR ρ vs) := (re1.wipe vs).growW ge
      have hidD : ∀ a ∈ μ1.hid, a ≠ D := fun a ha z => by
        subst z
        obtain ⟨_, ws, q⟩ := rs1.hids a ha
        rw [hD] at q; cases q
      refine ⟨fun i k H' => k = s.items.length - i ∧ i ≤ s.items.length ∧ ∃ S' μ' acc qs rs, GrowW (upd H1 D (.lst [])) (μ1.hide D) H' μ' ∧ (∀ a ∈ μ1.hid, H' a = H1 a) ∧ RelS X.K H' μ' S' ∧ H' D = some (.lst acc) ∧ RpL X.K H' μ' acc qs ∧ qs.length ≤ i ∧
        lcM s.ok g t m (wipeR ρ vs) (s.items.drop i) S' = .ok rs Sf ∧ qs ++ rs = rsAll,
        ⟨s.items.length, by simp, Nat.zero_le _, S1, μ1.hide D, [], [], rsAll, .refl, fun a ha => upd_ne (hidD a ha), rs1.hide hD, upd_same, .nil, Nat.le_refl _, by rw [List.drop_zero]; exact qo, rfl⟩, ?_⟩
      rintro i k H' ⟨rfl, hi, S', μ', acc, qs, rs, gr, stay, rs', hacc, racc, hq, eo, eall⟩
      have gall := ge.trans gr
      have hidsub : ∀ a, a = D ∨ a ∈ μ1.hid → a ∈ μ'.hid := fun a ha => by
        obtain ⟨hs, e, _⟩ := gr.hid
        rw [e]
        exact List.mem_append_right _ (List.mem_cons.mpr ha)
      have hm : D ∈ μ'.hid := hidsub D (.inl rfl)
      by_cases hlt : i < s.items.length
      · rw [List.drop_eq_getElem_cons hlt] at eo
        simp only [lcM] at eo
        obtain ⟨o, eo⟩ := if_ok eo
        obtain ⟨ρ1, Sa, ea, eo⟩ := bnd_inv eo
        obtain ⟨b, Sb, eb, eo⟩ := bnd_inv eo
        refine .inr ⟨j.go i H' μ' S' hlt gall rs' o, fun H2 => ∃ S2 μ2 acc2 qs2 rs2, GrowW (upd H1 D (.lst [])) (μ1.hide D) H2 μ2 ∧ (∀ a ∈ μ1.hid, H2 a = H1 a) ∧ RelS X.K H2 μ2 S2 ∧ H2 D = some (.lst acc2) ∧ RpL X.K H2 μ2 acc2 qs2 ∧ qs2.length ≤ i + 1 ∧
          lcM s.ok g t m (wipeR ρ vs) (s.items.drop (i + 1)) S2 = .ok rs2 Sf ∧ qs2 ++ rs2 = rsAll, fun H2 q => ⟨s.items.length - (i + 1), by omega, rfl, hlt, q⟩, fun x H2 y => ?_⟩
        obtain ⟨p, ep, g2, rs2, rx⟩ := j.yld i H' μ' S' x H2 hlt gall rs' o y
        have ep' : p = s.items[i] := by rw [List.getElem?_eq_getElem hlt] at ep; exact (Option.some.inj ep).symm
        subst ep'
        refine ⟨wipeR ρ vs, S', μ', _, (rew.growW gr).grow g2, rs2, rx, ?_⟩
        rw [ea]
        intro H3 μ3 g3 rs3 σ3 re3 w3
        refine ⟨w3.trans wipe_wipe, ρ1, Sa, μ3, re3, rs3, ?_⟩
        rw [eb]
        intro H4 μ4 g4 rs4
        have g24 := (g2.trans g3).trans g4
        by_cases hb : b = true
        · rw [if_pos hb] at eo
          show if b = true then _ else _
          rw [if_pos hb]
          obtain ⟨q, Sc, ec, eo⟩ := bnd_inv eo
          obtain ⟨rs5, Sd, ed, eo⟩ := bnd_inv eo
          have e6 : q :: rs5 = rs ∧ Sd = Sf := by
            unfold ret at eo
            injection eo with x1 x2
            exact ⟨x1, x2⟩
          obtain ⟨e7, e8⟩ := e6
          subst e7 e8
          refine ⟨ρ1, Sb, μ4, re3.grow g4, rs4, ?_⟩
          rw [ec]
          intro H5 μ5 g5 rs5' u ru
          have g25 := g24.trans g5
          have hm5 : D ∈ μ5.hid := by
            obtain ⟨hs, e, _⟩ := g25.w.hid
            rw [e]
            exact List.mem_append_right _ hm
          have hacc5 : H5 D = some (.lst acc) := by rw [g25.stay D hm]; exact hacc
          have gw : GrowW H5 μ5 (upd H5 D (.lst (acc ++ [u]))) μ5 := grow_hid hm5 rs5'
          refine ⟨acc, hacc5, ?_, Sc, μ5, acc ++ [u], qs ++ [q], rs5, (gr.trans g25.w).trans gw, fun a ha => ?_, rs5'.putHid hm5, upd_same, ((racc.grow g25).append (.cons ru .nil)).growW gw, ?_, ed, by rw [List.append_assoc]; exact eall⟩
          · rw [racc.length]
            exact lim_lt (by omega)
          · rw [upd_ne (hidD a ha), g25.stay a (hidsub a (.inr ha)), stay a ha]
          · rw [List.length_append]
            have : [q].length = 1 := rfl
            omega
        · rw [if_neg hb] at eo
          show if b = true then _ else _
          rw [if_neg hb]
          refine ⟨Sb, μ4, acc, qs, rs, gr.trans g24.w, fun a ha => ?_, rs4, by rw [g24.stay D hm]; exact hacc, racc.grow g24, by omega, eo, eall⟩
          rw [g24.stay a (hidsub a (.inr ha)), stay a ha]
      · have e : i = s.items.length := by omega
        subst e
        rw [List.drop_length] at eo
        simp only [lcM] at eo
        obtain ⟨o, eo⟩ := if_ok eo
        have e6 : rs = [] ∧ S' = Sf := by
          injection eo with x1 x2
          exact ⟨x1.symm, x2⟩
        obtain ⟨e7, e8⟩ := e6
        subst e7 e8
        rw [List.append_nil] at eall
        subst eall
        have gx : Grow H1 μ1 H' ⟨μ'.ls, μ1.hid⟩ := ⟨gall.drop, stay⟩
        have hs2 : ∀ a ∈ (⟨μ'.ls, μ1.hid⟩ : Mu).hid, a ∈ μ'.hid := fun a ha => hidsub a (.inr ha)
        refine .inl ⟨j.stop H' μ' S' gall rs' o, h1' H' ⟨μ'.ls, μ1.hid⟩ gx (rs'.show_ rfl hs2) _ (.lst (fun z => ?_) hacc (RpL.show_ (μ := μ') (μ' := ⟨μ'.ls, μ1.hid⟩) rfl hs2 racc))⟩
        rcases z with z | z
        · exact (rs'.hids D hm).1 z
        · exact hidD D z rfl
theorem pm_lc {elt tg iter : Expr} {ifs : List Expr} {scope : Scope} (own : List (Str × Nat)) {im : ID} {g : GD} {t : BD} (hc : X.calm = true) (hN : X.N.Nodup) (ok : BlkOk X.N X.env.scope scope own) (hi : PMI X E tg iter im)
    (hg : ∀ (s : Shared) (H : Hp) (C : Addr) (cl : List (Str × Addr)) (fp : List Addr), PMF (X.blk s H scope (compEnvC scope cl C X.env) fp) E0 (own.map (·.2)) tg g) (ht : ∀ (s : Shared) (H : Hp) (C : Addr) (cl : List (Str × Addr)) (fp : List Addr), PBs (X.blk s H scope (compEnvC scope cl C X.env) fp) E0 ifs t)
    (he : ∀ (s : Shared) (H : Hp) (C : Addr) (cl : List (Str × Addr)) (fp : List Addr), PM (X.blk s H scope (compEnvC scope cl C X.env) fp) E0 elt m) (hs : ∀ x, foldedSetIterable iter X.env x = pure x := by intro _; rfl) :
    PM X E (.ListComp elt [⟨tg, iter, ifs, 0⟩] scope pos) (dLC im g t m (own.map (·.2))) :=
  PE.imp (pe_lc (te := tE X.K X.mg E0 m) (tt := tT X.K X.mg E0 t) (g := tGF X.K X.mg E0 (own.map (·.2)) g) hc hN hi ok hg ht he hs) fun σ H Q h => lc_of h
theorem pms_setLc (i : Nat) {y : Str} {py : Pos} {elt tg iter : Expr} {ifs : List Expr} {scope : Scope} (own : List (Str × Nat)) {spos : Pos} {im : ID} {g : GD} {t : BD} (hc : X.calm = true) (hN : X.N.Nodup) (ok : BlkOk X.N X.env.scope scope own)
    (hsw : swapsWith (.ListComp elt [⟨tg, iter, ifs, 0⟩] scope pos) (some (.Name y py)) spos.line X.env = pure true) (hi : PMI X E tg iter im)
    (hg : ∀ (s : Shared) (H : Hp) (C : Addr) (cl : List (Str × Addr)) (fp : List Addr), PMF (X.blk s H scope (compEnvC scope cl C X.env) fp) E0 (own.map (·.2)) tg g) (ht : ∀ (s : Shared) (H : Hp) (C : Addr) (cl : List (Str × Addr)) (fp : List Addr), PBs (X.blk s H scope (compEnvC scope cl C X.env) fp) E0 ifs t)
    (he : ∀ (s : Shared) (H : Hp) (C : Addr) (cl : List (Str × Addr)) (fp : List Addr), PM (X.blk s H scope (compEnvC scope cl C X.env) fp) E0 elt m) (hy : X.N[i]? = some y := by rfl) (hyl : X.env.scope.names.lookup y = some .local := by rfl) (hs : ∀ x, foldedSetIterable iter X.env x = pure x := by intro _; rfl) :
    PMS X E (.Assign [.Name y py] (.ListComp elt [⟨tg, iter, ifs, 0⟩] scope pos) spos) (sAsg (dLC im g t m (own.map (·.2))) (Pm.gName i)) := by
  refine PS.imp (ps_setLc (te := tE X.K X.mg E0 m) (tt := tT X.K X.mg E0 t) (g := tGF X.K X.mg E0 (own.map (·.2)) g) hc hN hy hyl hsw hi ok hg ht he hs) fun D σ H ⟨ρ, S, μ, re, rs, h⟩ => ?_
  have h' := h.bnd
  refine lc_of (Q := fun x H' => L2.gName i x σ H' D.nx) ⟨ρ, S, μ, re, rs, h'.mono fun p S1 H1 μ1 g r q v rv => ?_⟩
  exact q H1 μ1 .refl r _ ((re.grow g).set rv i)
end
end Pm

namespace Pm
open PySem PySem.Spec L2

/-! ## a def's promise, where no text is being shown -/
structure FnG (P : Program) (w : World) (K : PySem.W.Frag) (mg : Str → Option Value) (base : Heap) (k : Nat) (f : Addr) (fd : FuncData) (ps : List Str) (sp : Sp) : Prop where
  len : ∀ vs H Q E, sp vs H Q E → vs.length = ps.length
  run : ∀ (A : Around) (outer : List Env) (s : Shared) (H : Hp) (args : Args) (us : List Value) (vs : List V) (Q : VK) (E : XK), Room k A → A.guards = some [] → Env0 P w K mg base A outer s H → BindsTo s fd args (ps.zip us) →
    Vals vs us → sp vs H Q E → codeAny (model P w) A (.call (.ref f) args) (CR (L2.CX P w) outer P w H s Q E) s
/-- what a def does, over pure values -/
def spF (K : PySem.W.Frag) (mg : Str → Option Value) (n : Nat) (sem : List PV → M PV) : Sp := fun vs H Q E => vs.length = n ∧ ∃ ps S μ, RelS K H μ S ∧ RpL K H μ vs ps ∧ Post K mg E H μ (sem ps S) (kE K Q)
/-- the names' values at the entry -/
def rho0 (n : Nat) (ps : List PV) : Rho := ps.map some ++ List.replicate (n - ps.length) none
theorem relE_start {K : PySem.W.Frag} {H : Hp} {μ : Mu} {N : List Str} {vs : List V} {ps : List PV} (r : RpL K H μ vs ps) : RelE K H μ (L2.start N vs) (rho0 N.length ps) := by
  refine ⟨by simp [L2.start, rho0, r.length], fun i p e => ?_⟩
  unfold rho0 at e
  unfold L2.start
  by_cases hi : i < ps.length
  · rw [List.getElem?_append_left (by simpa using hi)] at e
    rw [List.getElem?_map] at e
    cases q : ps[i]? with
    | none => rw [q] at e; cases e
    | some p' =>
      rw [q] at e
      have e' : p' = p := by simpa using e
      subst e'
      obtain ⟨v, e1, rv⟩ := r.get q
      exact ⟨v, by rw [List.getElem?_append_left (by simpa [r.length] using hi), List.getElem?_map, e1]; rfl, rv⟩
  · rw [List.getElem?_append_right (by simpa using hi)] at e
    rw [List.getElem?_replicate] at e
    split at e <;> cases e
/-! what is in no place from n on -/
mutual
def PV.inn (n : Nat) : PV → Bool
  | .tup xs => innL n xs
  | .lst xs => innL n xs
  | .frz xs => innL n xs
  | .loc k => decide (k < n)
  | _ => true
def innL (n : Nat) : List PV → Bool
  | [] => true
  | p :: ps => PV.inn n p && innL n ps
end
def Ent.inn (n : Nat) : Ent → Bool
  | .lst ps => innL n ps
def mapO (f : PV → Option PV) : List PV → Option (List PV)
  | [] => some []
  | p :: ps => match f p, mapO f ps with
    | some q, some qs => some (q :: qs)
    | _, _ => none
/-- a value that leaves: lists made within are lists for good -/
def fzV (S : Sto) (n : Nat) : Nat → PV → Option PV
  | 0, _ => none
  | _ + 1, .non => some .non
  | _ + 1, .bl b => some (.bl b)
  | _ + 1, .int i => some (.int i)
  | _ + 1, .str x => some (.str x)
  | _ + 1, .dct => some .dct
  | k + 1, .tup xs => (mapO (fzV S n k) xs).map .tup
  | k + 1, .lst xs => (mapO (fzV S n k) xs).map .lst
  | k + 1, .frz xs => (mapO (fzV S n k) xs).map .frz
  | k + 1, .loc m => if m < n then some (.loc m) else match S[m]? with
    | some (.lst xs) => (mapO (fzV S n k) xs).map .lst
    | none => none
/-- the end of a def: the places made within are given up -/
def fin (n : Nat) (o : Out PV) : Out PV := match o with
  | .ok p S => if S.length = n then .ok p S else match fzV S n 20 p with
    | some p' => if (S.take n).all (Ent.inn n) = true ∧ n ≤ S.length then .ok p' (S.take n) else .stuck
    | none => .stuck
  | .exn c x S => if S.length = n then .exn c x S else .stuck
  | .stuck => .stuck
def bodyR (d : SD) : ED := fun ρ => bnd (d ρ) fun r => match r with
  | .nx _ => ret .non
  | .rt p => ret p
  | _ => stk
/-- a def whose new places are given up at its end -/
def defM (a n : Nat) (d : SD) : List PV → M PV := fun ps S => if ps.length = a then fin S.length (bodyR d (rho0 n ps) S) else .stuck
/-- a def whose new places stay -/
def defK (a n : Nat) (d : SD) : List PV → M PV := fun ps S => if ps.length = a then bodyR d (rho0 n ps) S else .stuck
def Ar (a : Nat) (sem : List PV → M PV) : Prop := ∀ qs S, sem qs S = .stuck ∨ qs.length = a
theorem defM_ar {a n : Nat} {d : SD} : Ar a (defM a n d) := fun qs S => by
  by_cases h : qs.length = a
  · exact .inr h
  · exact .inl (if_neg h)
theorem defK_ar {a n : Nat} {d : SD} : Ar a (defK a n d) := fun qs S => by
  by_cases h : qs.length = a
  · exact .inr h
  · exact .inl (if_neg h)
def SemOk (K : PySem.W.Frag) (mg : Str → Option Value) (n : Nat) (sem : List PV → M PV) (d : SD) : Prop := ∀ {H : Hp} {μ : Mu} {S : Sto} {qs : List PV} {Q : VK} {E : XK}, RelS K H μ S → Post K mg E H μ (sem qs S) (kE K Q) → Post K mg E H μ (bodyR d (rho0 n qs) S) (kE K Q)
section
variable {K : PySem.W.Frag} {mg : Str → Option Value} {E : XK} {H : Hp} {μ : Mu} {S : Sto}
abbrev Mu.cut (μ : Mu) (n : Nat) : Mu := ⟨μ.ls.take n, μ.hid⟩
theorem cut_has {n : Nat} {a : Addr} (h : ¬ μ.has a) : ¬ (μ.cut n).has a := fun z => h (z.elim (fun z => .inl (List.mem_of_mem_take z)) .inr)
mutual
theorem Rp.cut {n : Nat} : ∀ {v : V} {p : PV}, Rp K H μ v p → p.inn n = true → Rp K H (μ.cut n) v p
  | _, _, .non, _ => .non
  | _, _, .bl b, _ => .bl b
  | _, _, .int i, _ => .int i
  | _, _, .str x, _ => .str x
  | _, _, .dct m h, _ => .dct (cut_has m) h
  | _, _, .tup h r, e => .tup h (RpL.cut r (by simpa [PV.inn] using e))
  | _, _, .lst m h r, e => .lst (cut_has m) h (RpL.cut r (by simpa [PV.inn] using e))
  | _, _, .frz h r, e => .frz h (RpL.cut r (by simpa [PV.inn] using e))
  | _, _, .loc h, e => .loc (by
    have e' := of_decide_eq_true e
    rw [List.getElem?_take_of_lt e']
    exact h)
theorem RpL.cut {n : Nat} : ∀ {vs : List V} {ps : List PV}, RpL K H μ vs ps → innL n ps = true → RpL K H (μ.cut n) vs ps
  | _, _, .nil, _ => .nil
  | _, _, .cons h r, e => by
    simp only [innL, Bool.and_eq_true] at e
    exact .cons (Rp.cut h e.1) (RpL.cut r e.2)
end
theorem mapM_fz {n k : Nat} (ih : ∀ {v : V} {p p' : PV}, Rp K H μ v p → fzV S n k p = some p' → Rp K H (μ.cut n) v p') : ∀ {vs : List V} {ps ps' : List PV}, RpL K H μ vs ps → mapO (fzV S n k) ps = some ps' → RpL K H (μ.cut n) vs ps'
  | _, _, _, .nil, e => by simp [mapO] at e; subst e; exact .nil
  | _, _, _, .cons h r, e => by
    simp only [mapO] at e
    split at e
    · rename_i p1 ps1 q1 q2
      cases e
      exact .cons (ih h q1) (mapM_fz ih r q2)
    · cases e
theorem fz_ok (rs : RelS K H μ S) {n : Nat} : ∀ {k : Nat} {v : V} {p p' : PV}, Rp K H μ v p → fzV S n k p = some p' → Rp K H (μ.cut n) v p'
  | 0, _, _, _, _, e => by simp [fzV] at e
  | k + 1, _, _, _, .non, e => by simp [fzV] at e; subst e; exact .non
  | k + 1, _, _, _, .bl b, e => by simp [fzV] at e; subst e; exact .bl b
  | k + 1, _, _, _, .int b, e => by simp [fzV] at e; subst e; exact .int b
  | k + 1, _, _, _, .str b, e => by simp [fzV] at e; subst e; exact .str b
  | k + 1, _, _, _, .dct m h, e => by simp [fzV] at e; subst e; exact .dct (cut_has m) h
  | k + 1, _, _, _, .tup h r, e => by
    simp only [fzV, Option.map_eq_some_iff] at e
    obtain ⟨ps', e1, rfl⟩ := e
    exact .tup h (mapM_fz (fun a b => fz_ok rs a b) r e1)
  | k + 1, _, _, _, .lst m h r, e => by
    simp only [fzV, Option.map_eq_some_iff] at e
    obtain ⟨ps', e1, rfl⟩ := e
    exact .lst (cut_has m) h (mapM_fz (fun a b => fz_ok rs a b) r e1)
  | k + 1, _, _, _, .frz h r, e => by
    simp only [fzV, Option.map_eq_some_iff] at e
    obtain ⟨ps', e1, rfl⟩ := e
    exact .frz h (mapM_fz (fun a b => fz_ok rs a b) r e1)
  | k + 1, _, _, _, .loc (n := m) (a := a) h, e => by
    simp only [fzV] at e
    split at e
    · rename_i hm
      cases e
      exact .loc (by rw [List.getElem?_take_of_lt hm]; exact h)
    · rename_i hm
      split at e
      · rename_i xs q
        simp only [Option.map_eq_some_iff] at e
        obtain ⟨ps', e1, rfl⟩ := e
        obtain ⟨vs, hv, rl⟩ := rs.at_ m _ a q h
        refine .lst (fun z => ?_) hv (mapM_fz (fun a b => fz_ok rs a b) rl e1)
        rcases z with z | z
        · obtain ⟨j, hj, ej⟩ := List.getElem_of_mem z
          have hj2 : j < n := by simp at hj; omega
          have ej2 : μ.ls[j]? = some a := by
            rw [← List.getElem?_take_of_lt hj2, List.getElem?_eq_getElem hj, ej]
          obtain ⟨h1, q1⟩ := List.getElem?_eq_some_iff.mp h
          obtain ⟨h2, q2⟩ := List.getElem?_eq_some_iff.mp ej2
          have := (List.getElem_inj rs.nd).mp (q1.trans q2.symm)
          omega
        · exact (rs.hids a z).1 (List.mem_of_getElem? h)
      · cases e
theorem RelS.cut (rs : RelS K H μ S) {n : Nat} (hn : n ≤ S.length) (hb : (S.take n).all (Ent.inn n) = true) : RelS K H (μ.cut n) (S.take n) := by
  refine ⟨by simp [rs.len], ?_, fun a ha => ⟨fun z => (rs.hids a ha).1 (List.mem_of_mem_take z), (rs.hids a ha).2⟩, fun i e a e1 e2 => ?_⟩
  · exact List.Nodup.sublist (List.take_sublist n μ.ls) rs.nd
  · have hi : i < n := by
      have := (List.getElem?_eq_some_iff.mp e1).1
      simp at this
      omega
    have eb := List.all_eq_true.mp hb e (List.mem_of_getElem? e1)
    rw [List.getElem?_take_of_lt hi] at e1 e2
    have := rs.at_ i e a e1 e2
    cases e with
    | lst ps =>
      obtain ⟨vs, h1, r⟩ := this
      exact ⟨vs, h1, r.cut (by simpa [Ent.inn] using eb)⟩
theorem fin_post {n : Nat} {o : Out PV} {Q : VK} (hn : μ.ls.length = n) (h : Post K mg E H μ (fin n o) (kE K Q)) : Post K mg E H μ o (kE K Q) := by
  cases o with
  | stuck => exact h
  | exn c x S1 =>
    unfold fin at h
    simp only at h
    split at h
    · exact h
    · exact h.elim
  | ok p S1 =>
    unfold fin at h
    simp only at h
    split at h
    · exact h
    · split at h
      · rename_i p' q
        split at h
        · rename_i hc
          intro H1 μ1 g r v rv
          have hcut : (μ1.cut n).ls = μ.ls := by
            obtain ⟨ν, e, _⟩ := g.w.ext
            show μ1.ls.take n = μ.ls
            rw [e, List.take_append_of_le_length (by omega), List.take_of_length_le (by omega)]
          have gc : Grow H μ H1 (μ1.cut n) := ⟨⟨⟨[], by rw [hcut]; simp, by simp⟩, g.w.hid, g.w.keep, g.w.there⟩, g.stay⟩
          exact h H1 (μ1.cut n) gc (r.cut hc.2 hc.1) v (fz_ok r rv q)
        · exact h.elim
      · exact h.elim
end
theorem defM_ok {K : PySem.W.Frag} {mg : Str → Option Value} {a n : Nat} {d : SD} : SemOk K mg n (defM a n d) d := fun {H μ S qs Q E} rs h => by
  unfold defM at h
  by_cases hl : qs.length = a
  · rw [if_pos hl] at h; exact fin_post rs.len h
  · rw [if_neg hl] at h; exact h.elim
theorem defK_ok {K : PySem.W.Frag} {mg : Str → Option Value} {a n : Nat} {d : SD} : SemOk K mg n (defK a n d) d := fun {H μ S qs Q E} rs h => by
  unfold defK at h
  by_cases hl : qs.length = a
  · rw [if_pos hl] at h; exact h
  · rw [if_neg hl] at h; exact h.elim
section
variable {P : Program} {w : World} {K : PySem.W.Frag} {mg : Str → Option Value} {base : Heap} {x : Str} {st : Stmt} {f : Addr} {fd : FuncData}
/-- a def stands under its name, as the text has it -/
abbrev FunT (K : PySem.W.Frag) (x : Str) (st : Stmt) (f : Addr) (fd : FuncData) : Prop := FunD K x x (defArgs st) (defBody st) (defScope st) [] [] f fd
/-- the context of a def's body -/
structure At (X : Cx) (P : Program) (w : World) (K : PySem.W.Frag) (mg : Str → Option Value) (base : Heap) (k : Nat) (E : XK) : Prop where
  prog : X.prog = P
  w : X.w = w
  K : X.K = K
  mg : X.mg = mg
  base : X.base = base
  room : Room k X.A
  guards : X.A.guards = some []
  pass : Passes (L2.CX X.prog X.w) X E
theorem body_post {d : SD} {H : Hp} {μ : Mu} {S : Sto} {ρ : Rho} {Q : VK} {E : XK} (h : Post K mg E H μ (bodyR d ρ S) (kE K Q)) : Post K mg E H μ (d ρ S) (kS K { nx := fun _ H' => Q .non H', rt := Q }) := by
  refine h.bnd.mono fun r S1 H1 μ1 g r1 q => ?_
  cases r with
  | nx ρ' => exact fun σ' _ => q H1 μ1 .refl r1 .non .non
  | rt p => exact fun v rv => q H1 μ1 .refl r1 v rv
  | bk ρ' => exact q.elim
  | ct ρ' => exact q.elim
/-- THE RULE: a def by its body -/
theorem fnG_of {N ps : List Str} {k : Nat} {sem : List PV → M PV} {d : SD} (F : FunT K x st f fd) (Sc : FnScope N ps (defScope st))
    (hsem : SemOk K mg N.length sem d)
    (hb : ∀ (cdv : Value) (A : Around) (outer : List Env) (s : Shared) (H : Hp) (E : XK), At (cxOf (L2.CX P w) P w K mg base N x (defScope st) f cdv A outer s H E) P w K mg base k E → PMB (cxOf (L2.CX P w) P w K mg base N x (defScope st) f cdv A outer s H E) E (defBody st) d) :
    FnG P w K mg base (k + 1) f fd ps (spF K mg ps.length sem) := by
  refine ⟨fun vs H Q E h => h.1, fun A outer s H args us vs Q E hr hg e0 hbi r hsp => ?_⟩
  obtain ⟨oc, od, dV, kV, doc, pm, an, cdv, ct, osl, rfl, lk, hcd, _, _⟩ := F.ex
  obtain ⟨hl, qs, S, μ, rs, rq, hq⟩ := hsp
  have inK : K.In s.heap := PySem.W.Frag.In.keeps e0.mod.kin fun b o e => (e0.bs b o e).1
  have noL : s.heap.NoLimit := Heap.NoLimit.keeps e0.mod.nolimit fun b o e => (e0.bs b o e).1
  refine codeAny_call_function hr.depth (inK _ _ lk) rfl Sc.co Sc.gen rfl (PySem.W.codeRec_of inK hcd) (hbi _ _ _ _ ?_)
  refine wpAny_newFunctionEnv_cells Sc.kind (fun ⟨n, v⟩ hy => ?_) fun env he s1 z => ?_
  · rcases Sc.par n (List.of_mem_zip hy).1 with q | q
    · exact .inl q
    · exact .inr ⟨q, PySem.W.cellsFrom_some _ _ _ (.inl q)⟩
  · subst he
    refine ⟨noL.keeps z.toInCall.keep, codeAny_func ?_⟩
    have tk := takes_of (X := cxOf (L2.CX P w) P w K mg base N x (defScope st) f cdv A outer s H E) (E := E) rfl rfl rfl rfl
    have I0 := inv_start (CX := L2.CX P w) (cd := cdv) (qual := x) (f := f) (E := E) Sc hr.hd e0 hl r z
    have body := hb cdv A outer s H E ⟨rfl, rfl, rfl, rfl, rfl, hr.deeper _, hg, passes_call tk fun _ _ _ _ h => h⟩
    refine wpAny_mono (body.run [] s1 (L2.start N vs) H { nx := fun _ H' => Q .non H', rt := Q } I0 ⟨rho0 N.length qs, S, μ, relE_start rq, rs, body_post (hsem rs hq)⟩) (fun fl s' hs => ?_) fun e s' hs => hs
    cases fl with
    | ret u => obtain ⟨v, σ', H', J, rv, q⟩ := hs; exact ⟨v, H', J.os, J.bare, J.base, J.hok, rv, q⟩
    | next => obtain ⟨σ', H', J, q⟩ := hs; exact ⟨.non, H', J.os, J.bare, J.base, J.hok, rfl, q⟩
    | brk => obtain ⟨_, _, _, q⟩ := hs; exact q.elim
    | cont => obtain ⟨_, _, _, q⟩ := hs; exact q.elim
end
end Pm

namespace Pm
open PySem PySem.Spec L2

/-! ## calls of defs -/
/-- a def of the module: where it stands, what it does -/
structure Df (P : Program) (w : World) (K : PySem.W.Frag) (mg : Str → Option Value) (base : Heap) (x : Str) (st : Stmt) (k : Nat) (ps : List Str) (sem : List PV → M PV) : Prop where
  ar : Ar ps.length sem
  ex : ∃ f fd, FunT K x st f fd ∧ mg x = some (.ref f) ∧ FnG P w K mg base k f fd ps (spF K mg ps.length sem)
/-- how positional arguments bind -/
def BindP (x : Str) (st : Stmt) (ps : List Str) : Prop := ∀ (kV doc pm : Value) (an : Option Addr) (cdv ct : Value) (us : List Value), us.length = ps.length → bindArgs (PySem.W.fnOf x x (defArgs st) (defBody st) (defScope st) .none kV doc pm an cdv ct) ⟨us, []⟩ = pure (ps.zip us)
/-- how n positional ones and keywords bind; g puts them in the parameters' order -/
def BindK (x : Str) (st : Stmt) (ps : List Str) (n : Nat) (ks : List Str) (g : {α : Type} → List α → List α → List α) : Prop := ∀ (kV doc pm : Value) (an : Option Addr) (cdv ct : Value) (us ws : List Value), us.length = n → ws.length = ks.length → bindArgs (PySem.W.fnOf x x (defArgs st) (defBody st) (defScope st) .none kV doc pm an cdv ct) ⟨us, ks.zip ws⟩ = pure (ps.zip (g us ws))
def sNever : SD := fun _ _ => .stuck
section
variable {X : Cx} {E : XK} {e c : Expr} {es : List Expr} {m n : ED} {as bs : AD} {pos p : Pos} {P : Program} {w : World} {K : PySem.W.Frag} {mg : Str → Option Value} {base : Heap} {j k : Nat} {x : Str} {st : Stmt} {ps : List Str} {sem : List PV → M PV}
theorem pms_never : PMS X E st sNever := PS.imp ps_never fun D σ H ⟨ρ, S, μ, re, rs, h⟩ => h
theorem Vals.toL {ks : List Str} {vs : List V} {us : List Value} (r : Vals vs us) : vs.length = us.length := r.length
/-- the callee runs -/
theorem run_G {f : Addr} {fd : FuncData} {sp : Sp} {pins : List (Addr × Obj)} {σ : L2.St} {H : Hp} {s : Shared} {Q : VK} {us zs : List Value} {kw : List (Str × Value)} {vs : List V} (F : FnG X.prog X.w X.K X.mg X.base k f fd ps sp) (hr : Room k X.A) (hg : X.A.guards = some []) (hx : Passes (L2.CX X.prog X.w) X E)
    (I : Inv X pins σ H s) (hb : BindsTo s fd ⟨us, kw⟩ (ps.zip zs)) (r : Vals vs zs) (h : sp vs H Q E) : wpAny (model X.prog X.w) X.A (call (.ref f) us kw) (EP X pins σ Q) X.xe s := by
  refine wpAny_call (codeAny_mono (F.run X.A X.stack s H ⟨us, kw⟩ zs vs Q E hr hg I.env0 hb r h) fun o s' hq => ?_)
  cases o with
  | error e => exact hx pins σ H s e s' I hq
  | ok fl =>
    cases fl with
    | ret u => exact I.after hq
    | next => exact hq.elim
    | brk => exact hq.elim
    | cont => exact hq.elim
theorem sp_of (ar : Ar ps.length sem) {Q : VK} {H1 : Hp} {μ1 : Mu} {S1 : Sto} {vs : List V} {qs : List PV} (rs1 : RelS K H1 μ1 S1) (rv : RpL K H1 μ1 vs qs) (h1 : Post K mg E H1 μ1 (sem qs S1) (kE K Q)) : spF K mg ps.length sem vs H1 Q E := by
  rcases ar qs S1 with z | z
  · rw [z] at h1; exact h1.elim
  · exact ⟨rv.length.trans z, qs, S1, μ1, rs1, rv, h1⟩
theorem pm_call (A : At X P w K mg base j E) (F : Df P w K mg base x st k ps sem) (b : BindP x st ps) (hk : k ≤ j) (ha : PAs X E (e :: es) as) (hg : Gl X x := by rfl) (hdb : (x == ("__debug__" : Str)) = false := by decide)
    (he : starEach (e :: es) X.env = (false, eval e X.env) :: starEach es X.env := by rfl) (hpl : (backTo pos (starEach es X.env)).any (·.1) = false := by rfl) : PM X E (.Call (.Name x p) (e :: es) [] pos) (dAp sem as) := by
  obtain ⟨hP, hw, hK, hmg, hbase, hr, hgd, hx⟩ := A
  subst hP hw hK hmg hbase
  obtain ⟨f, fd, FT, gm, FG⟩ := F.ex
  refine ⟨fun pins s σ H Q I ⟨ρ, S, μ, re, rs, h⟩ => ?_⟩
  refine wpAny_Call_Name_kw (ld_glob I hg gm ?_ hdb)
  have hsp : tA X.K X.mg E as σ H (fun vs H1 => spF X.K X.mg ps.length sem vs H1 Q E) := stepA re rs h fun vs qs S1 H1 μ1 re1 rs1 rv g1 h1 => sp_of F.ar rs1 rv h1
  refine PySem.W.callWith_K (h₀ := X.base) I.ok.mod.kin FT.kp (thn (ha.run pos pins s σ H _ I hsp) fun us s1 ⟨vs, H1, I1, r, q⟩ => ⟨I1.kIn, ?_⟩) he hpl
  have bt := (FunD.bindsN FT b) s1 us I1.kIn (by rw [List.append_nil, ← r.length]; exact q.1)
  rw [List.append_nil] at bt
  exact run_G FG (hr.mono hk) hgd hx I1 bt r q
theorem pm_call0 (A : At X P w K mg base j E) (F : Df P w K mg base x st k ps sem) (b : BindP x st ps) (hk : k ≤ j) (hg : Gl X x := by rfl) (hdb : (x == ("__debug__" : Str)) = false := by decide) : PM X E (.Call (.Name x p) [] [] pos) (dAp sem dNil) := by
  obtain ⟨hP, hw, hK, hmg, hbase, hr, hgd, hx⟩ := A
  subst hP hw hK hmg hbase
  obtain ⟨f, fd, FT, gm, FG⟩ := F.ex
  refine ⟨fun pins s σ H Q I ⟨ρ, S, μ, re, rs, h⟩ => ?_⟩
  refine wpAny_Call_Name_kw (ld_glob I hg gm ?_ hdb)
  have q : spF X.K X.mg ps.length sem [] H Q E := sp_of F.ar rs .nil h
  have bt := (FunD.bindsN FT b) s [] I.kIn q.1
  exact PySem.W.callWith_K0 I.kIn FT.kp (run_G FG (hr.mono hk) hgd hx I bt .nil q)
/-! ### keywords -/
abbrev PKs (X : Cx) (E : XK) (kws : List Keyword) (m : AD) : Prop := PK X kws (tA X.K X.mg E m)
theorem PK.imp {kws : List Keyword} {t t' : TA} (h : PK X kws t) (q : ∀ σ H Q, t' σ H Q → t σ H Q) : PK X kws t' := ⟨fun pos pins s σ H Q I w => h.run pos pins s σ H Q I (q σ H Q w)⟩
theorem pmk_nil : PKs X E [] dNil := PK.imp pk_nil fun σ H Q ⟨ρ, S, μ, re, rs, h⟩ => h H μ .refl rs [] .nil
theorem pmk_cons {kws : List Keyword} {nm : Option Str} {kpos : Pos} (ha : PM X E e m) (hr : PKs X E kws as) : PKs X E (⟨nm, e, kpos⟩ :: kws) (dCons m as) := by
  refine PK.imp (pk_cons ha hr) fun σ H Q ⟨ρ, S, μ, re, rs, h⟩ => ?_
  refine stepE re rs h fun v p S1 H1 μ1 re1 rs1 rv g1 h1 => ?_
  refine stepA re1 rs1 h1 fun vs ps S2 H2 μ2 re2 rs2 rvs g2 h2 => ?_
  exact h2 H2 μ2 .refl rs2 _ (.cons (rv.grow g2) rvs)
/-- which of n positional and of m keyword values stand at each parameter -/
def kput (ix : List Nat) {α : Type} (us ws : List α) : List α := ix.filterMap fun i => (us ++ ws)[i]?
def dApK (n l : Nat) (ix : List Nat) (sem : List PV → M PV) (as bs : AD) : ED := fun ρ => bnd (as ρ) fun us => bnd (bs ρ) fun ws => if us.length = n ∧ ws.length = l then sem (kput ix us ws) else stk
theorem vals_kput {ix : List Nat} {vs zs : List V} {us ws : List Value} (r1 : Vals vs us) (r2 : Vals zs ws) : Vals (kput ix vs zs) (kput ix us ws) := by
  have r := r1.append r2
  unfold kput
  induction ix with
  | nil => exact .nil
  | cons i ix ih =>
    rw [List.filterMap_cons, List.filterMap_cons]
    cases q : (vs ++ zs)[i]? with
    | none => rw [r.none_of q]; exact ih
    | some v =>
      obtain ⟨u, e, ru⟩ := r.get q
      rw [e]
      exact .cons ru ih
theorem rp_kput {ix : List Nat} {H : Hp} {μ : Mu} {vs zs : List V} {us ws : List PV} (r1 : RpL K H μ vs us) (r2 : RpL K H μ zs ws) : RpL K H μ (kput ix vs zs) (kput ix us ws) := by
  have r := r1.append r2
  unfold kput
  induction ix with
  | nil => exact .nil
  | cons i ix ih =>
    rw [List.filterMap_cons, List.filterMap_cons]
    cases q : (us ++ ws)[i]? with
    | none =>
      have : (vs ++ zs)[i]? = none := by
        rw [List.getElem?_eq_none_iff] at q ⊢
        rw [r.length]; exact q
      rw [this]; exact ih
    | some v =>
      obtain ⟨u, e, ru⟩ := r.get q
      rw [e]
      exact .cons ru ih
theorem pm_callK (n : Nat) (ks : List Str) (ix : List Nat) {kws : List Keyword} (A : At X P w K mg base j E) (F : Df P w K mg base x st k ps sem) (b : BindK x st ps n ks (kput ix)) (hk : k ≤ j) (ha : PAs X E (e :: es) as) (hkw : PKs X E kws bs) (hg : Gl X x := by rfl)
    (hall : (backToKw pos (keywordEach kws X.env)).all (·.1.isSome) = true := by rfl) (hks : (backToKw pos (keywordEach kws X.env)).filterMap (·.1) = ks := by rfl)
    (hdb : (x == ("__debug__" : Str)) = false := by decide) (he : starEach (e :: es) X.env = (false, eval e X.env) :: starEach es X.env := by rfl)
    (hpl : ((backTo pos (starEach (e :: es) X.env)).any (·.1) || (backToKw pos (keywordEach kws X.env)).any (·.1.isNone)) = false := by rfl) : PM X E (.Call (.Name x p) (e :: es) kws pos) (dApK n ks.length ix sem as bs) := by
  obtain ⟨hP, hw, hK, hmg, hbase, hr, hgd, hx⟩ := A
  subst hP hw hK hmg hbase
  obtain ⟨f, fd, FT, gm, FG⟩ := F.ex
  refine ⟨fun pins s σ H Q I ⟨ρ, S, μ, re, rs, h⟩ => ?_⟩
  refine wpAny_Call_Name_kw (ld_glob I hg gm ?_ hdb)
  have hsp : tA X.K X.mg E as σ H (fun vs H1 => tA X.K X.mg E bs σ H1 fun zs H2 => vs.length = n ∧ zs.length = ks.length ∧ spF X.K X.mg ps.length sem (kput ix vs zs) H2 Q E) := by
    refine stepA re rs h fun vs qs S1 H1 μ1 re1 rs1 rv g1 h1 => ?_
    refine stepA re1 rs1 h1 fun zs ts S2 H2 μ2 re2 rs2 rz g2 h2 => ?_
    by_cases hl : qs.length = n ∧ ts.length = ks.length
    · rw [if_pos hl] at h2
      exact ⟨rv.length.trans hl.1, rz.length.trans hl.2, sp_of F.ar rs2 (rp_kput (rv.grow g2) rz) h2⟩
    · rw [if_neg hl] at h2; exact h2.elim
  refine PySem.W.callWith_KW (h₀ := X.base) I.ok.mod.kin FT.kp hall (thn (ha.run pos pins s σ H _ I hsp) fun us s1 ⟨vs, H1, I1, r, q⟩ => ?_) hpl he
  refine thn (hkw.run pos pins s1 σ H1 _ I1 q) fun ws s2 ⟨zs, H2, I2, rz, l1, l2, q2⟩ => ⟨I2.kIn, ?_⟩
  rw [hks]
  obtain ⟨oc, od, dV, kV, doc, pm, an, cdv, ct, osl, rfl, lk, hcd, hD, hKD⟩ := FT.ex
  have eD : dV = .none := hD.elim (fun z => z.2) fun z => absurd rfl z.1
  subst eD
  exact run_G FG (hr.mono hk) hgd hx I2 (.of_eq (b kV doc pm an cdv ct us ws (by rw [← r.length]; exact l1) (by rw [← rz.length]; exact l2))) (vals_kput r rz) q2
theorem pm_callK0 (ks : List Str) (ix : List Nat) {kws : List Keyword} (A : At X P w K mg base j E) (F : Df P w K mg base x st k ps sem) (b : BindK x st ps 0 ks (kput ix)) (hk : k ≤ j) (hkw : PKs X E kws bs) (hg : Gl X x := by rfl)
    (hall : (backToKw pos (keywordEach kws X.env)).all (·.1.isSome) = true := by rfl) (hks : (backToKw pos (keywordEach kws X.env)).filterMap (·.1) = ks := by rfl)
    (hdb : (x == ("__debug__" : Str)) = false := by decide)
    (hpl : ((backTo pos (starEach [] X.env)).any (·.1) || (backToKw pos (keywordEach kws X.env)).any (·.1.isNone)) = false := by rfl) : PM X E (.Call (.Name x p) [] kws pos) (dApK 0 ks.length ix sem dNil bs) := by
  obtain ⟨hP, hw, hK, hmg, hbase, hr, hgd, hx⟩ := A
  subst hP hw hK hmg hbase
  obtain ⟨f, fd, FT, gm, FG⟩ := F.ex
  refine ⟨fun pins s σ H Q I ⟨ρ, S, μ, re, rs, h⟩ => ?_⟩
  refine wpAny_Call_Name_kw (ld_glob I hg gm ?_ hdb)
  have hsp : tA X.K X.mg E bs σ H fun zs H2 => zs.length = ks.length ∧ spF X.K X.mg ps.length sem (kput ix [] zs) H2 Q E := by
    refine stepA re rs h fun zs ts S2 H2 μ2 re2 rs2 rz g2 h2 => ?_
    by_cases hl : ([] : List PV).length = 0 ∧ ts.length = ks.length
    · rw [if_pos hl] at h2
      exact ⟨rz.length.trans hl.2, sp_of F.ar rs2 (rp_kput .nil rz) h2⟩
    · rw [if_neg hl] at h2; exact h2.elim
  refine PySem.W.callWith_KW0 (h₀ := X.base) I.ok.mod.kin FT.kp hall (thn (hkw.run pos pins s σ H _ I hsp) fun ws s2 ⟨zs, H2, I2, rz, l2, q2⟩ => ⟨I2.kIn, ?_⟩) hpl
  rw [hks]
  obtain ⟨oc, od, dV, kV, doc, pm, an, cdv, ct, osl, rfl, lk, hcd, hD, hKD⟩ := FT.ex
  have eD : dV = .none := hD.elim (fun z => z.2) fun z => absurd rfl z.1
  subst eD
  exact run_G FG (hr.mono hk) hgd hx I2 (.of_eq (b kV doc pm an cdv ct [] ws rfl (by rw [← rz.length]; exact l2))) (vals_kput .nil rz) q2
theorem df_of {N : List Str} {d : SD} (h : ∃ f fd, FunT K x st f fd ∧ mg x = some (.ref f)) (ar : Ar ps.length sem) (Sc : FnScope N ps (defScope st)) (hsem : SemOk K mg N.length sem d)
    (hb : ∀ (X : Cx) (E : XK), X.N = N → X.env.scope = defScope st → True → At X P w K mg base k E → True) : True := trivial
end
end Pm

namespace Pm
open PySem PySem.Spec L2

/-! ## built-ins, by values -/
def lenM (ps : List PV) : M PV := fun S => match ps with
  | [.str x] => if x.length ≤ LIM then .ok (.int x.length) S else .stuck
  | [.tup xs] => .ok (.int xs.length) S
  | [p] => match asL p S with
    | some xs => .ok (.int xs.length) S
    | none => .stuck
  | _ => .stuck
def boolsL : List PV → Option (List Bool)
  | [] => some []
  | .bl b :: ps => match boolsL ps with
    | some bs => some (b :: bs)
    | none => none
  | _ :: _ => none
def intsL : List PV → Option (List Int)
  | [] => some []
  | .int b :: ps => match intsL ps with
    | some bs => some (b :: bs)
    | none => none
  | _ :: _ => none
def allM (ps : List PV) : M PV := fun S => match ps with
  | [p] => match asL p S with
    | some xs => match boolsL xs with
      | some bs => .ok (.bl (bs.all id)) S
      | none => .stuck
    | none => .stuck
  | _ => .stuck
def anyM (ps : List PV) : M PV := fun S => match ps with
  | [p] => match asL p S with
    | some xs => match boolsL xs with
      | some bs => .ok (.bl (bs.any id)) S
      | none => .stuck
    | none => .stuck
  | _ => .stuck
def sumM (ps : List PV) : M PV := fun S => match ps with
  | [p] => match asL p S with
    | some xs => match intsL xs with
      | some bs => .ok (.int bs.sum) S
      | none => .stuck
    | none => .stuck
  | _ => .stuck
/-- the greatest of ints -/
def maxI : List Int → Int
  | [] => 0
  | [x] => x
  | x :: y :: r => max x (maxI (y :: r))
def maxLM (ps : List PV) : M PV := fun S => match ps with
  | [p] => match asL p S with
    | some xs => match intsL xs with
      | some bs => if bs = [] then .stuck else .ok (.int (maxI bs)) S
      | none => .stuck
    | none => .stuck
  | _ => .stuck
def absM (ps : List PV) : M PV := fun S => match ps with
  | [.int i] => .ok (.int (if i < 0 then -i else i)) S
  | _ => .stuck
def max2M (ps : List PV) : M PV := fun S => match ps with
  | [.int i, .int j] => .ok (.int (if j > i then j else i)) S
  | _ => .stuck
def min2M (ps : List PV) : M PV := fun S => match ps with
  | [.int i, .int j] => .ok (.int (if j < i then j else i)) S
  | _ => .stuck
def intM (ps : List PV) : M PV := fun S => match ps with
  | [.int i] => .ok (.int i) S
  | [.bl k] => .ok (.int (if k then 1 else 0)) S
  | _ => .stuck
def gcdM (ps : List PV) : M PV := fun S => match ps with
  | [.int i, .int j] => .ok (.int (Int.gcd i j)) S
  | _ => .stuck
def isqrtM (ps : List PV) : M PV := fun S => match ps with
  | [.int i] => if 0 ≤ i ∧ i.toNat.log2 < 13000 then .ok (.int ((Float64.isqrt i.toNat : Nat) : Int)) S else .stuck
  | _ => .stuck
def divmodM (ps : List PV) : M PV := fun S => match ps with
  | [.int i, .int j] => if 0 < j ∧ j < 1073741824 then .ok (.tup [.int (i / j), .int (i % j)]) S else .stuck
  | _ => .stuck
def tupleM (ps : List PV) : M PV := fun S => match ps with
  | [.tup xs] => .ok (.tup xs) S
  | [p] => match asL p S with
    | some xs => .ok (.tup xs) S
    | none => .stuck
  | _ => .stuck
def listM (ps : List PV) : M PV := fun S => match ps with
  | [.tup xs] => .ok (.lst xs) S
  | [p] => match asL p S with
    | some xs => .ok (.lst xs) S
    | none => .stuck
  | _ => .stuck
def reprM (ps : List PV) : M PV := fun S => match ps with
  | [p] => match dataS p S with
    | some d => if d.showable = true ∧ SeqAt.shaped d = true ∧ d.shown.length ≤ LIM then .ok (.str d.shown) S else .stuck
    | none => .stuck
  | _ => .stuck
def kindP : PV → String
  | .non => "NoneType"
  | .bl _ => "bool"
  | .int _ => "int"
  | .str _ => "str"
  | .tup _ => "tuple"
  | .dct => "dict"
  | _ => "list"
def isT (T k : String) : Bool := k == T || (T == "int" && k == "bool")
def isiM (T : String) (p : PV) : M PV := ret (.bl (isT T (kindP p)))

section
variable {X : Cx} {E : XK}
def CallM (X : Cx) (E : XK) (r : List V → Hp → VK → Prop) (f : List PV → M PV) : Prop := ∀ vs ps H μ S Q, RelS X.K H μ S → RpL X.K H μ vs ps → Post X.K X.mg E H μ (f ps S) (kE X.K Q) → r vs H Q
section
variable {e : Expr} {es : List Expr} {as : AD} {pos p : Pos} {x : Str} {id T : String} {r : List V → Hp → VK → Prop} {f : List PV → M PV} {m : ED}
theorem tCB_of (hf : CallM X E r f) {σ : L2.St} {H : Hp} {Q : VK} (h : tE X.K X.mg E (dAp f as) σ H Q) : tCB r (tA X.K X.mg E as) σ H Q := by
  obtain ⟨ρ, S, μ, re, rs, h⟩ := h
  exact stepA re rs h fun vs ps S1 H1 μ1 re1 rs1 rv g1 h1 => hf vs ps H1 μ1 S1 Q rs1 rv h1
theorem pm_bi (o : CallR X (.builtin id) r ∧ CallM X E r f) (hm : X.mg x = none) (hv : bootBuiltins x = some (.builtin id)) (ha : PAs X E (e :: es) as) (hg : Gl X x := by rfl) (hn : x ≠ "__name__" := by decide) (hdb : (x == ("__debug__" : Str)) = false := by decide)
    (he : starEach (e :: es) X.env = (false, eval e X.env) :: starEach es X.env := by rfl) (hpl : (backTo pos (starEach es X.env)).any (·.1) = false := by rfl) : PM X E (.Call (.Name x p) (e :: es) [] pos) (dAp f as) :=
  PE.imp (pe_callB o.1 hg hm hv ha hn hdb he hpl) fun σ H Q h => tCB_of o.2 h
theorem pm_ty (o : CallR X (.type T) r ∧ CallM X E r f) (hm : X.mg x = none) (hv : bootBuiltins x = some (.type T)) (ha : PAs X E (e :: es) as) (hg : Gl X x := by rfl) (hn : x ≠ "__name__" := by decide) (hdb : (x == ("__debug__" : Str)) = false := by decide)
    (he : starEach (e :: es) X.env = (false, eval e X.env) :: starEach es X.env := by rfl) (hpl : (backTo pos (starEach es X.env)).any (·.1) = false := by rfl) : PM X E (.Call (.Name x p) (e :: es) [] pos) (dAp f as) :=
  PE.imp (pe_callTy o.1 hg hm hv ha hn hdb he hpl) fun σ H Q h => tCB_of o.2 h
theorem pm_fun (o : CallR X (.builtin id) r ∧ CallM X E r f) (hm : X.mg x = some (.builtin id)) (ha : PAs X E (e :: es) as) (hg : Gl X x := by rfl) (hdb : (x == ("__debug__" : Str)) = false := by decide)
    (he : starEach (e :: es) X.env = (false, eval e X.env) :: starEach es X.env := by rfl) (hpl : (backTo pos (starEach es X.env)).any (·.1) = false := by rfl) : PM X E (.Call (.Name x p) (e :: es) [] pos) (dAp f as) :=
  PE.imp (pe_callBfun o.1 hg hm ha hdb he hpl) fun σ H Q h => tCB_of o.2 h
end
theorem c_len : CallR X (.builtin "len") (fun xs H Q => ∃ x n, xs = [x] ∧ LenV X.K x H n ∧ Q (.int n) H) ∧ CallM X E (fun xs H Q => ∃ x n, xs = [x] ∧ LenV X.K x H n ∧ Q (.int n) H) lenM := by
  refine ⟨call_len, ?_⟩
  intro vs ps H μ S Q rs rv h
  have gen : ∀ {v : V} {p : PV}, Rp X.K H μ v p → Post X.K X.mg E H μ (match asL p S with
    | some xs => .ok (.int xs.length) S
    | none => .stuck) (kE X.K Q) → ∃ n, LenV X.K v H n ∧ Q (.int n) H := by
    intro v p rv h
    split at h
    · rename_i xs e
      obtain ⟨a, ws, rfl, hq, r⟩ := asL_ok e rs rv
      exact ⟨ws.length, .inl ⟨ws, hq, rfl⟩, by rw [r.length]; exact now_ rs (.int _) h⟩
    · exact h.elim
  cases rv with
  | nil => exact h.elim
  | @cons v vs p ps rv t =>
    cases t with
    | cons _ _ => cases rv <;> exact h.elim
    | nil =>
      cases rv with
      | str x =>
        obtain ⟨hl, h⟩ := iff_post h
        exact ⟨_, x.length, rfl, ⟨lim_le hl, rfl⟩, now_ rs (.int _) h⟩
      | @tup a vs ps hq r => exact ⟨_, vs.length, rfl, .inr ⟨vs, hq, rfl⟩, by rw [r.length]; exact now_ rs (.int _) h⟩
      | lst n z r => obtain ⟨n, h1, h2⟩ := gen (.lst n z r) h; exact ⟨_, n, rfl, h1, h2⟩
      | frz z r => obtain ⟨n, h1, h2⟩ := gen (.frz z r) h; exact ⟨_, n, rfl, h1, h2⟩
      | loc z => obtain ⟨n, h1, h2⟩ := gen (.loc z) h; exact ⟨_, n, rfl, h1, h2⟩
      | non => obtain ⟨n, h1, h2⟩ := gen .non h; exact ⟨_, n, rfl, h1, h2⟩
      | bl b => obtain ⟨n, h1, h2⟩ := gen (.bl b) h; exact ⟨_, n, rfl, h1, h2⟩
      | int b => obtain ⟨n, h1, h2⟩ := gen (.int b) h; exact ⟨_, n, rfl, h1, h2⟩
      | dct y z => obtain ⟨n, h1, h2⟩ := gen (.dct y z) h; exact ⟨_, n, rfl, h1, h2⟩
theorem boolsL_ok {K : PySem.W.Frag} {H : Hp} {μ : Mu} : ∀ {vs : List V} {ps : List PV} {bs : List Bool}, RpL K H μ vs ps → boolsL ps = some bs → vs = bs.map V.bl
  | _, _, _, .nil, e => by simp [boolsL] at e; subst e; rfl
  | _, _, _, .cons r t, e => by
    cases r with
    | bl b =>
      simp only [boolsL] at e
      split at e
      · rename_i bs q
        cases e
        rw [boolsL_ok t q]; rfl
      · cases e
    | _ => simp [boolsL] at e
theorem intsL_ok {K : PySem.W.Frag} {H : Hp} {μ : Mu} : ∀ {vs : List V} {ps : List PV} {bs : List Int}, RpL K H μ vs ps → intsL ps = some bs → vs = bs.map V.int
  | _, _, _, .nil, e => by simp [intsL] at e; subst e; rfl
  | _, _, _, .cons r t, e => by
    cases r with
    | int b =>
      simp only [intsL] at e
      split at e
      · rename_i bs q
        cases e
        rw [intsL_ok t q]; rfl
      · cases e
    | _ => simp [intsL] at e
theorem c_all (hc : X.calm = true) : CallR X (.builtin "all") (rAll X.K) ∧ CallM X E (rAll X.K) allM := by
  refine ⟨cr_all hc, ?_⟩
  intro vs ps H μ S Q rs rv h
  cases rv with
  | nil => exact h.elim
  | cons rv t =>
    cases t with
    | cons _ _ => exact h.elim
    | nil =>
      simp only [allM] at h
      split at h
      · rename_i xs e
        split at h
        · rename_i bs q
          obtain ⟨a, ws, rfl, hq, r⟩ := asL_ok e rs rv
          have := boolsL_ok r q
          subst this
          exact ⟨a, bs, rfl, hq, now_ rs (.bl _) h⟩
        · exact h.elim
      · exact h.elim
theorem c_any (hc : X.calm = true) : CallR X (.builtin "any") (rAny X.K) ∧ CallM X E (rAny X.K) anyM := by
  refine ⟨cr_any hc, ?_⟩
  intro vs ps H μ S Q rs rv h
  cases rv with
  | nil => exact h.elim
  | cons rv t =>
    cases t with
    | cons _ _ => exact h.elim
    | nil =>
      simp only [anyM] at h
      split at h
      · rename_i xs e
        split at h
        · rename_i bs q
          obtain ⟨a, ws, rfl, hq, r⟩ := asL_ok e rs rv
          have := boolsL_ok r q
          subst this
          exact ⟨a, bs, rfl, hq, now_ rs (.bl _) h⟩
        · exact h.elim
      · exact h.elim
theorem c_sum (hc : X.calm = true) : CallR X (.builtin "sum") (rSum X.K) ∧ CallM X E (rSum X.K) sumM := by
  refine ⟨cr_sum hc, ?_⟩
  intro vs ps H μ S Q rs rv h
  cases rv with
  | nil => exact h.elim
  | cons rv t =>
    cases t with
    | cons _ _ => exact h.elim
    | nil =>
      simp only [sumM] at h
      split at h
      · rename_i xs e
        split at h
        · rename_i bs q
          obtain ⟨a, ws, rfl, hq, r⟩ := asL_ok e rs rv
          have := intsL_ok r q
          subst this
          exact ⟨a, bs, rfl, hq, now_ rs (.int _) h⟩
        · exact h.elim
      · exact h.elim
theorem maxI_ge : ∀ (l : List Int) (x : Int), x ∈ l → x ≤ maxI l
  | [], _, h => nomatch h
  | [y], x, h => by
    have e : x = y := by simpa using h
    subst e; exact Int.le_refl _
  | y :: z :: r, x, h => by
    rw [maxI]
    rcases List.mem_cons.mp h with e | e
    · subst e; exact Int.le_max_left ..
    · exact Int.le_trans (maxI_ge (z :: r) x e) (Int.le_max_right ..)
theorem maxI_mem : ∀ (l : List Int), l ≠ [] → maxI l ∈ l
  | [], h => absurd rfl h
  | [y], _ => List.mem_cons_self
  | y :: z :: r, _ => by
    rw [maxI]
    by_cases h : maxI (z :: r) ≤ y
    · rw [Int.max_eq_left h]; exact List.mem_cons_self
    · rw [Int.max_eq_right (by omega)]; exact List.mem_cons_of_mem _ (maxI_mem (z :: r) (List.cons_ne_nil _ _))
theorem c_maxL (hc : X.calm = true) : CallR X (.builtin "max") (rMax X.K) ∧ CallM X E (rMax X.K) maxLM := by
  refine ⟨cr_max hc, ?_⟩
  intro vs ps H μ S Q rs rv h
  cases rv with
  | nil => exact h.elim
  | cons rv t =>
    cases t with
    | cons _ _ => exact h.elim
    | nil =>
      simp only [maxLM] at h
      split at h
      · rename_i xs e
        split at h
        · rename_i bs q
          obtain ⟨a, ws, rfl, hq, r⟩ := asL_ok e rs rv
          have := intsL_ok r q
          subst this
          by_cases hb : bs = []
          · rw [if_pos hb] at h; exact h.elim
          · rw [if_neg hb] at h
            refine ⟨a, bs, rfl, hq, List.length_pos_iff.mpr hb, fun m h1 h2 => ?_⟩
            have e1 : m = maxI bs := Int.le_antisymm (maxI_ge bs m h1) (h2 _ (maxI_mem bs hb))
            rw [e1]
            exact now_ rs (.int _) h
        · exact h.elim
      · exact h.elim
theorem callM1 {r : List V → Hp → VK → Prop} {f : List PV → M PV} (h0 : ∀ S, f [] S = .stuck) (h2 : ∀ p q ps S, f (p :: q :: ps) S = .stuck) (h1 : ∀ v p H μ S Q, RelS X.K H μ S → Rp X.K H μ v p → Post X.K X.mg E H μ (f [p] S) (kE X.K Q) → r [v] H Q) : CallM X E r f := by
  intro vs ps H μ S Q rs rv h
  cases rv with
  | nil => rw [h0] at h; exact h.elim
  | cons rv t =>
    cases t with
    | cons _ _ => rw [h2] at h; exact h.elim
    | nil => exact h1 _ _ H μ S Q rs rv h
theorem callM2 {r : List V → Hp → VK → Prop} {f : List PV → M PV} (h0 : ∀ S, f [] S = .stuck) (h1 : ∀ p S, f [p] S = .stuck) (h3 : ∀ p q u ps S, f (p :: q :: u :: ps) S = .stuck) (h2 : ∀ v p w q H μ S Q, RelS X.K H μ S → Rp X.K H μ v p → Rp X.K H μ w q → Post X.K X.mg E H μ (f [p, q] S) (kE X.K Q) → r [v, w] H Q) : CallM X E r f := by
  intro vs ps H μ S Q rs rv h
  cases rv with
  | nil => rw [h0] at h; exact h.elim
  | cons rv t =>
    cases t with
    | nil => rw [h1] at h; exact h.elim
    | cons rw' t =>
      cases t with
      | nil => exact h2 _ _ _ _ H μ S Q rs rv rw' h
      | cons _ _ => rw [h3] at h; exact h.elim
theorem c_abs : CallR X (.builtin "abs") (fun xs H Q => ∃ i, xs = [.int i] ∧ Q (.int (if i < 0 then -i else i)) H) ∧ CallM X E (fun xs H Q => ∃ i, xs = [.int i] ∧ Q (.int (if i < 0 then -i else i)) H) absM := by
  refine ⟨call_abs, callM1 (fun _ => rfl) (fun p q _ _ => by cases p <;> rfl) fun v p H μ S Q rs rv h => ?_⟩
  cases rv with
  | int i => exact ⟨i, rfl, now_ rs (.int _) h⟩
  | _ => exact h.elim
theorem c_int : CallR X (.type "int") (fun xs H Q => (∃ i, xs = [.int i] ∧ Q (.int i) H) ∨ ∃ k, xs = [.bl k] ∧ Q (.int (if k then 1 else 0)) H) ∧ CallM X E (fun xs H Q => (∃ i, xs = [.int i] ∧ Q (.int i) H) ∨ ∃ k, xs = [.bl k] ∧ Q (.int (if k then 1 else 0)) H) intM := by
  refine ⟨call_int1, callM1 (fun _ => rfl) (fun p q _ _ => by cases p <;> rfl) fun v p H μ S Q rs rv h => ?_⟩
  cases rv with
  | int i => exact .inl ⟨i, rfl, now_ rs (.int _) h⟩
  | bl i => exact .inr ⟨i, rfl, now_ rs (.int _) h⟩
  | _ => exact h.elim
theorem c_max2 (hc : X.calm = true) : CallR X (.builtin "max") (fun xs H Q => ∃ i j, xs = [.int i, .int j] ∧ Q (.int (if j > i then j else i)) H) ∧ CallM X E (fun xs H Q => ∃ i j, xs = [.int i, .int j] ∧ Q (.int (if j > i then j else i)) H) max2M := by
  refine ⟨call_max2 hc, callM2 (fun _ => rfl) (fun p _ => by cases p <;> rfl) (fun p q _ _ _ => by cases p <;> cases q <;> rfl) fun v p w q H μ S Q rs rv rw' h => ?_⟩
  cases rv with
  | int i => cases rw' with
    | int j => exact ⟨i, j, rfl, now_ rs (.int _) h⟩
    | _ => exact h.elim
  | _ => cases rw' <;> exact h.elim
theorem c_min2 (hc : X.calm = true) : CallR X (.builtin "min") (fun xs H Q => ∃ i j, xs = [.int i, .int j] ∧ Q (.int (if j < i then j else i)) H) ∧ CallM X E (fun xs H Q => ∃ i j, xs = [.int i, .int j] ∧ Q (.int (if j < i then j else i)) H) min2M := by
  refine ⟨call_min2 hc, callM2 (fun _ => rfl) (fun p _ => by cases p <;> rfl) (fun p q _ _ _ => by cases p <;> cases q <;> rfl) fun v p w q H μ S Q rs rv rw' h => ?_⟩
  cases rv with
  | int i => cases rw' with
    | int j => exact ⟨i, j, rfl, now_ rs (.int _) h⟩
    | _ => exact h.elim
  | _ => cases rw' <;> exact h.elim
theorem c_gcd : CallR X (.builtin "math.gcd") rGcd ∧ CallM X E rGcd gcdM := by
  refine ⟨cr_gcd, callM2 (fun _ => rfl) (fun p _ => by cases p <;> rfl) (fun p q _ _ _ => by cases p <;> cases q <;> rfl) fun v p w q H μ S Q rs rv rw' h => ?_⟩
  cases rv with
  | int i => cases rw' with
    | int j => exact ⟨i, j, rfl, now_ rs (.int _) h⟩
    | _ => exact h.elim
  | _ => cases rw' <;> exact h.elim
theorem c_divmod : CallR X (.builtin "divmod") (fun xs H Q => ∃ i j, xs = [.int i, .int j] ∧ CDiv i j ∧ ∀ p, H p = none → Q (.ref p) (upd H p (.tup [.int (i / j), .int (i % j)]))) ∧ CallM X E (fun xs H Q => ∃ i j, xs = [.int i, .int j] ∧ CDiv i j ∧ ∀ p, H p = none → Q (.ref p) (upd H p (.tup [.int (i / j), .int (i % j)]))) divmodM := by
  refine ⟨call_divmod, callM2 (fun _ => rfl) (fun p _ => by cases p <;> rfl) (fun p q _ _ _ => by cases p <;> cases q <;> rfl) fun v p w q H μ S Q rs rv rw' h => ?_⟩
  cases rv with
  | int i => cases rw' with
    | int j =>
      obtain ⟨hl, h⟩ := iff_post h
      exact ⟨i, j, rfl, hl, fun p hp => new_tup rs (.cons (.int _) (.cons (.int _) .nil)) h p hp⟩
    | _ => exact h.elim
  | _ => cases rw' <;> exact h.elim
def rIsq : List V → Hp → VK → Prop := fun vs H Q => ∃ a : Int, vs = [.int a] ∧ 0 ≤ a ∧ a.toNat.log2 < 13000 ∧ Q (.int ((Float64.isqrt a.toNat : Nat) : Int)) H
theorem cr_isqrt : CallR X (.builtin "math.isqrt") rIsq := by
  intro pins s σ H vs us Q I r h
  obtain ⟨a, rfl, h0, h1, q⟩ := h
  obtain ⟨u, rfl, ru⟩ := vals1 r
  obtain ⟨t, rfl⟩ := ru
  refine PySem.call_function_meets PySem.W.MGF.kind_isqrt PySem.W.MGF.plain_isqrt PySem.W.MGF.entry_isqrt (PySem.W.MGF.args_isqrt _) (PySem.W.mg_run_isqrt a t (by omega) (by omega) (by omega)).meets ?_
  exact ⟨.int _, H, I.tok _, ⟨_, rfl⟩, q⟩
theorem c_isqrt : CallR X (.builtin "math.isqrt") rIsq ∧ CallM X E rIsq isqrtM := by
  refine ⟨cr_isqrt, callM1 (fun _ => rfl) (fun p q _ _ => by cases p <;> rfl) fun v p H μ S Q rs rv h => ?_⟩
  cases rv with
  | int i =>
    obtain ⟨hl, h⟩ := iff_post h
    exact ⟨i, rfl, hl.1, hl.2, now_ rs (.int _) h⟩
  | _ => exact h.elim
theorem seqM_of {K : PySem.W.Frag} {H : Hp} {μ : Mu} {S : Sto} {p : PV} {v : V} {xs : List PV} (e : asL p S = some xs) (rs : RelS K H μ S) (rv : Rp K H μ v p) : ∃ a vs, v = .ref a ∧ SqL K H a vs ∧ RpL K H μ vs xs := asL_ok e rs rv
theorem c_tuple : CallR X (.type "tuple") (fun xs H Q => ∃ p ys, xs = [.ref p] ∧ ((SqL X.K H p ys ∧ ∀ l, H l = none → Q (.ref l) (upd H l (.tup ys))) ∨ (SqT X.K H p ys ∧ Q (.ref p) H))) ∧ CallM X E (fun xs H Q => ∃ p ys, xs = [.ref p] ∧ ((SqL X.K H p ys ∧ ∀ l, H l = none → Q (.ref l) (upd H l (.tup ys))) ∨ (SqT X.K H p ys ∧ Q (.ref p) H))) tupleM := by
  refine ⟨call_tuple_of, callM1 (fun _ => rfl) (fun p q _ _ => by cases p <;> rfl) fun v p H μ S Q rs rv h => ?_⟩
  have gen : ∀ {p : PV}, Rp X.K H μ v p → Post X.K X.mg E H μ (match asL p S with
    | some xs => .ok (.tup xs) S
    | none => .stuck) (kE X.K Q) → ∃ p ys, [v] = [.ref p] ∧ ((SqL X.K H p ys ∧ ∀ l, H l = none → Q (.ref l) (upd H l (.tup ys))) ∨ (SqT X.K H p ys ∧ Q (.ref p) H)) := by
    intro p rv h
    split at h
    · rename_i xs e
      obtain ⟨a, ws, rfl, hq, r⟩ := asL_ok e rs rv
      exact ⟨a, ws, rfl, .inl ⟨hq, fun l hl => new_tup rs r h l hl⟩⟩
    · exact h.elim
  cases rv with
  | @tup a vs ps hq r => exact ⟨a, vs, rfl, .inr ⟨hq, now_ rs (.tup hq r) h⟩⟩
  | non => exact gen .non h
  | bl b => exact gen (.bl b) h
  | int b => exact gen (.int b) h
  | str b => exact gen (.str b) h
  | lst n z r => exact gen (.lst n z r) h
  | frz z r => exact gen (.frz z r) h
  | loc z => exact gen (.loc z) h
  | dct y z => exact gen (.dct y z) h
theorem c_list : CallR X (.type "list") (fun xs H Q => ∃ p ys, xs = [.ref p] ∧ (SqL X.K H p ys ∨ SqT X.K H p ys) ∧ ∀ l, H l = none → Q (.ref l) (upd H l (.lst ys))) ∧ CallM X E (fun xs H Q => ∃ p ys, xs = [.ref p] ∧ (SqL X.K H p ys ∨ SqT X.K H p ys) ∧ ∀ l, H l = none → Q (.ref l) (upd H l (.lst ys))) listM := by
  refine ⟨call_list_of, callM1 (fun _ => rfl) (fun p q _ _ => by cases p <;> rfl) fun v p H μ S Q rs rv h => ?_⟩
  have gen : ∀ {p : PV}, Rp X.K H μ v p → Post X.K X.mg E H μ (match asL p S with
    | some xs => .ok (.lst xs) S
    | none => .stuck) (kE X.K Q) → ∃ p ys, [v] = [.ref p] ∧ (SqL X.K H p ys ∨ SqT X.K H p ys) ∧ ∀ l, H l = none → Q (.ref l) (upd H l (.lst ys)) := by
    intro p rv h
    split at h
    · rename_i xs e
      obtain ⟨a, ws, rfl, hq, r⟩ := asL_ok e rs rv
      exact ⟨a, ws, rfl, .inl hq, fun l hl => new_lst rs r h l hl⟩
    · exact h.elim
  cases rv with
  | @tup a vs ps hq r => exact ⟨a, vs, rfl, .inr hq, fun l hl => new_lst rs r h l hl⟩
  | non => exact gen .non h
  | bl b => exact gen (.bl b) h
  | int b => exact gen (.int b) h
  | str b => exact gen (.str b) h
  | lst n z r => exact gen (.lst n z r) h
  | frz z r => exact gen (.frz z r) h
  | loc z => exact gen (.loc z) h
  | dct y z => exact gen (.dct y z) h

/-! ### repr of data -/
mutual
theorem noDict0 : ∀ d : PyData, d.canLay0 = true → d.hasDict = false
  | .none, _ => by simp [PyData.hasDict]
  | .bool _, _ => by simp [PyData.hasDict]
  | .int _, _ => by simp [PyData.hasDict]
  | .str _, _ => by simp [PyData.hasDict]
  | .list xs, h => by simp only [PyData.hasDict]; exact noDictL0 xs (by simpa [PyData.canLay0] using h)
  | .tuple xs, h => by simp only [PyData.hasDict]; exact noDictL0 xs (by simpa [PyData.canLay0] using h)
  | .dict _, h => by simp [PyData.canLay0] at h
theorem noDictL0 : ∀ xs : List PyData, PyData.canLayAll0 xs = true → PyData.hasDictAll xs = false
  | [], _ => by simp [PyData.hasDictAll]
  | x :: xs, h => by
    simp only [PyData.canLayAll0, Bool.and_eq_true] at h
    simp only [PyData.hasDictAll, noDict0 x h.1, noDictL0 xs h.2, Bool.or_self]
end
def rRepr (K : PySem.W.Frag) : List V → Hp → VK → Prop := fun xs H Q => ∃ x d, xs = [x] ∧ Dp K H x d ∧ d.showable = true ∧ SeqAt.shaped d = true ∧ d.shown.length ≤ sizeLine ∧ Q (.str d.shown) H
theorem cr_reprD (hg : X.A.guards = some []) (hu : X.A.units + 66 < cLine) : CallR X (.builtin "repr") (rRepr X.K) := by
  intro pins s σ H xs us Q I r h
  obtain ⟨x, d, rfl, dp, sh, sp, hz, q⟩ := h
  obtain ⟨u, rfl, ru⟩ := vals1 r
  obtain ⟨c1, c2⟩ := Bool.and_eq_true_iff.mp (show (d.canLay0 && decide (d.depth ≤ 64)) = true from sp)
  have c3 := of_decide_eq_true c2
  obtain ⟨as, rd⟩ := Dp.reads I d x u dp ru
  have big : ∀ a, u = .ref a → wpAny (model X.prog X.w) X.A (call (.builtin "repr") [u]) (EP X pins σ Q) X.xe s := fun a e => by
    subst e
    exact repr_of_reads' rd sh (fun z => by rw [noDict0 d c1] at z; cases z) hg (by omega) (fun _ _ e => e) (fun h' t tk k => ⟨.str d.shown, H, I.kept k, ⟨_, rfl⟩, q⟩) hz
  cases dp with
  | non =>
    obtain rfl : u = Value.none := ru
    exact PySem.P.repr_of_none ⟨.str _, H, I.tok _, ⟨_, rfl⟩, by simpa [PyData.shown] using q⟩
  | bl b =>
    obtain rfl : u = Value.bool b := ru
    exact PySem.P.repr_of_bool ⟨.str _, H, I.tok _, ⟨_, rfl⟩, by simpa [PyData.shown] using q⟩
  | int i =>
    obtain ⟨t, rfl⟩ := ru
    exact PySem.P.repr_of_int (by simpa [PyData.showable] using sh) ⟨.str _, H, I.tok _, ⟨_, rfl⟩, by simpa [PyData.shown] using q⟩
  | str z =>
    obtain ⟨t, rfl⟩ := ru
    exact PySem.P.repr_of_str (x := z) (hsz := by simpa [PyData.shown] using hz) ⟨.str _, H, I.tok _, ⟨_, rfl⟩, by simpa [PyData.shown] using q⟩
  | lst h1 h2 =>
    obtain rfl : u = Value.ref _ := ru
    exact big _ rfl
  | tup h1 h2 =>
    obtain rfl : u = Value.ref _ := ru
    exact big _ rfl
theorem c_repr (hg : X.A.guards = some []) (hu : X.A.units + 66 < cLine) : CallR X (.builtin "repr") (rRepr X.K) ∧ CallM X E (rRepr X.K) reprM := by
  refine ⟨cr_reprD hg hu, callM1 (fun _ => rfl) (fun p q _ _ => rfl) fun v p H μ S Q rs rv h => ?_⟩
  simp only [reprM] at h
  split at h
  · rename_i d e
    obtain ⟨⟨h1, h2, h3⟩, h⟩ := iff_post h
    exact ⟨v, d, rfl, dataS_dp rs rv e, h1, h2, lim_le h3, now_ rs (.str _) h⟩
  · exact h.elim

/-! ### isinstance -/
def kindsP : List String := ["NoneType", "bool", "int", "str", "tuple", "list", "dict"]
theorem kind_mem (p : PV) : kindP p ∈ kindsP := by cases p <;> simp [kindP, kindsP]
theorem ty_of {K : PySem.W.Frag} {H : Hp} {μ : Mu} {S : Sto} {v : V} {p : PV} (rs : RelS K H μ S) (r : Rp K H μ v p) : TyX K H v (.type (kindP p)) := by
  cases r with
  | non => exact .base .non
  | bl b => exact .base (.bl b)
  | int i => exact .base (.int i)
  | str x => exact .base (.str x)
  | tup hq _ =>
    rcases hq with (h | ⟨o, h⟩) | ⟨o, its, n, h1, h2, _⟩
    · exact .base (.tup h)
    · exact .fTuple h
    · exact .kTuple h1 h2
  | lst _ h _ => exact .base (.lst h)
  | frz h _ =>
    rcases h with ⟨o, h⟩ | ⟨o, its, n, h1, h2, _⟩
    · exact .base (.frz h)
    · exact .kList h1 h2
  | @loc a n h =>
    obtain ⟨vs, e⟩ := rs.has (.inl (List.mem_of_getElem? h))
    exact .base (.lst e)
  | dct _ h => exact .base (.dK h)
theorem pm_isi {a : Expr} {m : ED} {T : String} {x : Str} {p p2 pos : Pos} (hT : ∀ k ∈ kindsP, kitB k T = some (isT T k)) (hm : X.mg "isinstance" = none) (hm2 : X.mg x = none) (hv2 : bootBuiltins x = some (.type T)) (ha : PM X E a m) (hg : Gl X "isinstance" := by rfl) (hg2 : Gl X x := by rfl)
    (hn : x ≠ "__name__" := by decide) (hdb : (x == ("__debug__" : Str)) = false := by decide)
    (he : starEach [a, .Name x p2] X.env = (false, eval a X.env) :: starEach [.Name x p2] X.env := by rfl) (he2 : starEach [.Name x p2] X.env = (false, eval (.Name x p2) X.env) :: starEach [] X.env := by rfl) (hpl : (backTo pos (starEach [.Name x p2] X.env)).any (·.1) = false := by rfl) :
    PM X E (.Call (.Name "isinstance" p) [a, .Name x p2] [] pos) (dUn (isiM T) m) := by
  refine PE.imp (pe_callB call_isi hg hm (by decide +kernel) (pa_cons ha (pa_cons (pe_bltn (v := .ty T) hg2 hm2 hv2 rfl hn hdb) pa_nil he2) he) (by decide) (by decide) he hpl) fun σ H Q ⟨ρ, S, μ, re, rs, h⟩ => ?_
  refine stepE re rs h fun v p S1 H1 μ1 re1 rs1 rv g1 h1 => ?_
  exact ⟨v, .ty T, .type (kindP p), .type T, isT T (kindP p), rfl, .ty T, ty_of rs1 rv, kit_ty (hT _ (kind_mem p)), now_ rs1 (.bl _) h1⟩
theorem kit_int : ∀ k ∈ kindsP, kitB k "int" = some (isT "int" k) := by decide +kernel
theorem kit_bool : ∀ k ∈ kindsP, kitB k "bool" = some (isT "bool" k) := by decide +kernel
theorem kit_str : ∀ k ∈ kindsP, kitB k "str" = some (isT "str" k) := by decide +kernel
theorem kit_tuple : ∀ k ∈ kindsP, kitB k "tuple" = some (isT "tuple" k) := by decide +kernel
theorem kit_list : ∀ k ∈ kindsP, kitB k "list" = some (isT "list" k) := by decide +kernel
end

/-! ### append -/
/-- a list of the store gets one more -/
def appM (p q : PV) : M PV := fun S => match p with
  | .loc n => match S[n]? with
    | some (.lst xs) => if xs.length < LIM then .ok .non (S.set n (.lst (xs ++ [q]))) else .stuck
    | none => .stuck
  | _ => .stuck
def dApp (m n : ED) : ED := fun ρ => bnd (m ρ) fun p => match p with
  | .loc k => bnd (n ρ) fun q => appM (.loc k) q
  | _ => stk
theorem pm_append {X : Cx} {E : XK} {o e : Expr} {m n : ED} {apos cpos : Pos} (ho : PM X E o m) (ha : PM X E e n)
    (hp : ∀ {to : TE} {t : TA}, PE X o to → PA X [e] t → PE X (.Call (.Attribute o "append" apos) [e] [] cpos) (tBM X.K "list" rAppend to t) := by intro to t h1 h2; exact pe_bm PySem.F.plainAttrs_list PySem.F.slot_list_append PySem.F.type_list_append mt_append h1 h2)
    (hs : starEach [e] X.env = (false, eval e X.env) :: starEach [] X.env := by rfl) : PM X E (.Call (.Attribute o "append" apos) [e] [] cpos) (dApp m n) := by
  refine PE.imp (hp ho (pa_cons ha pa_nil hs)) fun σ H Q ⟨ρ, S, μ, re, rs, h⟩ => ?_
  refine stepE re rs h fun v p S1 H1 μ1 re1 rs1 rv g1 h1 => ?_
  cases rv with
  | @loc a k hk =>
    obtain ⟨ws, hw⟩ := rs1.has (.inl (List.mem_of_getElem? hk))
    refine ⟨.inl ⟨rfl, ws, SqL.of hw⟩, stepE re1 rs1 h1 fun w q S2 H2 μ2 re2 rs2 rw' g2 h2 => ?_⟩
    simp only [appM] at h2
    split at h2
    · rename_i xs q2
      obtain ⟨hl, h2⟩ := iff_post h2
      have hk2 := g2.pre hk
      obtain ⟨vs, hv, rl⟩ := rs2.at_ k _ a q2 hk2
      refine ⟨a, vs, w, rfl, rfl, hv, by rw [rl.length]; exact lim_lt hl, ?_⟩
      have g := grow_put (o := .lst (vs ++ [w])) rs2 hk2
      exact h2 _ _ g (rs2.put hk2 (rl.append (.cons rw' .nil))) _ .non
    · exact h2.elim
  | _ => exact h1.elim
/-! ## l.index(x) -/
def indexM (p q : PV) : M PV := fun S => match dataS p S, dataS q S with
  | some (.list ds), some d => if SeqAt.shaped (.list ds) = true ∧ SeqAt.shaped d = true then (match ds.findIdx? fun z => PyData.eqv z d with
    | some j => .ok (.int (j : Nat)) S
    | none => .stuck) else .stuck
  | _, _ => .stuck
def dIx (m n : ED) : ED := fun ρ => bnd (m ρ) fun p => match p with
  | .lst ps => bnd (n ρ) fun q => indexM (.lst ps) q
  | .loc k => bnd (n ρ) fun q => indexM (.loc k) q
  | _ => stk
theorem findI {ds : List PyData} {d : PyData} {j : Nat} (e : (ds.findIdx? fun z => PyData.eqv z d) = some j) : ∃ z, ds[j]? = some z ∧ PyData.eqv z d = true ∧ ∀ (m : Nat) (z' : PyData), m < j → ds[m]? = some z' → PyData.eqv z' d = false := by
  obtain ⟨h1, h2, h3⟩ := List.findIdx?_eq_some_iff_getElem.mp e
  refine ⟨ds[j], List.getElem?_eq_getElem h1, h2, fun m z' hm hz => ?_⟩
  obtain ⟨hl, rfl⟩ := List.getElem?_eq_some_iff.mp hz
  have := h3 m hm
  simpa using this
theorem index_of {X : Cx} {E : XK} {H : Hp} {μ : Mu} {S : Sto} {a : Addr} {w : V} {p q : PV} {Q : VK} (rs : RelS X.K H μ S) (rp : Rp X.K H μ (.ref a) p) (rq : Rp X.K H μ w q) (h : Post X.K X.mg E H μ (indexM p q S) (kE X.K Q)) : rIndexD X.K (.ref a) [w] H Q := by
  unfold indexM at h
  split at h
  · rename_i ds d e1 e2
    split at h
    · rename_i sh
      split at h
      · rename_i j ej
        obtain ⟨z, h1, h2, h3⟩ := findI ej
        exact ⟨a, w, d, ds, j, z, rfl, rfl, dataS_dp rs rp e1, dataS_dp rs rq e2, sh.1, sh.2, h1, h2, h3, now_ rs (.int _) h⟩
      · exact h.elim
    · exact h.elim
  · exact h.elim
theorem pm_index {X : Cx} {E : XK} {o e : Expr} {m n : ED} {apos cpos : Pos} (hu : X.A.units + 65 < cLine) (ho : PM X E o m) (ha : PM X E e n)
    (hp : ∀ {to : TE} {t : TA}, MtR X "list.index" (rIndexD X.K) → PE X o to → PA X [e] t → PE X (.Call (.Attribute o "index" apos) [e] [] cpos) (tBM X.K "list" (rIndexD X.K) to t) := by intro to t h0 h1 h2; exact pe_bm PySem.F.plainAttrs_list PySem.F.slot_list_index PySem.F.type_list_index h0 h1 h2)
    (hs : starEach [e] X.env = (false, eval e X.env) :: starEach [] X.env := by rfl) : PM X E (.Call (.Attribute o "index" apos) [e] [] cpos) (dIx m n) := by
  refine PE.imp (hp (mt_indexD hu) ho (pa_cons ha pa_nil hs)) fun σ H Q ⟨ρ, S, μ, re, rs, h⟩ => ?_
  refine stepE re rs h fun v p S1 H1 μ1 re1 rs1 rv g1 h1 => ?_
  cases rv with
  | @loc a k hk =>
    obtain ⟨ws, hw⟩ := rs1.has (.inl (List.mem_of_getElem? hk))
    refine ⟨.inl ⟨rfl, ws, SqL.of hw⟩, stepE re1 rs1 h1 fun w q S2 H2 μ2 re2 rs2 rw' g2 h2 => ?_⟩
    exact index_of rs2 (Rp.grow (.loc hk) g2) rw' h2
  | @lst a vs ps hn hl r =>
    refine ⟨.inl ⟨rfl, _, SqL.of hl⟩, stepE re1 rs1 h1 fun w q S2 H2 μ2 re2 rs2 rw' g2 h2 => ?_⟩
    exact index_of rs2 (Rp.grow (.lst hn hl r) g2) rw' h2
  | _ => exact h1.elim
end Pm

namespace Pm
open PySem PySem.Spec L2

/-! ## contexts -/
section
variable {X : Cx} {P : Program} {w : World} {K : PySem.W.Frag} {mg : Str → Option Value} {base : Heap} {k : Nat} {E : XK}
theorem At.blk (A : At X P w K mg base k E) {s : Shared} {H : Hp} {scope : Scope} {cenv : Env} {fp : List Addr} : At (X.blk s H scope cenv fp) P w K mg base k E0 :=
  ⟨A.prog, A.w, A.K, A.mg, A.base, A.room, A.guards, passL⟩
theorem At.u (A : At X P w K mg base k E) : X.A.units + 64 < cLine := A.room.units
theorem At.u66 (A : At X P w K mg base k E) : X.A.units + 66 < cLine := by have := A.room.un; omega
theorem At.u65 (A : At X P w K mg base k E) : X.A.units + 65 < cLine := by have := A.room.un; omega
end

/-! ## the law's own call -/
open Classical in
/-- only the script is tracked -/
noncomputable def scrH (K : PySem.W.Frag) (a : Addr) (o : Obj) (ns : List Int) : Hp := fun b => if b = a ∧ K.lookup a = none then some (.frz o (.lst (ns.map V.int))) else none
theorem rp_ints {K : PySem.W.Frag} {H : Hp} {μ : Mu} : ∀ ns : List Int, RpL K H μ (ns.map V.int) (ns.map PV.int)
  | [] => .nil
  | n :: ns => .cons (.int n) (rp_ints ns)
open Classical PyProof.Rows in
theorem law_G {P : Program} {w : World} {K : PySem.W.Frag} {mg mb : Str → Option Value} {k : Nat} {fa a : Addr} {fd : FuncData} {x : Str} {s1 : Shared} {vs : List Value} {ns : List Int} {sem : List PV → M PV}
    (KX : K.In s1.heap) (hns : s1.heap.Ns mainGlobals mg) (hb : s1.heap.Ns builtinsNs mb) (hbb : ∀ x : Str, x ≠ "__name__" → mb x = bootBuiltins x) (hlim : s1.heap.NoLimit) (hg : s1.gens = #[])
    (ha : s1.heap.get? a = some { cls := .type "list", data := .seq vs.toArray }) (hi : IntsAre vs ns) (hl : ns.length ≤ sizeLine) (hr : Room k callerA)
    (F : ∀ base : Heap, K.In base → base.Ns mainGlobals mg → FnG P w K mg base k fa fd [x] (spF K mg 1 sem)) (hbind : ∀ (s : Shared) (u : Value), BindsTo s fd ⟨[u], []⟩ [(x, u)])
    (law : ∃ S, sem [.frz (ns.map PV.int)] [] = .ok (.bl true) S) :
    codeAny (model P w) callerA (.call (.ref fa) ⟨[.ref a], []⟩) (fun r s' => r = .ok (.ret (.bool true)) ∧ OldK s1.heap s'.heap ∧ s'.os = s1.os ∧ AllBare s'.gens) s1 := by
  generalize hob : ({ cls := .type "list", data := .seq vs.toArray } : Obj) = ob at ha
  generalize hH : scrH K a ob ns = H
  have vints := vals_ints hi
  have onlyA : ∀ b u, H b = some u → b = a ∧ K.lookup a = none ∧ u = .frz ob (.lst (ns.map V.int)) := fun b u e => by
    rw [← hH] at e
    unfold scrH at e
    split at e
    · rename_i c; cases e; exact ⟨c.1, c.2, rfl⟩
    · cases e
  have okH : HOk P w H s1.heap := fun b u e => by
    obtain ⟨rfl, _, rfl⟩ := onlyA b u e
    show s1.heap.get? b = some ob ∧ _
    refine ⟨ha, ?_⟩
    subst hob
    exact ⟨by rw [List.length_map]; exact hl, vs, _, vints, ha⟩
  have scr : FrzL K H a (ns.map V.int) := by
    cases q : K.lookup a with
    | none => exact .inl ⟨ob, by rw [← hH]; unfold scrH; rw [if_pos ⟨rfl, q⟩]⟩
    | some o =>
      have e := KX a o q
      rw [ha] at e
      cases e
      subst hob
      exact .inr ⟨_, vs.toArray, _, q, rfl, rfl, rfl, by rw [List.size_toArray, hi.length]; exact hl, by simpa using vints⟩
  -- a dict is not the script
  have dictFree : ∀ {b : Addr} {o : Obj} {es : Array DictEntry} {ep : Nat}, s1.heap.get? b = some o → o.data = .dict es ep → H b = none := fun {b o es ep} e1 e2 => by
    cases q : H b with
    | none => rfl
    | some u =>
      obtain ⟨rfl, _, _⟩ := onlyA b u q
      rw [ha] at e1
      cases e1
      subst hob
      cases e2
  have nsH : ∀ {b : Addr} {m : Str → Option Value}, s1.heap.Ns b m → (hidT s1.heap H).Ns b m := fun {b m} ⟨o, es, ep, e1, e2, r⟩ => ⟨o, es, ep, hidT_get e1 (dictFree e1 e2), e2, r⟩
  have inH : K.In (hidT s1.heap H) := fun b o e => hidT_get (KX b o e) (by
    cases q : H b with
    | none => rfl
    | some u =>
      obtain ⟨rfl, z, _⟩ := onlyA b u q
      rw [z] at e; cases e)
  obtain ⟨mc, l1, l2⟩ := hlim
  have e0 : Env0 P w K mg (hidT s1.heap H) callerA [] s1 H := ⟨rfl, ⟨inH, nsH hns, ⟨mb, nsH hb, hbb⟩, ⟨mc, nsH l1, l2⟩⟩, fun b o e => of_hidT e, Nat.le_of_eq (hidT_size _ _), trivial, (fun b hb => nomatch (show b ∈ ([] : List Addr) from hb)), okH, .of_eq hg⟩
  obtain ⟨Sf, hlaw⟩ := law
  have hsp : spF K mg 1 sem [.ref a] H (fun v _ => v = .bl true) E0 := by
    refine ⟨rfl, [.frz (ns.map PV.int)], [], ⟨[], []⟩, ⟨rfl, .nil, fun _ z => (nomatch z), fun _ _ _ z => (by simp at z)⟩, .cons (.frz scr (rp_ints ns)) .nil, ?_⟩
    rw [hlaw]
    intro H' μ' _ _ v rv
    cases rv
    rfl
  refine codeAny_mono ((F _ inH (nsH hns)).run callerA [] s1 H ⟨[.ref a], []⟩ [.ref a] [.ref a] _ _ hr rfl e0 (hbind s1 (.ref a)) (.cons rfl .nil) hsp) fun r s' h => ?_
  cases r with
  | error e =>
    obtain ⟨_, _, _, _, _, _, _, _, _, _, _, _, z⟩ := h
    exact z.elim
  | ok fl =>
    cases fl with
    | ret u =>
      obtain ⟨v, H', os, bare, un, hok', r', q⟩ := h
      obtain rfl : v = .bl true := q
      obtain rfl : u = Value.bool true := r'
      refine ⟨rfl, OldK.of_keep fun b o e => ?_, os, bare⟩
      cases q : H b with
      | none => exact un.keep b o e q (fun z => nomatch (show b ∈ ([] : List Addr) from z)) (fun z => nomatch z)
      | some u =>
        obtain ⟨rfl, _, rfl⟩ := onlyA b u q
        rw [ha] at e
        cases e
        exact (hok' b _ (un.frzs b _ _ q)).1
    | next => exact False.elim h
    | brk => exact False.elim h
    | cont => exact False.elim h
theorem walk_G {l : PySem.W.OpenLaw} {n k : Nat} {q : Program} {loose : List Str} {XP : (Str → Option Value) → Heap → Prop} {YP : World → Heap → Prop} {d : DefRec} {x : Str} {sem : List PV → M PV}
    (hn : l.most = some n) (hn2 : n ≤ sizeLine) (hdf : d.params.defaults = []) (hr : Room k callerA)
    (F : ∀ (w : World) (mg : Str → Option Value) (fa : Addr) (h : Heap), YP w h → h.Ns mainGlobals mg → mg d.name = some (.ref fa) →
      ∃ (K : PySem.W.Frag) (fd : FuncData), K.In h ∧ (∀ (s : Shared) (u : Value), BindsTo s fd ⟨[u], []⟩ [(x, u)]) ∧
        ∀ base : Heap, K.In base → base.Ns mainGlobals mg → FnG l.prog w K mg base k fa fd [x] (spF K mg 1 sem))
    (law : ∀ ns : List Int, ns.length ≤ n → ∃ S, sem [.frz (ns.map PV.int)] [] = .ok (.bl true) S) :
    PySem.W.WalkO q loose XP YP l.row.toRowW d [] (fun f vs => PySem.call f vs) := by
  refine Att.attach_call hn hdf fun w s0 s1 mg mb fa o pm cd doc a vs ns G Y ho hd hcd hmg hobj hints hlen hg => ?_
  obtain ⟨K, fd, KX, hb, hF⟩ := F w mg fa _ Y G.T.g hmg
  exact law_G KX G.T.g G.T.b G.T.builtins G.T.nolimit hg hobj hints (Nat.le_trans hlen hn2) hr hF hb (law ns hlen)

/-! ## the head's facts -/
mutual
def pvB (K : PySem.W.Frag) : Value → PV → Bool
  | .none, .non => true
  | .bool b, .bl c => b == c
  | .int i _, .int j => decide (i = j)
  | .str x _, .str y => decide (x = y)
  | .ref a, .tup ps => match K.lookup a with
    | some ⟨.type c, _, .seq its _, _⟩ => decide (c = "tuple") && (decide (its.size ≤ sizeLine) && pvBL K its.toList ps)
    | _ => false
  | _, _ => false
def pvBL (K : PySem.W.Frag) : List Value → List PV → Bool
  | [], [] => true
  | u :: us, p :: ps => pvB K u p && pvBL K us ps
  | _, _ => false
end
mutual
theorem pvB_ok {K : PySem.W.Frag} : ∀ (u : Value) (p : PV), pvB K u p = true → ∃ v, RelV v u ∧ ∀ H μ, Rp K H μ v p
  | u, .non, h => by cases u <;> simp [pvB] at h; exact ⟨.non, rfl, fun _ _ => .non⟩
  | u, .bl c, h => by cases u <;> simp [pvB] at h; subst h; exact ⟨.bl _, rfl, fun _ _ => .bl _⟩
  | u, .int c, h => by cases u <;> simp [pvB] at h; subst h; exact ⟨.int _, ⟨_, rfl⟩, fun _ _ => .int _⟩
  | u, .str c, h => by cases u <;> simp [pvB] at h; subst h; exact ⟨.str _, ⟨_, rfl⟩, fun _ _ => .str _⟩
  | u, .tup ps, h => by
    cases u with
    | ref a =>
      simp only [pvB] at h
      split at h
      · rename_i c od its n sl q
        simp only [Bool.and_eq_true, decide_eq_true_eq] at h
        obtain ⟨h1, h2, h3⟩ := h
        subst h1
        obtain ⟨vs, r1, r2⟩ := pvBL_ok its.toList ps h3
        exact ⟨.ref a, rfl, fun H μ => .tup (.inr ⟨_, its, n, q, rfl, rfl, h2, r1⟩) (r2 H μ)⟩
      · cases h
    | _ => simp [pvB] at h
  | u, .lst _, h => by cases u <;> simp [pvB] at h
  | u, .frz _, h => by cases u <;> simp [pvB] at h
  | u, .loc _, h => by cases u <;> simp [pvB] at h
  | u, .dct, h => by cases u <;> simp [pvB] at h
theorem pvBL_ok {K : PySem.W.Frag} : ∀ (us : List Value) (ps : List PV), pvBL K us ps = true → ∃ vs, Vals vs us ∧ ∀ H μ, RpL K H μ vs ps
  | [], [], _ => ⟨[], .nil, fun _ _ => .nil⟩
  | [], _ :: _, h => by simp [pvBL] at h
  | _ :: _, [], h => by simp [pvBL] at h
  | u :: us, p :: ps, h => by
    simp only [pvBL, Bool.and_eq_true] at h
    obtain ⟨v, r1, r2⟩ := pvB_ok u p h.1
    obtain ⟨vs, t1, t2⟩ := pvBL_ok us ps h.2
    exact ⟨v :: vs, .cons r1 t1, fun H μ => .cons (r2 H μ) (t2 H μ)⟩
end
def constB (K : PySem.W.Frag) (q : Str × PV) : Bool := match PySem.W.nsIn K mainGlobals q.1 with
  | some (some u) => pvB K u q.2
  | _ => false
theorem constB_ok {K : PySem.W.Frag} {h : Heap} {mg : Str → Option Value} (X : K.In h) (G : h.Ns mainGlobals mg) {x : Str} {p : PV} (c : constB K (x, p) = true) : GlobIs K mg x p := by
  unfold constB at c
  cases q : PySem.W.nsIn K mainGlobals x with
  | none => rw [q] at c; cases c
  | some o =>
    cases o with
    | none => rw [q] at c; cases c
    | some u =>
      rw [q] at c
      obtain ⟨v, r1, r2⟩ := pvB_ok u p c
      exact ⟨u, v, PySem.W.mg_of X G q, r1, r2⟩
def biB (K : PySem.W.Frag) (q : Str × String) : Bool := match PySem.W.nsIn K mainGlobals q.1 with
  | some (some (.builtin id)) => decide (id = q.2)
  | _ => false
theorem biB_ok {K : PySem.W.Frag} {h : Heap} {mg : Str → Option Value} (X : K.In h) (G : h.Ns mainGlobals mg) {x : Str} {id : String} (c : biB K (x, id) = true) : mg x = some (.builtin id) := by
  unfold biB at c
  split at c
  · rename_i i q
    have := of_decide_eq_true c
    subst this
    exact PySem.W.mg_of X G q
  · cases c
structure Tell where
  fa : List He.Fa
  fn : List He.DefD
  cs : List (Str × PV)
  bs : List (Str × String)
abbrev AlP : Type := Bool × He.AlD
def obsP (t : Tell) (K : PySem.W.Frag) : AlP := (t.cs.all (constB K) && t.bs.all (biB K), He.obsD t.fa t.fn K)
def valP (t : Tell) : AlP := (true, He.valD t.fn)
def SaysP (t : Tell) (K : PySem.W.Frag) : Prop := obsP t K = valP t
def obsPG (n : Nat) (t : Tell) (g : Addr → Option Obj) : AlP := obsP t (He.frG g (He.asD g n))
def hookP (n : Nat) (t : Tell) : PySem.W.Hook where
  α := AlP
  obs := fun s => obsPG n t s.heap.get?
  val := fun _ => valP t
  says := fun _ h => ∃ K : PySem.W.Frag, K.In h ∧ SaysP t K
  of := fun _ _ e => ⟨_, He.frG_in, e⟩
  keeps := fun _ _ _ ⟨K, h1, c⟩ k => ⟨K, PySem.W.Frag.In.keeps h1 k, c⟩
theorem obsPG_eq {n : Nat} {t : Tell} {g : Addr → Option Obj} {s : Shared} (h : ∀ a, g a = s.heap.get? a) : obsPG n t g = (hookP n t).obs s := by
  obtain rfl : g = s.heap.get? := funext h
  rfl
section
variable {t : Tell} {K : PySem.W.Frag} {h : Heap} {mg : Str → Option Value}
theorem SaysP.d (c : SaysP t K) : He.SaysD t.fa t.fn K := congrArg (fun z : AlP => z.2) c
theorem SaysP.b (c : SaysP t K) : (t.cs.all (constB K) && t.bs.all (biB K)) = true := congrArg (fun z : AlP => z.1) c
theorem SaysP.const (c : SaysP t K) (X : K.In h) (G : h.Ns mainGlobals mg) (i : Nat) {x : Str} {p : PV} (e : t.cs[i]? = some (x, p) := by rfl) : GlobIs K mg x p :=
  constB_ok X G (List.all_eq_true.mp (Bool.and_eq_true_iff.mp c.b).1 _ (List.mem_of_getElem? e))
theorem SaysP.bi (c : SaysP t K) (X : K.In h) (G : h.Ns mainGlobals mg) (i : Nat) {x : Str} {id : String} (e : t.bs[i]? = some (x, id) := by rfl) : mg x = some (.builtin id) :=
  biB_ok X G (List.all_eq_true.mp (Bool.and_eq_true_iff.mp c.b).2 _ (List.mem_of_getElem? e))
theorem SaysP.free (c : SaysP t K) (X : K.In h) (G : h.Ns mainGlobals mg) (i : Nat) {x : Str} (e : t.fa[i]? = some (.free x) := by rfl) : mg x = none := He.free_ok X G (c.d.fact i e)
end
end Pm

namespace Pm
open PySem PySem.Spec L2

/-! ## the top's run, looked at in several declarations (each has its own memory) -/
theorem map3 {α β γ δ : Type} {o : Option α} {f : α → β} {g : α → γ} {h : α → δ} {b : β} {c : γ} {d : δ} (e1 : o.map f = some b) (e2 : o.map g = some c) (e3 : o.map h = some d) : o.map (fun x => (f x, g x, h x)) = some (b, c, d) := by
  cases o with
  | none => cases e1
  | some x =>
    simp only [Option.map_some, Option.some.injEq] at e1 e2 e3 ⊢
    rw [e1, e2, e3]
def Tell.app (t u : Tell) : Tell := ⟨t.fa ++ u.fa, t.fn ++ u.fn, t.cs ++ u.cs, t.bs ++ u.bs⟩
theorem obsP_app {t u : Tell} {K : PySem.W.Frag} (h1 : obsP t K = valP t) (h2 : obsP u K = valP u) : obsP (t.app u) K = valP (t.app u) := by
  obtain ⟨a1, b1⟩ := Prod.mk.inj h1
  obtain ⟨a2, b2⟩ := Prod.mk.inj h2
  obtain ⟨c1, d1⟩ := Prod.mk.inj b1
  obtain ⟨c2, d2⟩ := Prod.mk.inj b2
  simp only [Bool.and_eq_true] at a1 a2 c1 c2
  show ((t.cs ++ u.cs).all (constB K) && (t.bs ++ u.bs).all (biB K), (((t.fa ++ u.fa).all fun f => f.ok K) && (t.fn ++ u.fn).all fun d => d.ok K, (t.fn ++ u.fn).map fun d => He.fnW K d.at_)) = (true, (true, (t.fn ++ u.fn).map He.DefD.val))
  rw [List.all_append, List.all_append, List.all_append, List.all_append, List.map_append, List.map_append, a1.1, a1.2, a2.1, a2.2, c1.1, c1.2, c2.1, c2.2, d1, d2]
  rfl
theorem map_app {α : Type} {o : Option α} {t u : Tell} {n : Nat} {g : α → Addr → Option Obj} (h1 : o.map (fun x => obsPG n t (g x)) = some (valP t)) (h2 : o.map (fun x => obsPG n u (g x)) = some (valP u)) : o.map (fun x => obsPG n (t.app u) (g x)) = some (valP (t.app u)) := by
  cases o with
  | none => cases h1
  | some x =>
    simp only [Option.map_some, Option.some.injEq] at h1 h2 ⊢
    exact obsP_app h1 h2
end Pm

namespace Pm
open PySem PySem.Spec L2
open AutoSeq1 (wpAny_loadPart')
open PyProof.Rows
/-! ## enumerate of a tuple or a list -/
theorem en_new {v : Value} {o : Obj} {Z : Heap → Prop} (B : Begins v o Z) : Meets (Builtin.«enumerate.__new__» ⟨[.type "enumerate", v], []⟩) fun _ R s =>
    Z s.heap ∧ R (.ok (.ret (.ref (s.heap.push o).objs.size))) { s with heap := (s.heap.push o).push { cls := .type "enumerate", data := .fields #[.none, .bool false, .ref s.heap.objs.size, rawInt 0, .none, .none] } } := by
  refine .of_wp fun pr w A R s hz => ?_
  obtain ⟨hp, g, dr, tk, os⟩ := s
  obtain ⟨z, hz⟩ := hz
  have sub := sub_enumerate
  have it : ∀ {A' : Around} {E Q : Value → Shared → Prop}, Q (.ref hp.objs.size) ⟨hp.push o, g, dr, tk, os⟩ → wpAny (model pr w) A' (pyIter v) Q E ⟨hp, g, dr, tk, os⟩ := fun q => B.iter pr w _ _ ⟨hp, g, dr, tk, os⟩ _ z q
  wp_walk using it
  refine wpAny_stack_any fun _ => wpAny_pure ?_
  split
  · rename_i c _ _ _ _ _
    cases (c == Value.type "enumerate") <;> (wp_walk using it; exact ⟨_, rfl, hz⟩)
  · wp_walk using it
    exact ⟨_, rfl, hz⟩
theorem en_call {pr : Program} {w : World} {A : Around} {E Q : Value → Shared → Prop} {s : Shared} {v : Value} {o : Obj} {Z : Heap → Prop} (B : Begins v o Z) (z : Z s.heap)
    (q : ∀ h', IsEnum h' (s.heap.objs.size + 1) s.heap.objs.size 0 .none → h'.get? s.heap.objs.size = some o → (∀ b ob, s.heap.get? b = some ob → h'.get? b = some ob) → Q (.ref (s.heap.objs.size + 1)) { s with heap := h' }) :
    wpAny (model pr w) A (call (.type "enumerate") [v]) Q E s := by
  have z1 : (s.heap.push o).objs.size = s.heap.objs.size + 1 := Heap.size_push ..
  have en : IsEnum ((s.heap.push o).push { cls := .type "enumerate", data := .fields #[.none, .bool false, .ref s.heap.objs.size, rawInt 0, .none, .none] }) (s.heap.objs.size + 1) s.heap.objs.size 0 .none := by
    rw [← z1]
    exact Heap.get?_push_size (s.heap.push o) rfl
  have fin := q _ en (Heap.get?_push_of_some _ (Heap.get?_push_size _ B.free)) fun b ob x => Heap.get?_push_of_some _ (Heap.get?_push_of_some _ x)
  refine callType_new F.called_enumerate (by decide) (F.typeCall_enumerate_1 _) (F.newCall_enumerate_1 _)
    (fun ob => F.args_object_init_2 ob _) F.entry_enumerate_new (en_new B) ⟨z, ?_⟩
  rw [z1]
  exact ⟨⟨_, en, rfl⟩, fin⟩
/-- a tuple's things, each in a new pair with its number -/
def ItE (K : PySem.W.Frag) (a : Addr) : It where
  go := fun i H => ∃ vs y, SqT K H a vs ∧ vs[i]? = some y
  yld := fun i H v H2 => ∃ T y, v = .ref T ∧ H T = none ∧ H2 = upd H T (.tup [.int (i : Nat), y]) ∧ ∀ vs, SqT K H a vs → vs[i]? = some y
  stop := fun i H => ∃ vs, SqT K H a vs ∧ vs.length = i
theorem turn_en {P : Program} {w : World} {K : PySem.W.Frag} {es : List Expr} {n : Nat} {tp : Pos} (a e it : Addr) :
    Turn P w K (.Tuple es n tp) (ItE K a) [e, it] e fun i h => (∃ old, IsEnum h e it ((i : Nat) : Int) old) ∧ h.IsTupleIter it a i ∧ e ≠ it ∧ a ≠ e ∧ a ≠ it where
  mem := by simp
  self := fun A i s Q E st q => by obtain ⟨⟨_, en⟩, _⟩ := st; exact wpAny_pyIter_enum en q
  keep := fun i h h2 st k => by
    obtain ⟨⟨old, en⟩, ti, r⟩ := st
    exact ⟨⟨old, k e (by simp) _ en⟩, ti.at fun o q => k it (by simp) o q, r⟩
  obj := fun i h st b hb => by
    obtain ⟨⟨old, en⟩, ⟨o, ho, hc, hd⟩, _⟩ := st
    simp only [List.mem_cons, List.not_mem_nil, or_false] at hb
    rcases hb with rfl | rfl
    · exact ⟨_, en, fun v q => nomatch q⟩
    · exact ⟨o, ho, fun v q => by rw [hd] at q; cases q⟩
  item := by
    intro X hP hw hK hc i pins s σ H E I hf st hg
    subst hP hw hK
    obtain ⟨⟨old, en⟩, ti, n1, n2, n3⟩ := st
    obtain ⟨vs, y, hq, hy⟩ := hg
    obtain ⟨its, rv, p, _⟩ := I.tuple hq
    obtain ⟨u, hu, ru⟩ := rv.get hy
    have le : e < s.heap.objs.size := Heap.lt_size en
    have li : it < s.heap.objs.size := by obtain ⟨_, q, _⟩ := ti; exact Heap.lt_size q
    have D := Draws.tuple (prog := X.prog) (w := X.w) (A := X.A.in1) (show X.A.in1.handled = none from I.ok.hd hc) it a n3 its.toArray
    have hlt : i < its.toArray.size := by
      have := (List.getElem?_eq_some_iff.mp hu).1
      simpa using this
    refine wpAny_pyNext_enum_itemD D en ⟨ti, p⟩ hlt n1 (by simp; exact ⟨n1, Ne.symm n2⟩) fun u' h1 tk pu eo st1 hT hz hk => ?_
    obtain rfl : u' = u := by
      have : its.toArray[i]? = some u := by simpa using hu
      rw [this] at pu; exact (Option.some.inj pu).symm
    refine ⟨_, rfl, wpAny_letOwnedTupleGo_enum (s := { s with heap := h1, toks := tk + 1 }) eo fun h2 en2 sb => ?_⟩
    have hT2 : h2.get? s.heap.objs.size = some { cls := .type "tuple", data := .seq #[.int i tk, u'] } := by rw [sb.2 _ (Nat.ne_of_gt le)]; exact hT
    have ok2 : ObjOk X.prog X.w (upd H s.heap.objs.size (.tup [.int (i : Nat), y])) h2 s.heap.objs.size (.tup [.int (i : Nat), y]) :=
      ⟨by show 2 ≤ sizeLine; decide, [.int i tk, u'], .cons ⟨_, rfl⟩ (.cons ru .nil), ⟨_, hT2, rfl, _, rfl⟩⟩
    have I2 : Inv X pins σ (upd H s.heap.objs.size (.tup [.int (i : Nat), y])) { s with heap := h2, toks := tk + 1 } := by
      refine I.turnedNew (ch := [e, it]) (fun b ob hb q => ?_) hf (Nat.le_refl _) ok2
      have b1 : b ≠ e := fun z => hb (by simp [z])
      have b2 : b ≠ it := fun z => hb (by simp [z])
      rw [sb.2 b b1]
      exact hk b ob b1 b2 q
    refine ⟨.ref s.heap.objs.size, _, I2, rfl, ⟨_, y, rfl, I.hok.fresh (Nat.le_refl _), rfl, fun zs hz => ?_⟩, ⟨⟨u', ?_⟩, ?_, n1, n2, n3⟩, fun b hb => ?_⟩
    · rw [I.tuple_inj hz hq]; exact hy
    · have e1 : ((i + 1 : Nat) : Int) = (i : Int) + 1 := by omega
      rw [e1]
      exact en2
    · exact st1.1.at fun o q => by rw [sb.2 it (Ne.symm n1)]; exact q
    · have lb : b < s.heap.objs.size := by
        simp only [List.mem_cons, List.not_mem_nil, or_false] at hb
        rcases hb with rfl | rfl
        · exact le
        · exact li
      rw [upd_ne (Nat.ne_of_lt lb)]
      exact (hf b hb).1
  done := by
    intro X hP hw hK hc i pins s σ H E I hf st hg
    subst hP hw hK
    obtain ⟨⟨old, en⟩, ti, n1, n2, n3⟩ := st
    obtain ⟨vs, hq, hl⟩ := hg
    obtain ⟨its, rv, p, _⟩ := I.tuple hq
    have D := Draws.tuple (prog := X.prog) (w := X.w) (A := X.A.in1) (show X.A.in1.handled = none from I.ok.hd hc) it a n3 its.toArray
    obtain ⟨f0, f1, f2, f3, f4, f5⟩ := hf it (by simp)
    have hi : i = its.toArray.size := by
      have := rv.length
      simp; omega
    subst hi
    exact wpAny_pyNext_enum_endD D en ⟨ti, p⟩ fun h1 eb => ⟨rfl, I.turned (t' := s.toks) (fun b o hb q => eb b o hb q) f0 f1 f3 f4 f5⟩
/-- what stands behind enumerate(..) -/
def iEnu (K : PySem.W.Frag) (ta : TA) : TI := fun σ H R => ta σ H fun vs H1 => ∃ a, vs = [.ref a] ∧ ((∃ xs, SqT K H1 a xs) ∧ R (ItE K a) H1 ∨ (∃ xs, SqL K H1 a xs) ∧ R (Ite K a) H1)
theorem pi_enu {X : Cx} {e : Expr} {ta : TA} {p pos tp : Pos} {es : List Expr} {n : Nat} (hm : X.mg "enumerate" = none) (hg : Gl X "enumerate") (ha : PA X [e] ta) (hs : starEach [e] X.env = [(false, eval e X.env)]) :
    PI X (.Tuple es n tp) (.Call (.Name "enumerate" p) [e] [] pos) (iEnu X.K ta) := by
  refine ⟨fun pins s σ H R I h => ?_⟩
  refine Call_ (ld_blt I hg hm boot_enumerate (PyProof.Rows.callWith_type1 (thn (ha.run pos pins s σ H _ I h) fun us s1 z => ?_) hs rfl))
  obtain ⟨vs, H1, I1, r1, a, rfl, q1⟩ := z
  cases r1 with
  | cons r rr =>
    cases rr
    cases r
    rcases q1 with ⟨⟨xs, hq⟩, q⟩ | ⟨⟨xs, hq⟩, q⟩
    · obtain ⟨its, rv, pt, _⟩ := I1.tuple hq
      have la : a < s1.heap.objs.size := by obtain ⟨_, x, _⟩ := pt; exact Heap.lt_size x
      refine en_call (begins_tuple a its.toArray) pt fun h' en ht hk => wpAny_pyIter_enum en ?_
      refine ⟨s1.heap.objs.size + 1, [s1.heap.objs.size + 1, s1.heap.objs.size], _, _, H1, rfl, I1.kept (t' := s1.toks) hk, turn_en a (s1.heap.objs.size + 1) s1.heap.objs.size, ⟨⟨.none, en⟩, ⟨_, ht, rfl, rfl⟩, Nat.succ_ne_self _, Nat.ne_of_lt (Nat.lt_succ_of_lt la), Nat.ne_of_lt la⟩, fun b hb => ?_, q⟩
      simp only [List.mem_cons, List.not_mem_nil, or_false] at hb
      have hle : s1.heap.objs.size ≤ b := by
        rcases hb with rfl | rfl
        · exact Nat.le_succ _
        · exact Nat.le_refl _
      exact I1.fpOk hle (I1.hok.fresh hle)
    · obtain ⟨its, rv, pl, _⟩ := I1.list hq
      refine call_enumerate_list pl.isList fun h' en ti _ hk => wpAny_pyIter_enum en ?_
      refine ⟨s1.heap.objs.size + 1, [s1.heap.objs.size + 1, s1.heap.objs.size], _, _, H1, rfl, I1.kept (t' := s1.toks) hk, turn_enum a (s1.heap.objs.size + 1) s1.heap.objs.size, ⟨⟨.none, en⟩, ti, Nat.succ_ne_self _⟩, fun b hb => ?_, q⟩
      simp only [List.mem_cons, List.not_mem_nil, or_false] at hb
      have hle : s1.heap.objs.size ≤ b := by
        rcases hb with rfl | rfl
        · exact Nat.le_succ _
        · exact Nat.le_refl _
      exact I1.fpOk hle (I1.hok.fresh hle)
/-! ### its denotation -/
def enumF : Int → List PV → List PV
  | _, [] => []
  | i, p :: ps => .tup [.int i, p] :: enumF (i + 1) ps
theorem enumF_len : ∀ (i : Int) (ps : List PV), (enumF i ps).length = ps.length
  | _, [] => rfl
  | i, p :: ps => by simp [enumF, enumF_len (i + 1) ps]
theorem enumF_get : ∀ (ps : List PV) (i : Int) (k : Nat), (enumF i ps)[k]? = ps[k]?.map fun p => PV.tup [.int (i + k), p]
  | [], _, _ => by simp [enumF]
  | p :: ps, i, 0 => by simp [enumF]
  | p :: ps, i, k + 1 => by
    simp only [enumF, List.getElem?_cons_succ, enumF_get ps (i + 1) k]
    congr 1
    funext q
    have : i + 1 + (k : Int) = i + ((k + 1 : Nat) : Int) := by omega
    rw [this]
def enumA (ps : List PV) : M Src := fun S => match ps with
  | [.tup xs] => .ok ⟨enumF 0 xs, fun _ => True⟩ S
  | [.lst xs] => .ok ⟨enumF 0 xs, fun _ => True⟩ S
  | [.frz xs] => .ok ⟨enumF 0 xs, fun _ => True⟩ S
  | _ => .stuck
section
variable {X : Cx} {E : XK}
theorem itok_enT {H : Hp} {μ : Mu} {a : Addr} {vs : List V} {ps : List PV} {ok : Sto → Prop} (hq : SqT X.K H a vs) (r : RpL X.K H μ vs ps) : ItOk X.K H μ ok (ItE X.K a) (enumF 0 ps) where
  go := fun i H' μ' S' hi g rs o => by
    rw [enumF_len] at hi
    obtain ⟨v, e, _⟩ := r.get (List.getElem?_eq_getElem hi)
    exact ⟨vs, v, g.sqT hq, e⟩
  yld := fun i H' μ' S' x H2 hi g rs o ⟨T, y, ex, hn, e2, f⟩ => by
    rw [enumF_len] at hi
    obtain ⟨v, e, rv⟩ := r.get (List.getElem?_eq_getElem hi)
    have e3 := f _ (g.sqT hq)
    rw [e] at e3
    cases e3
    subst ex e2
    refine ⟨.tup [.int (i : Nat), ps[i]], by rw [enumF_get, List.getElem?_eq_getElem hi]; simp, grow_new rs hn, rs.new hn, .tup (SqT.of upd_same) ?_⟩
    exact .cons (.int _) (.cons ((rv.growW g).grow (grow_new rs hn)) .nil)
  stop := fun H' μ' S' g rs o => ⟨vs, g.sqT hq, by rw [enumF_len, r.length]⟩
theorem itok_enL {H : Hp} {μ : Mu} {a : Addr} {vs : List V} {ps : List PV} {ok : Sto → Prop} (hq : ∀ H' μ', GrowW H μ H' μ' → SqL X.K H' a vs) (r : RpL X.K H μ vs ps) : ItOk X.K H μ ok (Ite X.K a) (enumF 0 ps) where
  go := fun i H' μ' S' hi g rs o => by
    rw [enumF_len] at hi
    obtain ⟨v, e, _⟩ := r.get (List.getElem?_eq_getElem hi)
    exact ⟨vs, v, hq _ _ g, e⟩
  yld := fun i H' μ' S' x H2 hi g rs o ⟨T, y, ex, hn, e2, f⟩ => by
    rw [enumF_len] at hi
    obtain ⟨v, e, rv⟩ := r.get (List.getElem?_eq_getElem hi)
    have e3 := f _ (hq _ _ g)
    rw [e] at e3
    cases e3
    subst ex e2
    refine ⟨.tup [.int (i : Nat), ps[i]], by rw [enumF_get, List.getElem?_eq_getElem hi]; simp, grow_new rs hn, rs.new hn, .tup (SqT.of upd_same) ?_⟩
    exact .cons (.int _) (.cons ((rv.growW g).grow (grow_new rs hn)) .nil)
  stop := fun H' μ' S' g rs o => ⟨vs, hq _ _ g, by rw [enumF_len, r.length]; exact Nat.le_refl _⟩
theorem pmi_enum {as : AD} {a : Expr} {p pos tp : Pos} {es : List Expr} {n : Nat} (hm : X.mg "enumerate" = none) (ha : PAs X E [a] as) (hg : Gl X "enumerate" := by rfl) (hs : starEach [a] X.env = [(false, eval a X.env)] := by rfl) : PMI X E (.Tuple es n tp) (.Call (.Name "enumerate" p) [a] [] pos) (iAp enumA as) := by
  refine PI.imp (pi_enu hm hg ha hs) fun σ H R ⟨ρ, S, μ, re, rs, h⟩ => ?_
  refine stepA re rs h fun vs ps S1 H1 μ1 re1 rs1 rv g1 h1 => ?_
  cases rv with
  | nil => exact h1.elim
  | cons r t =>
    cases t with
    | cons _ _ => cases r <;> exact h1.elim
    | nil =>
      cases r with
      | @tup b vs xs hq rl => exact ⟨b, rfl, .inl ⟨⟨vs, hq⟩, h1 H1 μ1 .refl rs1 _ (itok_enT hq rl)⟩⟩
      | @lst b vs xs nh hq rl => exact ⟨b, rfl, .inr ⟨⟨vs, SqL.of hq⟩, h1 H1 μ1 .refl rs1 _ (itok_enL (fun H' μ' g => SqL.of (g.keep _ _ hq (.inl nh))) rl)⟩⟩
      | @frz b vs xs hq rl => exact ⟨b, rfl, .inr ⟨⟨vs, hq.sqL⟩, h1 H1 μ1 .refl rs1 _ (itok_enL (fun H' μ' g => (g.frz hq).sqL) rl)⟩⟩
      | _ => exact h1.elim
end
end Pm

namespace Pm
open PySem PySem.Spec L2
/-! ## starred things in a tuple's display; zip of two tuples or lists -/
def dStar (m : ED) (as : AD) : AD := fun ρ => bnd (m ρ) fun p => match p with
  | .lst xs => bnd (as ρ) fun ps => ret (xs ++ ps)
  | .tup xs => bnd (as ρ) fun ps => ret (xs ++ ps)
  | _ => stk
theorem rpL_app {K : PySem.W.Frag} {H : Hp} {μ : Mu} : ∀ {vs ws : List V} {ps qs : List PV}, RpL K H μ vs ps → RpL K H μ ws qs → RpL K H μ (vs ++ ws) (ps ++ qs)
  | _, _, _, _, .nil, h => h
  | _, _, _, _, .cons r rs, h => .cons r (rpL_app rs h)
section
variable {X : Cx} {E : XK}
theorem pma_star {m : ED} {as : AD} {e : Expr} {p : Pos} {es : List Expr} (ha : PM X E e m) (hr : PAs X E es as) (hs : starEach (.Starred e p :: es) X.env = (true, eval e X.env) :: starEach es X.env := by rfl) : PAs X E (.Starred e p :: es) (dStar m as) := by
  refine PA.imp (StX.pa_star ha hr hs) fun σ H Q ⟨ρ, S, μ, re, rs, h⟩ => ?_
  refine stepE re rs h fun v q S1 H1 μ1 re1 rs1 rv g1 h1 => ?_
  cases rv with
  | tup hq rl =>
    refine ⟨_, _, rfl, .inl hq, ?_⟩
    exact stepA re1 rs1 h1 fun vs ps S2 H2 μ2 re2 rs2 rvs g2 h2 => h2 H2 μ2 .refl rs2 _ (rpL_app (rl.grow g2) rvs)
  | lst nh hq rl =>
    refine ⟨_, _, rfl, .inr (SqL.of hq), ?_⟩
    exact stepA re1 rs1 h1 fun vs ps S2 H2 μ2 re2 rs2 rvs g2 h2 => h2 H2 μ2 .refl rs2 _ (rpL_app (rl.grow g2) rvs)
  | _ => exact h1.elim
/-! ### zip -/
def zipF : List PV → List PV → List PV
  | p :: ps, q :: qs => .tup [p, q] :: zipF ps qs
  | _, _ => []
theorem zipF_get : ∀ (ps qs : List PV) (k : Nat), (zipF ps qs)[k]? = ps[k]?.bind fun p => qs[k]?.map fun q => PV.tup [p, q]
  | [], _, _ => by simp [zipF]
  | _ :: _, [], _ => by simp [zipF]
  | p :: ps, q :: qs, 0 => by simp [zipF]
  | p :: ps, q :: qs, k + 1 => by simp [zipF, zipF_get ps qs k]
theorem zipF_len : ∀ (ps qs : List PV), (zipF ps qs).length = min ps.length qs.length
  | [], _ => by simp [zipF]
  | _ :: _, [] => by simp [zipF]
  | p :: ps, q :: qs => by simp [zipF, zipF_len ps qs]
def zipA (ps : List PV) : M Src := fun S => match ps with
  | [.tup xs, .tup ys] => .ok ⟨zipF xs ys, fun _ => True⟩ S
  | _ => .stuck
theorem itok_zipT {H : Hp} {μ : Mu} {a b : Addr} {vs ws : List V} {ps qs : List PV} {ok : Sto → Prop} (hq : SqT X.K H a vs) (hq2 : SqT X.K H b ws) (r : RpL X.K H μ vs ps) (r2 : RpL X.K H μ ws qs) : ItOk X.K H μ ok (RZ.ItzT X.K a b) (zipF ps qs) where
  go := fun i H' μ' S' hi g rs o => by
    rw [zipF_len] at hi
    obtain ⟨v, e, _⟩ := r.get (List.getElem?_eq_getElem (show i < ps.length by omega))
    obtain ⟨w, e2, _⟩ := r2.get (List.getElem?_eq_getElem (show i < qs.length by omega))
    exact ⟨vs, ws, v, w, g.sqT hq, g.sqT hq2, e, e2⟩
  yld := fun i H' μ' S' x H2 hi g rs o ⟨T, y, z, ex, hn, eh, f, f2⟩ => by
    rw [zipF_len] at hi
    obtain ⟨v, e, rv⟩ := r.get (List.getElem?_eq_getElem (show i < ps.length by omega))
    obtain ⟨w, e2, rw2⟩ := r2.get (List.getElem?_eq_getElem (show i < qs.length by omega))
    have e3 := f _ (g.sqT hq)
    have e4 := f2 _ (g.sqT hq2)
    rw [e] at e3
    rw [e2] at e4
    cases e3
    cases e4
    subst ex eh
    refine ⟨.tup [ps[i], qs[i]], by rw [zipF_get, List.getElem?_eq_getElem (show i < ps.length by omega), List.getElem?_eq_getElem (show i < qs.length by omega)]; rfl, grow_new rs hn, rs.new hn, .tup (SqT.of upd_same) ?_⟩
    exact .cons ((rv.growW g).grow (grow_new rs hn)) (.cons ((rw2.growW g).grow (grow_new rs hn)) .nil)
  stop := fun H' μ' S' g rs o => ⟨vs, ws, g.sqT hq, g.sqT hq2, by rw [zipF_len, r.length, r2.length]; omega⟩
theorem pmi_zip {as : AD} {a b : Expr} {p pos tp : Pos} {es : List Expr} {n : Nat} (hm : X.mg "zip" = none) (ha : PAs X E [a, b] as) (hg : Gl X "zip" := by rfl)
    (hs : starEach [a, b] X.env = (false, eval a X.env) :: starEach [b] X.env := by rfl) (hpl : (backTo pos (starEach [b] X.env)).any (·.1) = false := by rfl) : PMI X E (.Tuple es n tp) (.Call (.Name "zip" p) [a, b] [] pos) (iAp zipA as) := by
  refine PI.imp (RZ.pi_zipA hg hm ha hs hpl) fun σ H R ⟨ρ, S, μ, re, rs, h⟩ => ?_
  refine stepA re rs h fun vs ps S1 H1 μ1 re1 rs1 rv g1 h1 => ?_
  cases rv with
  | nil => exact h1.elim
  | cons r t =>
    cases t with
    | nil => cases r <;> exact h1.elim
    | cons r2 t2 =>
      cases t2 with
      | cons _ _ => cases r <;> cases r2 <;> exact h1.elim
      | nil =>
        cases r with
        | @tup a1 v1 x1 hq rl =>
          cases r2 with
          | @tup a2 v2 x2 hq2 rl2 => exact ⟨a1, a2, v1, v2, rfl, .inr ⟨hq, hq2, h1 H1 μ1 .refl rs1 _ (itok_zipT hq hq2 rl rl2)⟩⟩
          | _ => exact h1.elim
        | _ => cases r2 <;> exact h1.elim
end
end Pm

namespace Pm
open PySem PySem.Spec L2
/-! ## x.bit_length() -/
def bitsM (p : PV) : M PV := fun S => match p with
  | .int i => .ok (.int (Builtin.Int.intBits i : Nat)) S
  | _ => .stuck
theorem pm_bits {X : Cx} {E : XK} {o : Expr} {m : ED} {apos pos : Pos} (ho : PM X E o m) (hbase : attributeBase o "bit_length" X.env (eval o X.env) = eval o X.env := by rfl) (hline : (apos.endLine == pos.line) = true := by rfl) :
    PM X E (.Call (.Attribute o "bit_length" apos) [] [] pos) (dUn bitsM m) := by
  refine PE.imp (pe_bits ho hbase hline) fun σ H Q ⟨ρ, S, μ, re, rs, h⟩ => ?_
  refine stepE re rs h fun v p S1 H1 μ1 re1 rs1 rv g1 h1 => ?_
  cases rv with
  | int i => exact ⟨i, rfl, now_ rs1 (.int _) h1⟩
  | _ => exact h1.elim
/-! ## a comprehension kept under a name that others see: no swap -/
theorem sw_cell {elt : Expr} {gs : List Comprehension} {scope : Scope} {pos py : Pos} {y : Str} {l : Nat} {env : Env} (hy : env.scope.names.lookup y = some .cell) : swapsWith (.ListComp elt gs scope pos) (some (.Name y py)) l env = pure false := by
  have ky : env.kindOf y = some .cell := hy
  unfold swapsWith
  simp only [ky]
  rw [show (some NameKind.cell == some NameKind.local) = false from rfl, Bool.and_false, Bool.false_and, Bool.false_and]
end Pm

namespace Pm
open PySem PySem.Spec L2

/-! ## running a denotation to its end -/
def Ob {α : Type} (o : Out α) (Q : α → Sto → Prop) : Prop := match o with
  | .ok a S => Q a S
  | _ => False
section
variable {α β : Type} {S : Sto} {ρ : Rho}
theorem Ob.mono {o : Out α} {Q R : α → Sto → Prop} (h : Ob o Q) (k : ∀ a S, Q a S → R a S) : Ob o R := by
  cases o with
  | ok a S => exact k a S h
  | exn => exact h.elim
  | stuck => exact h.elim
theorem Ob.ex {o : Out α} {Q : α → Sto → Prop} (h : Ob o Q) : ∃ a S, o = .ok a S ∧ Q a S := by
  cases o with
  | ok a S => exact ⟨a, S, rfl, h⟩
  | exn => exact h.elim
  | stuck => exact h.elim
theorem Ob.eq {o : Out α} {v : α} (h : Ob o fun a S' => a = v ∧ S' = S) : o = .ok v S := by
  obtain ⟨a, S', e, rfl, rfl⟩ := h.ex
  exact e
theorem Ob_ok {a : α} {Q : α → Sto → Prop} : Ob (.ok a S) Q = Q a S := rfl
theorem Ob_ret {a : α} {Q : α → Sto → Prop} : Ob (ret a S) Q = Q a S := rfl
theorem Ob_bnd {m : M α} {f : α → M β} {Q : β → Sto → Prop} : Ob (bnd m f S) Q = Ob (m S) fun a S1 => Ob (f a S1) Q := by
  unfold bnd
  cases m S <;> rfl
theorem Ob_dVar {i : Nat} {Q : PV → Sto → Prop} : Ob (dVar i ρ S) Q = (match ρ[i]? with
  | some (some p) => Q p S
  | _ => False) := by
  unfold dVar
  cases hr : ρ[i]? with
  | none => first | rfl | (simp only [hr]; rfl)
  | some x => cases x with
    | none => first | rfl | (simp only [hr]; rfl)
    | some p => first | rfl | (simp only [hr]; rfl)
theorem Ob_dC {p : PV} {Q : PV → Sto → Prop} : Ob (dC p ρ S) Q = Q p S := rfl
theorem Ob_dNil {Q : List PV → Sto → Prop} : Ob (dNil ρ S) Q = Q [] S := rfl
theorem Ob_dCons {m : ED} {as : AD} {Q : List PV → Sto → Prop} : Ob (dCons m as ρ S) Q = Ob (m ρ S) fun p S1 => Ob (as ρ S1) fun ps S2 => Q (p :: ps) S2 := by
  unfold dCons
  simp only [Ob_bnd, Ob_ret]
theorem Ob_mkTup {ps : List PV} {Q : PV → Sto → Prop} : Ob (mkTup ps S) Q = (ps.length ≤ LIM ∧ Q (.tup ps) S) := by
  unfold mkTup
  split <;> simp [Ob, *]
theorem Ob_mkLst {ps : List PV} {Q : PV → Sto → Prop} : Ob (mkLst ps S) Q = (ps.length ≤ LIM ∧ Q (.lst ps) S) := by
  unfold mkLst
  split <;> simp [Ob, *]
theorem Ob_mkLoc {ps : List PV} {Q : PV → Sto → Prop} : Ob (mkLoc ps S) Q = (ps.length ≤ LIM ∧ Q (.loc S.length) (S ++ [.lst ps])) := by
  unfold mkLoc
  split <;> simp [Ob, *]
theorem Ob_dAp {f : List PV → M PV} {as : AD} {Q : PV → Sto → Prop} : Ob (dAp f as ρ S) Q = Ob (as ρ S) fun ps S1 => Ob (f ps S1) Q := Ob_bnd
theorem Ob_dApK {f : List PV → M PV} {n l : Nat} {ix : List Nat} {as bs : AD} {Q : PV → Sto → Prop} : Ob (dApK n l ix f as bs ρ S) Q = Ob (as ρ S) fun us S1 => Ob (bs ρ S1) fun ws S2 => us.length = n ∧ ws.length = l ∧ Ob (f (kput ix us ws) S2) Q := by
  unfold dApK
  simp only [Ob_bnd]
  congr 1; funext us S1
  congr 1; funext ws S2
  split <;> rename_i h
  · simp [h]
  · simp only [Ob, stk, eq_iff_iff, false_iff]
    exact fun ⟨a, b, _⟩ => h ⟨a, b⟩
theorem Ob_dOp {g : PV → PV → M PV} {m n : ED} {Q : PV → Sto → Prop} : Ob (dOp g m n ρ S) Q = Ob (m ρ S) fun x S1 => Ob (n ρ S1) fun y S2 => Ob (g x y S2) Q := by
  unfold dOp
  simp only [Ob_bnd]
theorem Ob_dUn {g : PV → M PV} {m : ED} {Q : PV → Sto → Prop} : Ob (dUn g m ρ S) Q = Ob (m ρ S) fun x S1 => Ob (g x S1) Q := Ob_bnd
theorem Ob_ite {c : Prop} [Decidable c] {m n : M α} {Q : α → Sto → Prop} : Ob ((if c then m else n) S) Q = if c then Ob (m S) Q else Ob (n S) Q := by
  split <;> rfl
theorem Ob_dIf {c : BD} {m n : ED} {Q : PV → Sto → Prop} : Ob (dIf c m n ρ S) Q = Ob (c ρ S) fun b S1 => if b = true then Ob (m ρ S1) Q else Ob (n ρ S1) Q := by
  unfold dIf
  simp only [Ob_bnd, Ob_ite]
theorem Ob_asB {b : Bool} {Q : Bool → Sto → Prop} : Ob (asB (.bl b) S) Q = Q b S := rfl
theorem Ob_tru_bl {b : Bool} {Q : Bool → Sto → Prop} : Ob (truM (.bl b) S) Q = Q b S := rfl
theorem Ob_tru_int {b : Int} {Q : Bool → Sto → Prop} : Ob (truM (.int b) S) Q = Q (b != 0) S := rfl
theorem Ob_tru_non {Q : Bool → Sto → Prop} : Ob (truM .non S) Q = Q false S := rfl
theorem Ob_tru_tup {xs : List PV} {Q : Bool → Sto → Prop} : Ob (truM (.tup xs) S) Q = Q (!xs.isEmpty) S := rfl
theorem Ob_tru_lst {xs : List PV} {Q : Bool → Sto → Prop} : Ob (truM (.lst xs) S) Q = Q (!xs.isEmpty) S := rfl
theorem Ob_bTru {m : ED} {Q : Bool → Sto → Prop} : Ob (bTru m ρ S) Q = Ob (m ρ S) fun p S1 => Ob (truM p S1) Q := Ob_bnd
theorem Ob_bCmp {m : ED} {Q : Bool → Sto → Prop} : Ob (bCmp m ρ S) Q = Ob (m ρ S) fun p S1 => Ob (asB p S1) Q := Ob_bnd
theorem Ob_bNot {c : BD} {Q : Bool → Sto → Prop} : Ob (bNot c ρ S) Q = Ob (c ρ S) fun b S1 => Q (!b) S1 := by
  unfold bNot
  simp only [Ob_bnd, Ob_ret]
theorem Ob_bYes {Q : Bool → Sto → Prop} : Ob (bYes ρ S) Q = Q true S := rfl
theorem Ob_bAnd {c d : BD} {Q : Bool → Sto → Prop} : Ob (bAnd c d ρ S) Q = Ob (c ρ S) fun b S1 => if b = true then Ob (d ρ S1) Q else Q false S1 := by
  unfold bAnd
  simp only [Ob_bnd, Ob_ite, Ob_ret]
theorem Ob_bOr {c d : BD} {Q : Bool → Sto → Prop} : Ob (bOr c d ρ S) Q = Ob (c ρ S) fun b S1 => if b = true then Q true S1 else Ob (d ρ S1) Q := by
  unfold bOr
  simp only [Ob_bnd, Ob_ite, Ob_ret]
theorem Ob_dAnd {m n : ED} {Q : PV → Sto → Prop} : Ob (dAnd m n ρ S) Q = Ob (m ρ S) fun x S1 => Ob (truM x S1) fun b S2 => if b = true then Ob (n ρ S2) Q else Q x S2 := by
  unfold dAnd
  simp only [Ob_bnd, Ob_ite, Ob_ret]
theorem Ob_dOr {m n : ED} {Q : PV → Sto → Prop} : Ob (dOr m n ρ S) Q = Ob (m ρ S) fun x S1 => Ob (truM x S1) fun b S2 => if b = true then Q x S2 else Ob (n ρ S2) Q := by
  unfold dOr
  simp only [Ob_bnd, Ob_ite, Ob_ret]
theorem Ob_dNot {m : ED} {Q : PV → Sto → Prop} : Ob (dNot m ρ S) Q = Ob (m ρ S) fun x S1 => Ob (truM x S1) fun b S2 => Q (.bl (!b)) S2 := by
  unfold dNot
  simp only [Ob_bnd, Ob_ret]
theorem Ob_dChain {g h : PV → PV → M PV} {a b c : ED} {Q : PV → Sto → Prop} : Ob (dChain g h a b c ρ S) Q = Ob (a ρ S) fun x S1 => Ob (b ρ S1) fun y S2 => Ob (g x y S2) fun z S3 => Ob (asB z S3) fun k S4 => if k = true then Ob (c ρ S4) fun w S5 => Ob (h y w S5) Q else Q (.bl false) S4 := by
  unfold dChain
  simp only [Ob_bnd, Ob_ite, Ob_ret]
/-! operations -/
theorem Ob_add_int {i j : Int} {Q : PV → Sto → Prop} : Ob (addM (.int i) (.int j) S) Q = Q (.int (i + j)) S := rfl
theorem Ob_add_lst {x y : List PV} {Q : PV → Sto → Prop} : Ob (addM (.lst x) (.lst y) S) Q = (x.length + y.length ≤ LIM ∧ Q (.lst (x ++ y)) S) := by
  show Ob (if x.length + y.length ≤ LIM then .ok (.lst (x ++ y)) S else .stuck) Q = _
  split <;> simp [Ob, *]
theorem Ob_add_tup {x y : List PV} {Q : PV → Sto → Prop} : Ob (addM (.tup x) (.tup y) S) Q = (x.length + y.length ≤ LIM ∧ Q (.tup (x ++ y)) S) := by
  show Ob (if x.length + y.length ≤ LIM then .ok (.tup (x ++ y)) S else .stuck) Q = _
  split <;> simp [Ob, *]
theorem Ob_sub {i j : Int} {Q : PV → Sto → Prop} : Ob (subM (.int i) (.int j) S) Q = Q (.int (i - j)) S := rfl
theorem Ob_mul_int {i j : Int} {Q : PV → Sto → Prop} : Ob (mulM (.int i) (.int j) S) Q = (i.natAbs.log2 + j.natAbs.log2 < 1000000 ∧ Q (.int (i * j)) S) := by
  show Ob (if i.natAbs.log2 + j.natAbs.log2 < 1000000 then .ok (.int (i * j)) S else .stuck) Q = _
  split <;> simp [Ob, *]
theorem Ob_mul_lst {x : List PV} {k : Int} {Q : PV → Sto → Prop} : Ob (mulM (.lst x) (.int k) S) Q = ((-1000 ≤ k ∧ k ≤ 1000 ∧ x.length ≤ 100) ∧ Q (.lst (repL k x)) S) := by
  show Ob (if -1000 ≤ k ∧ k ≤ 1000 ∧ x.length ≤ 100 then .ok (.lst (repL k x)) S else .stuck) Q = _
  split <;> simp [Ob, *]
theorem Ob_fdiv {i j : Int} {Q : PV → Sto → Prop} : Ob (fdivM (.int i) (.int j) S) Q = ((j ≠ 0 ∧ j.natAbs.log2 < 9000) ∧ Q (.int (i.fdiv j)) S) := by
  show Ob (if j ≠ 0 ∧ j.natAbs.log2 < 9000 then .ok (.int (i.fdiv j)) S else .stuck) Q = _
  split <;> simp [Ob, *]
theorem Ob_mod {i j : Int} {Q : PV → Sto → Prop} : Ob (modM (.int i) (.int j) S) Q = (j ≠ 0 ∧ Q (.int (i.fmod j)) S) := by
  show Ob (if j ≠ 0 then .ok (.int (i.fmod j)) S else .stuck) Q = _
  split <;> simp [Ob, *]
theorem Ob_pow {i j : Int} {Q : PV → Sto → Prop} : Ob (powM (.int i) (.int j) S) Q = ((0 ≤ j ∧ j ≤ 1000000 ∧ i.natAbs < 2 ^ 64) ∧ Q (.int (i ^ j.toNat)) S) := by
  show Ob (if 0 ≤ j ∧ j ≤ 1000000 ∧ i.natAbs < 2 ^ 64 then .ok (.int (i ^ j.toNat)) S else .stuck) Q = _
  split <;> simp [Ob, *]
theorem Ob_neg {i : Int} {Q : PV → Sto → Prop} : Ob (negM (.int i) S) Q = Q (.int (-i)) S := rfl
theorem Ob_lt {i j : Int} {Q : PV → Sto → Prop} : Ob (ltM (.int i) (.int j) S) Q = Q (.bl (decide (i < j))) S := rfl
theorem Ob_le {i j : Int} {Q : PV → Sto → Prop} : Ob (leM (.int i) (.int j) S) Q = Q (.bl (decide (i ≤ j))) S := rfl
theorem Ob_gt {i j : Int} {Q : PV → Sto → Prop} : Ob (gtM (.int i) (.int j) S) Q = Q (.bl (decide (j < i))) S := rfl
theorem Ob_ge {i j : Int} {Q : PV → Sto → Prop} : Ob (geM (.int i) (.int j) S) Q = Q (.bl (decide (j ≤ i))) S := rfl
theorem Ob_isB {a b : Bool} {Q : PV → Sto → Prop} : Ob (isBM (.bl a) (.bl b) S) Q = Q (.bl (decide (a = b))) S := rfl
theorem Ob_notB {a b : Bool} {Q : PV → Sto → Prop} : Ob (notBM (.bl a) (.bl b) S) Q = Q (.bl (!decide (a = b))) S := rfl
theorem Ob_isi {T : String} {p : PV} {Q : PV → Sto → Prop} : Ob (isiM T p S) Q = Q (.bl (isT T (kindP p))) S := rfl
theorem Ob_eq_int {i j : Int} {Q : PV → Sto → Prop} : Ob (eqM (.int i) (.int j) S) Q = Q (.bl (i == j)) S := rfl
theorem Ob_ne_int {i j : Int} {Q : PV → Sto → Prop} : Ob (neM (.int i) (.int j) S) Q = Q (.bl (!(i == j))) S := rfl
theorem Ob_eq_bl {i j : Bool} {Q : PV → Sto → Prop} : Ob (eqM (.bl i) (.bl j) S) Q = Q (.bl (i == j)) S := rfl
theorem Ob_ne_bl {i j : Bool} {Q : PV → Sto → Prop} : Ob (neM (.bl i) (.bl j) S) Q = Q (.bl (!(i == j))) S := rfl
theorem Ob_eq_str {i j : Str} {Q : PV → Sto → Prop} : Ob (eqM (.str i) (.str j) S) Q = Q (.bl (i == j)) S := rfl
theorem Ob_ne_str {i j : Str} {Q : PV → Sto → Prop} : Ob (neM (.str i) (.str j) S) Q = Q (.bl (!(i == j))) S := rfl
theorem Ob_ix_tup {xs : List PV} {i : Int} {Q : PV → Sto → Prop} : Ob (ixM (.tup xs) (.int i) S) Q = (match atI xs i with
  | some p => Q p S
  | none => False) := by
  show Ob (match atI xs i with | some p => .ok p S | none => .stuck) Q = _
  split <;> rfl
theorem Ob_ix_lst {xs : List PV} {i : Int} {Q : PV → Sto → Prop} : Ob (ixM (.lst xs) (.int i) S) Q = (match atI xs i with
  | some p => Q p S
  | none => False) := by
  show Ob (match atI xs i with | some p => .ok p S | none => .stuck) Q = _
  split <;> rfl
theorem Ob_ix_frz {xs : List PV} {i : Int} {Q : PV → Sto → Prop} : Ob (ixM (.frz xs) (.int i) S) Q = (match atI xs i with
  | some p => Q p S
  | none => False) := by
  show Ob (match atI xs i with | some p => .ok p S | none => .stuck) Q = _
  split <;> rfl
theorem Ob_ix_loc {n : Nat} {i : Int} {Q : PV → Sto → Prop} : Ob (ixM (.loc n) (.int i) S) Q = (match S[n]? with
  | some (.lst xs) => (match atI xs i with
    | some p => Q p S
    | none => False)
  | none => False) := by
  unfold ixM
  simp only [asL]
  cases h : S[n]? with
  | none => rfl
  | some e => cases e with
    | lst xs =>
      simp only
      cases atI xs i <;> rfl
theorem Ob_dSl {m : ED} {lo hi : OD} {Q : PV → Sto → Prop} : Ob (dSl m lo hi ρ S) Q = Ob (m ρ S) fun p S1 => Ob (lo ρ S1) fun l S2 => Ob (hi ρ S2) fun h S3 => Ob (slM p l h S3) Q := by
  unfold dSl
  simp only [Ob_bnd]
theorem Ob_oNone {Q : Option Int → Sto → Prop} : Ob (oNone ρ S) Q = Q none S := rfl
theorem Ob_oSome {m : ED} {Q : Option Int → Sto → Prop} : Ob (oSome m ρ S) Q = Ob (m ρ S) fun p S1 => match p with
  | .int i => Q (some i) S1
  | _ => False := by
  unfold oSome
  rw [Ob_bnd]
  congr 1; funext p S1
  cases p <;> rfl
theorem Ob_sl_frz {xs : List PV} {l h : Option Int} {Q : PV → Sto → Prop} : Ob (slM (.frz xs) l h S) Q = Q (.lst (cutP xs l h)) S := rfl
theorem Ob_sl_lst {xs : List PV} {l h : Option Int} {Q : PV → Sto → Prop} : Ob (slM (.lst xs) l h S) Q = Q (.lst (cutP xs l h)) S := rfl
theorem Ob_sl_tup {xs : List PV} {l h : Option Int} {Q : PV → Sto → Prop} : Ob (slM (.tup xs) l h S) Q = Q (.tup (cutP xs l h)) S := rfl
/-! statements -/
theorem Ob_sNil {Q : Fl → Sto → Prop} : Ob (sNil ρ S) Q = Q (.nx ρ) S := rfl
theorem Ob_sSeq {d f : SD} {Q : Fl → Sto → Prop} : Ob (sSeq d f ρ S) Q = Ob (d ρ S) fun r S1 => match r with
  | .nx ρ' => Ob (f ρ' S1) Q
  | r => Q r S1 := by
  unfold sSeq
  rw [Ob_bnd]
  congr 1; funext r S1
  cases r <;> rfl
theorem Ob_sRet {m : ED} {Q : Fl → Sto → Prop} : Ob (sRet m ρ S) Q = Ob (m ρ S) fun p S1 => Q (.rt p) S1 := by
  unfold sRet
  simp only [Ob_bnd, Ob_ret]
theorem Ob_sRetN {Q : Fl → Sto → Prop} : Ob (sRetN ρ S) Q = Q (.rt .non) S := rfl
theorem Ob_sExpr {m : ED} {Q : Fl → Sto → Prop} : Ob (sExpr m ρ S) Q = Ob (m ρ S) fun p S1 => Q (.nx ρ) S1 := by
  unfold sExpr
  simp only [Ob_bnd, Ob_ret]
theorem Ob_sIf {c : BD} {d f : SD} {Q : Fl → Sto → Prop} : Ob (sIf c d f ρ S) Q = Ob (c ρ S) fun b S1 => if b = true then Ob (d ρ S1) Q else Ob (f ρ S1) Q := by
  unfold sIf
  simp only [Ob_bnd, Ob_ite]
theorem Ob_sBrk {Q : Fl → Sto → Prop} : Ob (sBrk ρ S) Q = Q (.bk ρ) S := rfl
theorem Ob_sCt {Q : Fl → Sto → Prop} : Ob (sCt ρ S) Q = Q (.ct ρ) S := rfl
theorem Ob_sNever {Q : Fl → Sto → Prop} : Ob (sNever ρ S) Q = False := rfl
theorem Ob_gName {i : Nat} {p : PV} {Q : Rho → Sto → Prop} : Ob (gName i p ρ S) Q = Q (ρ.set i (some p)) S := rfl
theorem Ob_sAsg {m : ED} {g : GD} {Q : Fl → Sto → Prop} : Ob (sAsg m g ρ S) Q = Ob (m ρ S) fun p S1 => Ob (g p ρ S1) fun ρ' S2 => Q (.nx ρ') S2 := by
  unfold sAsg
  simp only [Ob_bnd, Ob_ret]
theorem Ob_gsNil {Q : Rho → Sto → Prop} : Ob (gsNil [] ρ S) Q = Q ρ S := rfl
theorem Ob_gsCons {g : GD} {gs : GDs} {p : PV} {ps : List PV} {Q : Rho → Sto → Prop} : Ob (gsCons g gs (p :: ps) ρ S) Q = Ob (g p ρ S) fun ρ' S1 => Ob (gs ps ρ' S1) Q := Ob_bnd
theorem Ob_gTup {n : Nat} {gs : GDs} {ps : List PV} {Q : Rho → Sto → Prop} : Ob (gTup n gs (.tup ps) ρ S) Q = (ps.length = n ∧ Ob (gs ps ρ S) Q) := by
  show Ob ((if ps.length = n then gs ps ρ else stk) S) Q = _
  split <;> simp [Ob, stk, *]
theorem Ob_gTup_lst {n : Nat} {gs : GDs} {ps : List PV} {Q : Rho → Sto → Prop} : Ob (gTup n gs (.lst ps) ρ S) Q = (ps.length = n ∧ Ob (gs ps ρ S) Q) := by
  show Ob ((if ps.length = n then gs ps ρ else stk) S) Q = _
  split <;> simp [Ob, stk, *]
theorem Ob_gSub {mo mi : ED} {p : PV} {Q : Rho → Sto → Prop} : Ob (gSub mo mi p ρ S) Q = Ob (mo ρ S) fun o S1 => Ob (mi ρ S1) fun i S2 => match o, i with
  | .loc n, .int k => (match S2[n]? with
    | some (.lst xs) => (match ixN xs.length k with
      | some j => Q ρ (S2.set n (.lst (xs.set j p)))
      | none => False)
    | none => False)
  | _, _ => False := by
  unfold gSub
  simp only [Ob_bnd]
  congr 1; funext o S1
  congr 1; funext i S2
  cases o with
  | loc n => cases i with
    | int k =>
      cases h : S2[n]? with
      | none => first | rfl | (simp only [h]; rfl)
      | some e => cases e with
        | lst xs =>
          cases h2 : ixN xs.length k with
          | none => first | rfl | (simp only [h, h2]; rfl)
          | some j => first | rfl | (simp only [h, h2]; rfl)
    | _ => rfl
  | _ => rfl
theorem Ob_sPar {i j : Nat} {as : AD} {Q : Fl → Sto → Prop} : Ob (sPar i j as ρ S) Q = Ob (as ρ S) fun ps S1 => match ps with
  | [p, q] => Q (.nx ((ρ.set i (some p)).set j (some q))) S1
  | _ => False := by
  unfold sPar
  rw [Ob_bnd]
  congr 1; funext ps S1
  match ps with
  | [] => rfl
  | [_] => rfl
  | [_, _] => rfl
  | _ :: _ :: _ :: _ => rfl
theorem Ob_sPar3 {i j l : Nat} {as : AD} {Q : Fl → Sto → Prop} : Ob (sPar3 i j l as ρ S) Q = Ob (as ρ S) fun ps S1 => match ps with
  | [p, q, r] => Q (.nx (((ρ.set i (some p)).set j (some q)).set l (some r))) S1
  | _ => False := by
  unfold sPar3
  rw [Ob_bnd]
  congr 1; funext ps S1
  match ps with
  | [] => rfl
  | [_] => rfl
  | [_, _] => rfl
  | [_, _, _] => rfl
  | _ :: _ :: _ :: _ :: _ => rfl
/-! walks -/
theorem Ob_iSeq {m : ED} {Q : Src → Sto → Prop} : Ob (iSeq m ρ S) Q = Ob (m ρ S) fun p S1 => Ob (seqSrc p S1) Q := Ob_bnd
theorem Ob_src_tup {ps : List PV} {Q : Src → Sto → Prop} : Ob (seqSrc (.tup ps) S) Q = Q ⟨ps, fun _ => True⟩ S := rfl
theorem Ob_src_lst {ps : List PV} {Q : Src → Sto → Prop} : Ob (seqSrc (.lst ps) S) Q = Q ⟨ps, fun _ => True⟩ S := rfl
theorem Ob_src_frz {ps : List PV} {Q : Src → Sto → Prop} : Ob (seqSrc (.frz ps) S) Q = Q ⟨ps, fun _ => True⟩ S := rfl
theorem Ob_iAp {f : List PV → M Src} {as : AD} {Q : Src → Sto → Prop} : Ob (iAp f as ρ S) Q = Ob (as ρ S) fun ps S1 => Ob (f ps S1) Q := Ob_bnd
theorem Ob_rng1 {j : Int} {Q : Src → Sto → Prop} : Ob (rng1 [.int j] S) Q = ((-(2 ^ 62) ≤ j ∧ j < 2 ^ 62) ∧ Q ⟨rngL 0 j.toNat, fun _ => True⟩ S) := by
  show Ob (if -(2 ^ 62) ≤ j ∧ j < 2 ^ 62 then .ok ⟨rngL 0 j.toNat, fun _ => True⟩ S else .stuck) Q = _
  split <;> simp only [Ob, true_and, false_and, *]
theorem Ob_rng2 {i j : Int} {Q : Src → Sto → Prop} : Ob (rng2 [.int i, .int j] S) Q = ((-(2 ^ 62) ≤ i ∧ i < 2 ^ 62 ∧ -(2 ^ 62) ≤ j ∧ j < 2 ^ 62) ∧ Q ⟨rngL i (j - i).toNat, fun _ => True⟩ S) := by
  show Ob (if -(2 ^ 62) ≤ i ∧ i < 2 ^ 62 ∧ -(2 ^ 62) ≤ j ∧ j < 2 ^ 62 then .ok ⟨rngL i (j - i).toNat, fun _ => True⟩ S else .stuck) Q = _
  split <;> simp only [Ob, true_and, false_and, *]
theorem Ob_sFor {im : ID} {g : GD} {d : SD} {Q : Fl → Sto → Prop} : Ob (sFor im g d ρ S) Q = Ob (im ρ S) fun s S1 => Ob (forM s.ok g d s.items ρ S1) Q := Ob_bnd
theorem Ob_for_nil {g : GD} {d : SD} {Q : Fl → Sto → Prop} : Ob (forM (fun _ => True) g d [] ρ S) Q = Q (.nx ρ) S := by
  simp [forM, Ob]
theorem Ob_for_cons {g : GD} {d : SD} {p : PV} {ps : List PV} {Q : Fl → Sto → Prop} : Ob (forM (fun _ => True) g d (p :: ps) ρ S) Q = Ob (g p ρ S) fun ρ1 S1 => Ob (d ρ1 S1) fun r S2 => match r with
  | .nx ρ2 => Ob (forM (fun _ => True) g d ps ρ2 S2) Q
  | .ct ρ2 => Ob (forM (fun _ => True) g d ps ρ2 S2) Q
  | .bk ρ2 => Q (.nx ρ2) S2
  | .rt v => Q (.rt v) S2 := by
  conv => lhs; unfold forM
  simp only [if_true]
  rw [Ob_bnd]
  congr 1; funext ρ1 S1
  rw [Ob_bnd]
  congr 1; funext r S2
  cases r <;> rfl
/-- a walk with what holds between two turns -/
theorem Ob_for {g : GD} {d : SD} {Q : Fl → Sto → Prop} {its : List PV} (I : Nat → Rho → Sto → Prop) (h0 : I 0 ρ S)
    (st : ∀ (i : Nat) p ρ S, its[i]? = some p → I i ρ S → Ob (g p ρ S) fun ρ1 S1 => Ob (d ρ1 S1) fun r S2 => match r with
      | .nx ρ2 => I (i + 1) ρ2 S2
      | .ct ρ2 => I (i + 1) ρ2 S2
      | .bk ρ2 => Q (.nx ρ2) S2
      | .rt v => Q (.rt v) S2) (hq : ∀ ρ S, I its.length ρ S → Q (.nx ρ) S) : Ob (forM (fun _ => True) g d its ρ S) Q := by
  induction its generalizing ρ S I with
  | nil => rw [Ob_for_nil]; exact hq ρ S h0
  | cons p ps ih =>
    rw [Ob_for_cons]
    refine (st 0 p ρ S rfl h0).mono fun ρ1 S1 h1 => h1.mono fun r S2 h2 => ?_
    have go : ∀ ρ2, I 1 ρ2 S2 → Ob (forM (fun _ => True) g d ps ρ2 S2) Q := fun ρ2 h2 =>
      ih (fun i => I (i + 1)) h2 (fun i p ρ S e hi => st (i + 1) p ρ S e hi) (fun ρ S h => hq ρ S h)
    cases r with
    | nx ρ2 => exact go ρ2 h2
    | ct ρ2 => exact go ρ2 h2
    | bk ρ2 => exact h2
    | rt v => exact h2
theorem Ob_forK {ok : Sto → Prop} {g : GD} {d : SD} {Q : Fl → Sto → Prop} {its : List PV} (I : Nat → Rho → Sto → Prop) (h0 : I 0 ρ S) (hI : ∀ i ρ S, I i ρ S → ok S)
    (st : ∀ (i : Nat) p ρ S, its[i]? = some p → I i ρ S → Ob (g p ρ S) fun ρ1 S1 => Ob (d ρ1 S1) fun r S2 => match r with
      | .nx ρ2 => I (i + 1) ρ2 S2
      | .ct ρ2 => I (i + 1) ρ2 S2
      | .bk ρ2 => Q (.nx ρ2) S2
      | .rt v => Q (.rt v) S2) (hq : ∀ ρ S, I its.length ρ S → Q (.nx ρ) S) : Ob (forM ok g d its ρ S) Q := by
  induction its generalizing ρ S I with
  | nil =>
    unfold forM
    rw [if_pos (hI 0 ρ S h0)]
    exact hq ρ S h0
  | cons p ps ih =>
    unfold forM
    rw [if_pos (hI 0 ρ S h0), Ob_bnd]
    refine (st 0 p ρ S rfl h0).mono fun ρ1 S1 h1 => ?_
    rw [Ob_bnd]
    refine h1.mono fun r S2 h2 => ?_
    have go : ∀ ρ2, I 1 ρ2 S2 → Ob (forM ok g d ps ρ2 S2) Q := fun ρ2 h2 =>
      ih (fun i => I (i + 1)) h2 (fun i ρ S h => hI (i + 1) ρ S h) (fun i p ρ S e hi => st (i + 1) p ρ S e hi) (fun ρ S h => hq ρ S h)
    cases r with
    | nx ρ2 => exact go ρ2 h2
    | ct ρ2 => exact go ρ2 h2
    | bk ρ2 => exact h2
    | rt v => exact h2
theorem Ob_src_loc {n : Nat} {Q : Src → Sto → Prop} : Ob (seqSrc (.loc n) S) Q = (match S[n]? with
  | some (.lst ps) => Q ⟨ps, fun S' => S'[n]? = some (.lst ps)⟩ S
  | none => False) := by
  unfold seqSrc
  cases h : S[n]? with
  | none => first | rfl | (simp only [h]; rfl)
  | some e => cases e with
    | lst xs => first | rfl | (simp only [h]; rfl)
theorem Ob_noX {m : M α} {Q : α → Sto → Prop} : Ob (noX m S) Q = Ob (m S) Q := by
  unfold noX
  cases m S <;> rfl
theorem Ob_dLC {im : ID} {g : GD} {t : BD} {m : ED} {vs : List Nat} {Q : PV → Sto → Prop} : Ob (dLC im g t m vs ρ S) Q = Ob (im ρ S) fun s S1 => s.items.length ≤ LIM ∧ Ob (lcM s.ok g t m (wipeR ρ vs) s.items S1) fun qs S2 => Q (.lst qs) S2 := by
  unfold dLC
  rw [Ob_bnd]
  congr 1; funext s S1
  split <;> rename_i h
  · simp only [h, true_and, Ob_bnd, Ob_noX, Ob_ret]
  · simp only [h, false_and]
    rfl
theorem Ob_lc_nil {g : GD} {t : BD} {m : ED} {Q : List PV → Sto → Prop} : Ob (lcM (fun _ => True) g t m ρ [] S) Q = Q [] S := by
  simp [lcM, Ob]
theorem Ob_lc_cons {g : GD} {t : BD} {m : ED} {p : PV} {ps : List PV} {Q : List PV → Sto → Prop} : Ob (lcM (fun _ => True) g t m ρ (p :: ps) S) Q = Ob (g p ρ S) fun ρ1 S1 => Ob (t ρ1 S1) fun b S2 => if b = true then Ob (m ρ1 S2) fun q S3 => Ob (lcM (fun _ => True) g t m ρ ps S3) fun qs S4 => Q (q :: qs) S4 else Ob (lcM (fun _ => True) g t m ρ ps S2) Q := by
  conv => lhs; unfold lcM
  simp only [if_true]
  simp only [Ob_bnd, Ob_ite, Ob_ret]
/-- a comprehension with a name and no test, each turn told -/
theorem Ob_lc {m : ED} {i : Nat} {its : List PV} {Q : List PV → Sto → Prop} (J : Sto → Prop) (P : Nat → PV → Prop) (h0 : J S)
    (st : ∀ (k : Nat) p S, its[k]? = some p → J S → Ob (m (ρ.set i (some p)) S) fun q S' => P k q ∧ J S')
    (hq : ∀ qs S, qs.length = its.length → (∀ (k : Nat) q, qs[k]? = some q → P k q) → J S → Q qs S) : Ob (lcM (fun _ => True) (gName i) bYes m ρ its S) Q := by
  induction its generalizing S Q P with
  | nil => rw [Ob_lc_nil]; exact hq [] S rfl (fun k q h => by simp at h) h0
  | cons p ps ih =>
    rw [Ob_lc_cons, Ob_gName, Ob_bYes, if_pos rfl]
    refine (st 0 p S rfl h0).mono fun q S3 ⟨hp, hj⟩ => ?_
    refine ih (fun k => P (k + 1)) hj (fun k p S e => st (k + 1) p S e) fun qs S' hl hh hj' => ?_
    refine hq _ _ (by simp [hl]) (fun k r e => ?_) hj'
    cases k with
    | zero => simp at e; subst e; exact hp
    | succ k => exact hh k r (by simpa using e)
/-- a while with a measure -/
theorem Ob_while {c : BD} {d : SD} {Q : Fl → Sto → Prop} (I : Nat → Rho → Sto → Prop)
    (st : ∀ n ρ S, I n ρ S → Ob (c ρ S) fun b S1 => if b = true then Ob (d ρ S1) fun r S2 => match r with
      | .nx ρ2 => ∃ m, m < n ∧ I m ρ2 S2
      | .ct ρ2 => ∃ m, m < n ∧ I m ρ2 S2
      | .bk ρ2 => Q (.nx ρ2) S2
      | .rt v => Q (.rt v) S2 else Q (.nx ρ) S1) (n : Nat) (h0 : I n ρ S) : Ob (sWhile c d ρ S) Q := by
  have key : ∀ n ρ S, I n ρ S → Ob (whileF c d (n + 1) ρ S) Q := by
    intro n
    induction n using Nat.strongRecOn with
    | ind n ih =>
      intro ρ S h
      unfold whileF
      rw [Ob_bnd]
      refine (st n ρ S h).mono fun b S1 h1 => ?_
      rw [Ob_ite]
      split <;> rename_i hb
      · rw [if_pos hb] at h1
        rw [Ob_bnd]
        refine h1.mono fun r S2 h2 => ?_
        have go : ∀ ρ2, (∃ m, m < n ∧ I m ρ2 S2) → Ob (whileF c d n ρ2 S2) Q := fun ρ2 ⟨m, hm, hi⟩ => by
          obtain ⟨a, S3, e, q⟩ := (ih m hm ρ2 S2 hi).ex
          have hs : whileF c d (m + 1) ρ2 S2 ≠ .stuck := by rw [e]; simp
          have : whileF c d n ρ2 S2 = whileF c d (m + 1) ρ2 S2 := by
            exact whileF_le hs (by omega)
          rw [this, e]
          exact q
        cases r with
        | nx ρ2 => exact go ρ2 h2
        | ct ρ2 => exact go ρ2 h2
        | bk ρ2 => exact h2
        | rt v => exact h2
      · rw [if_neg hb] at h1
        exact h1
  obtain ⟨a, S3, e, q⟩ := (key n ρ S h0).ex
  rw [sWhile_eq (n := n + 1) (by rw [e]; simp), e]
  exact q
/-! defs -/
theorem Ob_bodyR {d : SD} {Q : PV → Sto → Prop} : Ob (bodyR d ρ S) Q = Ob (d ρ S) fun r S1 => match r with
  | .nx _ => Q .non S1
  | .rt p => Q p S1
  | _ => False := by
  unfold bodyR
  rw [Ob_bnd]
  congr 1; funext r S1
  cases r <;> rfl
theorem Ob_defM {a n : Nat} {d : SD} {ps : List PV} {Q : PV → Sto → Prop} (hl : ps.length = a) (h : Ob (d (rho0 n ps) S) fun r S1 => match r with
  | .nx _ => S1.length = S.length ∧ Q .non S1
  | .rt p => S1.length = S.length ∧ Q p S1
  | _ => False) : Ob (defM a n d ps S) Q := by
  unfold defM
  rw [if_pos hl]
  have h2 : Ob (bodyR d (rho0 n ps) S) fun p S1 => S1.length = S.length ∧ Q p S1 := by
    rw [Ob_bodyR]
    exact h
  obtain ⟨p, S1, e, l, q⟩ := h2.ex
  rw [e]
  have : fin S.length (.ok p S1) = .ok p S1 := by simp only [fin, if_pos l]
  rw [this]
  exact q
theorem Ob_defK {a n : Nat} {d : SD} {ps : List PV} {Q : PV → Sto → Prop} (hl : ps.length = a) (h : Ob (d (rho0 n ps) S) fun r S1 => match r with
  | .nx _ => Q .non S1
  | .rt p => Q p S1
  | _ => False) : Ob (defK a n d ps S) Q := by
  unfold defK
  rw [if_pos hl, Ob_bodyR]
  exact h
end
/-! built-ins -/
section
variable {S : Sto} {Q : PV → Sto → Prop}
theorem Ob_len_tup {xs : List PV} : Ob (lenM [.tup xs] S) Q = Q (.int xs.length) S := rfl
theorem Ob_len_lst {xs : List PV} : Ob (lenM [.lst xs] S) Q = Q (.int xs.length) S := rfl
theorem Ob_len_frz {xs : List PV} : Ob (lenM [.frz xs] S) Q = Q (.int xs.length) S := rfl
theorem Ob_int {i : Int} : Ob (intM [.int i] S) Q = Q (.int i) S := rfl
theorem Ob_int_bl {b : Bool} : Ob (intM [.bl b] S) Q = Q (.int (if b then 1 else 0)) S := rfl
theorem Ob_abs {i : Int} : Ob (absM [.int i] S) Q = Q (.int (if i < 0 then -i else i)) S := rfl
theorem Ob_max2 {i j : Int} : Ob (max2M [.int i, .int j] S) Q = Q (.int (if j > i then j else i)) S := rfl
theorem Ob_min2 {i j : Int} : Ob (min2M [.int i, .int j] S) Q = Q (.int (if j < i then j else i)) S := rfl
theorem Ob_gcd {i j : Int} : Ob (gcdM [.int i, .int j] S) Q = Q (.int (Int.gcd i j)) S := rfl
theorem Ob_tuple_lst {xs : List PV} : Ob (tupleM [.lst xs] S) Q = Q (.tup xs) S := rfl
theorem Ob_tuple_tup {xs : List PV} : Ob (tupleM [.tup xs] S) Q = Q (.tup xs) S := rfl
theorem Ob_list_lst {xs : List PV} : Ob (listM [.lst xs] S) Q = Q (.lst xs) S := rfl
theorem Ob_list_tup {xs : List PV} : Ob (listM [.tup xs] S) Q = Q (.lst xs) S := rfl
theorem Ob_divmod {i j : Int} : Ob (divmodM [.int i, .int j] S) Q = ((0 < j ∧ j < 1073741824) ∧ Q (.tup [.int (i / j), .int (i % j)]) S) := by
  show Ob (if 0 < j ∧ j < 1073741824 then .ok (.tup [.int (i / j), .int (i % j)]) S else .stuck) Q = _
  split <;> simp only [Ob, true_and, false_and, *]
theorem bools_map (bs : List Bool) : boolsL (bs.map PV.bl) = some bs := by
  induction bs with
  | nil => rfl
  | cons b bs ih => simp only [List.map_cons, boolsL, ih]
theorem ints_map (bs : List Int) : intsL (bs.map PV.int) = some bs := by
  induction bs with
  | nil => rfl
  | cons b bs ih => simp only [List.map_cons, intsL, ih]
theorem Ob_all {xs : List PV} {bs : List Bool} (h : boolsL xs = some bs) : Ob (allM [.lst xs] S) Q = Q (.bl (bs.all id)) S := by
  unfold allM
  simp only [asL, h]
  rfl
theorem Ob_any {xs : List PV} {bs : List Bool} (h : boolsL xs = some bs) : Ob (anyM [.lst xs] S) Q = Q (.bl (bs.any id)) S := by
  unfold anyM
  simp only [asL, h]
  rfl
theorem Ob_sum {xs : List PV} {bs : List Int} (h : intsL xs = some bs) : Ob (sumM [.lst xs] S) Q = Q (.int bs.sum) S := by
  unfold sumM
  simp only [asL, h]
  rfl
theorem all_true {xs : List PV} (h : ∀ p ∈ xs, p = .bl true) : boolsL xs = some (xs.map fun _ => true) := by
  induction xs with
  | nil => rfl
  | cons p ps ih =>
    rw [h p (by simp)]
    simp only [boolsL, ih fun q hq => h q (by simp [hq]), List.map_cons]
theorem Ob_all_true {xs : List PV} (h : ∀ p ∈ xs, p = .bl true) : Ob (allM [.lst xs] S) Q = Q (.bl true) S := by
  rw [Ob_all (all_true h)]
  congr 2
  rw [List.all_eq_true]
  intro b hb
  simp at hb
  show b = true
  exact hb.2
end
end Pm

namespace Pm
open PySem PySem.Spec L2
/-- a rest that simp leaves alone -/
inductive Tag {α : Type} (Q : α → Sto → Prop) : Type where
  | mk
def Ok {α : Type} (o : Out α) (Q : α → Sto → Prop) (u : Tag Q := Tag.mk) : Prop := Ob o Q
section
variable {α β : Type} {S : Sto} {ρ : Rho}
theorem Ok.mono {o : Out α} {Q R : α → Sto → Prop} (h : Ok o Q) (k : ∀ a S, Q a S → R a S) : Ok o R := Ob.mono h k
theorem Ok.ex {o : Out α} {Q : α → Sto → Prop} (h : Ok o Q) : ∃ a S, o = .ok a S ∧ Q a S := Ob.ex h
theorem Ok.eq {o : Out α} {v : α} (h : Ok o fun a S' => a = v ∧ S' = S) : o = .ok v S := Ob.eq h
theorem zaa {a : α} {Q : α → Sto → Prop} : Ok (.ok a S) Q = Q a S := Ob_ok
theorem zab {a : α} {Q : α → Sto → Prop} : Ok (ret a S) Q = Q a S := Ob_ret
theorem zac {m : M α} {f : α → M β} {Q : β → Sto → Prop} : Ok (bnd m f S) Q = Ok (m S) fun a S1 => Ok (f a S1) Q := Ob_bnd
theorem zad {i : Nat} {Q : PV → Sto → Prop} : Ok (dVar i ρ S) Q = (match ρ[i]? with
  | some (some p) => Q p S
  | _ => False) := Ob_dVar
theorem zae {p : PV} {Q : PV → Sto → Prop} : Ok (dC p ρ S) Q = Q p S := Ob_dC
theorem zaf {Q : List PV → Sto → Prop} : Ok (dNil ρ S) Q = Q [] S := Ob_dNil
theorem zag {m : ED} {as : AD} {Q : List PV → Sto → Prop} : Ok (dCons m as ρ S) Q = Ok (m ρ S) fun p S1 => Ok (as ρ S1) fun ps S2 => Q (p :: ps) S2 := Ob_dCons
theorem zah {ps : List PV} {Q : PV → Sto → Prop} : Ok (mkTup ps S) Q = (ps.length ≤ LIM ∧ Q (.tup ps) S) := Ob_mkTup
theorem zai {ps : List PV} {Q : PV → Sto → Prop} : Ok (mkLst ps S) Q = (ps.length ≤ LIM ∧ Q (.lst ps) S) := Ob_mkLst
theorem zbc {ps : List PV} {Q : PV → Sto → Prop} : Ok (mkLoc ps S) Q = (ps.length ≤ LIM ∧ Q (.loc S.length) (S ++ [.lst ps])) := Ob_mkLoc
theorem zaj {f : List PV → M PV} {as : AD} {Q : PV → Sto → Prop} : Ok (dAp f as ρ S) Q = Ok (as ρ S) fun ps S1 => Ok (f ps S1) Q := Ob_dAp
theorem zak {f : List PV → M PV} {n l : Nat} {ix : List Nat} {as bs : AD} {Q : PV → Sto → Prop} : Ok (dApK n l ix f as bs ρ S) Q = Ok (as ρ S) fun us S1 => Ok (bs ρ S1) fun ws S2 => us.length = n ∧ ws.length = l ∧ Ok (f (kput ix us ws) S2) Q := Ob_dApK
theorem zal {g : PV → PV → M PV} {m n : ED} {Q : PV → Sto → Prop} : Ok (dOp g m n ρ S) Q = Ok (m ρ S) fun x S1 => Ok (n ρ S1) fun y S2 => Ok (g x y S2) Q := Ob_dOp
theorem zam {g : PV → M PV} {m : ED} {Q : PV → Sto → Prop} : Ok (dUn g m ρ S) Q = Ok (m ρ S) fun x S1 => Ok (g x S1) Q := Ob_dUn
theorem Ok_ite {c : Prop} [Decidable c] {m n : M α} {Q : α → Sto → Prop} : Ok ((if c then m else n) S) Q = if c then Ok (m S) Q else Ok (n S) Q := Ob_ite
theorem zan {c : BD} {m n : ED} {Q : PV → Sto → Prop} : Ok (dIf c m n ρ S) Q = Ok (c ρ S) fun b S1 => if b = true then Ok (m ρ S1) Q else Ok (n ρ S1) Q := Ob_dIf
theorem zao {b : Bool} {Q : Bool → Sto → Prop} : Ok (asB (.bl b) S) Q = Q b S := Ob_asB
theorem zap {b : Bool} {Q : Bool → Sto → Prop} : Ok (truM (.bl b) S) Q = Q b S := Ob_tru_bl
theorem zaq {b : Int} {Q : Bool → Sto → Prop} : Ok (truM (.int b) S) Q = Q (b != 0) S := Ob_tru_int
theorem zar {Q : Bool → Sto → Prop} : Ok (truM .non S) Q = Q false S := Ob_tru_non
theorem zas {xs : List PV} {Q : Bool → Sto → Prop} : Ok (truM (.tup xs) S) Q = Q (!xs.isEmpty) S := Ob_tru_tup
theorem zat {xs : List PV} {Q : Bool → Sto → Prop} : Ok (truM (.lst xs) S) Q = Q (!xs.isEmpty) S := Ob_tru_lst
theorem zau {m : ED} {Q : Bool → Sto → Prop} : Ok (bTru m ρ S) Q = Ok (m ρ S) fun p S1 => Ok (truM p S1) Q := Ob_bTru
theorem zav {m : ED} {Q : Bool → Sto → Prop} : Ok (bCmp m ρ S) Q = Ok (m ρ S) fun p S1 => Ok (asB p S1) Q := Ob_bCmp
theorem zaw {c : BD} {Q : Bool → Sto → Prop} : Ok (bNot c ρ S) Q = Ok (c ρ S) fun b S1 => Q (!b) S1 := Ob_bNot
theorem zax {Q : Bool → Sto → Prop} : Ok (bYes ρ S) Q = Q true S := Ob_bYes
theorem zay {c d : BD} {Q : Bool → Sto → Prop} : Ok (bAnd c d ρ S) Q = Ok (c ρ S) fun b S1 => if b = true then Ok (d ρ S1) Q else Q false S1 := Ob_bAnd
theorem zaz {c d : BD} {Q : Bool → Sto → Prop} : Ok (bOr c d ρ S) Q = Ok (c ρ S) fun b S1 => if b = true then Q true S1 else Ok (d ρ S1) Q := Ob_bOr
theorem zaA {m n : ED} {Q : PV → Sto → Prop} : Ok (dAnd m n ρ S) Q = Ok (m ρ S) fun x S1 => Ok (truM x S1) fun b S2 => if b = true then Ok (n ρ S2) Q else Q x S2 := Ob_dAnd
theorem zaB {m n : ED} {Q : PV → Sto → Prop} : Ok (dOr m n ρ S) Q = Ok (m ρ S) fun x S1 => Ok (truM x S1) fun b S2 => if b = true then Q x S2 else Ok (n ρ S2) Q := Ob_dOr
theorem zaC {m : ED} {Q : PV → Sto → Prop} : Ok (dNot m ρ S) Q = Ok (m ρ S) fun x S1 => Ok (truM x S1) fun b S2 => Q (.bl (!b)) S2 := Ob_dNot
theorem zaD {g h : PV → PV → M PV} {a b c : ED} {Q : PV → Sto → Prop} : Ok (dChain g h a b c ρ S) Q = Ok (a ρ S) fun x S1 => Ok (b ρ S1) fun y S2 => Ok (g x y S2) fun z S3 => Ok (asB z S3) fun k S4 => if k = true then Ok (c ρ S4) fun w S5 => Ok (h y w S5) Q else Q (.bl false) S4 := Ob_dChain
theorem zaE {i j : Int} {Q : PV → Sto → Prop} : Ok (addM (.int i) (.int j) S) Q = Q (.int (i + j)) S := Ob_add_int
theorem zaF {x y : List PV} {Q : PV → Sto → Prop} : Ok (addM (.lst x) (.lst y) S) Q = (x.length + y.length ≤ LIM ∧ Q (.lst (x ++ y)) S) := Ob_add_lst
theorem zaG {x y : List PV} {Q : PV → Sto → Prop} : Ok (addM (.tup x) (.tup y) S) Q = (x.length + y.length ≤ LIM ∧ Q (.tup (x ++ y)) S) := Ob_add_tup
theorem zaH {i j : Int} {Q : PV → Sto → Prop} : Ok (subM (.int i) (.int j) S) Q = Q (.int (i - j)) S := Ob_sub
theorem zaI {i j : Int} {Q : PV → Sto → Prop} : Ok (mulM (.int i) (.int j) S) Q = (i.natAbs.log2 + j.natAbs.log2 < 1000000 ∧ Q (.int (i * j)) S) := Ob_mul_int
theorem zaJ {x : List PV} {k : Int} {Q : PV → Sto → Prop} : Ok (mulM (.lst x) (.int k) S) Q = ((-1000 ≤ k ∧ k ≤ 1000 ∧ x.length ≤ 100) ∧ Q (.lst (repL k x)) S) := Ob_mul_lst
theorem zaK {i j : Int} {Q : PV → Sto → Prop} : Ok (fdivM (.int i) (.int j) S) Q = ((j ≠ 0 ∧ j.natAbs.log2 < 9000) ∧ Q (.int (i.fdiv j)) S) := Ob_fdiv
theorem zaL {i j : Int} {Q : PV → Sto → Prop} : Ok (modM (.int i) (.int j) S) Q = (j ≠ 0 ∧ Q (.int (i.fmod j)) S) := Ob_mod
theorem zaM {i j : Int} {Q : PV → Sto → Prop} : Ok (powM (.int i) (.int j) S) Q = ((0 ≤ j ∧ j ≤ 1000000 ∧ i.natAbs < 2 ^ 64) ∧ Q (.int (i ^ j.toNat)) S) := Ob_pow
theorem zaN {i : Int} {Q : PV → Sto → Prop} : Ok (negM (.int i) S) Q = Q (.int (-i)) S := Ob_neg
theorem zaO {i j : Int} {Q : PV → Sto → Prop} : Ok (ltM (.int i) (.int j) S) Q = Q (.bl (decide (i < j))) S := Ob_lt
theorem zaP {i j : Int} {Q : PV → Sto → Prop} : Ok (leM (.int i) (.int j) S) Q = Q (.bl (decide (i ≤ j))) S := Ob_le
theorem zaQ {i j : Int} {Q : PV → Sto → Prop} : Ok (gtM (.int i) (.int j) S) Q = Q (.bl (decide (j < i))) S := Ob_gt
theorem zaR {i j : Int} {Q : PV → Sto → Prop} : Ok (geM (.int i) (.int j) S) Q = Q (.bl (decide (j ≤ i))) S := Ob_ge
theorem zaY {a b : Bool} {Q : PV → Sto → Prop} : Ok (isBM (.bl a) (.bl b) S) Q = Q (.bl (decide (a = b))) S := Ob_isB
theorem zaZ {a b : Bool} {Q : PV → Sto → Prop} : Ok (notBM (.bl a) (.bl b) S) Q = Q (.bl (!decide (a = b))) S := Ob_notB
theorem za0 {T : String} {p : PV} {Q : PV → Sto → Prop} : Ok (isiM T p S) Q = Q (.bl (isT T (kindP p))) S := Ob_isi
theorem za1 {i j : Int} {Q : PV → Sto → Prop} : Ok (eqM (.int i) (.int j) S) Q = Q (.bl (i == j)) S := Ob_eq_int
theorem za2 {i j : Int} {Q : PV → Sto → Prop} : Ok (neM (.int i) (.int j) S) Q = Q (.bl (!(i == j))) S := Ob_ne_int
theorem za3 {i j : Bool} {Q : PV → Sto → Prop} : Ok (eqM (.bl i) (.bl j) S) Q = Q (.bl (i == j)) S := Ob_eq_bl
theorem za4 {i j : Bool} {Q : PV → Sto → Prop} : Ok (neM (.bl i) (.bl j) S) Q = Q (.bl (!(i == j))) S := Ob_ne_bl
theorem za5 {i j : Str} {Q : PV → Sto → Prop} : Ok (eqM (.str i) (.str j) S) Q = Q (.bl (i == j)) S := Ob_eq_str
theorem za6 {i j : Str} {Q : PV → Sto → Prop} : Ok (neM (.str i) (.str j) S) Q = Q (.bl (!(i == j))) S := Ob_ne_str
theorem za7 {xs : List PV} {i : Int} {Q : PV → Sto → Prop} : Ok (ixM (.tup xs) (.int i) S) Q = (match atI xs i with
  | some p => Q p S
  | none => False) := Ob_ix_tup
theorem za8 {xs : List PV} {i : Int} {Q : PV → Sto → Prop} : Ok (ixM (.lst xs) (.int i) S) Q = (match atI xs i with
  | some p => Q p S
  | none => False) := Ob_ix_lst
theorem za9 {xs : List PV} {i : Int} {Q : PV → Sto → Prop} : Ok (ixM (.frz xs) (.int i) S) Q = (match atI xs i with
  | some p => Q p S
  | none => False) := Ob_ix_frz
theorem zba {n : Nat} {i : Int} {Q : PV → Sto → Prop} : Ok (ixM (.loc n) (.int i) S) Q = (match S[n]? with
  | some (.lst xs) => (match atI xs i with
    | some p => Q p S
    | none => False)
  | none => False) := Ob_ix_loc
theorem zbd {m : ED} {lo hi : OD} {Q : PV → Sto → Prop} : Ok (dSl m lo hi ρ S) Q = Ok (m ρ S) fun p S1 => Ok (lo ρ S1) fun l S2 => Ok (hi ρ S2) fun h S3 => Ok (slM p l h S3) Q := Ob_dSl
theorem zbe {Q : Option Int → Sto → Prop} : Ok (oNone ρ S) Q = Q none S := Ob_oNone
theorem zbf {m : ED} {Q : Option Int → Sto → Prop} : Ok (oSome m ρ S) Q = Ok (m ρ S) fun p S1 => match p with
  | .int i => Q (some i) S1
  | _ => False := Ob_oSome
theorem zbg {xs : List PV} {l h : Option Int} {Q : PV → Sto → Prop} : Ok (slM (.frz xs) l h S) Q = Q (.lst (cutP xs l h)) S := Ob_sl_frz
theorem zbh {xs : List PV} {l h : Option Int} {Q : PV → Sto → Prop} : Ok (slM (.lst xs) l h S) Q = Q (.lst (cutP xs l h)) S := Ob_sl_lst
theorem zbi {xs : List PV} {l h : Option Int} {Q : PV → Sto → Prop} : Ok (slM (.tup xs) l h S) Q = Q (.tup (cutP xs l h)) S := Ob_sl_tup
theorem zbj {Q : Fl → Sto → Prop} : Ok (sNil ρ S) Q = Q (.nx ρ) S := Ob_sNil
theorem zbk {d f : SD} {Q : Fl → Sto → Prop} : Ok (sSeq d f ρ S) Q = Ok (d ρ S) fun r S1 => match r with
  | .nx ρ' => Ok (f ρ' S1) Q
  | r => Q r S1 := Ob_sSeq
theorem zbl {m : ED} {Q : Fl → Sto → Prop} : Ok (sRet m ρ S) Q = Ok (m ρ S) fun p S1 => Q (.rt p) S1 := Ob_sRet
theorem zbm {Q : Fl → Sto → Prop} : Ok (sRetN ρ S) Q = Q (.rt .non) S := Ob_sRetN
theorem zbn {m : ED} {Q : Fl → Sto → Prop} : Ok (sExpr m ρ S) Q = Ok (m ρ S) fun p S1 => Q (.nx ρ) S1 := Ob_sExpr
theorem zbo {c : BD} {d f : SD} {Q : Fl → Sto → Prop} : Ok (sIf c d f ρ S) Q = Ok (c ρ S) fun b S1 => if b = true then Ok (d ρ S1) Q else Ok (f ρ S1) Q := Ob_sIf
theorem zbp {Q : Fl → Sto → Prop} : Ok (sBrk ρ S) Q = Q (.bk ρ) S := Ob_sBrk
theorem zbq {Q : Fl → Sto → Prop} : Ok (sCt ρ S) Q = Q (.ct ρ) S := Ob_sCt
theorem zbr {Q : Fl → Sto → Prop} : Ok (sNever ρ S) Q = False := Ob_sNever
theorem zbs {i : Nat} {p : PV} {Q : Rho → Sto → Prop} : Ok (gName i p ρ S) Q = Q (ρ.set i (some p)) S := Ob_gName
theorem zbt {m : ED} {g : GD} {Q : Fl → Sto → Prop} : Ok (sAsg m g ρ S) Q = Ok (m ρ S) fun p S1 => Ok (g p ρ S1) fun ρ' S2 => Q (.nx ρ') S2 := Ob_sAsg
theorem zbu {Q : Rho → Sto → Prop} : Ok (gsNil [] ρ S) Q = Q ρ S := Ob_gsNil
theorem zbv {g : GD} {gs : GDs} {p : PV} {ps : List PV} {Q : Rho → Sto → Prop} : Ok (gsCons g gs (p :: ps) ρ S) Q = Ok (g p ρ S) fun ρ' S1 => Ok (gs ps ρ' S1) Q := Ob_gsCons
theorem zbw {n : Nat} {gs : GDs} {ps : List PV} {Q : Rho → Sto → Prop} : Ok (gTup n gs (.tup ps) ρ S) Q = (ps.length = n ∧ Ok (gs ps ρ S) Q) := Ob_gTup
theorem zbx {n : Nat} {gs : GDs} {ps : List PV} {Q : Rho → Sto → Prop} : Ok (gTup n gs (.lst ps) ρ S) Q = (ps.length = n ∧ Ok (gs ps ρ S) Q) := Ob_gTup_lst
theorem zbb {mo mi : ED} {p : PV} {Q : Rho → Sto → Prop} : Ok (gSub mo mi p ρ S) Q = Ok (mo ρ S) fun o S1 => Ok (mi ρ S1) fun i S2 => match o, i with
  | .loc n, .int k => (match S2[n]? with
    | some (.lst xs) => (match ixN xs.length k with
      | some j => Q ρ (S2.set n (.lst (xs.set j p)))
      | none => False)
    | none => False)
  | _, _ => False := Ob_gSub
theorem zby {i j : Nat} {as : AD} {Q : Fl → Sto → Prop} : Ok (sPar i j as ρ S) Q = Ok (as ρ S) fun ps S1 => match ps with
  | [p, q] => Q (.nx ((ρ.set i (some p)).set j (some q))) S1
  | _ => False := Ob_sPar
theorem zbz {i j l : Nat} {as : AD} {Q : Fl → Sto → Prop} : Ok (sPar3 i j l as ρ S) Q = Ok (as ρ S) fun ps S1 => match ps with
  | [p, q, r] => Q (.nx (((ρ.set i (some p)).set j (some q)).set l (some r))) S1
  | _ => False := Ob_sPar3
theorem zbA {m : ED} {Q : Src → Sto → Prop} : Ok (iSeq m ρ S) Q = Ok (m ρ S) fun p S1 => Ok (seqSrc p S1) Q := Ob_iSeq
theorem zbB {ps : List PV} {Q : Src → Sto → Prop} : Ok (seqSrc (.tup ps) S) Q = Q ⟨ps, fun _ => True⟩ S := Ob_src_tup
theorem zbC {ps : List PV} {Q : Src → Sto → Prop} : Ok (seqSrc (.lst ps) S) Q = Q ⟨ps, fun _ => True⟩ S := Ob_src_lst
theorem zbD {ps : List PV} {Q : Src → Sto → Prop} : Ok (seqSrc (.frz ps) S) Q = Q ⟨ps, fun _ => True⟩ S := Ob_src_frz
theorem zbF {f : List PV → M Src} {as : AD} {Q : Src → Sto → Prop} : Ok (iAp f as ρ S) Q = Ok (as ρ S) fun ps S1 => Ok (f ps S1) Q := Ob_iAp
theorem zbG {j : Int} {Q : Src → Sto → Prop} : Ok (rng1 [.int j] S) Q = ((-(2 ^ 62) ≤ j ∧ j < 2 ^ 62) ∧ Q ⟨rngL 0 j.toNat, fun _ => True⟩ S) := Ob_rng1
theorem zbH {i j : Int} {Q : Src → Sto → Prop} : Ok (rng2 [.int i, .int j] S) Q = ((-(2 ^ 62) ≤ i ∧ i < 2 ^ 62 ∧ -(2 ^ 62) ≤ j ∧ j < 2 ^ 62) ∧ Q ⟨rngL i (j - i).toNat, fun _ => True⟩ S) := Ob_rng2
theorem zbI {im : ID} {g : GD} {d : SD} {Q : Fl → Sto → Prop} : Ok (sFor im g d ρ S) Q = Ok (im ρ S) fun s S1 => Ok (forM s.ok g d s.items ρ S1) Q := Ob_sFor
theorem zdh {g : GD} {d : SD} {Q : Fl → Sto → Prop} : Ok (forM (fun _ => True) g d [] ρ S) Q = Q (.nx ρ) S := Ob_for_nil
theorem zdg {g : GD} {d : SD} {p : PV} {ps : List PV} {Q : Fl → Sto → Prop} : Ok (forM (fun _ => True) g d (p :: ps) ρ S) Q = Ok (g p ρ S) fun ρ1 S1 => Ok (d ρ1 S1) fun r S2 => match r with
  | .nx ρ2 => Ok (forM (fun _ => True) g d ps ρ2 S2) Q
  | .ct ρ2 => Ok (forM (fun _ => True) g d ps ρ2 S2) Q
  | .bk ρ2 => Q (.nx ρ2) S2
  | .rt v => Q (.rt v) S2 := Ob_for_cons
theorem Ok_for {g : GD} {d : SD} {Q : Fl → Sto → Prop} {its : List PV} (I : Nat → Rho → Sto → Prop) (h0 : I 0 ρ S)
    (st : ∀ (i : Nat) p ρ S, its[i]? = some p → I i ρ S → Ok (g p ρ S) fun ρ1 S1 => Ok (d ρ1 S1) fun r S2 => match r with
      | .nx ρ2 => I (i + 1) ρ2 S2
      | .ct ρ2 => I (i + 1) ρ2 S2
      | .bk ρ2 => Q (.nx ρ2) S2
      | .rt v => Q (.rt v) S2) (hq : ∀ ρ S, I its.length ρ S → Q (.nx ρ) S) : Ok (forM (fun _ => True) g d its ρ S) Q := Ob_for I h0 st hq
theorem Ok_forK {ok : Sto → Prop} {g : GD} {d : SD} {Q : Fl → Sto → Prop} {its : List PV} (I : Nat → Rho → Sto → Prop) (h0 : I 0 ρ S) (hI : ∀ i ρ S, I i ρ S → ok S)
    (st : ∀ (i : Nat) p ρ S, its[i]? = some p → I i ρ S → Ok (g p ρ S) fun ρ1 S1 => Ok (d ρ1 S1) fun r S2 => match r with
      | .nx ρ2 => I (i + 1) ρ2 S2
      | .ct ρ2 => I (i + 1) ρ2 S2
      | .bk ρ2 => Q (.nx ρ2) S2
      | .rt v => Q (.rt v) S2) (hq : ∀ ρ S, I its.length ρ S → Q (.nx ρ) S) : Ok (forM ok g d its ρ S) Q := Ob_forK I h0 hI st hq
theorem zbE {n : Nat} {Q : Src → Sto → Prop} : Ok (seqSrc (.loc n) S) Q = (match S[n]? with
  | some (.lst ps) => Q ⟨ps, fun S' => S'[n]? = some (.lst ps)⟩ S
  | none => False) := Ob_src_loc
theorem Ok_noX {m : M α} {Q : α → Sto → Prop} : Ok (noX m S) Q = Ok (m S) Q := Ob_noX
theorem zdd {im : ID} {g : GD} {t : BD} {m : ED} {vs : List Nat} {Q : PV → Sto → Prop} : Ok (dLC im g t m vs ρ S) Q = Ok (im ρ S) fun s S1 => s.items.length ≤ LIM ∧ Ok (lcM s.ok g t m (wipeR ρ vs) s.items S1) fun qs S2 => Q (.lst qs) S2 := Ob_dLC
theorem zdf {g : GD} {t : BD} {m : ED} {Q : List PV → Sto → Prop} : Ok (lcM (fun _ => True) g t m ρ [] S) Q = Q [] S := Ob_lc_nil
theorem zde {g : GD} {t : BD} {m : ED} {p : PV} {ps : List PV} {Q : List PV → Sto → Prop} : Ok (lcM (fun _ => True) g t m ρ (p :: ps) S) Q = Ok (g p ρ S) fun ρ1 S1 => Ok (t ρ1 S1) fun b S2 => if b = true then Ok (m ρ1 S2) fun q S3 => Ok (lcM (fun _ => True) g t m ρ ps S3) fun qs S4 => Q (q :: qs) S4 else Ok (lcM (fun _ => True) g t m ρ ps S2) Q := Ob_lc_cons
theorem Ok_lc {m : ED} {i : Nat} {its : List PV} {Q : List PV → Sto → Prop} (J : Sto → Prop) (P : Nat → PV → Prop) (h0 : J S)
    (st : ∀ (k : Nat) p S, its[k]? = some p → J S → Ok (m (ρ.set i (some p)) S) fun q S' => P k q ∧ J S')
    (hq : ∀ qs S, qs.length = its.length → (∀ (k : Nat) q, qs[k]? = some q → P k q) → J S → Q qs S) : Ok (lcM (fun _ => True) (gName i) bYes m ρ its S) Q := Ob_lc J P h0 st hq
theorem Ok_while {c : BD} {d : SD} {Q : Fl → Sto → Prop} (I : Nat → Rho → Sto → Prop)
    (st : ∀ n ρ S, I n ρ S → Ok (c ρ S) fun b S1 => if b = true then Ok (d ρ S1) fun r S2 => match r with
      | .nx ρ2 => ∃ m, m < n ∧ I m ρ2 S2
      | .ct ρ2 => ∃ m, m < n ∧ I m ρ2 S2
      | .bk ρ2 => Q (.nx ρ2) S2
      | .rt v => Q (.rt v) S2 else Q (.nx ρ) S1) (n : Nat) (h0 : I n ρ S) : Ok (sWhile c d ρ S) Q := Ob_while I st n h0
theorem Ok_bodyR {d : SD} {Q : PV → Sto → Prop} : Ok (bodyR d ρ S) Q = Ok (d ρ S) fun r S1 => match r with
  | .nx _ => Q .non S1
  | .rt p => Q p S1
  | _ => False := Ob_bodyR
theorem Ok_defM {a n : Nat} {d : SD} {ps : List PV} {Q : PV → Sto → Prop} (hl : ps.length = a) (h : Ok (d (rho0 n ps) S) fun r S1 => match r with
  | .nx _ => S1.length = S.length ∧ Q .non S1
  | .rt p => S1.length = S.length ∧ Q p S1
  | _ => False) : Ok (defM a n d ps S) Q := Ob_defM hl h
theorem Ok_defK {a n : Nat} {d : SD} {ps : List PV} {Q : PV → Sto → Prop} (hl : ps.length = a) (h : Ok (d (rho0 n ps) S) fun r S1 => match r with
  | .nx _ => Q .non S1
  | .rt p => Q p S1
  | _ => False) : Ok (defK a n d ps S) Q := Ob_defK hl h
end
section
variable {S : Sto} {Q : PV → Sto → Prop}
theorem zbJ {xs : List PV} : Ok (lenM [.tup xs] S) Q = Q (.int xs.length) S := Ob_len_tup
theorem zbK {xs : List PV} : Ok (lenM [.lst xs] S) Q = Q (.int xs.length) S := Ob_len_lst
theorem zbL {xs : List PV} : Ok (lenM [.frz xs] S) Q = Q (.int xs.length) S := Ob_len_frz
theorem zbM {i : Int} : Ok (intM [.int i] S) Q = Q (.int i) S := Ob_int
theorem zbN {b : Bool} : Ok (intM [.bl b] S) Q = Q (.int (if b then 1 else 0)) S := Ob_int_bl
theorem zbO {i : Int} : Ok (absM [.int i] S) Q = Q (.int (if i < 0 then -i else i)) S := Ob_abs
theorem zbP {i j : Int} : Ok (max2M [.int i, .int j] S) Q = Q (.int (if j > i then j else i)) S := Ob_max2
theorem zbQ {i j : Int} : Ok (min2M [.int i, .int j] S) Q = Q (.int (if j < i then j else i)) S := Ob_min2
theorem zbR {i j : Int} : Ok (gcdM [.int i, .int j] S) Q = Q (.int (Int.gcd i j)) S := Ob_gcd
theorem zbS {xs : List PV} : Ok (tupleM [.lst xs] S) Q = Q (.tup xs) S := Ob_tuple_lst
theorem zbT {xs : List PV} : Ok (tupleM [.tup xs] S) Q = Q (.tup xs) S := Ob_tuple_tup
theorem zbU {xs : List PV} : Ok (listM [.lst xs] S) Q = Q (.lst xs) S := Ob_list_lst
theorem zbV {xs : List PV} : Ok (listM [.tup xs] S) Q = Q (.lst xs) S := Ob_list_tup
theorem Ok_divmod {i j : Int} : Ok (divmodM [.int i, .int j] S) Q = ((0 < j ∧ j < 1073741824) ∧ Q (.tup [.int (i / j), .int (i % j)]) S) := Ob_divmod
theorem Ok_all {xs : List PV} {bs : List Bool} (h : boolsL xs = some bs) : Ok (allM [.lst xs] S) Q = Q (.bl (bs.all id)) S := Ob_all h
theorem Ok_any {xs : List PV} {bs : List Bool} (h : boolsL xs = some bs) : Ok (anyM [.lst xs] S) Q = Q (.bl (bs.any id)) S := Ob_any h
theorem Ok_sum {xs : List PV} {bs : List Int} (h : intsL xs = some bs) : Ok (sumM [.lst xs] S) Q = Q (.int bs.sum) S := Ob_sum h
theorem Ok_all_true {xs : List PV} (h : ∀ p ∈ xs, p = .bl true) : Ok (allM [.lst xs] S) Q = Q (.bl true) S := Ob_all_true h
end
end Pm

namespace Pm
open PySem PySem.Spec L2

theorem dataS_of {p : PV} {S : Sto} {d : PyData} (h : p.data = some d) : dataS p S = some d := by
  have e : deref p S = p := by
    cases p with
    | loc n => simp [PV.data] at h
    | _ => rfl
  unfold dataS
  rw [e, h]
/-! ## fractions -/
def rv (q : Rat) : PV := .tup [.int q.num, .int q.den]
/-- how long a fraction's two numbers are -/
class Sz (q : Rat) (k : outParam Nat) : Prop where
  n : q.num.natAbs < 2 ^ k
  d : q.den < 2 ^ k
theorem den_le (a b : Int) (hb : b ≠ 0) : (Rat.divInt a b).den ≤ b.natAbs := by
  rw [Rat.den_divInt, if_neg hb]
  exact Nat.div_le_self ..
theorem num_le (a b : Int) : (Rat.divInt a b).num.natAbs ≤ a.natAbs := by
  rw [Rat.num_divInt]
  by_cases hb : b = 0
  · subst hb; simp
  rw [Int.natAbs_ediv_of_dvd]
  · refine Nat.le_trans (Nat.div_le_self ..) ?_
    rw [Int.natAbs_mul, Int.natAbs_sign_of_ne_zero hb, Nat.one_mul]
    exact Nat.le_refl _
  · exact Int.dvd_mul_of_dvd_right (Int.gcd_dvd_right ..)
theorem sz_fr {a b : Int} {k : Nat} (hb : b ≠ 0) (ha : a.natAbs < 2 ^ k) (hk : b.natAbs < 2 ^ k) : Sz (Rat.divInt a b) k := ⟨Nat.lt_of_le_of_lt (num_le a b) ha, Nat.lt_of_le_of_lt (den_le a b hb) hk⟩
theorem add_fr (q r : Rat) : q + r = Rat.divInt (q.num * r.den + r.num * q.den) (q.den * r.den) := by
  rw [Rat.add_def', ← Rat.divInt_ofNat, Int.natCast_mul]
theorem sub_fr (q r : Rat) : q - r = Rat.divInt (q.num * r.den - r.num * q.den) (q.den * r.den) := by
  rw [Rat.sub_def', ← Rat.divInt_ofNat, Int.natCast_mul]
theorem mul_fr (q r : Rat) : q * r = Rat.divInt (q.num * r.num) (q.den * r.den) := by
  rw [Rat.mul_def', ← Rat.divInt_ofNat, Int.natCast_mul]
theorem div_fr (q r : Rat) : q / r = Rat.divInt (q.num * r.den) (q.den * r.num) := by
  rw [Rat.div_def, Rat.inv_def]
  conv => lhs; rw [← Rat.num_divInt_den q]
  rw [Rat.divInt_mul_divInt]
theorem den_nz (q : Rat) : (q.den : Int) ≠ 0 := by have := q.den_pos; omega
theorem num_nz {q : Rat} (h : q ≠ 0) : q.num ≠ 0 := fun e => h (Rat.num_eq_zero.mp e)
theorem prod_lt {a b k l : Nat} (ha : a < 2 ^ k) (hb : b < 2 ^ l) : a * b < 2 ^ (k + l) := by
  rw [Nat.pow_add]
  exact Nat.mul_lt_mul'' ha hb
theorem sum_lt {a b c d k l : Nat} (ha : a < 2 ^ k) (hb : b < 2 ^ l) (hc : c < 2 ^ l) (hd : d < 2 ^ k) : a * b + c * d < 2 ^ (k + l + 1) := by
  have h1 := prod_lt ha hb
  have h2 := prod_lt hd hc
  rw [Nat.mul_comm d c] at h2
  rw [Nat.pow_succ]
  omega
theorem Sz.pos {q : Rat} {k : Nat} (h : Sz q k) : 1 ≤ k := by
  have h1 := h.d
  have h2 := q.den_pos
  cases k with
  | zero => simp at h1; omega
  | succ k => omega
theorem Sz.le {q : Rat} {k l : Nat} (h : Sz q k) (hl : k ≤ l) : Sz q l := ⟨Nat.lt_of_lt_of_le h.n (Nat.pow_le_pow_right (by decide) hl), Nat.lt_of_lt_of_le h.d (Nat.pow_le_pow_right (by decide) hl)⟩
theorem natAbs_add_le2 (a b : Int) : (a + b).natAbs ≤ a.natAbs + b.natAbs := Int.natAbs_add_le a b
section
variable {q r : Rat} {k l : Nat}
theorem nAdd (h : Sz q k) (g : Sz r l) : (q.num * r.den + r.num * q.den).natAbs < 2 ^ (k + l + 1) := by
  refine Nat.lt_of_le_of_lt (Int.natAbs_add_le _ _) ?_
  rw [Int.natAbs_mul, Int.natAbs_mul]
  exact sum_lt h.n g.d g.n h.d
theorem nSub (h : Sz q k) (g : Sz r l) : (q.num * r.den - r.num * q.den).natAbs < 2 ^ (k + l + 1) := by
  refine Nat.lt_of_le_of_lt (Int.natAbs_sub_le _ _) ?_
  rw [Int.natAbs_mul, Int.natAbs_mul]
  exact sum_lt h.n g.d g.n h.d
theorem nMul (h : Sz q k) (g : Sz r l) : (q.num * r.num).natAbs < 2 ^ (k + l) := by
  rw [Int.natAbs_mul]
  exact prod_lt h.n g.n
theorem nDen (h : Sz q k) (g : Sz r l) : ((q.den : Int) * r.den).natAbs < 2 ^ (k + l) := by
  rw [Int.natAbs_mul]
  exact prod_lt h.d g.d
theorem nDiv (h : Sz q k) (g : Sz r l) : (q.num * r.den).natAbs < 2 ^ (k + l) := by
  rw [Int.natAbs_mul]
  exact prod_lt h.n g.d
theorem nDivD (h : Sz q k) (g : Sz r l) : (q.den * r.num).natAbs < 2 ^ (k + l) := by
  rw [Int.natAbs_mul]
  exact prod_lt h.d g.n
theorem dd_nz (q r : Rat) : (q.den : Int) * r.den ≠ 0 := Int.mul_ne_zero (den_nz q) (den_nz r)
instance Sz.add [h : Sz q k] [g : Sz r l] : Sz (q + r) (k + l + 1) := by
  rw [add_fr]
  exact sz_fr (dd_nz q r) (nAdd h g) (Nat.lt_trans (nDen h g) (Nat.pow_lt_pow_right (by decide) (by omega)))
instance Sz.sub [h : Sz q k] [g : Sz r l] : Sz (q - r) (k + l + 1) := by
  rw [sub_fr]
  exact sz_fr (dd_nz q r) (nSub h g) (Nat.lt_trans (nDen h g) (Nat.pow_lt_pow_right (by decide) (by omega)))
instance Sz.mul [h : Sz q k] [g : Sz r l] : Sz (q * r) (k + l) := by
  rw [mul_fr]
  exact sz_fr (dd_nz q r) (nMul h g) (nDen h g)
instance Sz.div [h : Sz q k] [g : Sz r l] : Sz (q / r) (k + l) := by
  by_cases hr : r = 0
  · subst hr
    have e : q / 0 = 0 := by rw [Rat.div_def, Rat.inv_zero, Rat.mul_zero]
    rw [e]
    have : 1 < 2 ^ (k + l) := Nat.one_lt_pow (by have := h.pos; omega) (by decide)
    exact ⟨by simpa using Nat.two_pow_pos _, by simpa using this⟩
  rw [div_fr]
  exact sz_fr (Int.mul_ne_zero (den_nz q) (num_nz hr)) (nDiv h g) (nDivD h g)
instance Sz.neg [h : Sz q k] : Sz (-q) k := ⟨by simpa using h.n, by simpa using h.d⟩
instance Sz.zero : Sz 0 1 := ⟨by decide, by decide⟩
instance Sz.one : Sz 1 1 := ⟨by decide, by decide⟩
instance Sz.two : Sz 2 2 := ⟨by decide, by decide⟩
instance Sz.three : Sz 3 2 := ⟨by decide, by decide⟩
instance Sz.four : Sz 4 3 := ⟨by decide, by decide⟩
end
theorem fdiv_of_dvd {a b : Int} (h : b ∣ a) : a.fdiv b = a / b := Int.fdiv_eq_ediv_of_dvd h
/-- a whole by the sign of what stands under it -/
theorem fr_num {a b : Int} (hb : b ≠ 0) : a.fdiv (if 0 < b then (Int.gcd a b : Int) else -(Int.gcd a b : Int)) = (Rat.divInt a b).num := by
  rw [Rat.num_divInt, Int.gcd_comm b a]
  have h1 : (Int.gcd a b : Int) ∣ a := Int.gcd_dvd_left ..
  split <;> rename_i h
  · rw [fdiv_of_dvd h1, Int.sign_eq_one_of_pos h, Int.one_mul]
  · have h2 : b < 0 := by omega
    rw [fdiv_of_dvd (Int.neg_dvd.mpr h1), Int.ediv_neg, Int.sign_eq_neg_one_of_neg h2, Int.neg_mul, Int.one_mul, Int.neg_ediv_of_dvd h1]
theorem fr_den {a b : Int} (hb : b ≠ 0) : b.fdiv (if 0 < b then (Int.gcd a b : Int) else -(Int.gcd a b : Int)) = ((Rat.divInt a b).den : Int) := by
  rw [Rat.den_divInt, if_neg hb, Int.gcd_comm b a]
  have h1 : (Int.gcd a b : Int) ∣ b := Int.gcd_dvd_right ..
  have h3 : ((b.natAbs / Int.gcd a b : Nat) : Int) = (b.natAbs : Int) / (Int.gcd a b : Int) := Int.natCast_ediv ..
  rw [h3]
  split <;> rename_i h
  · rw [fdiv_of_dvd h1]
    congr 1
    omega
  · have h2 : b < 0 := by omega
    rw [fdiv_of_dvd (Int.neg_dvd.mpr h1), Int.ediv_neg]
    have : (b.natAbs : Int) = -b := by omega
    rw [this, Int.neg_ediv_of_dvd h1]
theorem gcd_nz {a b : Int} (hb : b ≠ 0) : (Int.gcd a b : Int) ≠ 0 := by
  have := Int.gcd_pos_of_ne_zero_right a hb
  omega
theorem log_of_lt {a k : Nat} (h : a < 2 ^ k) (hk : 1 ≤ k) : a.log2 < k := by
  by_cases h0 : a = 0
  · subst h0; simp; omega
  · exact (Nat.log2_lt h0).mpr h
theorem log_gcd {a b : Int} {k : Nat} (hb : b ≠ 0) (h : b.natAbs < 2 ^ k) : (Int.gcd a b).log2 < k := by
  refine log_of_lt (Nat.lt_of_le_of_lt ?_ h) ?_
  · rw [Int.gcd_comm]
    exact Nat.le_of_dvd (by omega) (Int.gcd_dvd_natAbs_left ..)
  · cases k with
    | zero => simp at h; omega
    | succ => omega
theorem coprime_int (q : Rat) : Int.gcd q.num q.den = 1 := q.reduced
/-! equal, told by data -/
section
variable {S : Sto} {Q : PV → Sto → Prop}
theorem rv_inj {q r : Rat} : rv q = rv r ↔ q = r := by
  constructor
  · intro h
    simp only [rv, PV.tup.injEq, List.cons.injEq, PV.int.injEq, and_true] at h
    exact Rat.ext h.1 (by omega)
  · rintro rfl; rfl
theorem eqD_rv (q r : Rat) : eqB (rv q) (rv r) S = some (decide (q = r)) := by
  have e : eqB (rv q) (rv r) S = some ((q.num == r.num) && ((q.den : Int) == (r.den : Int) && true)) := rfl
  rw [e]
  congr 1
  rw [Bool.eq_iff_iff]
  simp only [Bool.and_eq_true, beq_iff_eq, and_true, decide_eq_true_eq]
  constructor
  · intro ⟨a, b⟩
    exact Rat.ext a (by omega)
  · rintro rfl
    exact ⟨rfl, rfl⟩
theorem zbX {q r : Rat} : Ok (eqM (rv q) (rv r) S) Q = Q (.bl (decide (q = r))) S := by
  unfold eqM
  rw [eqD_rv]
  rfl
theorem zbY {q r : Rat} : Ok (neM (rv q) (rv r) S) Q = Q (.bl (!decide (q = r))) S := by
  unfold neM
  rw [eqD_rv]
  rfl
end
end Pm

namespace Pm
open PySem PySem.Spec L2

/-! ## data without truth values: equal just if the same -/
mutual
def PV.pln : PV → Bool
  | .non => true
  | .int _ => true
  | .str x => PyData.canLay0 (.str x)
  | .tup xs => plnL xs
  | .lst xs => plnL xs
  | .bl _ => false
  | .frz _ => false
  | .loc _ => false
  | .dct => false
def plnL : List PV → Bool
  | [] => true
  | p :: ps => PV.pln p && plnL ps
end
mutual
def PV.dep : PV → Nat
  | .tup xs => depL xs + 1
  | .lst xs => depL xs + 1
  | .non => 0
  | .int _ => 0
  | .str _ => 0
  | .bl _ => 0
  | .frz _ => 0
  | .loc _ => 0
  | .dct => 0
def depL : List PV → Nat
  | [] => 0
  | p :: ps => max (PV.dep p) (depL ps)
end
mutual
theorem pln_data : ∀ p : PV, p.pln = true → ∃ d, p.data = some d ∧ d.canLay0 = true ∧ d.depth = p.dep
  | .non, _ => ⟨.none, by simp [PV.data], by simp [PyData.canLay0], by simp [PyData.depth, PV.dep]⟩
  | .int i, _ => ⟨.int i, by simp [PV.data], by simp [PyData.canLay0], by simp [PyData.depth, PV.dep]⟩
  | .str x, h => ⟨.str x, by simp [PV.data], by simpa [PV.pln] using h, by simp [PyData.depth, PV.dep]⟩
  | .tup xs, h => by
    obtain ⟨ds, h1, h2, h3⟩ := pln_dataL xs (by simpa [PV.pln] using h)
    exact ⟨.tuple ds, by simp [PV.data, h1], by simpa [PyData.canLay0] using h2, by simp [PyData.depth, PV.dep, h3]⟩
  | .lst xs, h => by
    obtain ⟨ds, h1, h2, h3⟩ := pln_dataL xs (by simpa [PV.pln] using h)
    exact ⟨.list ds, by simp [PV.data, h1], by simpa [PyData.canLay0] using h2, by simp [PyData.depth, PV.dep, h3]⟩
  | .bl _, h => by simp [PV.pln] at h
  | .frz _, h => by simp [PV.pln] at h
  | .loc _, h => by simp [PV.pln] at h
  | .dct, h => by simp [PV.pln] at h
theorem pln_dataL : ∀ ps : List PV, plnL ps = true → ∃ ds, dataL ps = some ds ∧ PyData.canLayAll0 ds = true ∧ PyData.depthAll ds = depL ps
  | [], _ => ⟨[], by simp [dataL], by simp [PyData.canLayAll0], by simp [PyData.depthAll, depL]⟩
  | p :: ps, h => by
    simp only [plnL, Bool.and_eq_true] at h
    obtain ⟨d, a1, a2, a3⟩ := pln_data p h.1
    obtain ⟨ds, b1, b2, b3⟩ := pln_dataL ps h.2
    exact ⟨d :: ds, by simp [dataL, a1, b1], by simp [PyData.canLayAll0, a2, b2], by simp [PyData.depthAll, depL, a3, b3]⟩
end
mutual
theorem pln_eqv : ∀ (p q : PV) (d e : PyData), p.pln = true → q.pln = true → p.data = some d → q.data = some e → (PyData.eqv d e = true ↔ p = q)
  | .non, q, d, e, hp, hq, h1, h2 => by
    simp only [PV.data, Option.some.injEq] at h1; subst h1
    cases q with
    | non => simp only [PV.data, Option.some.injEq] at h2; subst h2; simp [PyData.eqv]
    | int j => simp only [PV.data, Option.some.injEq] at h2; subst h2; simp [PyData.eqv]
    | str j => simp only [PV.data, Option.some.injEq] at h2; subst h2; simp [PyData.eqv]
    | tup ys => obtain ⟨es, b1, b2, b3⟩ := pln_dataL ys (by simpa [PV.pln] using hq); simp only [PV.data, b1, Option.some.injEq] at h2; subst h2; simp [PyData.eqv]
    | lst ys => obtain ⟨es, b1, b2, b3⟩ := pln_dataL ys (by simpa [PV.pln] using hq); simp only [PV.data, b1, Option.some.injEq] at h2; subst h2; simp [PyData.eqv]
    | bl _ => simp [PV.pln] at hq
    | frz _ => simp [PV.pln] at hq
    | loc _ => simp [PV.pln] at hq
    | dct => simp [PV.pln] at hq
  | .int i, q, d, e, hp, hq, h1, h2 => by
    simp only [PV.data, Option.some.injEq] at h1; subst h1
    cases q with
    | non => simp only [PV.data, Option.some.injEq] at h2; subst h2; simp [PyData.eqv]
    | int j => simp only [PV.data, Option.some.injEq] at h2; subst h2; simp [PyData.eqv]
    | str j => simp only [PV.data, Option.some.injEq] at h2; subst h2; simp [PyData.eqv]
    | tup ys => obtain ⟨es, b1, b2, b3⟩ := pln_dataL ys (by simpa [PV.pln] using hq); simp only [PV.data, b1, Option.some.injEq] at h2; subst h2; simp [PyData.eqv]
    | lst ys => obtain ⟨es, b1, b2, b3⟩ := pln_dataL ys (by simpa [PV.pln] using hq); simp only [PV.data, b1, Option.some.injEq] at h2; subst h2; simp [PyData.eqv]
    | bl _ => simp [PV.pln] at hq
    | frz _ => simp [PV.pln] at hq
    | loc _ => simp [PV.pln] at hq
    | dct => simp [PV.pln] at hq
  | .str x, q, d, e, hp, hq, h1, h2 => by
    simp only [PV.data, Option.some.injEq] at h1; subst h1
    cases q with
    | non => simp only [PV.data, Option.some.injEq] at h2; subst h2; simp [PyData.eqv]
    | int j => simp only [PV.data, Option.some.injEq] at h2; subst h2; simp [PyData.eqv]
    | str j => simp only [PV.data, Option.some.injEq] at h2; subst h2; simp [PyData.eqv]
    | tup ys => obtain ⟨es, b1, b2, b3⟩ := pln_dataL ys (by simpa [PV.pln] using hq); simp only [PV.data, b1, Option.some.injEq] at h2; subst h2; simp [PyData.eqv]
    | lst ys => obtain ⟨es, b1, b2, b3⟩ := pln_dataL ys (by simpa [PV.pln] using hq); simp only [PV.data, b1, Option.some.injEq] at h2; subst h2; simp [PyData.eqv]
    | bl _ => simp [PV.pln] at hq
    | frz _ => simp [PV.pln] at hq
    | loc _ => simp [PV.pln] at hq
    | dct => simp [PV.pln] at hq
  | .tup xs, q, d, e, hp, hq, h1, h2 => by
    have hp' : plnL xs = true := by simpa [PV.pln] using hp
    obtain ⟨ds, a1, a2, a3⟩ := pln_dataL xs hp'
    simp only [PV.data, a1, Option.some.injEq] at h1; subst h1
    cases q with
    | non => simp only [PV.data, Option.some.injEq] at h2; subst h2; simp [PyData.eqv]
    | int j => simp only [PV.data, Option.some.injEq] at h2; subst h2; simp [PyData.eqv]
    | str j => simp only [PV.data, Option.some.injEq] at h2; subst h2; simp [PyData.eqv]
    | tup ys =>
      have hq' : plnL ys = true := by simpa [PV.pln] using hq
      obtain ⟨es, b1, b2, b3⟩ := pln_dataL ys hq'
      simp only [PV.data, b1, Option.some.injEq] at h2; subst h2
      simp only [PyData.eqv, PV.tup.injEq]
      exact pln_eqvL xs ys ds es hp' hq' a1 b1
    | lst ys => obtain ⟨es, b1, b2, b3⟩ := pln_dataL ys (by simpa [PV.pln] using hq); simp only [PV.data, b1, Option.some.injEq] at h2; subst h2; simp [PyData.eqv]
    | bl _ => simp [PV.pln] at hq
    | frz _ => simp [PV.pln] at hq
    | loc _ => simp [PV.pln] at hq
    | dct => simp [PV.pln] at hq
  | .lst xs, q, d, e, hp, hq, h1, h2 => by
    have hp' : plnL xs = true := by simpa [PV.pln] using hp
    obtain ⟨ds, a1, a2, a3⟩ := pln_dataL xs hp'
    simp only [PV.data, a1, Option.some.injEq] at h1; subst h1
    cases q with
    | non => simp only [PV.data, Option.some.injEq] at h2; subst h2; simp [PyData.eqv]
    | int j => simp only [PV.data, Option.some.injEq] at h2; subst h2; simp [PyData.eqv]
    | str j => simp only [PV.data, Option.some.injEq] at h2; subst h2; simp [PyData.eqv]
    | lst ys =>
      have hq' : plnL ys = true := by simpa [PV.pln] using hq
      obtain ⟨es, b1, b2, b3⟩ := pln_dataL ys hq'
      simp only [PV.data, b1, Option.some.injEq] at h2; subst h2
      simp only [PyData.eqv, PV.lst.injEq]
      exact pln_eqvL xs ys ds es hp' hq' a1 b1
    | tup ys => obtain ⟨es, b1, b2, b3⟩ := pln_dataL ys (by simpa [PV.pln] using hq); simp only [PV.data, b1, Option.some.injEq] at h2; subst h2; simp [PyData.eqv]
    | bl _ => simp [PV.pln] at hq
    | frz _ => simp [PV.pln] at hq
    | loc _ => simp [PV.pln] at hq
    | dct => simp [PV.pln] at hq
  | .bl _, _, _, _, h, _, _, _ => by simp [PV.pln] at h
  | .frz _, _, _, _, h, _, _, _ => by simp [PV.pln] at h
  | .loc _, _, _, _, h, _, _, _ => by simp [PV.pln] at h
  | .dct, _, _, _, h, _, _, _ => by simp [PV.pln] at h
theorem pln_eqvL : ∀ (ps qs : List PV) (ds es : List PyData), plnL ps = true → plnL qs = true → dataL ps = some ds → dataL qs = some es → (PyData.eqvAll ds es = true ↔ ps = qs)
  | [], [], ds, es, _, _, h1, h2 => by
    simp only [dataL, Option.some.injEq] at h1 h2; subst h1; subst h2
    simp [PyData.eqvAll]
  | [], q :: qs, ds, es, _, hq, h1, h2 => by
    obtain ⟨es', b1, _, _⟩ := pln_dataL (q :: qs) hq
    simp only [dataL, Option.some.injEq] at h1; subst h1
    cases es with
    | nil => rw [h2] at b1; simp only [plnL, Bool.and_eq_true] at hq; obtain ⟨d, c1, _⟩ := pln_data q hq.1; obtain ⟨ds, c2, _⟩ := pln_dataL qs hq.2; simp [dataL, c1, c2] at h2
    | cons => simp [PyData.eqvAll]
  | p :: ps, [], ds, es, hp, _, h1, h2 => by
    simp only [dataL, Option.some.injEq] at h2; subst h2
    simp only [plnL, Bool.and_eq_true] at hp
    obtain ⟨d, c1, _⟩ := pln_data p hp.1
    obtain ⟨ds', c2, _⟩ := pln_dataL ps hp.2
    simp only [dataL, c1, c2, Option.some.injEq] at h1; subst h1
    simp [PyData.eqvAll]
  | p :: ps, q :: qs, ds, es, hp, hq, h1, h2 => by
    simp only [plnL, Bool.and_eq_true] at hp hq
    obtain ⟨d, c1, _⟩ := pln_data p hp.1
    obtain ⟨ds', c2, _⟩ := pln_dataL ps hp.2
    obtain ⟨e, k1, _⟩ := pln_data q hq.1
    obtain ⟨es', k2, _⟩ := pln_dataL qs hq.2
    simp only [dataL, c1, c2, Option.some.injEq] at h1; subst h1
    simp only [dataL, k1, k2, Option.some.injEq] at h2; subst h2
    simp only [PyData.eqvAll, Bool.and_eq_true, List.cons.injEq]
    rw [pln_eqv p q d e hp.1 hq.1 c1 k1, pln_eqvL ps qs ds' es' hp.2 hq.2 c2 k2]
end
class Pln (p : PV) (d : outParam Nat) : Prop where
  ok : p.pln = true ∧ p.dep ≤ d
class PlnL (ps : List PV) (d : outParam Nat) : Prop where
  ok : plnL ps = true ∧ depL ps ≤ d
instance Pln.non : Pln .non 0 := ⟨by simp [PV.pln, PV.dep]⟩
instance Pln.int {i : Int} : Pln (.int i) 0 := ⟨by simp [PV.pln, PV.dep]⟩
instance PlnL.nil : PlnL [] 0 := ⟨by simp [plnL, depL]⟩
instance PlnL.cons {p : PV} {ps : List PV} {d e : Nat} [h : Pln p d] [g : PlnL ps e] : PlnL (p :: ps) (max d e) := ⟨by
  have h1 := h.ok
  have h2 := g.ok
  simp only [plnL, depL, h1.1, h2.1, Bool.and_self, true_and]
  omega⟩
instance Pln.tup {ps : List PV} {d : Nat} [h : PlnL ps d] : Pln (.tup ps) (d + 1) := ⟨by
  have h1 := h.ok
  simp only [PV.pln, PV.dep, h1.1, true_and]
  omega⟩
instance Pln.lst {ps : List PV} {d : Nat} [h : PlnL ps d] : Pln (.lst ps) (d + 1) := ⟨by
  have h1 := h.ok
  simp only [PV.pln, PV.dep, h1.1, true_and]
  omega⟩
instance Pln.rv {q : Rat} : Pln (Pm.rv q) 1 := ⟨by simp [Pm.rv, PV.pln, PV.dep, plnL, depL]⟩
section
variable {S : Sto} {Q : PV → Sto → Prop}
open Classical in
theorem eqB_pln {p q : PV} {d e : Nat} [h : Pln p d] [g : Pln q e] (hd : d ≤ 64) (he : e ≤ 64) : eqB p q S = some (decide (p = q)) := by
  obtain ⟨x, a1, a2, a3⟩ := pln_data p h.ok.1
  obtain ⟨y, b1, b2, b3⟩ := pln_data q g.ok.1
  have hv := pln_eqv p q x y h.ok.1 g.ok.1 a1 b1
  have s1 : SeqAt.shaped x = true := by
    unfold SeqAt.shaped
    rw [a2, Bool.true_and]
    have := h.ok.2
    exact decide_eq_true (by omega)
  have s2 : SeqAt.shaped y = true := by
    unfold SeqAt.shaped
    rw [b2, Bool.true_and]
    have := g.ok.2
    exact decide_eq_true (by omega)
  have e1 : dataS p S = some x := dataS_of a1
  have e2 : dataS q S = some y := dataS_of b1
  unfold eqB
  cases ht : twoStr p q with
  | some b =>
    unfold twoStr at ht
    split at ht
    · cases ht
      simp only [Option.some.injEq]
      rw [Bool.eq_iff_iff]
      simp
    · cases ht
  | none =>
    simp only [eqD, e1, e2]
    rw [if_pos ⟨s1, s2⟩]
    congr 1
    rw [Bool.eq_iff_iff, hv, decide_eq_true_eq]
open Classical in
theorem zca {p q : PV} {d e : Nat} [h : Pln p d] [g : Pln q e] (hde : 3 ≤ d + e) (hd : d ≤ 64) (he : e ≤ 64) : Ok (eqM p q S) Q = Q (.bl (decide (p = q))) S := by
  unfold eqM
  rw [eqB_pln hd he]
  rfl
open Classical in
theorem zcb {p q : PV} {d e : Nat} [h : Pln p d] [g : Pln q e] (hde : 3 ≤ d + e) (hd : d ≤ 64) (he : e ≤ 64) : Ok (neM p q S) Q = Q (.bl (!decide (p = q))) S := by
  unfold neM
  rw [eqB_pln hd he]
  rfl
end
end Pm

namespace Pm
open PySem PySem.Spec L2

/-! ## places: three wholes, reduced -/
def g3 (a b w : Int) : Nat := Int.gcd (Int.gcd a b) w
theorem g3_a (a b w : Int) : (g3 a b w : Int) ∣ a := Int.dvd_trans (Int.gcd_dvd_left ..) (Int.gcd_dvd_left ..)
theorem g3_b (a b w : Int) : (g3 a b w : Int) ∣ b := Int.dvd_trans (Int.gcd_dvd_left ..) (Int.gcd_dvd_right ..)
theorem g3_w (a b w : Int) : (g3 a b w : Int) ∣ w := Int.gcd_dvd_right ..
theorem g3_of_dvd {a b w : Int} {k : Nat} (ha : (k : Int) ∣ a) (hb : (k : Int) ∣ b) (hw : (k : Int) ∣ w) : k ∣ g3 a b w := Int.dvd_gcd (Int.dvd_coe_gcd ha hb) hw
theorem g3_pos {a b w : Int} (h : w ≠ 0) : 0 < g3 a b w := by
  unfold g3
  exact Int.gcd_pos_of_ne_zero_right _ h
theorem g3_mul (a b w : Int) (k : Nat) : g3 (k * a) (k * b) (k * w) = k * g3 a b w := by
  unfold g3
  rw [Int.gcd_mul_left, Int.natAbs_natCast, Int.natCast_mul, Int.gcd_mul_left, Int.natAbs_natCast]
/-- reduced triples of one ratio are the same -/
theorem trip_uniq {a b w a' b' w' : Int} (hw : 0 < w) (hw' : 0 < w') (hg : g3 a b w = 1) (hg' : g3 a' b' w' = 1) (ha : a * w' = a' * w) (hb : b * w' = b' * w) : a = a' ∧ b = b' ∧ w = w' := by
  have half : ∀ {a b w a' b' w' : Int}, 0 < w → 0 < w' → g3 a b w = 1 → a * w' = a' * w → b * w' = b' * w → w ∣ w' := by
    intro a b w a' b' w' hw hw' hg ha hb
    obtain ⟨n, rfl⟩ : ∃ n : Nat, w = n := ⟨w.toNat, by omega⟩
    obtain ⟨m, rfl⟩ : ∃ m : Nat, w' = m := ⟨w'.toNat, by omega⟩
    have h1 : n ∣ g3 (m * a) (m * b) (m * n) := g3_of_dvd ⟨a', by rw [Int.mul_comm, ha, Int.mul_comm]⟩ ⟨b', by rw [Int.mul_comm, hb, Int.mul_comm]⟩ ⟨m, by rw [Int.mul_comm]⟩
    rw [g3_mul, hg, Nat.mul_one] at h1
    exact Int.natCast_dvd_natCast.mpr h1
  have h1 := half hw hw' hg ha hb
  have h2 := half hw' hw hg' ha.symm hb.symm
  have e : w = w' := Int.dvd_antisymm (by omega) (by omega) h1 h2
  subst e
  exact ⟨Int.eq_of_mul_eq_mul_right (by omega) ha, Int.eq_of_mul_eq_mul_right (by omega) hb, rfl⟩
def t3 (a b w : Int) : PV := .tup [.int a, .int b, .int w]
/-- the reduced triple -/
def red3 (a b w : Int) : PV := t3 (a / g3 a b w) (b / g3 a b w) (w / g3 a b w)
theorem red3_g (a b w : Int) (hw : w ≠ 0) : g3 (a / g3 a b w) (b / g3 a b w) (w / g3 a b w) = 1 := by
  have hp := g3_pos (a := a) (b := b) hw
  have h := g3_mul (a / g3 a b w) (b / g3 a b w) (w / g3 a b w) (g3 a b w)
  rw [Int.mul_ediv_cancel' (g3_a a b w), Int.mul_ediv_cancel' (g3_b a b w), Int.mul_ediv_cancel' (g3_w a b w)] at h
  have h2 : g3 a b w * 1 = g3 a b w * g3 (a / g3 a b w) (b / g3 a b w) (w / g3 a b w) := by rw [Nat.mul_one]; exact h
  exact (Nat.eq_of_mul_eq_mul_left hp h2).symm
theorem red3_w {a b w : Int} (hw : 0 < w) : 0 < w / g3 a b w := Int.ediv_pos_of_pos_of_dvd hw (by omega) (g3_w a b w)
/-- the place of a distance and a height -/
def pl (x y : Rat) : PV := red3 (x.num * y.den) (y.num * x.den) (x.den * y.den)
def pX (x y : Rat) : Int := x.num * y.den / g3 (x.num * y.den) (y.num * x.den) (x.den * y.den)
def pY (x y : Rat) : Int := y.num * x.den / g3 (x.num * y.den) (y.num * x.den) (x.den * y.den)
def pW (x y : Rat) : Int := x.den * y.den / g3 (x.num * y.den) (y.num * x.den) (x.den * y.den)
theorem pl_eq (x y : Rat) : pl x y = t3 (pX x y) (pY x y) (pW x y) := rfl
theorem dd_pos (x y : Rat) : 0 < (x.den : Int) * y.den := Int.mul_pos (by have := x.den_pos; omega) (by have := y.den_pos; omega)
theorem pW_pos (x y : Rat) : 0 < pW x y := red3_w (dd_pos x y)
theorem p_g (x y : Rat) : g3 (pX x y) (pY x y) (pW x y) = 1 := red3_g _ _ _ (dd_nz x y)
theorem quo_div {a w : Int} {g : Nat} (hg : 0 < g) (ha : (g : Int) ∣ a) (hw : (g : Int) ∣ w) : Rat.divInt (a / g) (w / g) = Rat.divInt a w := by
  have h := Rat.divInt_mul_left (n := a / g) (d := w / g) (a := (g : Int)) (by omega)
  rw [Int.mul_ediv_cancel' ha, Int.mul_ediv_cancel' hw] at h
  exact h.symm
theorem p_far (x y : Rat) : Rat.divInt (pX x y) (pW x y) = x := by
  unfold pX pW
  rw [quo_div (g3_pos (dd_nz x y)) (g3_a ..) (g3_w ..)]
  rw [Rat.divInt_mul_right (den_nz y)]
  exact Rat.num_divInt_den x
theorem p_tall (x y : Rat) : Rat.divInt (pY x y) (pW x y) = y := by
  unfold pY pW
  rw [quo_div (g3_pos (dd_nz x y)) (g3_b ..) (g3_w ..)]
  rw [Int.mul_comm (x.den : Int), Rat.divInt_mul_right (den_nz x)]
  exact Rat.num_divInt_den y
/-- any reduced triple is a place -/
theorem t3_pl {a b w : Int} (hw : 0 < w) (hg : g3 a b w = 1) : t3 a b w = pl (Rat.divInt a w) (Rat.divInt b w) := by
  have hp := pW_pos (Rat.divInt a w) (Rat.divInt b w)
  have h1 := p_far (Rat.divInt a w) (Rat.divInt b w)
  have h2 := p_tall (Rat.divInt a w) (Rat.divInt b w)
  rw [Rat.divInt_eq_divInt_iff (by omega) (by omega)] at h1 h2
  obtain ⟨e1, e2, e3⟩ := trip_uniq hw hp hg (p_g _ _) h1.symm h2.symm
  rw [pl_eq, ← e1, ← e2, ← e3]
theorem red3_pl {a b w : Int} (hw : 0 < w) : red3 a b w = pl (Rat.divInt a w) (Rat.divInt b w) := by
  have hg := g3_pos (a := a) (b := b) (w := w) (by omega)
  have := t3_pl (red3_w (a := a) (b := b) hw) (red3_g a b w (by omega))
  rw [quo_div hg (g3_a ..) (g3_w ..), quo_div hg (g3_b ..) (g3_w ..)] at this
  exact this
theorem pl_inj {x y x' y' : Rat} : pl x y = pl x' y' ↔ x = x' ∧ y = y' := by
  constructor
  · intro h
    rw [pl_eq, pl_eq] at h
    simp only [t3, PV.tup.injEq, List.cons.injEq, PV.int.injEq, and_true] at h
    obtain ⟨e1, e2, e3⟩ := h
    exact ⟨by rw [← p_far x y, e1, e3, p_far], by rw [← p_tall x y, e2, e3, p_tall]⟩
  · rintro ⟨rfl, rfl⟩; rfl
instance Pln.pl {x y : Rat} : Pln (Pm.pl x y) 1 := ⟨by simp [Pm.pl, red3, t3, PV.pln, PV.dep, plnL, depL]⟩
theorem pX_pos {x y : Rat} (h : 0 < x) : 0 < pX x y := by
  have h1 := p_far x y
  have h2 := pW_pos x y
  have h3 : 0 < x.num := by
    have h1 := Rat.num_nonneg.mpr (Rat.le_of_lt h)
    have h2 := num_nz (Rat.ne_of_gt h)
    omega
  unfold pX
  exact Int.ediv_pos_of_pos_of_dvd (Int.mul_pos h3 (by have := y.den_pos; omega)) (by omega) (g3_a ..)
theorem p_castX (x y : Rat) : ((pX x y : Int) : Rat) = x * ((pW x y : Int) : Rat) := by
  have h := p_far x y
  rw [Rat.divInt_eq_div] at h
  have hw : ((pW x y : Int) : Rat) ≠ 0 := Rat.ne_of_gt (Rat.intCast_pos.mpr (pW_pos x y))
  grind
theorem p_castY (x y : Rat) : ((pY x y : Int) : Rat) = y * ((pW x y : Int) : Rat) := by
  have h := p_tall x y
  rw [Rat.divInt_eq_div] at h
  have hw : ((pW x y : Int) : Rat) ≠ 0 := Rat.ne_of_gt (Rat.intCast_pos.mpr (pW_pos x y))
  grind
theorem p_lt (x y x' y' : Rat) : pX x y * pW x' y' < pX x' y' * pW x y ↔ x < x' := by
  have h1 : (0 : Rat) < ((pW x y : Int) : Rat) := Rat.intCast_pos.mpr (pW_pos x y)
  have h2 : (0 : Rat) < ((pW x' y' : Int) : Rat) := Rat.intCast_pos.mpr (pW_pos x' y')
  have h3 := Rat.mul_pos h1 h2
  rw [← Rat.intCast_lt_intCast, Rat.intCast_mul, Rat.intCast_mul, p_castX, p_castX]
  have e1 : x * ((pW x y : Int) : Rat) * ((pW x' y' : Int) : Rat) = x * (((pW x y : Int) : Rat) * ((pW x' y' : Int) : Rat)) := by grind
  have e2 : x' * ((pW x' y' : Int) : Rat) * ((pW x y : Int) : Rat) = x' * (((pW x y : Int) : Rat) * ((pW x' y' : Int) : Rat)) := by grind
  rw [e1, e2]
  exact Rat.mul_lt_mul_right h3
theorem pX_pos_iff {x y : Rat} : 0 < pX x y ↔ 0 < x := by
  constructor
  · intro h
    have h1 : (0 : Rat) < ((pX x y : Int) : Rat) := Rat.intCast_pos.mpr h
    have h2 : (0 : Rat) < ((pW x y : Int) : Rat) := Rat.intCast_pos.mpr (pW_pos x y)
    rw [p_castX] at h1
    exact (Rat.mul_pos_iff_of_pos_right h2).mp h1
  · exact pX_pos
section
variable {x y : Rat} {k l : Nat}
theorem ediv_abs_le (a : Int) (g : Nat) : (a / (g : Int)).natAbs ≤ a.natAbs := Int.natAbs_ediv_le_natAbs a g
theorem pX_lt (h : Sz x k) (g : Sz y l) : (pX x y).natAbs < 2 ^ (k + l) := Nat.lt_of_le_of_lt (ediv_abs_le _ _) (nDiv h g)
theorem pY_lt (h : Sz x k) (g : Sz y l) : (pY x y).natAbs < 2 ^ (k + l) := by
  have := nDiv g h
  rw [Nat.add_comm l k] at this
  exact Nat.lt_of_le_of_lt (ediv_abs_le _ _) this
theorem pW_lt (h : Sz x k) (g : Sz y l) : (pW x y).natAbs < 2 ^ (k + l) := Nat.lt_of_le_of_lt (ediv_abs_le _ _) (nDen h g)
end
end Pm

namespace Pm
open PySem PySem.Spec L2

/-! ## roots -/
abbrev rt (n : Nat) : Nat := Float64.isqrt n
theorem rt_spec (n : Nat) : rt n * rt n ≤ n ∧ n < (rt n + 1) * (rt n + 1) := Float64.isqrt_spec n
theorem sq_lt_sq {a b : Nat} (h : a * a < b * b) : a < b := by
  rcases Nat.lt_or_ge a b with h1 | h1
  · exact h1
  · have := Nat.mul_le_mul h1 h1
    omega
theorem rt_uniq {n k : Nat} (h1 : k * k ≤ n) (h2 : n < (k + 1) * (k + 1)) : rt n = k := by
  obtain ⟨a1, a2⟩ := rt_spec n
  have b1 : rt n < k + 1 := sq_lt_sq (by omega)
  have b2 : k < rt n + 1 := sq_lt_sq (by omega)
  omega
theorem rt_sq (k : Nat) : rt (k * k) = k := rt_uniq (Nat.le_refl _) (Nat.mul_lt_mul_of_lt_of_lt (by omega) (by omega))
theorem rt_le (n : Nat) : rt n ≤ n := by
  have := (rt_spec n).1
  rcases Nat.eq_zero_or_pos (rt n) with h | h
  · omega
  · exact Nat.le_trans (Nat.le_mul_of_pos_left _ h) this
/-- the root of a fraction that has one -/
def sq? (q : Rat) : Option Rat := if rt q.num.toNat * rt q.num.toNat = q.num.toNat ∧ rt q.den * rt q.den = q.den then some (Rat.divInt (rt q.num.toNat) (rt q.den)) else none
theorem num_mul_self (r : Rat) : (r * r).num = r.num * r.num := by
  have h : r * r = r ^ 2 := by grind
  rw [h, Rat.num_pow]
  grind
theorem den_mul_self (r : Rat) : (r * r).den = r.den * r.den := by
  have h : r * r = r ^ 2 := by grind
  rw [h, Rat.den_pow]
  grind
theorem toNat_nonneg {q : Rat} (h : 0 ≤ q) : (q.num.toNat : Int) = q.num := by
  have := Rat.num_nonneg.mpr h
  omega
theorem sq?_mul {r : Rat} (h : 0 ≤ r) : sq? (r * r) = some r := by
  have e1 : (r * r).num.toNat = r.num.toNat * r.num.toNat := by
    rw [num_mul_self, ← toNat_nonneg h]
    generalize r.num.toNat = a
    rw [← Int.natCast_mul, Int.toNat_natCast]; simp
  unfold sq?
  rw [e1, den_mul_self, rt_sq, rt_sq, if_pos ⟨rfl, rfl⟩, toNat_nonneg h, Rat.num_divInt_den]
theorem sq?_some {q r : Rat} (h : 0 ≤ q) (e : sq? q = some r) : r * r = q ∧ 0 ≤ r := by
  unfold sq? at e
  split at e
  · rename_i c
    cases e
    have hd : (rt q.den : Int) ≠ 0 := by
      intro z
      have z : rt q.den = 0 := by omega
      rw [z] at c
      have := q.den_pos
      omega
    refine ⟨?_, Rat.divInt_nonneg (by omega) (by omega)⟩
    rw [Rat.divInt_mul_divInt]
    have c1 : ((rt q.num.toNat : Nat) : Int) * (rt q.num.toNat : Nat) = q.num := by rw [← Int.natCast_mul, c.1]; exact toNat_nonneg h
    have c2 : ((rt q.den : Nat) : Int) * (rt q.den : Nat) = q.den := by rw [← Int.natCast_mul, c.2]
    rw [c1, c2]
    exact Rat.num_divInt_den q
  · cases e
theorem sq?_none {q : Rat} (h : 0 ≤ q) (e : sq? q = none) (r : Rat) : r * r ≠ q := by
  intro k
  rcases Rat.le_total (a := 0) (b := r) with z | z
  · rw [← k, sq?_mul z] at e; cases e
  · have : (-r) * (-r) = q := by grind
    rw [← this, sq?_mul (by grind)] at e; cases e
theorem sq?_zero : sq? 0 = some 0 := by
  have := sq?_mul (r := 0) (by decide)
  rwa [Rat.mul_zero] at this
theorem sq?_scale {q n : Rat} (h : 0 ≤ q) (hn : n ≠ 0) (e : sq? q = none) : sq? (n * n * q) = none := by
  cases k : sq? (n * n * q) with
  | none => rfl
  | some r =>
    exfalso
    have hs : 0 ≤ n * n * q := Rat.mul_nonneg (by
      rcases Rat.le_total (a := 0) (b := n) with z | z
      · exact Rat.mul_nonneg z z
      · have := Rat.mul_nonneg (show 0 ≤ -n by grind) (show 0 ≤ -n by grind)
        grind) h
    obtain ⟨k1, k2⟩ := sq?_some hs k
    exact sq?_none h e (r / n) (by grind)
theorem rt_red {q r : Rat} (h : 0 ≤ q) (e : sq? q = some r) : r.num = (rt q.num.toNat : Nat) ∧ r.den = rt q.den := by
  obtain ⟨e1, e2⟩ := sq?_some h e
  subst e1
  have e1 : (r * r).num.toNat = r.num.toNat * r.num.toNat := by
    rw [num_mul_self, ← toNat_nonneg e2]
    generalize r.num.toNat = a
    rw [← Int.natCast_mul, Int.toNat_natCast]; simp
  rw [e1, den_mul_self, rt_sq, rt_sq]
  exact ⟨(toNat_nonneg e2).symm, rfl⟩
/-! ## membership of data in a tuple -/
section
variable {S : Sto} {Q : PV → Sto → Prop}
theorem any_eqv {x : PV} {d : PyData} (hx : x.pln = true) (hd : x.data = some d) : ∀ (ps : List PV) (ds : List PyData), plnL ps = true → dataL ps = some ds → ((ds.any fun z => PyData.eqv z d) = true ↔ x ∈ ps)
  | [], ds, _, h => by
    simp only [dataL, Option.some.injEq] at h
    subst h; simp
  | p :: ps, ds, hp, h => by
    simp only [plnL, Bool.and_eq_true] at hp
    obtain ⟨e, a1, _, _⟩ := pln_data p hp.1
    obtain ⟨es, b1, _, _⟩ := pln_dataL ps hp.2
    simp only [dataL, a1, b1, Option.some.injEq] at h
    subst h
    rw [List.any_cons, Bool.or_eq_true, any_eqv hx hd ps es hp.2 b1, List.mem_cons, pln_eqv p x e d hp.1 hx a1 hd]
    exact ⟨fun h => h.imp Eq.symm id, fun h => h.imp Eq.symm id⟩
open Classical in
theorem inB_tup {x : PV} {ps : List PV} {d e : Nat} [h : Pln x d] [g : PlnL ps e] (hx : flatP x = none) (hd : d ≤ 60) (he : e ≤ 60) : inB x (.tup ps) S = some (decide (x ∈ ps)) := by
  obtain ⟨y, a1, a2, a3⟩ := pln_data x h.ok.1
  obtain ⟨ys, b1, b2, b3⟩ := pln_dataL ps g.ok.1
  have hv := any_eqv h.ok.1 a1 ps ys g.ok.1 b1
  have s1 : SeqAt.shaped y = true := by
    unfold SeqAt.shaped
    rw [a2, Bool.true_and]
    have := h.ok.2
    exact decide_eq_true (by omega)
  have s2 : SeqAt.shaped (.list ys) = true := by
    unfold SeqAt.shaped
    rw [show (PyData.list ys).canLay0 = true from by simpa [PyData.canLay0] using b2, Bool.true_and]
    have := g.ok.2
    exact decide_eq_true (by simp only [PyData.depth]; omega)
  have e1 : dataS x S = some y := dataS_of a1
  have e2 : dataS (.tup ps) S = some (.tuple ys) := dataS_of (by simp [PV.data, b1])
  have e3 : inFl x ps = none := by unfold inFl; rw [hx]
  unfold inB
  simp only [e3, e1, e2]
  rw [if_pos ⟨s1, s2⟩]
  congr 1
  rw [Bool.eq_iff_iff, hv, decide_eq_true_eq]
open Classical in
theorem Ok_in_tup {x : PV} {ps : List PV} {d e : Nat} [h : Pln x d] [g : PlnL ps e] (hx : flatP x = none) (hd : d ≤ 60) (he : e ≤ 60) : Ok (inM x (.tup ps) S) Q = Q (.bl (decide (x ∈ ps))) S := by
  unfold inM
  rw [inB_tup hx hd he]
  rfl
open Classical in
theorem Ok_nin_tup {x : PV} {ps : List PV} {d e : Nat} [h : Pln x d] [g : PlnL ps e] (hx : flatP x = none) (hd : d ≤ 60) (he : e ≤ 60) : Ok (ninM x (.tup ps) S) Q = Q (.bl (!decide (x ∈ ps))) S := by
  unfold ninM
  rw [inB_tup hx hd he]
  rfl
end
end Pm

namespace Pm
open PySem PySem.Spec L2
theorem zcn {n : Nat} : (n ≤ LIM) = (n ≤ 100000) := rfl
theorem zci {a : PV} {xs : List PV} : atI (a :: xs) 0 = some a := by
  unfold atI ixN
  simp [show ((0 : Int) < (xs.length : Int) + 1) by omega]
theorem zcj {a b : PV} {xs : List PV} : atI (a :: b :: xs) 1 = some b := by
  unfold atI ixN
  simp [show ((1 : Int) < (xs.length : Int) + 1 + 1) by omega]
theorem zck {a b c : PV} {xs : List PV} : atI (a :: b :: c :: xs) 2 = some c := by
  unfold atI ixN
  simp [show ((2 : Int) < (xs.length : Int) + 1 + 1 + 1) by omega]
/-! texts -/
class Shw (p : PV) (w dp : outParam Nat) : Prop where
  ex : w ≤ 50 → ∃ d, p.data = some d ∧ d.showable = true ∧ d.canLay0 = true ∧ d.leavesShort 1921 = true ∧ d.depth ≤ dp ∧ d.bulk ≤ w
class ShwL (ps : List PV) (w dp : outParam Nat) : Prop where
  ex : w ≤ 50 → ∃ ds, dataL ps = some ds ∧ PyData.showableAll ds = true ∧ PyData.canLayAll0 ds = true ∧ PyData.leavesShortAll 1921 ds = true ∧ PyData.depthAll ds ≤ dp ∧ PyData.bulkAll ds ≤ w
instance ShwL.nil : ShwL [] 0 0 := ⟨fun _ => ⟨[], by simp [dataL], by simp [PyData.showableAll], by simp [PyData.canLayAll0], by simp [PyData.leavesShortAll], by simp [PyData.depthAll], by simp [PyData.bulkAll]⟩⟩
instance ShwL.cons {p : PV} {ps : List PV} {w dp v dq : Nat} [h : Shw p w dp] [g : ShwL ps v dq] : ShwL (p :: ps) (w + 1 + v) (max dp dq) := by
  refine ⟨fun hw => ?_⟩
  obtain ⟨d, h1, h2, h3, h4, h5, h6⟩ := h.ex (by omega)
  obtain ⟨ds, g1, g2, g3, g4, g5, g6⟩ := g.ex (by omega)
  refine ⟨d :: ds, by simp [dataL, h1, g1], by simp [PyData.showableAll, h2, g2], by simp [PyData.canLayAll0, h3, g3], by simp [PyData.leavesShortAll, h4, g4], ?_, ?_⟩
  · simp only [PyData.depthAll]; omega
  · simp only [PyData.bulkAll]; omega
instance Shw.lst {ps : List PV} {w dp : Nat} [h : ShwL ps w dp] : Shw (.lst ps) w (dp + 1) := by
  refine ⟨fun hw => ?_⟩
  obtain ⟨ds, g1, g2, g3, g4, g5, g6⟩ := h.ex hw
  refine ⟨.list ds, by simp [PV.data, g1], by simpa [PyData.showable] using g2, by simpa [PyData.canLay0] using g3, by simpa [PyData.leavesShort] using g4, ?_, ?_⟩
  · simp only [PyData.depth]; omega
  · simp only [PyData.bulk]; omega
instance Shw.tup {ps : List PV} {w dp : Nat} [h : ShwL ps w dp] : Shw (.tup ps) w (dp + 1) := by
  refine ⟨fun hw => ?_⟩
  obtain ⟨ds, g1, g2, g3, g4, g5, g6⟩ := h.ex hw
  refine ⟨.tuple ds, by simp [PV.data, g1], by simpa [PyData.showable] using g2, by simpa [PyData.canLay0] using g3, by simpa [PyData.leavesShort] using g4, ?_, ?_⟩
  · simp only [PyData.depth]; omega
  · simp only [PyData.bulk]; omega
instance Shw.non : Shw .non 0 0 := ⟨fun _ => ⟨.none, by simp [PV.data], by simp [PyData.showable], by simp [PyData.canLay0], by simp [PyData.leavesShort], by simp [PyData.depth], by simp [PyData.bulk]⟩⟩
instance Shw.bl {b : Bool} : Shw (.bl b) 0 0 := ⟨fun _ => ⟨.bool b, by simp [PV.data], by simp [PyData.showable], by simp [PyData.canLay0], by simp [PyData.leavesShort], by simp [PyData.depth], by simp [PyData.bulk]⟩⟩
theorem Shw.int {i : Int} (h : i.natAbs.log2 < 1920) : Shw (.int i) 0 0 := by
  refine ⟨fun _ => ⟨.int i, by simp [PV.data], by simpa [PyData.showable] using h, by simp [PyData.canLay0], ?_, by simp [PyData.depth], by simp [PyData.bulk]⟩⟩
  simp only [PyData.leavesShort, PyData.shown]
  exact decide_eq_true (PyProof.Rows.int_text_len_1921 h)
def txt (p : PV) : Str := match p.data with
  | some d => d.shown
  | none => ""
theorem zbW {p : PV} {w dp : Nat} {S : Sto} {Q : PV → Sto → Prop} [h : Shw p w dp] (hw : w ≤ 50) (hd : dp ≤ 64) : Ok (reprM [p] S) Q = Q (.str (txt p)) S := by
  obtain ⟨d, h1, h2, h3, h4, h5, h6⟩ := h.ex hw
  have e1 : dataS p S = some d := dataS_of h1
  have l1 := PyData.shown_le_bulk 1921 (by decide) d h4
  have l2 : d.shown.length ≤ LIM := by
    rw [show LIM = 100000 from rfl]
    have : (1921 + 2) * d.bulk ≤ 1923 * 50 := Nat.mul_le_mul_left _ (by omega)
    omega
  have l3 : SeqAt.shaped d = true := by
    unfold SeqAt.shaped
    rw [h3, Bool.true_and]
    exact decide_eq_true (by omega)
  unfold reprM txt
  simp only [e1, h1]
  rw [if_pos ⟨h2, l3, l2⟩]
  rfl
instance Shw.rv {q : Rat} {k : Nat} [h : Sz q k] : Shw (rv q) (2 + 1000 * (k - 1920)) 1 := by
  refine ⟨fun hw => ?_⟩
  have hk : k ≤ 1920 := by omega
  have : ShwL [.int q.num, .int q.den] (0 + 1 + (0 + 1 + 0)) (max 0 (max 0 0)) := @ShwL.cons _ _ _ _ _ _ (Shw.int (log_of_lt (Nat.lt_of_lt_of_le h.n (Nat.pow_le_pow_right (by decide) hk)) (by decide))) (@ShwL.cons _ _ _ _ _ _ (Shw.int (log_of_lt (Nat.lt_of_lt_of_le h.d (Nat.pow_le_pow_right (by decide) hk)) (by decide))) ShwL.nil)
  obtain ⟨d, h1, h2, h3, h4, h5, h6⟩ := (@Shw.tup _ _ _ this).ex (by decide)
  exact ⟨d, h1, h2, h3, h4, by omega, by omega⟩
theorem zcl {n : Nat} : rho0 n [] = List.replicate n none := by simp [rho0]
theorem zcm {n : Nat} {p : PV} {ps : List PV} : rho0 (n + 1) (p :: ps) = some p :: rho0 n ps := by simp [rho0]
theorem zco {α : Type} {ix : List Nat} {us ws : List α} : kput ix us ws = ix.filterMap fun i => (us ++ ws)[i]? := rfl
theorem zcp  : isT "int" (kindP .non) = false := (by decide : isT "int" "NoneType" = false)
theorem zcq {b : Bool} : isT "int" (kindP (.bl b)) = true := (by decide : isT "int" "bool" = true)
theorem zcr {i : Int} : isT "int" (kindP (.int i)) = true := (by decide : isT "int" "int" = true)
theorem zcs {x : Str} : isT "int" (kindP (.str x)) = false := (by decide : isT "int" "str" = false)
theorem zct {xs : List PV} : isT "int" (kindP (.tup xs)) = false := (by decide : isT "int" "tuple" = false)
theorem zcu {xs : List PV} : isT "int" (kindP (.lst xs)) = false := (by decide : isT "int" "list" = false)
theorem zcv {q : Rat} : isT "int" (kindP (rv q)) = false := (by decide : isT "int" "tuple" = false)
theorem zcw  : isT "bool" (kindP .non) = false := (by decide : isT "bool" "NoneType" = false)
theorem zcx {b : Bool} : isT "bool" (kindP (.bl b)) = true := (by decide : isT "bool" "bool" = true)
theorem zcy {i : Int} : isT "bool" (kindP (.int i)) = false := (by decide : isT "bool" "int" = false)
theorem zcz {x : Str} : isT "bool" (kindP (.str x)) = false := (by decide : isT "bool" "str" = false)
theorem zcA {xs : List PV} : isT "bool" (kindP (.tup xs)) = false := (by decide : isT "bool" "tuple" = false)
theorem zcB {xs : List PV} : isT "bool" (kindP (.lst xs)) = false := (by decide : isT "bool" "list" = false)
theorem zcC {q : Rat} : isT "bool" (kindP (rv q)) = false := (by decide : isT "bool" "tuple" = false)
theorem zcD  : isT "str" (kindP .non) = false := (by decide : isT "str" "NoneType" = false)
theorem zcE {b : Bool} : isT "str" (kindP (.bl b)) = false := (by decide : isT "str" "bool" = false)
theorem zcF {i : Int} : isT "str" (kindP (.int i)) = false := (by decide : isT "str" "int" = false)
theorem zcG {x : Str} : isT "str" (kindP (.str x)) = true := (by decide : isT "str" "str" = true)
theorem zcH {xs : List PV} : isT "str" (kindP (.tup xs)) = false := (by decide : isT "str" "tuple" = false)
theorem zcI {xs : List PV} : isT "str" (kindP (.lst xs)) = false := (by decide : isT "str" "list" = false)
theorem zcJ {q : Rat} : isT "str" (kindP (rv q)) = false := (by decide : isT "str" "tuple" = false)
theorem zcK  : isT "tuple" (kindP .non) = false := (by decide : isT "tuple" "NoneType" = false)
theorem zcL {b : Bool} : isT "tuple" (kindP (.bl b)) = false := (by decide : isT "tuple" "bool" = false)
theorem zcM {i : Int} : isT "tuple" (kindP (.int i)) = false := (by decide : isT "tuple" "int" = false)
theorem zcN {x : Str} : isT "tuple" (kindP (.str x)) = false := (by decide : isT "tuple" "str" = false)
theorem zcO {xs : List PV} : isT "tuple" (kindP (.tup xs)) = true := (by decide : isT "tuple" "tuple" = true)
theorem zcP {xs : List PV} : isT "tuple" (kindP (.lst xs)) = false := (by decide : isT "tuple" "list" = false)
theorem zcQ {q : Rat} : isT "tuple" (kindP (rv q)) = true := (by decide : isT "tuple" "tuple" = true)
theorem zcR  : isT "list" (kindP .non) = false := (by decide : isT "list" "NoneType" = false)
theorem zcS {b : Bool} : isT "list" (kindP (.bl b)) = false := (by decide : isT "list" "bool" = false)
theorem zcT {i : Int} : isT "list" (kindP (.int i)) = false := (by decide : isT "list" "int" = false)
theorem zcU {x : Str} : isT "list" (kindP (.str x)) = false := (by decide : isT "list" "str" = false)
theorem zcV {xs : List PV} : isT "list" (kindP (.tup xs)) = false := (by decide : isT "list" "tuple" = false)
theorem zcW {xs : List PV} : isT "list" (kindP (.lst xs)) = true := (by decide : isT "list" "list" = true)
theorem zcY : isT "int" (kindP .dct) = false := (by decide : isT "int" "dict" = false)
theorem zc1 : isT "bool" (kindP .dct) = false := (by decide : isT "bool" "dict" = false)
theorem zc4 : isT "str" (kindP .dct) = false := (by decide : isT "str" "dict" = false)
theorem zc7 : isT "tuple" (kindP .dct) = false := (by decide : isT "tuple" "dict" = false)
theorem zda : isT "list" (kindP .dct) = false := (by decide : isT "list" "dict" = false)
theorem zcZ {n : Nat} : isT "int" (kindP (.loc n)) = false := (by decide : isT "int" "list" = false)
theorem zc0 {xs : List PV} : isT "int" (kindP (.frz xs)) = false := (by decide : isT "int" "list" = false)
theorem zc2 {n : Nat} : isT "bool" (kindP (.loc n)) = false := (by decide : isT "bool" "list" = false)
theorem zc3 {xs : List PV} : isT "bool" (kindP (.frz xs)) = false := (by decide : isT "bool" "list" = false)
theorem zc5 {n : Nat} : isT "str" (kindP (.loc n)) = false := (by decide : isT "str" "list" = false)
theorem zc6 {xs : List PV} : isT "str" (kindP (.frz xs)) = false := (by decide : isT "str" "list" = false)
theorem zc8 {n : Nat} : isT "tuple" (kindP (.loc n)) = false := (by decide : isT "tuple" "list" = false)
theorem zc9 {xs : List PV} : isT "tuple" (kindP (.frz xs)) = false := (by decide : isT "tuple" "list" = false)
theorem zdb {n : Nat} : isT "list" (kindP (.loc n)) = true := (by decide : isT "list" "list" = true)
theorem zdc {xs : List PV} : isT "list" (kindP (.frz xs)) = true := (by decide : isT "list" "list" = true)
theorem zcX {q : Rat} : isT "list" (kindP (rv q)) = false := (by decide : isT "list" "tuple" = false)
/-- a place of wholes alone -/
def IntE (e : Ent) : Prop := ∃ is : List Int, e = .lst (is.map PV.int)
def IntS (S : Sto) (n : Nat) : Prop := ∀ i e, i ≤ n → S[i]? = some e → IntE e
/-- a vat of draws: a place of three wholes, m draws at most behind it; no place before it holds anything but wholes -/
def Vat (m : Nat) (S : Sto) (n : Nat) : Prop := (∃ c ch k : Int, S[n]? = some (.lst [.int c, .int ch, .int k]) ∧ 0 ≤ c ∧ 0 ≤ ch ∧ ch < 2147483489 ∧ 0 ≤ k ∧ k ≤ m) ∧ IntS S n
theorem Vat.lt {m : Nat} {S : Sto} {n : Nat} (h : Vat m S n) : n < S.length := by
  obtain ⟨⟨c, ch, k, e, _⟩, _⟩ := h
  exact (List.getElem?_eq_some_iff.mp e).1
theorem Vat.le {m l : Nat} {S : Sto} {n : Nat} (h : Vat m S n) (hl : m ≤ l) : Vat l S n := by
  obtain ⟨⟨c, ch, k, e, a1, a2, a3, a4, a5⟩, hi⟩ := h
  exact ⟨⟨c, ch, k, e, a1, a2, a3, a4, by omega⟩, hi⟩
theorem IntS.set {S : Sto} {n : Nat} (h : IntS S n) (a b c : Int) : IntS (S.set n (.lst [.int a, .int b, .int c])) n := by
  intro i e hi he
  by_cases hin : i = n
  · subst hin
    have hlt : i < (S.set i (.lst [.int a, .int b, .int c])).length := (List.getElem?_eq_some_iff.mp he).1
    rw [List.length_set] at hlt
    rw [List.getElem?_set_self hlt] at he
    cases he
    exact ⟨[a, b, c], rfl⟩
  · rw [List.getElem?_set_ne (fun z => hin z.symm)] at he
    exact h i e hi he
theorem Vat.app {m : Nat} {S T : Sto} {n : Nat} (h : Vat m S n) : Vat m (S ++ T) n := by
  have hl := h.lt
  obtain ⟨⟨c, ch, k, e, a⟩, hi⟩ := h
  refine ⟨⟨c, ch, k, by rw [List.getElem?_append_left hl]; exact e, a⟩, fun i e hin he => ?_⟩
  rw [List.getElem?_append_left (by omega)] at he
  exact hi i e hin he
theorem inn_int {e : Ent} {n : Nat} (h : IntE e) : Ent.inn n e = true := by
  obtain ⟨is, rfl⟩ := h
  simp only [Ent.inn]
  induction is with
  | nil => rfl
  | cons i is ih => simp only [List.map_cons, innL, PV.inn, Bool.true_and]; exact ih
theorem IntS.all {S : Sto} {n : Nat} (h : IntS S n) : (S.take (n + 1)).all (Ent.inn (n + 1)) = true := by
  rw [List.all_eq_true]
  intro e he
  obtain ⟨i, hi⟩ := List.getElem?_of_mem he
  have hlt : i < n + 1 := by
    have := (List.getElem?_eq_some_iff.mp hi).1
    simp at this
    omega
  rw [List.getElem?_take_of_lt hlt] at hi
  exact inn_int (h i e (by omega) hi)
/-- a def that ends with a truth value, its own places given up -/
theorem Ok_defM_bl {a n : Nat} {d : SD} {ps : List PV} {S : Sto} {Q : PV → Sto → Prop} {j : Nat} (hl : ps.length = a) (hj : S.length = j + 1) (h : Ok (d (rho0 n ps) S) fun r S1 => match r with
  | .rt p => ∃ b, p = .bl b ∧ j < S1.length ∧ IntS S1 j ∧ ∀ S2, S2.length = j + 1 → IntS S2 j → Q p S2
  | _ => False) : Ok (defM a n d ps S) Q := by
  unfold defM
  rw [if_pos hl]
  obtain ⟨r, S1, e, q⟩ := h.ex
  cases r with
  | nx _ => exact q.elim
  | bk _ => exact q.elim
  | ct _ => exact q.elim
  | rt p =>
    obtain ⟨b, rfl, h1, h2, h3⟩ := q
    have e2 : bodyR d (rho0 n ps) S = .ok (.bl b) S1 := by
      unfold bodyR bnd
      rw [e]
      rfl
    rw [e2, hj]
    have e3 : fzV S1 (j + 1) 20 (.bl b) = some (.bl b) := by simp [fzV]
    by_cases hlen : S1.length = j + 1
    · have : fin (j + 1) (.ok (.bl b) S1) = .ok (.bl b) S1 := by simp only [fin, if_pos hlen]
      rw [this]
      exact h3 S1 hlen h2
    · have : fin (j + 1) (.ok (.bl b) S1) = .ok (.bl b) (S1.take (j + 1)) := by
        simp only [fin, if_neg hlen, e3]
        rw [if_pos ⟨h2.all, by omega⟩]
      rw [this]
      refine h3 _ (by simp; omega) fun i e hi he => ?_
      rw [List.getElem?_take_of_lt (by omega)] at he
      exact h2 i e hi he
/-- the end of a law's own look -/
def Fin1 (n : Nat) (r : Fl) (S : Sto) : Prop := r = .rt (.bl true) ∧ n < S.length ∧ IntS S n
def Right (n : Nat) (p : PV) (S : Sto) : Prop := p = .bl true ∧ S.length = n + 1 ∧ IntS S n
theorem right_of {N n : Nat} {d : SD} {S : Sto} (hS : S.length = n + 1) (h : Ok (d (rho0 N [.loc n]) S) (Fin1 n)) : Ok (defM 1 N d [.loc n] S) (Right n) := by
  refine Ok_defM_bl rfl hS (h.mono fun r S1 ⟨e, h1, h2⟩ => ?_)
  subst e
  exact ⟨true, rfl, h1, h2, fun S2 a b => ⟨rfl, a, b⟩⟩
theorem log_le {a k : Nat} (h : a < 2 ^ k) : a.log2 ≤ k := by
  by_cases h0 : a = 0
  · subst h0; simp
  · exact Nat.le_of_lt ((Nat.log2_lt h0).mpr h)
theorem lg {a b : Int} {k l : Nat} (ha : a.natAbs < 2 ^ k) (hb : b.natAbs < 2 ^ l) (h : k + l < 1000000) : a.natAbs.log2 + b.natAbs.log2 < 1000000 := by
  have h1 := log_le ha
  have h2 := log_le hb
  omega
section
variable {S : Sto} {ρ : Rho}
theorem cut_ints (ns : List Int) (l h : Option Int) : ∃ zs : List Int, cutP (ns.map PV.int) l h = zs.map PV.int ∧ zs.length ≤ ns.length := by
  refine ⟨(ns.drop (HT.sIx ns.length 0 l)).take (HT.sIx ns.length ns.length h - HT.sIx ns.length 0 l), ?_, ?_⟩
  · simp [cutP, List.map_take, List.map_drop]
  · simp
    omega
end
theorem Ok_check {S : Sto} {ρ : Rho} {d : SD} {K : Fl → Sto → Prop} (h : Ok (d ρ S) fun r S' => S' = S ∧ r = .nx ρ) (k : K (.nx ρ) S) : Ok (d ρ S) K := h.mono fun r S' ⟨e1, e2⟩ => by rw [e1, e2]; exact k
section
variable {S : Sto} {Q : PV → Sto → Prop}
theorem zcc {q : Rat} : Ok (ixM (rv q) (.int 0) S) Q = Q (.int q.num) S := by
  unfold rv
  rw [za7, zci]
theorem zch {q : Rat} : Ok (ixM (rv q) (.int 1) S) Q = Q (.int q.den) S := by
  unfold rv
  rw [za7, zcj]
theorem zcd {x y : Rat} : Ok (ixM (pl x y) (.int 0) S) Q = Q (.int (pX x y)) S := by
  rw [pl_eq]; unfold t3
  rw [za7, zci]
theorem zce {x y : Rat} : Ok (ixM (pl x y) (.int 1) S) Q = Q (.int (pY x y)) S := by
  rw [pl_eq]; unfold t3
  rw [za7, zcj]
theorem zcf {x y : Rat} : Ok (ixM (pl x y) (.int 2) S) Q = Q (.int (pW x y)) S := by
  rw [pl_eq]; unfold t3
  rw [za7, zck]
theorem zcg {x y : Rat} : isT "tuple" (kindP (pl x y)) = true := (by decide : isT "tuple" "tuple" = true)
theorem Shw_t3 {a b w : Int} {k : Nat} (ha : a.natAbs < 2 ^ k) (hb : b.natAbs < 2 ^ k) (hw : w.natAbs < 2 ^ k) : Shw (t3 a b w) (3 + 1000 * (k - 1920)) 1 := by
  refine ⟨fun hk => ?_⟩
  have hk : k ≤ 1920 := by omega
  have lo : ∀ {a : Int}, a.natAbs < 2 ^ k → Shw (.int a) 0 0 := fun h => Shw.int (log_of_lt (Nat.lt_of_lt_of_le h (Nat.pow_le_pow_right (by decide) hk)) (by decide))
  have : ShwL [.int a, .int b, .int w] (0 + 1 + (0 + 1 + (0 + 1 + 0))) (max 0 (max 0 (max 0 0))) := @ShwL.cons _ _ _ _ _ _ (lo ha) (@ShwL.cons _ _ _ _ _ _ (lo hb) (@ShwL.cons _ _ _ _ _ _ (lo hw) ShwL.nil))
  obtain ⟨d, h1, h2, h3, h4, h5, h6⟩ := (@Shw.tup _ _ _ this).ex (by decide)
  exact ⟨d, h1, h2, h3, h4, by omega, by omega⟩
instance Shw.pl {x y : Rat} {k l : Nat} [h : Sz x k] [g : Sz y l] : Shw (pl x y) (3 + 1000 * (k + l - 1920)) 1 := Shw_t3 (pX_lt h g) (pY_lt h g) (pW_lt h g)
theorem zaS {p q : PV} : Ok (isNM p q S) Q = Q (.bl (isN p)) S := rfl
theorem zaT {p q : PV} : Ok (notNM p q S) Q = Q (.bl (!isN p)) S := rfl
theorem zaU : isN .non = true := rfl
theorem zaV {xs : List PV} : isN (.tup xs) = false := rfl
theorem zaW {q : Rat} : isN (rv q) = false := rfl
theorem zaX {x y : Rat} : isN (pl x y) = false := rfl
instance Shw.ite {c : Prop} [Decidable c] {p q : PV} {w dp v dq : Nat} [h : Shw p w dp] [g : Shw q v dq] : Shw (if c then p else q) (max w v) (max dp dq) := by
  refine ⟨fun hw => ?_⟩
  split
  · obtain ⟨d, h1, h2, h3, h4, h5, h6⟩ := h.ex (by omega)
    exact ⟨d, h1, h2, h3, h4, by omega, by omega⟩
  · obtain ⟨d, h1, h2, h3, h4, h5, h6⟩ := g.ex (by omega)
    exact ⟨d, h1, h2, h3, h4, by omega, by omega⟩
theorem num_pos_iff {q : Rat} : 0 < q.num ↔ 0 < q := by
  constructor
  · intro h
    have h1 : 0 ≤ q := Rat.num_nonneg.mp (by omega)
    exact Rat.lt_of_le_of_ne h1 fun e => by rw [← e] at h; simp at h
  · intro h
    have h1 := Rat.num_nonneg.mpr (Rat.le_of_lt h)
    have h2 := num_nz (Rat.ne_of_gt h)
    omega
theorem Ok_ifb {c : Prop} [Decidable c] {p q : PV} {Q : PV → Sto → Prop} : (if decide c = true then Q p S else Q q S) = Q (if c then p else q) S := by
  by_cases h : c <;> simp [h]
theorem eqD_pl (x y x' y' : Rat) : eqB (pl x y) (pl x' y') S = some (decide (x = x' ∧ y = y')) := by
  rw [eqB_pln (by decide) (by decide)]
  congr 1
  rw [Bool.eq_iff_iff]
  simp only [decide_eq_true_eq, pl_inj]
theorem zbZ {x y x' y' : Rat} : Ok (eqM (pl x y) (pl x' y') S) Q = Q (.bl (decide (x = x' ∧ y = y'))) S := by
  unfold eqM
  rw [eqD_pl]
  rfl
theorem zb0 {x y x' y' : Rat} : Ok (neM (pl x y) (pl x' y') S) Q = Q (.bl (!decide (x = x' ∧ y = y'))) S := by
  unfold neM
  rw [eqD_pl]
  rfl
theorem zb6 : Ok (neM (.lst []) (.lst []) S) Q = Q (.bl false) S := rfl
theorem zb5 : Ok (eqM (.lst []) (.lst []) S) Q = Q (.bl true) S := rfl
open Classical in
theorem zb8 {xs ys : List PV} {d e : Nat} [h : PlnL xs d] [g : PlnL ys e] (hd : d < 64) (he : e < 64) : Ok (eqM (.lst xs) (.lst ys) S) Q = Q (.bl (decide (PV.lst xs = PV.lst ys))) S := by
  unfold eqM
  rw [eqB_pln (by omega) (by omega)]
  rfl
open Classical in
theorem zb9 {xs ys : List PV} {d e : Nat} [h : PlnL xs d] [g : PlnL ys e] (hd : d < 64) (he : e < 64) : Ok (neM (.lst xs) (.lst ys) S) Q = Q (.bl (!decide (PV.lst xs = PV.lst ys))) S := by
  unfold neM
  rw [eqB_pln (by omega) (by omega)]
  rfl
/-- a word of the texts -/
class Wrd (x : Str) (w : outParam Nat) : Prop where
  ok : x.cps.size = w ∧ PyData.canLay0 (.str x) = true ∧ PyData.leavesShort 1921 (.str x) = true
instance Shw.str {x : Str} {w : Nat} [h : Wrd x w] : Shw (.str x) w 0 := ⟨fun _ => ⟨.str x, by simp [PV.data], by simp [PyData.showable], h.ok.2.1, h.ok.2.2, by simp [PyData.depth], by simp [PyData.bulk, h.ok.1]⟩⟩
instance Pln.str {x : Str} {w : Nat} [h : Wrd x w] : Pln (.str x) 0 := ⟨by simp [PV.pln, PV.dep, h.ok.2.1]⟩
theorem Ok_isqrt {i : Int} : Ok (isqrtM [.int i] S) Q = ((0 ≤ i ∧ i.toNat.log2 < 13000) ∧ Q (.int (rt i.toNat : Nat)) S) := by
  show Ok (if 0 ≤ i ∧ i.toNat.log2 < 13000 then .ok (.int ((Float64.isqrt i.toNat : Nat) : Int)) S else .stuck) Q = _
  split <;> rename_i h
  · rw [eq_iff_iff]; exact ⟨fun k => ⟨h, k⟩, fun k => k.2⟩
  · rw [eq_iff_iff]; exact ⟨fun k => k.elim, fun k => h k.1⟩
theorem zb7 : Ok (neM (.lst [.bl true, .bl true]) (.lst [.bl true, .bl true]) S) Q = Q (.bl false) S := rfl
theorem Ok_q {α : Type} {o : Out α} {Q R : α → Sto → Prop} (h : ∀ a S, Q a S = R a S) : Ok o Q = Ok o R := by
  have e : Q = R := funext fun a => funext fun S => h a S
  subst e; rfl
theorem zb1 {m n : ED} {ρ : Rho} : Ok (dApp m n ρ S) Q = Ok (m ρ S) fun p S1 => match p with
  | .loc k => Ok (n ρ S1) fun q S2 => Ok (appM (.loc k) q S2) Q
  | _ => False := by
  unfold dApp
  rw [zac]
  refine Ok_q fun a S1 => ?_
  cases a with
  | loc k => exact zac
  | _ => rfl
theorem zb2 {k : Nat} {q : PV} : Ok (appM (.loc k) q S) Q = (match S[k]? with
  | some (.lst xs) => xs.length < LIM ∧ Q .non (S.set k (.lst (xs ++ [q])))
  | none => False) := by
  unfold appM
  cases h : S[k]? with
  | none => first | rfl | (simp only [h]; rfl)
  | some e => cases e with
    | lst xs =>
      simp only [h]
      split <;> rename_i c
      · rw [eq_iff_iff]; exact ⟨fun k => ⟨c, k⟩, fun k => k.2⟩
      · rw [eq_iff_iff]; exact ⟨fun k => k.elim, fun k => c k.1⟩
theorem zb3 {S : Sto} {e f : Ent} : (S ++ [e]).set S.length f = S ++ [f] := by simp
theorem zb4 {S : Sto} {e : Ent} : (S ++ [e])[S.length]? = some e := by simp
mutual
theorem dataF_of : ∀ (k : Nat) (p : PV) (d : PyData), p.data = some d → d.depth < k → dataF S k p = some d
  | 0, _, _, _, h => absurd h (by omega)
  | k + 1, .non, d, e, _ => by simpa [dataF, PV.data] using e
  | k + 1, .bl b, d, e, _ => by simpa [dataF, PV.data] using e
  | k + 1, .int b, d, e, _ => by simpa [dataF, PV.data] using e
  | k + 1, .str b, d, e, _ => by simpa [dataF, PV.data] using e
  | k + 1, .loc n, d, e, _ => by simp [PV.data] at e
  | k + 1, .tup xs, d, e, h => by
    simp only [PV.data] at e
    split at e
    · rename_i ds q
      cases e
      simp only [PyData.depth] at h
      simp only [dataF, mapD_of k xs ds q (by omega), Option.map_some]
    · cases e
  | k + 1, .lst xs, d, e, h => by
    simp only [PV.data] at e
    split at e
    · rename_i ds q
      cases e
      simp only [PyData.depth] at h
      simp only [dataF, mapD_of k xs ds q (by omega), Option.map_some]
    · cases e
  | k + 1, .frz xs, d, e, h => by
    simp only [PV.data] at e
    split at e
    · rename_i ds q
      cases e
      simp only [PyData.depth] at h
      simp only [dataF, mapD_of k xs ds q (by omega), Option.map_some]
    · cases e
theorem mapD_of : ∀ (k : Nat) (ps : List PV) (ds : List PyData), dataL ps = some ds → PyData.depthAll ds < k → mapD (dataF S k) ps = some ds
  | _, [], ds, e, _ => by simpa [mapD, dataL] using e
  | k, p :: ps, ds, e, h => by
    simp only [dataL] at e
    split at e
    · rename_i d ds' q1 q2
      cases e
      simp only [PyData.depthAll] at h
      simp only [mapD, dataF_of k p d q1 (by omega), mapD_of k ps ds' q2 (by omega)]
    · cases e
end
theorem Ok_repr_2loc {a : Nat} {xs : List PV} {w dp : Nat} [h : ShwL xs w dp] (e : S[a]? = some (.lst xs)) (hw : w ≤ 20) (hd : dp ≤ 5) : Ok (reprM [.lst [.loc a, .loc a]] S) Q = Q (.str (txt (.lst [.lst xs, .lst xs]))) S := by
  have i1 : Shw (.lst [.lst xs, .lst xs]) (w + 1 + (w + 1 + 0)) (max (dp + 1) (max (dp + 1) 0) + 1) := inferInstance
  obtain ⟨d, h1, h2, h3, h4, h5, h6⟩ := i1.ex (by omega)
  obtain ⟨ds, g1, g2, g3, g4, g5, g6⟩ := h.ex (by omega)
  have ed : d = .list [.list ds, .list ds] := by
    simp only [PV.data, dataL, g1] at h1
    cases h1; rfl
  have e0 : mapD (dataF S 6) xs = some ds := mapD_of 6 xs ds g1 (by omega)
  have e1 : dataS (.lst [.loc a, .loc a]) S = some d := by
    have : (deref (.lst [.loc a, .loc a]) S).data = none := by simp [deref, PV.data, dataL]
    unfold dataS
    rw [this, ed]
    simp only [dataF, mapD, e, e0, Option.map_some]
  have l1 := PyData.shown_le_bulk 1921 (by decide) d h4
  have l2 : d.shown.length ≤ LIM := by
    rw [show LIM = 100000 from rfl]
    have : (1921 + 2) * d.bulk ≤ 1923 * 50 := Nat.mul_le_mul_left _ (by omega)
    omega
  have l3 : SeqAt.shaped d = true := by
    unfold SeqAt.shaped
    rw [h3, Bool.true_and]
    exact decide_eq_true (by omega)
  unfold reprM txt
  simp only [e1, h1]
  rw [if_pos ⟨h2, l3, l2⟩]
  rfl
end
end Pm

namespace Pm.L
open PySem PySem.Spec L2 Pm
abbrev v_ZERO : PV := .tup [.int 0, .int 1]
abbrev v_ONE : PV := .tup [.int 1, .int 1]
abbrev v_WORDS : PV := .tup [.str "short", .str "strikes", .str "past"]
abbrev v_LEAST_CORNERS : PV := .int 2
abbrev v_MOST_CORNERS : PV := .int 8
/-! is_whole: 0:value -/
@[reducible] noncomputable def d_is_whole : SD := (sRet (dAnd (dUn (isiM "int") (dVar 0)) (dNot (dUn (isiM "bool") (dVar 0)))))
noncomputable def m_is_whole : List PV → M PV := defM 1 1 d_is_whole
/-! are_wholes: 0:value 1:many 2:number -/
@[reducible] noncomputable def d_are_wholes : SD := (sRet (dAnd (dUn (isiM "tuple") (dVar 0)) (dAnd (dOp eqM (dAp lenM (dCons (dVar 0) dNil)) (dVar 1)) (dAp allM (dCons (dLC (iSeq (dVar 0)) (gName 2) bYes (dAp m_is_whole (dCons (dVar 2) dNil)) [2]) dNil)))))
noncomputable def m_are_wholes : List PV → M PV := defM 2 3 d_are_wholes
/-! divisor_of: 0:numbers 1:found 2:number -/
@[reducible] noncomputable def d_divisor_of : SD := (sSeq (sAsg (dC (.int 0)) (gName 1))
    (sSeq (sFor (iSeq (dVar 0)) (gName 2) (sAsg (dAp gcdM (dCons (dVar 1) (dCons (dVar 2) dNil))) (gName 1)))
    (sRet (dVar 1))))
noncomputable def m_divisor_of : List PV → M PV := defM 1 3 d_divisor_of
/-! is_reduced: 0:numbers -/
@[reducible] noncomputable def d_is_reduced : SD := (sRet (dOp eqM (dAp m_divisor_of (dCons (dVar 0) dNil)) (dC (.int 1))))
noncomputable def m_is_reduced : List PV → M PV := defM 1 1 d_is_reduced
/-! is_ratio: 0:value -/
@[reducible] noncomputable def d_is_ratio : SD := (sRet (dAnd (dAp m_are_wholes (dCons (dVar 0) (dCons (dC (.int 2)) dNil))) (dAnd (dOp gtM (dOp ixM (dVar 0) (dC (.int 1))) (dC (.int 0))) (dAp m_is_reduced (dCons (dVar 0) dNil)))))
noncomputable def m_is_ratio : List PV → M PV := defM 1 1 d_is_ratio
/-! ratio: 0:number 1:under 2:part -/
@[reducible] noncomputable def d_ratio : SD := (sSeq (sAsg (dAp m_divisor_of (dCons (dAp mkTup (dCons (dVar 0) (dCons (dVar 1) dNil))) dNil)) (gName 2))
    (sSeq (sAsg (dIf (bCmp (dOp gtM (dVar 1) (dC (.int 0)))) (dVar 2) (dUn negM (dVar 2))) (gName 2))
    (sRet (dAp mkTup (dCons (dOp fdivM (dVar 0) (dVar 2)) (dCons (dOp fdivM (dVar 1) (dVar 2)) dNil))))))
noncomputable def m_ratio : List PV → M PV := defM 2 3 d_ratio
/-! ratio_sum: 0:one 1:two -/
@[reducible] noncomputable def d_ratio_sum : SD := (sRet (dAp m_ratio (dCons (dOp addM (dOp mulM (dOp ixM (dVar 0) (dC (.int 0))) (dOp ixM (dVar 1) (dC (.int 1)))) (dOp mulM (dOp ixM (dVar 1) (dC (.int 0))) (dOp ixM (dVar 0) (dC (.int 1))))) (dCons (dOp mulM (dOp ixM (dVar 0) (dC (.int 1))) (dOp ixM (dVar 1) (dC (.int 1)))) dNil))))
noncomputable def m_ratio_sum : List PV → M PV := defM 2 2 d_ratio_sum
/-! ratio_less: 0:one 1:two -/
@[reducible] noncomputable def d_ratio_less : SD := (sRet (dAp m_ratio (dCons (dOp subM (dOp mulM (dOp ixM (dVar 0) (dC (.int 0))) (dOp ixM (dVar 1) (dC (.int 1)))) (dOp mulM (dOp ixM (dVar 1) (dC (.int 0))) (dOp ixM (dVar 0) (dC (.int 1))))) (dCons (dOp mulM (dOp ixM (dVar 0) (dC (.int 1))) (dOp ixM (dVar 1) (dC (.int 1)))) dNil))))
noncomputable def m_ratio_less : List PV → M PV := defM 2 2 d_ratio_less
/-! ratio_product: 0:one 1:two -/
@[reducible] noncomputable def d_ratio_product : SD := (sRet (dAp m_ratio (dCons (dOp mulM (dOp ixM (dVar 0) (dC (.int 0))) (dOp ixM (dVar 1) (dC (.int 0)))) (dCons (dOp mulM (dOp ixM (dVar 0) (dC (.int 1))) (dOp ixM (dVar 1) (dC (.int 1)))) dNil))))
noncomputable def m_ratio_product : List PV → M PV := defM 2 2 d_ratio_product
/-! ratio_over: 0:one 1:two -/
@[reducible] noncomputable def d_ratio_over : SD := (sRet (dAp m_ratio (dCons (dOp mulM (dOp ixM (dVar 0) (dC (.int 0))) (dOp ixM (dVar 1) (dC (.int 1)))) (dCons (dOp mulM (dOp ixM (dVar 0) (dC (.int 1))) (dOp ixM (dVar 1) (dC (.int 0)))) dNil))))
noncomputable def m_ratio_over : List PV → M PV := defM 2 2 d_ratio_over
/-! ratio_back: 0:one -/
@[reducible] noncomputable def d_ratio_back : SD := (sRet (dAp mkTup (dCons (dUn negM (dOp ixM (dVar 0) (dC (.int 0)))) (dCons (dOp ixM (dVar 0) (dC (.int 1))) dNil))))
noncomputable def m_ratio_back : List PV → M PV := defM 1 1 d_ratio_back
/-! is_lower: 0:one 1:two -/
@[reducible] noncomputable def d_is_lower : SD := (sRet (dOp ltM (dOp mulM (dOp ixM (dVar 0) (dC (.int 0))) (dOp ixM (dVar 1) (dC (.int 1)))) (dOp mulM (dOp ixM (dVar 1) (dC (.int 0))) (dOp ixM (dVar 0) (dC (.int 1))))))
noncomputable def m_is_lower : List PV → M PV := defM 2 2 d_is_lower
/-! is_spot: 0:value -/
@[reducible] noncomputable def d_is_spot : SD := (sRet (dAnd (dAp m_are_wholes (dCons (dVar 0) (dCons (dC (.int 3)) dNil))) (dAnd (dOp gtM (dOp ixM (dVar 0) (dC (.int 2))) (dC (.int 0))) (dAp m_is_reduced (dCons (dVar 0) dNil)))))
noncomputable def m_is_spot : List PV → M PV := defM 1 1 d_is_spot
/-! is_ahead: 0:value -/
@[reducible] noncomputable def d_is_ahead : SD := (sRet (dAnd (dAp m_is_spot (dCons (dVar 0) dNil)) (dOp gtM (dOp ixM (dVar 0) (dC (.int 0))) (dC (.int 0)))))
noncomputable def m_is_ahead : List PV → M PV := defM 1 1 d_is_ahead
/-! far_of: 0:place -/
@[reducible] noncomputable def d_far_of : SD := (sRet (dAp m_ratio (dCons (dOp ixM (dVar 0) (dC (.int 0))) (dCons (dOp ixM (dVar 0) (dC (.int 2))) dNil))))
noncomputable def m_far_of : List PV → M PV := defM 1 1 d_far_of
/-! tall_of: 0:place -/
@[reducible] noncomputable def d_tall_of : SD := (sRet (dAp m_ratio (dCons (dOp ixM (dVar 0) (dC (.int 1))) (dCons (dOp ixM (dVar 0) (dC (.int 2))) dNil))))
noncomputable def m_tall_of : List PV → M PV := defM 1 1 d_tall_of
/-! is_nearer: 0:one 1:two -/
@[reducible] noncomputable def d_is_nearer : SD := (sRet (dOp ltM (dOp mulM (dOp ixM (dVar 0) (dC (.int 0))) (dOp ixM (dVar 1) (dC (.int 2)))) (dOp mulM (dOp ixM (dVar 1) (dC (.int 0))) (dOp ixM (dVar 0) (dC (.int 2))))))
noncomputable def m_is_nearer : List PV → M PV := defM 2 2 d_is_nearer
/-! is_stream_pair: 0:value -/
@[reducible] noncomputable def d_is_stream_pair : SD := (sSeq (sIf (bOr (bNot (bTru (dUn (isiM "tuple") (dVar 0)))) (bCmp (dOp neM (dAp lenM (dCons (dVar 0) dNil)) (dC (.int 2))))) (sRet (dC (.bl false))) sNil)
    (sRet (dAnd (dAp m_is_ratio (dCons (dOp ixM (dVar 0) (dC (.int 0))) dNil)) (dAnd (dAp m_is_ratio (dCons (dOp ixM (dVar 0) (dC (.int 1))) dNil)) (dOp gtM (dOp ixM (dOp ixM (dVar 0) (dC (.int 1))) (dC (.int 0))) (dC (.int 0)))))))
noncomputable def m_is_stream_pair : List PV → M PV := defM 1 1 d_is_stream_pair
/-! height_of_jet: 0:jet 1:distance -/
@[reducible] noncomputable def d_height_of_jet : SD := (sRet (dAp m_ratio_product (dCons (dVar 1) (dCons (dAp m_ratio_less (dCons (dOp ixM (dVar 0) (dC (.int 0))) (dCons (dAp m_ratio_product (dCons (dOp ixM (dVar 0) (dC (.int 1))) (dCons (dVar 1) dNil))) dNil))) dNil))))
noncomputable def m_height_of_jet : List PV → M PV := defM 2 2 d_height_of_jet
/-! between_jets: 0:one 1:two 2:number 3:here 4:there -/
@[reducible] noncomputable def d_between_jets : SD := (sRet (dAp tupleM (dCons (dLC (iAp zipA (dCons (dVar 0) (dCons (dVar 1) dNil))) (gTup 2 (gsCons (gName 3) (gsCons (gName 4) gsNil))) bYes (dAp m_ratio_sum (dCons (dVar 3) (dCons (dAp m_ratio_product (dCons (dVar 2) (dCons (dAp m_ratio_less (dCons (dVar 4) (dCons (dVar 3) dNil))) dNil))) dNil))) [3, 4]) dNil)))
noncomputable def m_between_jets : List PV → M PV := defM 3 5 d_between_jets
/-! check_fraction: 0:value -/
@[reducible] noncomputable def d_check_fraction : SD := (sIf (bNot (bTru (dAp m_is_ratio (dCons (dVar 0) dNil)))) sNever sNil)
noncomputable def m_check_fraction : List PV → M PV := defM 1 1 d_check_fraction
/-! check_jet: 0:value -/
@[reducible] noncomputable def d_check_jet : SD := (sIf (bNot (bTru (dAp m_is_stream_pair (dCons (dVar 0) dNil)))) sNever sNil)
noncomputable def m_check_jet : List PV → M PV := defM 1 1 d_check_jet
/-! is_below: 0:jet 1:place -/
@[reducible] noncomputable def d_is_below : SD := (sRet (dAp m_is_lower (dCons (dAp m_height_of_jet (dCons (dVar 0) (dCons (dAp m_far_of (dCons (dVar 1) dNil)) dNil))) (dCons (dAp m_tall_of (dCons (dVar 1) dNil)) dNil))))
noncomputable def m_is_below : List PV → M PV := defM 2 2 d_is_below
/-! first_below: 0:jet 1:ground 2:index 3:place -/
@[reducible] noncomputable def d_first_below : SD := (sSeq (sFor (iAp enumA (dCons (dVar 1) dNil)) (gTup 2 (gsCons (gName 2) (gsCons (gName 3) gsNil))) (sIf (bTru (dAp m_is_below (dCons (dVar 0) (dCons (dVar 3) dNil)))) (sRet (dVar 2)) sNil))
    (sRet (dAp lenM (dCons (dVar 1) dNil))))
noncomputable def m_first_below : List PV → M PV := defM 2 4 d_first_below
/-! word_for: 0:index 1:ground -/
@[reducible] noncomputable def d_word_for : SD := (sRet (dIf (bCmp (dOp eqM (dVar 0) (dC (.int 0)))) (dC (.str "short")) (dIf (bCmp (dOp eqM (dVar 0) (dAp lenM (dCons (dVar 1) dNil)))) (dC (.str "past")) (dC (.str "strikes")))))
noncomputable def m_word_for : List PV → M PV := defM 2 2 d_word_for
/-! swept_heights: 0:jet 1:other 2:place 3:far 4:tall 5:each -/
@[reducible] noncomputable def d_swept_heights : SD := (sSeq (sAsg (dAp mkTup (dCons (dAp m_far_of (dCons (dVar 2) dNil)) (dCons (dAp m_tall_of (dCons (dVar 2) dNil)) dNil))) (gTup 2 (gsCons (gName 3) (gsCons (gName 4) gsNil))))
    (sRet (dLC (iSeq (dAp mkTup (dCons (dVar 0) (dCons (dVar 1) dNil)))) (gName 5) bYes (dAp m_ratio_less (dCons (dAp m_height_of_jet (dCons (dVar 5) (dCons (dVar 3) dNil))) (dCons (dVar 4) dNil))) [5])))
noncomputable def m_swept_heights : List PV → M PV := defM 3 6 d_swept_heights
/-! shares_over: 0:heights 1:low 2:high 3:first 4:last 5:at -/
@[reducible] noncomputable def d_shares_over : SD := (sSeq (sAsg (dVar 0) (gTup 2 (gsCons (gName 3) (gsCons (gName 4) gsNil))))
    (sSeq (sIf (bAnd (bCmp (dOp geM (dOp ixM (dVar 3) (dC (.int 0))) (dC (.int 0)))) (bCmp (dOp geM (dOp ixM (dVar 4) (dC (.int 0))) (dC (.int 0))))) (sRet (dAp mkTup (dCons (dVar 1) (dCons (dVar 2) dNil)))) sNil)
    (sSeq (sIf (bAnd (bCmp (dOp ltM (dOp ixM (dVar 3) (dC (.int 0))) (dC (.int 0)))) (bCmp (dOp ltM (dOp ixM (dVar 4) (dC (.int 0))) (dC (.int 0))))) (sRet (dC .non)) sNil)
    (sSeq (sAsg (dAp m_ratio_over (dCons (dVar 3) (dCons (dAp m_ratio_less (dCons (dVar 3) (dCons (dVar 4) dNil))) dNil))) (gName 5))
    (sSeq (sIf (bCmp (dOp ltM (dOp ixM (dVar 3) (dC (.int 0))) (dC (.int 0)))) (sAsg (dIf (bTru (dAp m_is_lower (dCons (dVar 1) (dCons (dVar 5) dNil)))) (dVar 5) (dVar 1)) (gName 1)) (sAsg (dIf (bTru (dAp m_is_lower (dCons (dVar 5) (dCons (dVar 2) dNil)))) (dVar 5) (dVar 2)) (gName 2)))
    (sRet (dIf (bTru (dAp m_is_lower (dCons (dVar 2) (dCons (dVar 1) dNil)))) (dC .non) (dAp mkTup (dCons (dVar 1) (dCons (dVar 2) dNil))))))))))
noncomputable def m_shares_over : List PV → M PV := defM 3 6 d_shares_over
/-! is_below_within: 0:heights 1:low 2:high 3:first 4:last 5:gap 6:share -/
@[reducible] noncomputable def d_is_below_within : SD := (sSeq (sAsg (dVar 0) (gTup 2 (gsCons (gName 3) (gsCons (gName 4) gsNil))))
    (sSeq (sAsg (dAp m_ratio_less (dCons (dVar 4) (dCons (dVar 3) dNil))) (gName 5))
    (sRet (dAp anyM (dCons (dLC (iSeq (dAp mkTup (dCons (dVar 1) (dCons (dVar 2) dNil)))) (gName 6) bYes (dAp m_is_lower (dCons (dVar 3) (dCons (dAp m_ratio_back (dCons (dAp m_ratio_product (dCons (dVar 5) (dCons (dVar 6) dNil))) dNil)) dNil))) [6]) dNil)))))
noncomputable def m_is_below_within : List PV → M PV := defM 3 7 d_is_below_within
/-! swept_falls: 0:jet 1:other 2:ground 3:found 4:shares 5:index 6:place 7:heights -/
@[reducible] noncomputable def d_swept_falls : SD := (sSeq (sPar 3 4 (dCons (dAp mkLoc dNil) (dCons (dAp mkTup (dCons (dC v_ZERO) (dCons (dAp mkTup (dCons (dC (.int 1)) (dCons (dC (.int 1)) dNil))) dNil))) dNil)))
    (sSeq (sFor (iAp enumA (dCons (dVar 2) dNil)) (gTup 2 (gsCons (gName 5) (gsCons (gName 6) gsNil))) (sSeq (sAsg (dAp m_swept_heights (dCons (dVar 0) (dCons (dVar 1) (dCons (dVar 6) dNil)))) (gName 7))
    (sSeq (sIf (bTru (dAp m_is_below_within (dCons (dVar 7) (dCons (dOp ixM (dVar 4) (dC (.int 0))) (dCons (dOp ixM (dVar 4) (dC (.int 1))) dNil))))) (sExpr (dApp (dVar 3) (dVar 5))) sNil)
    (sSeq (sAsg (dAp m_shares_over (dCons (dVar 7) (dCons (dOp ixM (dVar 4) (dC (.int 0))) (dCons (dOp ixM (dVar 4) (dC (.int 1))) dNil)))) (gName 4))
    (sIf (bCmp (dOp (fun p q => match q with | .non => isNM p q | _ => stk) (dVar 4) (dC .non))) (sRet (dVar 3)) sNil)))))
    (sRet (dOp addM (dVar 3) (dAp mkLst (dCons (dAp lenM (dCons (dVar 2) dNil)) dNil))))))
noncomputable def m_swept_falls : List PV → M PV := defM 3 8 d_swept_falls
/-! check_ground: 0:value 1:index 2:place -/
@[reducible] noncomputable def d_check_ground : SD := (sSeq (sIf (bOr (bNot (bTru (dUn (isiM "tuple") (dVar 0)))) (bCmp (dOp ltM (dAp lenM (dCons (dVar 0) dNil)) (dC v_LEAST_CORNERS)))) sNever sNil)
    (sFor (iAp enumA (dCons (dVar 0) dNil)) (gTup 2 (gsCons (gName 1) (gsCons (gName 2) gsNil))) (sIf (bOr (bCmp (dOp eqM (dVar 1) (dC v_MOST_CORNERS))) (bOr (bNot (bTru (dAp m_is_ahead (dCons (dVar 2) dNil)))) (bAnd (bCmp (dOp gtM (dVar 1) (dC (.int 0)))) (bNot (bTru (dAp m_is_nearer (dCons (dOp ixM (dVar 0) (dOp subM (dVar 1) (dC (.int 1)))) (dCons (dVar 2) dNil)))))))) sNever sNil)))
noncomputable def m_check_ground : List PV → M PV := defM 1 3 d_check_ground
/-! check_strike: 0:jet 1:ground -/
@[reducible] noncomputable def d_check_strike : SD := (sSeq (sExpr (dAp m_check_jet (dCons (dVar 0) dNil)))
    (sExpr (dAp m_check_ground (dCons (dVar 1) dNil))))
noncomputable def m_check_strike : List PV → M PV := defM 2 2 d_check_strike
/-! ground_word: 0:jet 1:ground -/
@[reducible] noncomputable def d_ground_word : SD := (sSeq (sExpr (dAp m_check_strike (dCons (dVar 0) (dCons (dVar 1) dNil))))
    (sRet (dAp m_word_for (dCons (dAp m_first_below (dCons (dVar 0) (dCons (dVar 1) dNil))) (dCons (dVar 1) dNil)))))
noncomputable def m_ground_word : List PV → M PV := defM 2 2 d_ground_word
/-! strike_edge: 0:jet 1:ground 2:index -/
@[reducible] noncomputable def d_strike_edge : SD := (sSeq (sExpr (dAp m_check_strike (dCons (dVar 0) (dCons (dVar 1) dNil))))
    (sSeq (sAsg (dAp m_first_below (dCons (dVar 0) (dCons (dVar 1) dNil))) (gName 2))
    (sRet (dIf (bCmp (dOp eqM (dAp m_word_for (dCons (dVar 2) (dCons (dVar 1) dNil))) (dC (.str "strikes")))) (dOp subM (dVar 2) (dC (.int 1))) (dC .non)))))
noncomputable def m_strike_edge : List PV → M PV := defM 2 3 d_strike_edge
/-! check_turn: 0:jet 1:other -/
@[reducible] noncomputable def d_check_turn : SD := (sSeq (sExpr (dAp m_check_jet (dCons (dVar 0) dNil)))
    (sExpr (dAp m_check_jet (dCons (dVar 1) dNil))))
noncomputable def m_check_turn : List PV → M PV := defM 2 2 d_check_turn
/-! jet_between: 0:jet 1:other 2:fraction -/
@[reducible] noncomputable def d_jet_between : SD := (sSeq (sExpr (dAp m_check_turn (dCons (dVar 0) (dCons (dVar 1) dNil))))
    (sSeq (sExpr (dAp m_check_fraction (dCons (dVar 2) dNil)))
    (sSeq (sIf (bOr (bTru (dAp m_is_lower (dCons (dVar 2) (dCons (dC v_ZERO) dNil)))) (bTru (dAp m_is_lower (dCons (dC v_ONE) (dCons (dVar 2) dNil))))) sNever sNil)
    (sRet (dAp m_between_jets (dCons (dVar 0) (dCons (dVar 1) (dCons (dVar 2) dNil))))))))
noncomputable def m_jet_between : List PV → M PV := defM 3 3 d_jet_between
/-! swept_words: 0:jet 1:other 2:ground 3:words 4:index 5:word -/
@[reducible] noncomputable def d_swept_words : SD := (sSeq (sExpr (dAp m_check_turn (dCons (dVar 0) (dCons (dVar 1) dNil))))
    (sSeq (sExpr (dAp m_check_ground (dCons (dVar 2) dNil)))
    (sSeq (sAsg (dLC (iSeq (dAp m_swept_falls (dCons (dVar 0) (dCons (dVar 1) (dCons (dVar 2) dNil))))) (gName 4) bYes (dAp m_word_for (dCons (dVar 4) (dCons (dVar 2) dNil))) [4]) (gName 3))
    (sRet (dAp tupleM (dCons (dLC (iSeq (dC v_WORDS)) (gName 5) (bCmp (dOp inM (dVar 5) (dVar 3))) (dVar 5) [5]) dNil))))))
noncomputable def m_swept_words : List PV → M PV := defM 3 6 d_swept_words
/-! swept_edges: 0:jet 1:other 2:ground 3:falls 4:index -/
@[reducible] noncomputable def d_swept_edges : SD := (sSeq (sExpr (dAp m_check_turn (dCons (dVar 0) (dCons (dVar 1) dNil))))
    (sSeq (sExpr (dAp m_check_ground (dCons (dVar 2) dNil)))
    (sSeq (sAsg (dAp m_swept_falls (dCons (dVar 0) (dCons (dVar 1) (dCons (dVar 2) dNil)))) (gName 3))
    (sRet (dAp tupleM (dCons (dLC (iSeq (dVar 3)) (gName 4) (bCmp (dOp eqM (dAp m_word_for (dCons (dVar 4) (dCons (dVar 2) dNil))) (dC (.str "strikes")))) (dOp subM (dVar 4) (dC (.int 1))) [4]) dNil))))))
noncomputable def m_swept_edges : List PV → M PV := defM 3 5 d_swept_edges
/-! _law_well: 0:script 1:turn 2:stirred 3:cell 4:own 5:great -/
@[reducible] noncomputable def d__law_well : SD := (sSeq (sAsg (dOp addM (dC (.int 700001)) (dOp mulM (dC (.int 9241)) (dVar 1))) (gName 2))
    (sSeq (sFor (iSeq (dSl (dVar 0) oNone (oSome (dC (.int 63))))) (gName 3) (sAsg (dOp modM (dAp intM (dCons (dOp addM (dOp addM (dOp mulM (dVar 2) (dC (.int 44497))) (dOp modM (dAp intM (dCons (dVar 3) dNil)) (dC (.int 536870909)))) (dC (.int 61))) dNil)) (dC (.int 1000000123))) (gName 2)))
    (sSeq (sAsg (dIf (bCmp (dOp ltM (dVar 1) (dAp lenM (dCons (dVar 0) dNil)))) (dAp intM (dCons (dOp ixM (dVar 0) (dVar 1)) dNil)) (dC (.int 0))) (gName 4))
    (sSeq (sAsg (dIf (bCmp (dOp geM (dAp absM (dCons (dVar 4) dNil)) (dOp powM (dC (.int 10)) (dC (.int 18))))) (dAp absM (dCons (dVar 4) dNil)) (dC (.int 0))) (gName 5))
    (sRet (dAp mkLoc (dCons (dVar 5) (dCons (dOp modM (dAp intM (dCons (dOp addM (dVar 2) (dOp mulM (dC (.int 13)) (dOp modM (dAp intM (dCons (dVar 4) dNil)) (dC (.int 59999999))))) dNil)) (dC (.int 1000000123))) (dCons (dC (.int 0)) dNil)))))))))
noncomputable def m__law_well : List PV → M PV := defK 2 6 d__law_well
/-! _law_draw: 0:well_here 1:many 2:mixed 3:digit -/
@[reducible] noncomputable def d__law_draw : SD := (sSeq (sIf (bCmp (dOp gtM (dOp ixM (dVar 0) (dC (.int 0))) (dC (.int 0)))) (sSeq (sAsg (dAp divmodM (dCons (dOp ixM (dVar 0) (dC (.int 0))) (dCons (dVar 1) dNil))) (gTup 2 (gsCons (gSub (dVar 0) (dC (.int 0))) (gsCons (gName 3) gsNil))))
    (sRet (dVar 3))) sNil)
    (sSeq (sAsg (dOp addM (dOp ixM (dVar 0) (dC (.int 2))) (dC (.int 1))) (gSub (dVar 0) (dC (.int 2))))
    (sSeq (sAsg (dOp modM (dAp intM (dCons (dOp addM (dOp addM (dOp mulM (dOp ixM (dVar 0) (dC (.int 1))) (dC (.int 37))) (dOp mulM (dC (.int 80021)) (dOp ixM (dVar 0) (dC (.int 2))))) (dC (.int 11))) dNil)) (dC (.int 1000000123))) (gName 2))
    (sSeq (sAsg (dOp modM (dAp intM (dCons (dOp addM (dOp mulM (dVar 2) (dOp addM (dOp modM (dAp intM (dCons (dVar 2) dNil)) (dC (.int 6961))) (dC (.int 21001)))) (dOp mulM (dC (.int 29)) (dOp ixM (dVar 0) (dC (.int 2))))) dNil)) (dC (.int 1000000123))) (gSub (dVar 0) (dC (.int 1))))
    (sRet (dOp modM (dAp intM (dCons (dOp fdivM (dOp ixM (dVar 0) (dC (.int 1))) (dC (.int 191))) dNil)) (dVar 1)))))))
noncomputable def m__law_draw : List PV → M PV := defM 2 4 d__law_draw
/-! _law_rounds: 0:script 1:least 2:most -/
@[reducible] noncomputable def d__law_rounds : SD := (sRet (dAp max2M (dCons (dVar 1) (dCons (dAp min2M (dCons (dAp lenM (dCons (dVar 0) dNil)) (dCons (dVar 2) dNil))) dNil))))
noncomputable def m__law_rounds : List PV → M PV := defM 3 3 d__law_rounds
/-! _law_pick: 0:well_here 1:some -/
@[reducible] noncomputable def d__law_pick : SD := (sRet (dOp ixM (dVar 1) (dAp m__law_draw (dCons (dVar 0) (dCons (dAp lenM (dCons (dVar 1) dNil)) dNil)))))
noncomputable def m__law_pick : List PV → M PV := defM 2 2 d__law_pick
/-! _law_common: 0:numbers 1:found 2:number 3:one 4:two 5:step -/
@[reducible] noncomputable def d__law_common : SD := (sSeq (sAsg (dC (.int 0)) (gName 1))
    (sSeq (sFor (iSeq (dVar 0)) (gName 2) (sSeq (sPar 3 4 (dCons (dVar 1) (dCons (dAp absM (dCons (dVar 2) dNil)) dNil)))
    (sSeq (sFor (iAp rng1 (dCons (dOp addM (dOp mulM (dC (.int 2)) (dUn bitsM (dAp absM (dCons (dVar 2) dNil)))) (dC (.int 2))) dNil)) (gName 5) (sSeq (sIf (bCmp (dOp eqM (dVar 4) (dC (.int 0)))) sBrk sNil)
    (sPar 3 4 (dCons (dVar 4) (dCons (dOp modM (dAp intM (dCons (dVar 3) dNil)) (dVar 4)) dNil)))))
    (sAsg (dVar 3) (gName 1)))))
    (sRet (dVar 1))))
noncomputable def m__law_common : List PV → M PV := defM 1 6 d__law_common
/-! _law_lean: 0:numbers 1:by 2:number -/
@[reducible] noncomputable def d__law_lean : SD := (sSeq (sAsg (dAp max2M (dCons (dC (.int 1)) (dCons (dAp m__law_common (dCons (dVar 0) dNil)) dNil))) (gName 1))
    (sRet (dAp tupleM (dCons (dLC (iSeq (dVar 0)) (gName 2) bYes (dOp fdivM (dVar 2) (dVar 1)) [2]) dNil))))
noncomputable def m__law_lean : List PV → M PV := defM 1 3 d__law_lean
/-! _law_ratio: 0:n 1:m -/
@[reducible] noncomputable def d__law_ratio : SD := (sRet (dIf (bCmp (dOp gtM (dVar 1) (dC (.int 0)))) (dAp m__law_lean (dCons (dAp mkTup (dCons (dVar 0) (dCons (dVar 1) dNil))) dNil)) (dAp m__law_lean (dCons (dAp mkTup (dCons (dOp subM (dC (.int 0)) (dVar 0)) (dCons (dOp subM (dC (.int 0)) (dVar 1)) dNil))) dNil))))
noncomputable def m__law_ratio : List PV → M PV := defM 2 2 d__law_ratio
/-! _law_plus: 0:one 1:two -/
@[reducible] noncomputable def d__law_plus : SD := (sRet (dAp m__law_ratio (dCons (dOp addM (dOp mulM (dOp ixM (dVar 0) (dC (.int 0))) (dOp ixM (dVar 1) (dC (.int 1)))) (dOp mulM (dOp ixM (dVar 1) (dC (.int 0))) (dOp ixM (dVar 0) (dC (.int 1))))) (dCons (dOp mulM (dOp ixM (dVar 0) (dC (.int 1))) (dOp ixM (dVar 1) (dC (.int 1)))) dNil))))
noncomputable def m__law_plus : List PV → M PV := defM 2 2 d__law_plus
/-! _law_less: 0:one 1:two -/
@[reducible] noncomputable def d__law_less : SD := (sRet (dAp m__law_ratio (dCons (dOp subM (dOp mulM (dOp ixM (dVar 0) (dC (.int 0))) (dOp ixM (dVar 1) (dC (.int 1)))) (dOp mulM (dOp ixM (dVar 1) (dC (.int 0))) (dOp ixM (dVar 0) (dC (.int 1))))) (dCons (dOp mulM (dOp ixM (dVar 0) (dC (.int 1))) (dOp ixM (dVar 1) (dC (.int 1)))) dNil))))
noncomputable def m__law_less : List PV → M PV := defM 2 2 d__law_less
/-! _law_times: 0:one 1:two -/
@[reducible] noncomputable def d__law_times : SD := (sRet (dAp m__law_ratio (dCons (dOp mulM (dOp ixM (dVar 0) (dC (.int 0))) (dOp ixM (dVar 1) (dC (.int 0)))) (dCons (dOp mulM (dOp ixM (dVar 0) (dC (.int 1))) (dOp ixM (dVar 1) (dC (.int 1)))) dNil))))
noncomputable def m__law_times : List PV → M PV := defM 2 2 d__law_times
/-! _law_over: 0:one 1:two -/
@[reducible] noncomputable def d__law_over : SD := (sRet (dAp m__law_ratio (dCons (dOp mulM (dOp ixM (dVar 0) (dC (.int 0))) (dOp ixM (dVar 1) (dC (.int 1)))) (dCons (dOp mulM (dOp ixM (dVar 0) (dC (.int 1))) (dOp ixM (dVar 1) (dC (.int 0)))) dNil))))
noncomputable def m__law_over : List PV → M PV := defM 2 2 d__law_over
/-! _law_sign: 0:number -/
@[reducible] noncomputable def d__law_sign : SD := (sRet (dOp subM (dAp intM (dCons (dOp gtM (dVar 0) (dC (.int 0))) dNil)) (dAp intM (dCons (dOp ltM (dVar 0) (dC (.int 0))) dNil))))
noncomputable def m__law_sign : List PV → M PV := defM 1 1 d__law_sign
/-! _law_order: 0:one 1:two -/
@[reducible] noncomputable def d__law_order : SD := (sRet (dAp m__law_sign (dCons (dOp subM (dOp mulM (dOp ixM (dVar 0) (dC (.int 0))) (dOp ixM (dVar 1) (dC (.int 1)))) (dOp mulM (dOp ixM (dVar 1) (dC (.int 0))) (dOp ixM (dVar 0) (dC (.int 1))))) dNil)))
noncomputable def m__law_order : List PV → M PV := defM 2 2 d__law_order
/-! _law_place: 0:distance 1:height -/
@[reducible] noncomputable def d__law_place : SD := (sRet (dAp m__law_lean (dCons (dAp mkTup (dCons (dOp mulM (dOp ixM (dVar 0) (dC (.int 0))) (dOp ixM (dVar 1) (dC (.int 1)))) (dCons (dOp mulM (dOp ixM (dVar 1) (dC (.int 0))) (dOp ixM (dVar 0) (dC (.int 1)))) (dCons (dOp mulM (dOp ixM (dVar 0) (dC (.int 1))) (dOp ixM (dVar 1) (dC (.int 1)))) dNil)))) dNil)))
noncomputable def m__law_place : List PV → M PV := defM 2 2 d__law_place
/-! _law_apart: 0:place_here -/
@[reducible] noncomputable def d__law_apart : SD := (sRet (dAp mkTup (dCons (dAp m__law_ratio (dCons (dOp ixM (dVar 0) (dC (.int 0))) (dCons (dOp ixM (dVar 0) (dC (.int 2))) dNil))) (dCons (dAp m__law_ratio (dCons (dOp ixM (dVar 0) (dC (.int 1))) (dCons (dOp ixM (dVar 0) (dC (.int 2))) dNil))) dNil))))
noncomputable def m__law_apart : List PV → M PV := defM 1 1 d__law_apart
/-! _law_high: 0:jet_here 1:distance -/
@[reducible] noncomputable def d__law_high : SD := (sRet (dAp m__law_times (dCons (dVar 1) (dCons (dAp m__law_less (dCons (dOp ixM (dVar 0) (dC (.int 0))) (dCons (dAp m__law_times (dCons (dOp ixM (dVar 0) (dC (.int 1))) (dCons (dVar 1) dNil))) dNil))) dNil))))
noncomputable def m__law_high : List PV → M PV := defM 2 2 d__law_high
/-! _law_size: 0:well_here 1:way -/
@[reducible] noncomputable def d__law_size : SD := (sSeq (sAsg (dAp m__law_draw (dCons (dVar 0) (dCons (dC (.int 4)) dNil))) (gName 1))
    (sSeq (sIf (bCmp (dOp ltM (dVar 1) (dC (.int 3)))) (sRet (dAp m__law_pick (dCons (dVar 0) (dCons (dAp mkTup (dCons (dAp mkTup (dCons (dC (.int 1)) (dCons (dC (.int 1)) dNil))) (dCons (dAp mkTup (dCons (dC (.int 1)) (dCons (dC (.int 2)) dNil))) (dCons (dAp mkTup (dCons (dC (.int 2)) (dCons (dC (.int 1)) dNil))) (dCons (dAp mkTup (dCons (dC (.int 3)) (dCons (dC (.int 2)) dNil))) (dCons (dAp mkTup (dCons (dC (.int 1)) (dCons (dC (.int 4)) dNil))) (dCons (dAp mkTup (dCons (dC (.int 3)) (dCons (dC (.int 4)) dNil))) (dCons (dAp mkTup (dCons (dC (.int 3)) (dCons (dC (.int 1)) dNil))) (dCons (dAp mkTup (dCons (dC (.int 4)) (dCons (dC (.int 1)) dNil))) dNil))))))))) dNil)))) sNil)
    (sRet (dAp m__law_ratio (dCons (dOp addM (dC (.int 1)) (dAp m__law_draw (dCons (dVar 0) (dCons (dC (.int 9)) dNil)))) (dCons (dOp addM (dC (.int 1)) (dAp m__law_draw (dCons (dVar 0) (dCons (dC (.int 5)) dNil)))) dNil))))))
noncomputable def m__law_size : List PV → M PV := defM 1 2 d__law_size
/-! _law_part: 0:well_here 1:size_here -/
@[reducible] noncomputable def d__law_part : SD := (sSeq (sAsg (dAp m__law_pick (dCons (dVar 0) (dCons (dAp mkTup (dCons (dAp mkTup (dCons (dC (.int 0)) (dCons (dC (.int 1)) dNil))) (dCons (dAp mkTup (dCons (dC (.int 1)) (dCons (dC (.int 1)) dNil))) (dCons (dAp mkTup (dCons (dC (.int 1)) (dCons (dC (.int 2)) dNil))) (dCons (dAp mkTup (dCons (dC (.int 2)) (dCons (dC (.int 1)) dNil))) (dCons (dC .non) (dCons (dC .non) (dCons (dC .non) dNil)))))))) dNil))) (gName 1))
    (sSeq (sAsg (dIf (bCmp (dOp (fun p q => match q with | .non => isNM p q | _ => stk) (dVar 1) (dC .non))) (dAp m__law_size (dCons (dVar 0) dNil)) (dVar 1)) (gName 1))
    (sRet (dIf (bCmp (dOp ltM (dAp m__law_draw (dCons (dVar 0) (dCons (dC (.int 5)) dNil))) (dC (.int 3)))) (dVar 1) (dAp mkTup (dCons (dOp subM (dC (.int 0)) (dOp ixM (dVar 1) (dC (.int 0)))) (dCons (dOp ixM (dVar 1) (dC (.int 1))) dNil)))))))
noncomputable def m__law_part : List PV → M PV := defM 1 2 d__law_part
/-! _law_jet: 0:well_here 1:way -/
@[reducible] noncomputable def d__law_jet : SD := (sSeq (sAsg (dAp m__law_draw (dCons (dVar 0) (dCons (dC (.int 4)) dNil))) (gName 1))
    (sSeq (sIf (bCmp (dOp ltM (dVar 1) (dC (.int 2)))) (sRet (dAp m__law_pick (dCons (dVar 0) (dCons (dAp mkTup (dCons (dAp mkTup (dCons (dAp mkTup (dCons (dC (.int 1)) (dCons (dC (.int 1)) dNil))) (dCons (dAp mkTup (dCons (dC (.int 1)) (dCons (dC (.int 4)) dNil))) dNil))) (dCons (dAp mkTup (dCons (dAp mkTup (dCons (dC (.int 1)) (dCons (dC (.int 1)) dNil))) (dCons (dAp mkTup (dCons (dC (.int 1)) (dCons (dC (.int 2)) dNil))) dNil))) (dCons (dAp mkTup (dCons (dAp mkTup (dCons (dC (.int 2)) (dCons (dC (.int 1)) dNil))) (dCons (dAp mkTup (dCons (dC (.int 1)) (dCons (dC (.int 1)) dNil))) dNil))) (dCons (dAp mkTup (dCons (dAp mkTup (dCons (dC (.int 0)) (dCons (dC (.int 1)) dNil))) (dCons (dAp mkTup (dCons (dC (.int 1)) (dCons (dC (.int 4)) dNil))) dNil))) (dCons (dAp mkTup (dCons (dAp mkTup (dCons (dC (.int 2)) (dCons (dC (.int 1)) dNil))) (dCons (dAp mkTup (dCons (dC (.int 5)) (dCons (dC (.int 4)) dNil))) dNil))) dNil)))))) dNil)))) sNil)
    (sRet (dAp mkTup (dCons (dAp m__law_part (dCons (dVar 0) dNil)) (dCons (dAp m__law_size (dCons (dVar 0) dNil)) dNil))))))
noncomputable def m__law_jet : List PV → M PV := defM 1 2 d__law_jet
/-! _law_slack: 0:well_here -/
@[reducible] noncomputable def d__law_slack : SD := (sRet (dAp m__law_pick (dCons (dVar 0) (dCons (dAp mkTup (dCons (dAp mkTup (dCons (dC (.int 0)) (dCons (dC (.int 1)) dNil))) (dCons (dAp mkTup (dCons (dC (.int 0)) (dCons (dC (.int 1)) dNil))) (dCons (dAp mkTup (dCons (dC (.int 1)) (dCons (dC (.int 4)) dNil))) (dCons (dAp mkTup (dCons (dC (.int 1)) (dCons (dC (.int 2)) dNil))) (dCons (dAp mkTup (dCons (dC (.int 1)) (dCons (dC (.int 1)) dNil))) (dCons (dAp mkTup (dCons (dC (.int 2)) (dCons (dC (.int 1)) dNil))) (dCons (dAp mkTup (dCons (dC (.int 1)) (dCons (dC (.int 3)) dNil))) dNil)))))))) dNil))))
noncomputable def m__law_slack : List PV → M PV := defM 1 1 d__law_slack
/-! _law_ground: 0:well_here 1:jet_here 2:found 3:x 4:many 5:turn 6:high_here 7:way 8:y -/
@[reducible] noncomputable def d__law_ground : SD := (sSeq (sPar3 2 3 4 (dCons (dAp mkLoc dNil) (dCons (dAp m__law_size (dCons (dVar 0) dNil)) (dCons (dOp addM (dC (.int 2)) (dAp m__law_draw (dCons (dVar 0) (dCons (dC (.int 4)) dNil)))) dNil))))
    (sSeq (sFor (iAp rng1 (dCons (dVar 4) dNil)) (gName 5) (sSeq (sPar 6 7 (dCons (dAp m__law_high (dCons (dVar 1) (dCons (dVar 3) dNil))) (dCons (dAp m__law_draw (dCons (dVar 0) (dCons (dC (.int 6)) dNil))) dNil)))
    (sSeq (sAsg (dIf (bCmp (dOp ltM (dVar 7) (dC (.int 2)))) (dAp mkTup (dCons (dC (.int 0)) (dCons (dC (.int 1)) dNil))) (dIf (bCmp (dOp eqM (dVar 7) (dC (.int 2)))) (dAp m__law_part (dCons (dVar 0) dNil)) (dAp m__law_less (dCons (dVar 6) (dCons (dAp m__law_slack (dCons (dVar 0) dNil)) dNil))))) (gName 8))
    (sSeq (sExpr (dApp (dVar 2) (dAp m__law_place (dCons (dVar 3) (dCons (dVar 8) dNil)))))
    (sAsg (dAp m__law_plus (dCons (dVar 3) (dCons (dAp m__law_size (dCons (dVar 0) dNil)) dNil))) (gName 3))))))
    (sRet (dAp tupleM (dCons (dVar 2) dNil)))))
noncomputable def m__law_ground : List PV → M PV := defM 2 9 d__law_ground
/-! _law_is_below: 0:jet_here 1:place_here 2:x 3:y -/
@[reducible] noncomputable def d__law_is_below : SD := (sSeq (sAsg (dAp m__law_apart (dCons (dVar 1) dNil)) (gTup 2 (gsCons (gName 2) (gsCons (gName 3) gsNil))))
    (sRet (dOp ltM (dAp m__law_order (dCons (dAp m__law_high (dCons (dVar 0) (dCons (dVar 2) dNil))) (dCons (dVar 3) dNil))) (dC (.int 0)))))
noncomputable def m__law_is_below : List PV → M PV := defM 2 4 d__law_is_below
/-! _law_ground_word: 0:jet_here 1:ground_here 2:some 3:k -/
@[reducible] noncomputable def d__law_ground_word : SD := (sSeq (sAsg (dLC (iAp rng1 (dCons (dAp lenM (dCons (dVar 1) dNil)) dNil)) (gName 3) (bTru (dAp m__law_is_below (dCons (dVar 0) (dCons (dOp ixM (dVar 1) (dVar 3)) dNil)))) (dVar 3) [3]) (gName 2))
    (sSeq (sIf (bCmp (dOp eqM (dVar 2) (dAp mkLst dNil))) (sRet (dAp mkTup (dCons (dC (.str "past")) (dCons (dC .non) dNil)))) sNil)
    (sRet (dIf (bCmp (dOp eqM (dOp ixM (dVar 2) (dC (.int 0))) (dC (.int 0)))) (dAp mkTup (dCons (dC (.str "short")) (dCons (dC .non) dNil))) (dAp mkTup (dCons (dC (.str "strikes")) (dCons (dOp subM (dOp ixM (dVar 2) (dC (.int 0))) (dC (.int 1))) dNil)))))))
noncomputable def m__law_ground_word : List PV → M PV := defM 2 4 d__law_ground_word
/-! _law_swept: 0:jet_here 1:other 2:ground_here 3:here 4:there 5:ends 6:words 7:edges 8:k 9:some 10:cut 11:place_here 12:r -/
@[reducible] noncomputable def d__law_swept : SD := (sSeq (sAsg (dLC (iSeq (dVar 2)) (gName 11) bYes (dAp m__law_less (dCons (dAp m__law_high (dCons (dVar 0) (dCons (dOp ixM (dAp m__law_apart (dCons (dVar 11) dNil)) (dC (.int 0))) dNil))) (dCons (dOp ixM (dAp m__law_apart (dCons (dVar 11) dNil)) (dC (.int 1))) dNil))) [11]) (gName 3))
    (sSeq (sAsg (dLC (iSeq (dVar 2)) (gName 11) bYes (dAp m__law_less (dCons (dAp m__law_high (dCons (dVar 1) (dCons (dOp ixM (dAp m__law_apart (dCons (dVar 11) dNil)) (dC (.int 0))) dNil))) (dCons (dOp ixM (dAp m__law_apart (dCons (dVar 11) dNil)) (dC (.int 1))) dNil))) [11]) (gName 4))
    (sSeq (sPar3 5 6 7 (dCons (dAp mkTup (dCons (dAp mkTup (dCons (dC (.int 0)) (dCons (dC (.int 1)) dNil))) (dCons (dAp mkTup (dCons (dC (.int 1)) (dCons (dC (.int 1)) dNil))) dNil))) (dCons (dAp mkLst dNil) (dCons (dAp mkLst dNil) dNil))))
    (sSeq (sFor (iAp rng1 (dCons (dAp lenM (dCons (dVar 2) dNil)) dNil)) (gName 8) (sSeq (sAsg (dLC (iSeq (dVar 5)) (gName 12) bYes (dAp m__law_plus (dCons (dOp ixM (dVar 3) (dVar 8)) (dCons (dAp m__law_times (dCons (dVar 12) (dCons (dAp m__law_less (dCons (dOp ixM (dVar 4) (dVar 8)) (dCons (dOp ixM (dVar 3) (dVar 8)) dNil))) dNil))) dNil))) [12]) (gName 9))
    (sSeq (sIf (bOr (bCmp (dOp ltM (dOp ixM (dOp ixM (dVar 9) (dC (.int 0))) (dC (.int 0))) (dC (.int 0)))) (bCmp (dOp ltM (dOp ixM (dOp ixM (dVar 9) (dC (.int 1))) (dC (.int 0))) (dC (.int 0))))) (sAsg (dIf (bCmp (dOp eqM (dVar 8) (dC (.int 0)))) (dAp mkTup (dCons (dAp mkLst (dCons (dC (.str "short")) dNil)) (dCons (dAp mkLst dNil) dNil))) (dAp mkTup (dCons (dVar 6) (dCons (dOp addM (dVar 7) (dAp mkLst (dCons (dOp subM (dVar 8) (dC (.int 1))) dNil))) dNil)))) (gTup 2 (gsCons (gName 6) (gsCons (gName 7) gsNil)))) sNil)
    (sSeq (sIf (bAnd (bCmp (dOp ltM (dOp ixM (dOp ixM (dVar 9) (dC (.int 0))) (dC (.int 0))) (dC (.int 0)))) (bCmp (dOp ltM (dOp ixM (dOp ixM (dVar 9) (dC (.int 1))) (dC (.int 0))) (dC (.int 0))))) (sRet (dAp mkTup (dCons (dVar 6) (dCons (dVar 7) (dCons (dC (.bl false)) dNil))))) sNil)
    (sIf (bOr (bCmp (dOp ltM (dOp ixM (dOp ixM (dVar 9) (dC (.int 0))) (dC (.int 0))) (dC (.int 0)))) (bCmp (dOp ltM (dOp ixM (dOp ixM (dVar 9) (dC (.int 1))) (dC (.int 0))) (dC (.int 0))))) (sSeq (sAsg (dAp m__law_over (dCons (dOp ixM (dVar 3) (dVar 8)) (dCons (dAp m__law_less (dCons (dOp ixM (dVar 3) (dVar 8)) (dCons (dOp ixM (dVar 4) (dVar 8)) dNil))) dNil))) (gName 10))
    (sAsg (dIf (bCmp (dOp ltM (dOp ixM (dOp ixM (dVar 9) (dC (.int 0))) (dC (.int 0))) (dC (.int 0)))) (dAp mkTup (dCons (dVar 10) (dCons (dOp ixM (dVar 5) (dC (.int 1))) dNil))) (dAp mkTup (dCons (dOp ixM (dVar 5) (dC (.int 0))) (dCons (dVar 10) dNil)))) (gName 5))) sNil)))))
    (sRet (dAp mkTup (dCons (dVar 6) (dCons (dVar 7) (dCons (dC (.bl true)) dNil)))))))))
noncomputable def m__law_swept : List PV → M PV := defM 3 13 d__law_swept
/-! _law_two_jets: 0:well_here 1:one 2:two 3:way -/
@[reducible] noncomputable def d__law_two_jets : SD := (sSeq (sPar3 1 2 3 (dCons (dAp m__law_jet (dCons (dVar 0) dNil)) (dCons (dAp m__law_jet (dCons (dVar 0) dNil)) (dCons (dAp m__law_draw (dCons (dVar 0) (dCons (dC (.int 8)) dNil))) dNil))))
    (sSeq (sIf (bCmp (dOp eqM (dVar 3) (dC (.int 0)))) (sRet (dAp mkTup (dCons (dVar 1) (dCons (dAp mkTup (dCons (dOp ixM (dVar 1) (dC (.int 0))) (dCons (dOp ixM (dVar 2) (dC (.int 1))) dNil))) dNil)))) sNil)
    (sSeq (sIf (bCmp (dOp eqM (dVar 3) (dC (.int 1)))) (sRet (dAp mkTup (dCons (dVar 1) (dCons (dAp mkTup (dCons (dOp ixM (dVar 2) (dC (.int 0))) (dCons (dOp ixM (dVar 1) (dC (.int 1))) dNil))) dNil)))) sNil)
    (sRet (dAp mkTup (dCons (dVar 1) (dCons (dIf (bCmp (dOp eqM (dVar 3) (dC (.int 2)))) (dVar 1) (dVar 2)) dNil)))))))
noncomputable def m__law_two_jets : List PV → M PV := defM 1 4 d__law_two_jets
/-! _law_right: 0:well_here 1:one 2:two 3:ground_here 4:words 5:edges 6:past 7:told 8:back 9:many 10:n 11:word 12:index 13:due 14:jet_here 15:edge -/
@[reducible] noncomputable def d__law_right : SD := (sSeq (sAsg (dAp m__law_two_jets (dCons (dVar 0) dNil)) (gTup 2 (gsCons (gName 1) (gsCons (gName 2) gsNil))))
    (sSeq (sAsg (dAp m__law_ground (dCons (dVar 0) (dCons (dIf (bCmp (dOp eqM (dAp m__law_draw (dCons (dVar 0) (dCons (dC (.int 2)) dNil))) (dC (.int 0)))) (dVar 1) (dVar 2)) dNil))) (gName 3))
    (sSeq (sAsg (dAp m__law_swept (dCons (dVar 1) (dCons (dVar 2) (dCons (dVar 3) dNil)))) (gTup 3 (gsCons (gName 4) (gsCons (gName 5) (gsCons (gName 6) gsNil)))))
    (sSeq (sAsg (dOp addM (dOp addM (dVar 4) (dIf (bCmp (dOp neM (dVar 5) (dAp mkLst dNil))) (dAp mkLst (dCons (dC (.str "strikes")) dNil)) (dAp mkLst dNil))) (dIf (bTru (dVar 6)) (dAp mkLst (dCons (dC (.str "past")) dNil)) (dAp mkLst dNil))) (gName 4))
    (sSeq (sAsg (dAp mkLst (dCons (dAp m_swept_words (dCons (dVar 1) (dCons (dVar 2) (dCons (dVar 3) dNil)))) (dCons (dAp m_swept_edges (dCons (dVar 1) (dCons (dVar 2) (dCons (dVar 3) dNil)))) dNil))) (gName 7))
    (sSeq (sIf (bCmp (dOp neM (dAp reprM (dCons (dVar 7) dNil)) (dAp reprM (dCons (dAp mkLst (dCons (dAp tupleM (dCons (dVar 4) dNil)) (dCons (dAp tupleM (dCons (dVar 5) dNil)) dNil))) dNil)))) (sRet (dC (.bl false))) sNil)
    (sSeq (sAsg (dAp mkLst (dCons (dApK 0 3 [0, 1, 2] m_swept_words dNil (dCons (dVar 2) (dCons (dVar 1) (dCons (dVar 3) dNil)))) (dCons (dApK 0 3 [0, 1, 2] m_swept_edges dNil (dCons (dVar 2) (dCons (dVar 1) (dCons (dVar 3) dNil)))) dNil))) (gName 8))
    (sSeq (sIf (bCmp (dOp neM (dAp reprM (dCons (dVar 8) dNil)) (dAp reprM (dCons (dVar 7) dNil)))) (sRet (dC (.bl false))) sNil)
    (sSeq (sAsg (dOp addM (dC (.int 1)) (dAp m__law_draw (dCons (dVar 0) (dCons (dC (.int 6)) dNil)))) (gName 9))
    (sSeq (sFor (iAp rng1 (dCons (dOp addM (dVar 9) (dC (.int 1))) dNil)) (gName 10) (sSeq (sAsg (dAp m_jet_between (dCons (dVar 1) (dCons (dVar 2) (dCons (dAp m__law_ratio (dCons (dVar 10) (dCons (dVar 9) dNil))) dNil)))) (gName 14))
    (sSeq (sAsg (dAp m_strike_edge (dCons (dVar 14) (dCons (dVar 3) dNil))) (gName 15))
    (sIf (bOr (bCmp (dOp ninM (dAp m_ground_word (dCons (dVar 14) (dCons (dVar 3) dNil))) (dVar 4))) (bAnd (bCmp (dOp (fun p q => match q with | .non => notNM p q | _ => stk) (dVar 15) (dC .non))) (bCmp (dOp ninM (dVar 15) (dVar 5))))) (sRet (dC (.bl false))) sNil))))
    (sSeq (sAsg (dAp m__law_ground_word (dCons (dVar 1) (dCons (dVar 3) dNil))) (gTup 2 (gsCons (gName 11) (gsCons (gName 12) gsNil))))
    (sSeq (sAsg (dAp mkLst (dCons (dAp mkTup (dCons (dVar 11) dNil)) (dCons (dIf (bCmp (dOp (fun p q => match q with | .non => isNM p q | _ => stk) (dVar 12) (dC .non))) (dAp mkTup dNil) (dAp mkTup (dCons (dVar 12) dNil))) dNil))) (gName 13))
    (sRet (dOp eqM (dAp reprM (dCons (dAp mkLst (dCons (dAp m_swept_words (dCons (dVar 1) (dCons (dVar 1) (dCons (dVar 3) dNil)))) (dCons (dAp m_swept_edges (dCons (dVar 1) (dCons (dVar 1) (dCons (dVar 3) dNil)))) dNil))) dNil)) (dAp reprM (dCons (dVar 13) dNil))))))))))))))))
noncomputable def m__law_right : List PV → M PV := defM 1 16 d__law_right
/-! law: 0:script 1:turn -/
@[reducible] noncomputable def d_law : SD := (sRet (dAp allM (dCons (dLC (iAp rng1 (dCons (dAp m__law_rounds (dCons (dVar 0) (dCons (dC (.int 2)) (dCons (dC (.int 4)) dNil)))) dNil)) (gName 1) bYes (dAp m__law_right (dCons (dAp m__law_well (dCons (dVar 0) (dCons (dVar 1) dNil))) dNil)) [1]) dNil)))
noncomputable def m_law : List PV → M PV := defM 1 2 d_law
def topS (i : Nat) : Stmt := PySem.Challenge.pw_spoutlines_k89_whole_words_and_edges_on.main.body.getD i (.Pass ⟨0, 0, 0, 0⟩)
structure Top (K : PySem.W.Frag) (mg : Str → Option Value) : Prop where
  has_is_whole : ∃ f fd, FunT K "is_whole" (topS 2) f fd ∧ mg "is_whole" = some (.ref f)
  has_are_wholes : ∃ f fd, FunT K "are_wholes" (topS 3) f fd ∧ mg "are_wholes" = some (.ref f)
  has_divisor_of : ∃ f fd, FunT K "divisor_of" (topS 4) f fd ∧ mg "divisor_of" = some (.ref f)
  has_is_reduced : ∃ f fd, FunT K "is_reduced" (topS 5) f fd ∧ mg "is_reduced" = some (.ref f)
  has_is_ratio : ∃ f fd, FunT K "is_ratio" (topS 9) f fd ∧ mg "is_ratio" = some (.ref f)
  has_ratio : ∃ f fd, FunT K "ratio" (topS 10) f fd ∧ mg "ratio" = some (.ref f)
  has_ratio_sum : ∃ f fd, FunT K "ratio_sum" (topS 11) f fd ∧ mg "ratio_sum" = some (.ref f)
  has_ratio_less : ∃ f fd, FunT K "ratio_less" (topS 12) f fd ∧ mg "ratio_less" = some (.ref f)
  has_ratio_product : ∃ f fd, FunT K "ratio_product" (topS 13) f fd ∧ mg "ratio_product" = some (.ref f)
  has_ratio_over : ∃ f fd, FunT K "ratio_over" (topS 14) f fd ∧ mg "ratio_over" = some (.ref f)
  has_ratio_back : ∃ f fd, FunT K "ratio_back" (topS 15) f fd ∧ mg "ratio_back" = some (.ref f)
  has_is_lower : ∃ f fd, FunT K "is_lower" (topS 16) f fd ∧ mg "is_lower" = some (.ref f)
  has_is_spot : ∃ f fd, FunT K "is_spot" (topS 18) f fd ∧ mg "is_spot" = some (.ref f)
  has_is_ahead : ∃ f fd, FunT K "is_ahead" (topS 19) f fd ∧ mg "is_ahead" = some (.ref f)
  has_far_of : ∃ f fd, FunT K "far_of" (topS 20) f fd ∧ mg "far_of" = some (.ref f)
  has_tall_of : ∃ f fd, FunT K "tall_of" (topS 21) f fd ∧ mg "tall_of" = some (.ref f)
  has_is_nearer : ∃ f fd, FunT K "is_nearer" (topS 22) f fd ∧ mg "is_nearer" = some (.ref f)
  has_is_stream_pair : ∃ f fd, FunT K "is_stream_pair" (topS 24) f fd ∧ mg "is_stream_pair" = some (.ref f)
  has_height_of_jet : ∃ f fd, FunT K "height_of_jet" (topS 25) f fd ∧ mg "height_of_jet" = some (.ref f)
  has_between_jets : ∃ f fd, FunT K "between_jets" (topS 26) f fd ∧ mg "between_jets" = some (.ref f)
  has_check_fraction : ∃ f fd, FunT K "check_fraction" (topS 33) f fd ∧ mg "check_fraction" = some (.ref f)
  has_check_jet : ∃ f fd, FunT K "check_jet" (topS 34) f fd ∧ mg "check_jet" = some (.ref f)
  has_is_below : ∃ f fd, FunT K "is_below" (topS 37) f fd ∧ mg "is_below" = some (.ref f)
  has_first_below : ∃ f fd, FunT K "first_below" (topS 38) f fd ∧ mg "first_below" = some (.ref f)
  has_word_for : ∃ f fd, FunT K "word_for" (topS 39) f fd ∧ mg "word_for" = some (.ref f)
  has_swept_heights : ∃ f fd, FunT K "swept_heights" (topS 40) f fd ∧ mg "swept_heights" = some (.ref f)
  has_shares_over : ∃ f fd, FunT K "shares_over" (topS 41) f fd ∧ mg "shares_over" = some (.ref f)
  has_is_below_within : ∃ f fd, FunT K "is_below_within" (topS 42) f fd ∧ mg "is_below_within" = some (.ref f)
  has_swept_falls : ∃ f fd, FunT K "swept_falls" (topS 43) f fd ∧ mg "swept_falls" = some (.ref f)
  has_check_ground : ∃ f fd, FunT K "check_ground" (topS 47) f fd ∧ mg "check_ground" = some (.ref f)
  has_check_strike : ∃ f fd, FunT K "check_strike" (topS 48) f fd ∧ mg "check_strike" = some (.ref f)
  has_ground_word : ∃ f fd, FunT K "ground_word" (topS 49) f fd ∧ mg "ground_word" = some (.ref f)
  has_strike_edge : ∃ f fd, FunT K "strike_edge" (topS 50) f fd ∧ mg "strike_edge" = some (.ref f)
  has_check_turn : ∃ f fd, FunT K "check_turn" (topS 52) f fd ∧ mg "check_turn" = some (.ref f)
  has_jet_between : ∃ f fd, FunT K "jet_between" (topS 53) f fd ∧ mg "jet_between" = some (.ref f)
  has_swept_words : ∃ f fd, FunT K "swept_words" (topS 54) f fd ∧ mg "swept_words" = some (.ref f)
  has_swept_edges : ∃ f fd, FunT K "swept_edges" (topS 55) f fd ∧ mg "swept_edges" = some (.ref f)
  has__law_well : ∃ f fd, FunT K "_law_well" (topS 57) f fd ∧ mg "_law_well" = some (.ref f)
  has__law_draw : ∃ f fd, FunT K "_law_draw" (topS 58) f fd ∧ mg "_law_draw" = some (.ref f)
  has__law_rounds : ∃ f fd, FunT K "_law_rounds" (topS 59) f fd ∧ mg "_law_rounds" = some (.ref f)
  has__law_pick : ∃ f fd, FunT K "_law_pick" (topS 60) f fd ∧ mg "_law_pick" = some (.ref f)
  has__law_common : ∃ f fd, FunT K "_law_common" (topS 61) f fd ∧ mg "_law_common" = some (.ref f)
  has__law_lean : ∃ f fd, FunT K "_law_lean" (topS 62) f fd ∧ mg "_law_lean" = some (.ref f)
  has__law_ratio : ∃ f fd, FunT K "_law_ratio" (topS 63) f fd ∧ mg "_law_ratio" = some (.ref f)
  has__law_plus : ∃ f fd, FunT K "_law_plus" (topS 64) f fd ∧ mg "_law_plus" = some (.ref f)
  has__law_less : ∃ f fd, FunT K "_law_less" (topS 65) f fd ∧ mg "_law_less" = some (.ref f)
  has__law_times : ∃ f fd, FunT K "_law_times" (topS 66) f fd ∧ mg "_law_times" = some (.ref f)
  has__law_over : ∃ f fd, FunT K "_law_over" (topS 67) f fd ∧ mg "_law_over" = some (.ref f)
  has__law_sign : ∃ f fd, FunT K "_law_sign" (topS 69) f fd ∧ mg "_law_sign" = some (.ref f)
  has__law_order : ∃ f fd, FunT K "_law_order" (topS 68) f fd ∧ mg "_law_order" = some (.ref f)
  has__law_place : ∃ f fd, FunT K "_law_place" (topS 70) f fd ∧ mg "_law_place" = some (.ref f)
  has__law_apart : ∃ f fd, FunT K "_law_apart" (topS 71) f fd ∧ mg "_law_apart" = some (.ref f)
  has__law_high : ∃ f fd, FunT K "_law_high" (topS 72) f fd ∧ mg "_law_high" = some (.ref f)
  has__law_size : ∃ f fd, FunT K "_law_size" (topS 73) f fd ∧ mg "_law_size" = some (.ref f)
  has__law_part : ∃ f fd, FunT K "_law_part" (topS 74) f fd ∧ mg "_law_part" = some (.ref f)
  has__law_jet : ∃ f fd, FunT K "_law_jet" (topS 75) f fd ∧ mg "_law_jet" = some (.ref f)
  has__law_slack : ∃ f fd, FunT K "_law_slack" (topS 76) f fd ∧ mg "_law_slack" = some (.ref f)
  has__law_ground : ∃ f fd, FunT K "_law_ground" (topS 77) f fd ∧ mg "_law_ground" = some (.ref f)
  has__law_is_below : ∃ f fd, FunT K "_law_is_below" (topS 78) f fd ∧ mg "_law_is_below" = some (.ref f)
  has__law_ground_word : ∃ f fd, FunT K "_law_ground_word" (topS 79) f fd ∧ mg "_law_ground_word" = some (.ref f)
  has__law_swept : ∃ f fd, FunT K "_law_swept" (topS 80) f fd ∧ mg "_law_swept" = some (.ref f)
  has__law_two_jets : ∃ f fd, FunT K "_law_two_jets" (topS 81) f fd ∧ mg "_law_two_jets" = some (.ref f)
  has__law_right : ∃ f fd, FunT K "_law_right" (topS 82) f fd ∧ mg "_law_right" = some (.ref f)
  has_law : ∃ f fd, FunT K "law" (topS 83) f fd ∧ mg "law" = some (.ref f)
  c_ZERO : GlobIs K mg "ZERO" v_ZERO
  c_ONE : GlobIs K mg "ONE" v_ONE
  c_WORDS : GlobIs K mg "WORDS" v_WORDS
  c_LEAST_CORNERS : GlobIs K mg "LEAST_CORNERS" v_LEAST_CORNERS
  c_MOST_CORNERS : GlobIs K mg "MOST_CORNERS" v_MOST_CORNERS
  bi_gcd : mg "gcd" = some (.builtin "math.gcd")
  z_abs : mg "abs" = none
  z_all : mg "all" = none
  z_any : mg "any" = none
  z_bool : mg "bool" = none
  z_divmod : mg "divmod" = none
  z_enumerate : mg "enumerate" = none
  z_int : mg "int" = none
  z_isinstance : mg "isinstance" = none
  z_len : mg "len" = none
  z_max : mg "max" = none
  z_min : mg "min" = none
  z_range : mg "range" = none
  z_repr : mg "repr" = none
  z_tuple : mg "tuple" = none
  z_zip : mg "zip" = none
section
variable {P : Program} {w : World} {K : PySem.W.Frag} {mg : Str → Option Value} {base : Heap}
/-! is_whole -/
abbrev s_is_whole : Stmt := topS 2
abbrev N_is_whole : List Str := ["value"]
theorem sc_is_whole : FnScope N_is_whole ["value"] (defScope s_is_whole) := ⟨rfl, rfl, rfl, by decide +kernel, rfl, by decide +kernel, by decide +kernel⟩
theorem b_is_whole : BindP "is_whole" s_is_whole ["value"] := fun _ _ _ _ _ _ us hl => match us, hl with | [_], _ => rfl
theorem ok_is_whole (T : Top K mg) : Df P w K mg base "is_whole" s_is_whole 1 ["value"] m_is_whole := by
  refine ⟨defM_ar, ?_⟩
  obtain ⟨f, fd, F, gf⟩ := T.has_is_whole
  exact ⟨f, fd, F, gf, fnG_of F sc_is_whole defM_ok fun cdv Ar outer s H E A => (pmb_one (pms_ret (pm_and (pm_isi kit_int T.z_isinstance T.z_int (by decide +kernel) (pm_var 0)) (pm_one (pm_not (pm_isi kit_bool T.z_isinstance T.z_bool (by decide +kernel) (pm_var 0)))))))⟩
/-! are_wholes -/
abbrev s_are_wholes : Stmt := topS 3
abbrev N_are_wholes : List Str := ["value", "many", "number"]
theorem sc_are_wholes : FnScope N_are_wholes ["value", "many"] (defScope s_are_wholes) := ⟨rfl, rfl, rfl, by decide +kernel, rfl, by decide +kernel, by decide +kernel⟩
theorem b_are_wholes : BindP "are_wholes" s_are_wholes ["value", "many"] := fun _ _ _ _ _ _ us hl => match us, hl with | [_, _], _ => rfl
theorem ok_are_wholes (T : Top K mg) : Df P w K mg base "are_wholes" s_are_wholes 2 ["value", "many"] m_are_wholes := by
  refine ⟨defM_ar, ?_⟩
  obtain ⟨f, fd, F, gf⟩ := T.has_are_wholes
  exact ⟨f, fd, F, gf, fnG_of F sc_are_wholes defM_ok fun cdv Ar outer s H E A => (pmb_one (pms_ret (pm_and (pm_isi kit_tuple T.z_isinstance T.z_tuple (by decide +kernel) (pm_var 0)) (pm_and (pm_cmp (o_eq A.u) (pm_bi c_len T.z_len (by decide +kernel) (pma_cons (pm_var 0) pma_nil)) (pm_var 1) (nomark _)) (pm_one (pm_bi (c_all rfl) T.z_all (by decide +kernel) (pma_cons (pm_lc [("number", 2)] rfl sc_are_wholes.nd (blkOk_by (own := [("number", 2)]) (N := N_are_wholes) (sc := defScope s_are_wholes) (by decide +kernel)) (pmi_seq (pm_var 0)) (fun _ _ _ _ _ => (pmf_name 2 sc_are_wholes.nd)) (fun _ _ _ _ _ => pbs_nil) (fun _ _ _ _ _ => (pm_call A.blk (ok_is_whole T) b_is_whole (by decide) (pma_cons (pm_var 2) pma_nil)))) pma_nil)))))))⟩
/-! divisor_of -/
abbrev s_divisor_of : Stmt := topS 4
abbrev N_divisor_of : List Str := ["numbers", "found", "number"]
theorem sc_divisor_of : FnScope N_divisor_of ["numbers"] (defScope s_divisor_of) := ⟨rfl, rfl, rfl, by decide +kernel, rfl, by decide +kernel, by decide +kernel⟩
theorem b_divisor_of : BindP "divisor_of" s_divisor_of ["numbers"] := fun _ _ _ _ _ _ us hl => match us, hl with | [_], _ => rfl
theorem ok_divisor_of (T : Top K mg) : Df P w K mg base "divisor_of" s_divisor_of 1 ["numbers"] m_divisor_of := by
  refine ⟨defM_ar, ?_⟩
  obtain ⟨f, fd, F, gf⟩ := T.has_divisor_of
  exact ⟨f, fd, F, gf, fnG_of F sc_divisor_of defM_ok fun cdv Ar outer s H E A => (pmb_cons (pms_set 1 sc_divisor_of.nd pm_int)
    (pmb_cons (pms_for (passes_of rfl) rfl (pmi_seq (pm_var 0)) (pmg_name 2 sc_divisor_of.nd) (pmb_one (pms_set 1 sc_divisor_of.nd (pm_fun c_gcd T.bi_gcd (pma_cons (pm_var 1) (pma_cons (pm_var 2) pma_nil))))))
    (pmb_one (pms_ret (pm_var 1)))))⟩
/-! is_reduced -/
abbrev s_is_reduced : Stmt := topS 5
abbrev N_is_reduced : List Str := ["numbers"]
theorem sc_is_reduced : FnScope N_is_reduced ["numbers"] (defScope s_is_reduced) := ⟨rfl, rfl, rfl, by decide +kernel, rfl, by decide +kernel, by decide +kernel⟩
theorem b_is_reduced : BindP "is_reduced" s_is_reduced ["numbers"] := fun _ _ _ _ _ _ us hl => match us, hl with | [_], _ => rfl
theorem ok_is_reduced (T : Top K mg) : Df P w K mg base "is_reduced" s_is_reduced 2 ["numbers"] m_is_reduced := by
  refine ⟨defM_ar, ?_⟩
  obtain ⟨f, fd, F, gf⟩ := T.has_is_reduced
  exact ⟨f, fd, F, gf, fnG_of F sc_is_reduced defM_ok fun cdv Ar outer s H E A => (pmb_one (pms_ret (pm_cmp (o_eq A.u) (pm_call A (ok_divisor_of T) b_divisor_of (by decide) (pma_cons (pm_var 0) pma_nil)) pm_int (nomark _))))⟩
/-! is_ratio -/
abbrev s_is_ratio : Stmt := topS 9
abbrev N_is_ratio : List Str := ["value"]
theorem sc_is_ratio : FnScope N_is_ratio ["value"] (defScope s_is_ratio) := ⟨rfl, rfl, rfl, by decide +kernel, rfl, by decide +kernel, by decide +kernel⟩
theorem b_is_ratio : BindP "is_ratio" s_is_ratio ["value"] := fun _ _ _ _ _ _ us hl => match us, hl with | [_], _ => rfl
theorem ok_is_ratio (T : Top K mg) : Df P w K mg base "is_ratio" s_is_ratio 3 ["value"] m_is_ratio := by
  refine ⟨defM_ar, ?_⟩
  obtain ⟨f, fd, F, gf⟩ := T.has_is_ratio
  exact ⟨f, fd, F, gf, fnG_of F sc_is_ratio defM_ok fun cdv Ar outer s H E A => (pmb_one (pms_ret (pm_and (pm_call A (ok_are_wholes T) b_are_wholes (by decide) (pma_cons (pm_var 0) (pma_cons pm_int pma_nil))) (pm_and (pm_cmp o_gt (pm_ix (pm_var 0) pm_int) pm_int (nomark _)) (pm_one (pm_call A (ok_is_reduced T) b_is_reduced (by decide) (pma_cons (pm_var 0) pma_nil)))))))⟩
/-! ratio -/
abbrev s_ratio : Stmt := topS 10
abbrev N_ratio : List Str := ["number", "under", "part"]
theorem sc_ratio : FnScope N_ratio ["number", "under"] (defScope s_ratio) := ⟨rfl, rfl, rfl, by decide +kernel, rfl, by decide +kernel, by decide +kernel⟩
theorem b_ratio : BindP "ratio" s_ratio ["number", "under"] := fun _ _ _ _ _ _ us hl => match us, hl with | [_, _], _ => rfl
theorem ok_ratio (T : Top K mg) : Df P w K mg base "ratio" s_ratio 2 ["number", "under"] m_ratio := by
  refine ⟨defM_ar, ?_⟩
  obtain ⟨f, fd, F, gf⟩ := T.has_ratio
  exact ⟨f, fd, F, gf, fnG_of F sc_ratio defM_ok fun cdv Ar outer s H E A => (pmb_cons (pms_set 2 sc_ratio.nd (pm_call A (ok_divisor_of T) b_divisor_of (by decide) (pma_cons (pm_tup (pma_cons (pm_var 0) (pma_cons (pm_var 1) pma_nil))) pma_nil)))
    (pmb_cons (pms_set 2 sc_ratio.nd (pm_if (pb_cmp o_gt (pm_var 1) pm_int (nomark _)) (pm_var 2) (pm_un o_neg (pm_var 2))))
    (pmb_one (pms_ret (pm_tup (pma_cons (pm_op o_fdiv (pm_var 0) (pm_var 2)) (pma_cons (pm_op o_fdiv (pm_var 1) (pm_var 2)) pma_nil)))))))⟩
/-! ratio_sum -/
abbrev s_ratio_sum : Stmt := topS 11
abbrev N_ratio_sum : List Str := ["one", "two"]
theorem sc_ratio_sum : FnScope N_ratio_sum ["one", "two"] (defScope s_ratio_sum) := ⟨rfl, rfl, rfl, by decide +kernel, rfl, by decide +kernel, by decide +kernel⟩
theorem b_ratio_sum : BindP "ratio_sum" s_ratio_sum ["one", "two"] := fun _ _ _ _ _ _ us hl => match us, hl with | [_, _], _ => rfl
theorem ok_ratio_sum (T : Top K mg) : Df P w K mg base "ratio_sum" s_ratio_sum 3 ["one", "two"] m_ratio_sum := by
  refine ⟨defM_ar, ?_⟩
  obtain ⟨f, fd, F, gf⟩ := T.has_ratio_sum
  exact ⟨f, fd, F, gf, fnG_of F sc_ratio_sum defM_ok fun cdv Ar outer s H E A => (pmb_one (pms_ret (pm_call A (ok_ratio T) b_ratio (by decide) (pma_cons (pm_op o_add (pm_op o_mul (pm_ix (pm_var 0) pm_int) (pm_ix (pm_var 1) pm_int)) (pm_op o_mul (pm_ix (pm_var 1) pm_int) (pm_ix (pm_var 0) pm_int))) (pma_cons (pm_op o_mul (pm_ix (pm_var 0) pm_int) (pm_ix (pm_var 1) pm_int)) pma_nil)))))⟩
/-! ratio_less -/
abbrev s_ratio_less : Stmt := topS 12
abbrev N_ratio_less : List Str := ["one", "two"]
theorem sc_ratio_less : FnScope N_ratio_less ["one", "two"] (defScope s_ratio_less) := ⟨rfl, rfl, rfl, by decide +kernel, rfl, by decide +kernel, by decide +kernel⟩
theorem b_ratio_less : BindP "ratio_less" s_ratio_less ["one", "two"] := fun _ _ _ _ _ _ us hl => match us, hl with | [_, _], _ => rfl
theorem ok_ratio_less (T : Top K mg) : Df P w K mg base "ratio_less" s_ratio_less 3 ["one", "two"] m_ratio_less := by
  refine ⟨defM_ar, ?_⟩
  obtain ⟨f, fd, F, gf⟩ := T.has_ratio_less
  exact ⟨f, fd, F, gf, fnG_of F sc_ratio_less defM_ok fun cdv Ar outer s H E A => (pmb_one (pms_ret (pm_call A (ok_ratio T) b_ratio (by decide) (pma_cons (pm_op o_sub (pm_op o_mul (pm_ix (pm_var 0) pm_int) (pm_ix (pm_var 1) pm_int)) (pm_op o_mul (pm_ix (pm_var 1) pm_int) (pm_ix (pm_var 0) pm_int))) (pma_cons (pm_op o_mul (pm_ix (pm_var 0) pm_int) (pm_ix (pm_var 1) pm_int)) pma_nil)))))⟩
/-! ratio_product -/
abbrev s_ratio_product : Stmt := topS 13
abbrev N_ratio_product : List Str := ["one", "two"]
theorem sc_ratio_product : FnScope N_ratio_product ["one", "two"] (defScope s_ratio_product) := ⟨rfl, rfl, rfl, by decide +kernel, rfl, by decide +kernel, by decide +kernel⟩
theorem b_ratio_product : BindP "ratio_product" s_ratio_product ["one", "two"] := fun _ _ _ _ _ _ us hl => match us, hl with | [_, _], _ => rfl
theorem ok_ratio_product (T : Top K mg) : Df P w K mg base "ratio_product" s_ratio_product 3 ["one", "two"] m_ratio_product := by
  refine ⟨defM_ar, ?_⟩
  obtain ⟨f, fd, F, gf⟩ := T.has_ratio_product
  exact ⟨f, fd, F, gf, fnG_of F sc_ratio_product defM_ok fun cdv Ar outer s H E A => (pmb_one (pms_ret (pm_call A (ok_ratio T) b_ratio (by decide) (pma_cons (pm_op o_mul (pm_ix (pm_var 0) pm_int) (pm_ix (pm_var 1) pm_int)) (pma_cons (pm_op o_mul (pm_ix (pm_var 0) pm_int) (pm_ix (pm_var 1) pm_int)) pma_nil)))))⟩
/-! ratio_over -/
abbrev s_ratio_over : Stmt := topS 14
abbrev N_ratio_over : List Str := ["one", "two"]
theorem sc_ratio_over : FnScope N_ratio_over ["one", "two"] (defScope s_ratio_over) := ⟨rfl, rfl, rfl, by decide +kernel, rfl, by decide +kernel, by decide +kernel⟩
theorem b_ratio_over : BindP "ratio_over" s_ratio_over ["one", "two"] := fun _ _ _ _ _ _ us hl => match us, hl with | [_, _], _ => rfl
theorem ok_ratio_over (T : Top K mg) : Df P w K mg base "ratio_over" s_ratio_over 3 ["one", "two"] m_ratio_over := by
  refine ⟨defM_ar, ?_⟩
  obtain ⟨f, fd, F, gf⟩ := T.has_ratio_over
  exact ⟨f, fd, F, gf, fnG_of F sc_ratio_over defM_ok fun cdv Ar outer s H E A => (pmb_one (pms_ret (pm_call A (ok_ratio T) b_ratio (by decide) (pma_cons (pm_op o_mul (pm_ix (pm_var 0) pm_int) (pm_ix (pm_var 1) pm_int)) (pma_cons (pm_op o_mul (pm_ix (pm_var 0) pm_int) (pm_ix (pm_var 1) pm_int)) pma_nil)))))⟩
/-! ratio_back -/
abbrev s_ratio_back : Stmt := topS 15
abbrev N_ratio_back : List Str := ["one"]
theorem sc_ratio_back : FnScope N_ratio_back ["one"] (defScope s_ratio_back) := ⟨rfl, rfl, rfl, by decide +kernel, rfl, by decide +kernel, by decide +kernel⟩
theorem b_ratio_back : BindP "ratio_back" s_ratio_back ["one"] := fun _ _ _ _ _ _ us hl => match us, hl with | [_], _ => rfl
theorem ok_ratio_back (T : Top K mg) : Df P w K mg base "ratio_back" s_ratio_back 1 ["one"] m_ratio_back := by
  refine ⟨defM_ar, ?_⟩
  obtain ⟨f, fd, F, gf⟩ := T.has_ratio_back
  exact ⟨f, fd, F, gf, fnG_of F sc_ratio_back defM_ok fun cdv Ar outer s H E A => (pmb_one (pms_ret (pm_tup (pma_cons (pm_un o_neg (pm_ix (pm_var 0) pm_int)) (pma_cons (pm_ix (pm_var 0) pm_int) pma_nil)))))⟩
/-! is_lower -/
abbrev s_is_lower : Stmt := topS 16
abbrev N_is_lower : List Str := ["one", "two"]
theorem sc_is_lower : FnScope N_is_lower ["one", "two"] (defScope s_is_lower) := ⟨rfl, rfl, rfl, by decide +kernel, rfl, by decide +kernel, by decide +kernel⟩
theorem b_is_lower : BindP "is_lower" s_is_lower ["one", "two"] := fun _ _ _ _ _ _ us hl => match us, hl with | [_, _], _ => rfl
theorem ok_is_lower (T : Top K mg) : Df P w K mg base "is_lower" s_is_lower 1 ["one", "two"] m_is_lower := by
  refine ⟨defM_ar, ?_⟩
  obtain ⟨f, fd, F, gf⟩ := T.has_is_lower
  exact ⟨f, fd, F, gf, fnG_of F sc_is_lower defM_ok fun cdv Ar outer s H E A => (pmb_one (pms_ret (pm_cmp o_lt (pm_op o_mul (pm_ix (pm_var 0) pm_int) (pm_ix (pm_var 1) pm_int)) (pm_op o_mul (pm_ix (pm_var 1) pm_int) (pm_ix (pm_var 0) pm_int)) (nomark _))))⟩
/-! is_spot -/
abbrev s_is_spot : Stmt := topS 18
abbrev N_is_spot : List Str := ["value"]
theorem sc_is_spot : FnScope N_is_spot ["value"] (defScope s_is_spot) := ⟨rfl, rfl, rfl, by decide +kernel, rfl, by decide +kernel, by decide +kernel⟩
theorem b_is_spot : BindP "is_spot" s_is_spot ["value"] := fun _ _ _ _ _ _ us hl => match us, hl with | [_], _ => rfl
theorem ok_is_spot (T : Top K mg) : Df P w K mg base "is_spot" s_is_spot 3 ["value"] m_is_spot := by
  refine ⟨defM_ar, ?_⟩
  obtain ⟨f, fd, F, gf⟩ := T.has_is_spot
  exact ⟨f, fd, F, gf, fnG_of F sc_is_spot defM_ok fun cdv Ar outer s H E A => (pmb_one (pms_ret (pm_and (pm_call A (ok_are_wholes T) b_are_wholes (by decide) (pma_cons (pm_var 0) (pma_cons pm_int pma_nil))) (pm_and (pm_cmp o_gt (pm_ix (pm_var 0) pm_int) pm_int (nomark _)) (pm_one (pm_call A (ok_is_reduced T) b_is_reduced (by decide) (pma_cons (pm_var 0) pma_nil)))))))⟩
/-! is_ahead -/
abbrev s_is_ahead : Stmt := topS 19
abbrev N_is_ahead : List Str := ["value"]
theorem sc_is_ahead : FnScope N_is_ahead ["value"] (defScope s_is_ahead) := ⟨rfl, rfl, rfl, by decide +kernel, rfl, by decide +kernel, by decide +kernel⟩
theorem b_is_ahead : BindP "is_ahead" s_is_ahead ["value"] := fun _ _ _ _ _ _ us hl => match us, hl with | [_], _ => rfl
theorem ok_is_ahead (T : Top K mg) : Df P w K mg base "is_ahead" s_is_ahead 4 ["value"] m_is_ahead := by
  refine ⟨defM_ar, ?_⟩
  obtain ⟨f, fd, F, gf⟩ := T.has_is_ahead
  exact ⟨f, fd, F, gf, fnG_of F sc_is_ahead defM_ok fun cdv Ar outer s H E A => (pmb_one (pms_ret (pm_and (pm_call A (ok_is_spot T) b_is_spot (by decide) (pma_cons (pm_var 0) pma_nil)) (pm_one (pm_cmp o_gt (pm_ix (pm_var 0) pm_int) pm_int (nomark _))))))⟩
/-! far_of -/
abbrev s_far_of : Stmt := topS 20
abbrev N_far_of : List Str := ["place"]
theorem sc_far_of : FnScope N_far_of ["place"] (defScope s_far_of) := ⟨rfl, rfl, rfl, by decide +kernel, rfl, by decide +kernel, by decide +kernel⟩
theorem b_far_of : BindP "far_of" s_far_of ["place"] := fun _ _ _ _ _ _ us hl => match us, hl with | [_], _ => rfl
theorem ok_far_of (T : Top K mg) : Df P w K mg base "far_of" s_far_of 3 ["place"] m_far_of := by
  refine ⟨defM_ar, ?_⟩
  obtain ⟨f, fd, F, gf⟩ := T.has_far_of
  exact ⟨f, fd, F, gf, fnG_of F sc_far_of defM_ok fun cdv Ar outer s H E A => (pmb_one (pms_ret (pm_call A (ok_ratio T) b_ratio (by decide) (pma_cons (pm_ix (pm_var 0) pm_int) (pma_cons (pm_ix (pm_var 0) pm_int) pma_nil)))))⟩
/-! tall_of -/
abbrev s_tall_of : Stmt := topS 21
abbrev N_tall_of : List Str := ["place"]
theorem sc_tall_of : FnScope N_tall_of ["place"] (defScope s_tall_of) := ⟨rfl, rfl, rfl, by decide +kernel, rfl, by decide +kernel, by decide +kernel⟩
theorem b_tall_of : BindP "tall_of" s_tall_of ["place"] := fun _ _ _ _ _ _ us hl => match us, hl with | [_], _ => rfl
theorem ok_tall_of (T : Top K mg) : Df P w K mg base "tall_of" s_tall_of 3 ["place"] m_tall_of := by
  refine ⟨defM_ar, ?_⟩
  obtain ⟨f, fd, F, gf⟩ := T.has_tall_of
  exact ⟨f, fd, F, gf, fnG_of F sc_tall_of defM_ok fun cdv Ar outer s H E A => (pmb_one (pms_ret (pm_call A (ok_ratio T) b_ratio (by decide) (pma_cons (pm_ix (pm_var 0) pm_int) (pma_cons (pm_ix (pm_var 0) pm_int) pma_nil)))))⟩
/-! is_nearer -/
abbrev s_is_nearer : Stmt := topS 22
abbrev N_is_nearer : List Str := ["one", "two"]
theorem sc_is_nearer : FnScope N_is_nearer ["one", "two"] (defScope s_is_nearer) := ⟨rfl, rfl, rfl, by decide +kernel, rfl, by decide +kernel, by decide +kernel⟩
theorem b_is_nearer : BindP "is_nearer" s_is_nearer ["one", "two"] := fun _ _ _ _ _ _ us hl => match us, hl with | [_, _], _ => rfl
theorem ok_is_nearer (T : Top K mg) : Df P w K mg base "is_nearer" s_is_nearer 1 ["one", "two"] m_is_nearer := by
  refine ⟨defM_ar, ?_⟩
  obtain ⟨f, fd, F, gf⟩ := T.has_is_nearer
  exact ⟨f, fd, F, gf, fnG_of F sc_is_nearer defM_ok fun cdv Ar outer s H E A => (pmb_one (pms_ret (pm_cmp o_lt (pm_op o_mul (pm_ix (pm_var 0) pm_int) (pm_ix (pm_var 1) pm_int)) (pm_op o_mul (pm_ix (pm_var 1) pm_int) (pm_ix (pm_var 0) pm_int)) (nomark _))))⟩
/-! is_stream_pair -/
abbrev s_is_stream_pair : Stmt := topS 24
abbrev N_is_stream_pair : List Str := ["value"]
theorem sc_is_stream_pair : FnScope N_is_stream_pair ["value"] (defScope s_is_stream_pair) := ⟨rfl, rfl, rfl, by decide +kernel, rfl, by decide +kernel, by decide +kernel⟩
theorem b_is_stream_pair : BindP "is_stream_pair" s_is_stream_pair ["value"] := fun _ _ _ _ _ _ us hl => match us, hl with | [_], _ => rfl
theorem ok_is_stream_pair (T : Top K mg) : Df P w K mg base "is_stream_pair" s_is_stream_pair 4 ["value"] m_is_stream_pair := by
  refine ⟨defM_ar, ?_⟩
  obtain ⟨f, fd, F, gf⟩ := T.has_is_stream_pair
  exact ⟨f, fd, F, gf, fnG_of F sc_is_stream_pair defM_ok fun cdv Ar outer s H E A => (pmb_cons (pms_if (PW.pt (pbw_or (pb_not (pb_tru (pm_isi kit_tuple T.z_isinstance T.z_tuple (by decide +kernel) (pm_var 0)))) (pw1_or (pb_cmp (o_ne A.u) (pm_bi c_len T.z_len (by decide +kernel) (pma_cons (pm_var 0) pma_nil)) pm_int (nomark _))))) (pmb_one (pms_ret pm_bl)) pmb_nil)
    (pmb_one (pms_ret (pm_and (pm_call A (ok_is_ratio T) b_is_ratio (by decide) (pma_cons (pm_ix (pm_var 0) pm_int) pma_nil)) (pm_and (pm_call A (ok_is_ratio T) b_is_ratio (by decide) (pma_cons (pm_ix (pm_var 0) pm_int) pma_nil)) (pm_one (pm_cmp o_gt (pm_ix (pm_ix (pm_var 0) pm_int) pm_int) pm_int (nomark _))))))))⟩
/-! height_of_jet -/
abbrev s_height_of_jet : Stmt := topS 25
abbrev N_height_of_jet : List Str := ["jet", "distance"]
theorem sc_height_of_jet : FnScope N_height_of_jet ["jet", "distance"] (defScope s_height_of_jet) := ⟨rfl, rfl, rfl, by decide +kernel, rfl, by decide +kernel, by decide +kernel⟩
theorem b_height_of_jet : BindP "height_of_jet" s_height_of_jet ["jet", "distance"] := fun _ _ _ _ _ _ us hl => match us, hl with | [_, _], _ => rfl
theorem ok_height_of_jet (T : Top K mg) : Df P w K mg base "height_of_jet" s_height_of_jet 4 ["jet", "distance"] m_height_of_jet := by
  refine ⟨defM_ar, ?_⟩
  obtain ⟨f, fd, F, gf⟩ := T.has_height_of_jet
  exact ⟨f, fd, F, gf, fnG_of F sc_height_of_jet defM_ok fun cdv Ar outer s H E A => (pmb_one (pms_ret (pm_call A (ok_ratio_product T) b_ratio_product (by decide) (pma_cons (pm_var 1) (pma_cons (pm_call A (ok_ratio_less T) b_ratio_less (by decide) (pma_cons (pm_ix (pm_var 0) pm_int) (pma_cons (pm_call A (ok_ratio_product T) b_ratio_product (by decide) (pma_cons (pm_ix (pm_var 0) pm_int) (pma_cons (pm_var 1) pma_nil))) pma_nil))) pma_nil)))))⟩
/-! between_jets -/
abbrev s_between_jets : Stmt := topS 26
abbrev N_between_jets : List Str := ["one", "two", "number", "here", "there"]
theorem sc_between_jets : FnScope N_between_jets ["one", "two", "number"] (defScope s_between_jets) := ⟨rfl, rfl, rfl, by decide +kernel, rfl, by decide +kernel, by decide +kernel⟩
theorem b_between_jets : BindP "between_jets" s_between_jets ["one", "two", "number"] := fun _ _ _ _ _ _ us hl => match us, hl with | [_, _, _], _ => rfl
theorem ok_between_jets (T : Top K mg) : Df P w K mg base "between_jets" s_between_jets 4 ["one", "two", "number"] m_between_jets := by
  refine ⟨defM_ar, ?_⟩
  obtain ⟨f, fd, F, gf⟩ := T.has_between_jets
  exact ⟨f, fd, F, gf, fnG_of F sc_between_jets defM_ok fun cdv Ar outer s H E A => (pmb_one (pms_ret (pm_ty c_tuple T.z_tuple (by decide +kernel) (pma_cons (pm_lc [("here", 3), ("there", 4)] rfl sc_between_jets.nd (blkOk_by (own := [("here", 3), ("there", 4)]) (N := N_between_jets) (sc := defScope s_between_jets) (by decide +kernel)) (pmi_zip T.z_zip (pma_cons (pm_var 0) (pma_cons (pm_var 1) pma_nil))) (fun _ _ _ _ _ => (pmf_tup rfl (pmfs_cons (pmf_name 3 sc_between_jets.nd) (pmfs_cons (pmf_name 4 sc_between_jets.nd) pmfs_nil)))) (fun _ _ _ _ _ => pbs_nil) (fun _ _ _ _ _ => (pm_call A.blk (ok_ratio_sum T) b_ratio_sum (by decide) (pma_cons (pm_var 3) (pma_cons (pm_call A.blk (ok_ratio_product T) b_ratio_product (by decide) (pma_cons (pm_var 2) (pma_cons (pm_call A.blk (ok_ratio_less T) b_ratio_less (by decide) (pma_cons (pm_var 4) (pma_cons (pm_var 3) pma_nil))) pma_nil))) pma_nil))))) pma_nil))))⟩
/-! check_fraction -/
abbrev s_check_fraction : Stmt := topS 33
abbrev N_check_fraction : List Str := ["value"]
theorem sc_check_fraction : FnScope N_check_fraction ["value"] (defScope s_check_fraction) := ⟨rfl, rfl, rfl, by decide +kernel, rfl, by decide +kernel, by decide +kernel⟩
theorem b_check_fraction : BindP "check_fraction" s_check_fraction ["value"] := fun _ _ _ _ _ _ us hl => match us, hl with | [_], _ => rfl
theorem ok_check_fraction (T : Top K mg) : Df P w K mg base "check_fraction" s_check_fraction 4 ["value"] m_check_fraction := by
  refine ⟨defM_ar, ?_⟩
  obtain ⟨f, fd, F, gf⟩ := T.has_check_fraction
  exact ⟨f, fd, F, gf, fnG_of F sc_check_fraction defM_ok fun cdv Ar outer s H E A => (pmb_one (pms_if (pb_not (pb_tru (pm_call A (ok_is_ratio T) b_is_ratio (by decide) (pma_cons (pm_var 0) pma_nil)))) (pmb_one pms_never) pmb_nil))⟩
/-! check_jet -/
abbrev s_check_jet : Stmt := topS 34
abbrev N_check_jet : List Str := ["value"]
theorem sc_check_jet : FnScope N_check_jet ["value"] (defScope s_check_jet) := ⟨rfl, rfl, rfl, by decide +kernel, rfl, by decide +kernel, by decide +kernel⟩
theorem b_check_jet : BindP "check_jet" s_check_jet ["value"] := fun _ _ _ _ _ _ us hl => match us, hl with | [_], _ => rfl
theorem ok_check_jet (T : Top K mg) : Df P w K mg base "check_jet" s_check_jet 5 ["value"] m_check_jet := by
  refine ⟨defM_ar, ?_⟩
  obtain ⟨f, fd, F, gf⟩ := T.has_check_jet
  exact ⟨f, fd, F, gf, fnG_of F sc_check_jet defM_ok fun cdv Ar outer s H E A => (pmb_one (pms_if (pb_not (pb_tru (pm_call A (ok_is_stream_pair T) b_is_stream_pair (by decide) (pma_cons (pm_var 0) pma_nil)))) (pmb_one pms_never) pmb_nil))⟩
/-! is_below -/
abbrev s_is_below : Stmt := topS 37
abbrev N_is_below : List Str := ["jet", "place"]
theorem sc_is_below : FnScope N_is_below ["jet", "place"] (defScope s_is_below) := ⟨rfl, rfl, rfl, by decide +kernel, rfl, by decide +kernel, by decide +kernel⟩
theorem b_is_below : BindP "is_below" s_is_below ["jet", "place"] := fun _ _ _ _ _ _ us hl => match us, hl with | [_, _], _ => rfl
theorem ok_is_below (T : Top K mg) : Df P w K mg base "is_below" s_is_below 5 ["jet", "place"] m_is_below := by
  refine ⟨defM_ar, ?_⟩
  obtain ⟨f, fd, F, gf⟩ := T.has_is_below
  exact ⟨f, fd, F, gf, fnG_of F sc_is_below defM_ok fun cdv Ar outer s H E A => (pmb_one (pms_ret (pm_call A (ok_is_lower T) b_is_lower (by decide) (pma_cons (pm_call A (ok_height_of_jet T) b_height_of_jet (by decide) (pma_cons (pm_var 0) (pma_cons (pm_call A (ok_far_of T) b_far_of (by decide) (pma_cons (pm_var 1) pma_nil)) pma_nil))) (pma_cons (pm_call A (ok_tall_of T) b_tall_of (by decide) (pma_cons (pm_var 1) pma_nil)) pma_nil)))))⟩
/-! first_below -/
abbrev s_first_below : Stmt := topS 38
abbrev N_first_below : List Str := ["jet", "ground", "index", "place"]
theorem sc_first_below : FnScope N_first_below ["jet", "ground"] (defScope s_first_below) := ⟨rfl, rfl, rfl, by decide +kernel, rfl, by decide +kernel, by decide +kernel⟩
theorem b_first_below : BindP "first_below" s_first_below ["jet", "ground"] := fun _ _ _ _ _ _ us hl => match us, hl with | [_, _], _ => rfl
theorem ok_first_below (T : Top K mg) : Df P w K mg base "first_below" s_first_below 6 ["jet", "ground"] m_first_below := by
  refine ⟨defM_ar, ?_⟩
  obtain ⟨f, fd, F, gf⟩ := T.has_first_below
  exact ⟨f, fd, F, gf, fnG_of F sc_first_below defM_ok fun cdv Ar outer s H E A => (pmb_cons (pms_for (passes_of rfl) rfl (pmi_enum T.z_enumerate (pma_cons (pm_var 1) pma_nil)) (pmg_tup rfl (pmgs_cons (pmg_name 2 sc_first_below.nd) (pmgs_cons (pmg_name 3 sc_first_below.nd) pmgs_nil))) (pmb_one (pms_if (pb_tru (pm_call A (ok_is_below T) b_is_below (by decide) (pma_cons (pm_var 0) (pma_cons (pm_var 3) pma_nil)))) (pmb_one (pms_ret (pm_var 2))) pmb_nil)))
    (pmb_one (pms_ret (pm_bi c_len T.z_len (by decide +kernel) (pma_cons (pm_var 1) pma_nil)))))⟩
/-! word_for -/
abbrev s_word_for : Stmt := topS 39
abbrev N_word_for : List Str := ["index", "ground"]
theorem sc_word_for : FnScope N_word_for ["index", "ground"] (defScope s_word_for) := ⟨rfl, rfl, rfl, by decide +kernel, rfl, by decide +kernel, by decide +kernel⟩
theorem b_word_for : BindP "word_for" s_word_for ["index", "ground"] := fun _ _ _ _ _ _ us hl => match us, hl with | [_, _], _ => rfl
theorem ok_word_for (T : Top K mg) : Df P w K mg base "word_for" s_word_for 1 ["index", "ground"] m_word_for := by
  refine ⟨defM_ar, ?_⟩
  obtain ⟨f, fd, F, gf⟩ := T.has_word_for
  exact ⟨f, fd, F, gf, fnG_of F sc_word_for defM_ok fun cdv Ar outer s H E A => (pmb_one (pms_ret (pm_if (pb_cmp (o_eq A.u) (pm_var 0) pm_int (nomark _)) pm_str (pm_if (pb_cmp (o_eq A.u) (pm_var 0) (pm_bi c_len T.z_len (by decide +kernel) (pma_cons (pm_var 1) pma_nil)) (nomark _)) pm_str pm_str))))⟩
/-! swept_heights -/
abbrev s_swept_heights : Stmt := topS 40
abbrev N_swept_heights : List Str := ["jet", "other", "place", "far", "tall", "each"]
theorem sc_swept_heights : FnScope N_swept_heights ["jet", "other", "place"] (defScope s_swept_heights) := ⟨rfl, rfl, rfl, by decide +kernel, rfl, by decide +kernel, by decide +kernel⟩
theorem b_swept_heights : BindP "swept_heights" s_swept_heights ["jet", "other", "place"] := fun _ _ _ _ _ _ us hl => match us, hl with | [_, _, _], _ => rfl
theorem ok_swept_heights (T : Top K mg) : Df P w K mg base "swept_heights" s_swept_heights 5 ["jet", "other", "place"] m_swept_heights := by
  refine ⟨defM_ar, ?_⟩
  obtain ⟨f, fd, F, gf⟩ := T.has_swept_heights
  exact ⟨f, fd, F, gf, fnG_of F sc_swept_heights defM_ok fun cdv Ar outer s H E A => (pmb_cons (pms_asg (pm_tup (pma_cons (pm_call A (ok_far_of T) b_far_of (by decide) (pma_cons (pm_var 2) pma_nil)) (pma_cons (pm_call A (ok_tall_of T) b_tall_of (by decide) (pma_cons (pm_var 2) pma_nil)) pma_nil))) (pmg_tup rfl (pmgs_cons (pmg_name 3 sc_swept_heights.nd) (pmgs_cons (pmg_name 4 sc_swept_heights.nd) pmgs_nil))))
    (pmb_one (pms_ret (pm_lc [("each", 5)] rfl sc_swept_heights.nd (blkOk_by (own := [("each", 5)]) (N := N_swept_heights) (sc := defScope s_swept_heights) (by decide +kernel)) (pmi_seq (pm_tup (pma_cons (pm_var 0) (pma_cons (pm_var 1) pma_nil)))) (fun _ _ _ _ _ => (pmf_name 5 sc_swept_heights.nd)) (fun _ _ _ _ _ => pbs_nil) (fun _ _ _ _ _ => (pm_call A.blk (ok_ratio_less T) b_ratio_less (by decide) (pma_cons (pm_call A.blk (ok_height_of_jet T) b_height_of_jet (by decide) (pma_cons (pm_var 5) (pma_cons (pm_var 3) pma_nil))) (pma_cons (pm_var 4) pma_nil))))))))⟩
/-! shares_over -/
abbrev s_shares_over : Stmt := topS 41
abbrev N_shares_over : List Str := ["heights", "low", "high", "first", "last", "at"]
theorem sc_shares_over : FnScope N_shares_over ["heights", "low", "high"] (defScope s_shares_over) := ⟨rfl, rfl, rfl, by decide +kernel, rfl, by decide +kernel, by decide +kernel⟩
theorem b_shares_over : BindP "shares_over" s_shares_over ["heights", "low", "high"] := fun _ _ _ _ _ _ us hl => match us, hl with | [_, _, _], _ => rfl
theorem ok_shares_over (T : Top K mg) : Df P w K mg base "shares_over" s_shares_over 4 ["heights", "low", "high"] m_shares_over := by
  refine ⟨defM_ar, ?_⟩
  obtain ⟨f, fd, F, gf⟩ := T.has_shares_over
  exact ⟨f, fd, F, gf, fnG_of F sc_shares_over defM_ok fun cdv Ar outer s H E A => (pmb_cons (pms_asg (pm_var 0) (pmg_tup rfl (pmgs_cons (pmg_name 3 sc_shares_over.nd) (pmgs_cons (pmg_name 4 sc_shares_over.nd) pmgs_nil))))
    (pmb_cons (pms_if (PW.pt (pbw_and (pb_cmp o_ge (pm_ix (pm_var 3) pm_int) pm_int (nomark _)) (pw1_and (pb_cmp o_ge (pm_ix (pm_var 4) pm_int) pm_int (nomark _))))) (pmb_one (pms_ret (pm_tup (pma_cons (pm_var 1) (pma_cons (pm_var 2) pma_nil))))) pmb_nil)
    (pmb_cons (pms_if (PW.pt (pbw_and (pb_cmp o_lt (pm_ix (pm_var 3) pm_int) pm_int (nomark _)) (pw1_and (pb_cmp o_lt (pm_ix (pm_var 4) pm_int) pm_int (nomark _))))) (pmb_one (pms_ret pm_non)) pmb_nil)
    (pmb_cons (pms_set 5 sc_shares_over.nd (pm_call A (ok_ratio_over T) b_ratio_over (by decide) (pma_cons (pm_var 3) (pma_cons (pm_call A (ok_ratio_less T) b_ratio_less (by decide) (pma_cons (pm_var 3) (pma_cons (pm_var 4) pma_nil))) pma_nil))))
    (pmb_cons (pms_if (pb_cmp o_lt (pm_ix (pm_var 3) pm_int) pm_int (nomark _)) (pmb_one (pms_set 1 sc_shares_over.nd (pm_if (pb_tru (pm_call A (ok_is_lower T) b_is_lower (by decide) (pma_cons (pm_var 1) (pma_cons (pm_var 5) pma_nil)))) (pm_var 5) (pm_var 1)))) (pmb_one (pms_set 2 sc_shares_over.nd (pm_if (pb_tru (pm_call A (ok_is_lower T) b_is_lower (by decide) (pma_cons (pm_var 5) (pma_cons (pm_var 2) pma_nil)))) (pm_var 5) (pm_var 2)))))
    (pmb_one (pms_ret (pm_if (pb_tru (pm_call A (ok_is_lower T) b_is_lower (by decide) (pma_cons (pm_var 2) (pma_cons (pm_var 1) pma_nil)))) pm_non (pm_tup (pma_cons (pm_var 1) (pma_cons (pm_var 2) pma_nil)))))))))))⟩
/-! is_below_within -/
abbrev s_is_below_within : Stmt := topS 42
abbrev N_is_below_within : List Str := ["heights", "low", "high", "first", "last", "gap", "share"]
theorem sc_is_below_within : FnScope N_is_below_within ["heights", "low", "high"] (defScope s_is_below_within) := ⟨rfl, rfl, rfl, by decide +kernel, rfl, by decide +kernel, by decide +kernel⟩
theorem b_is_below_within : BindP "is_below_within" s_is_below_within ["heights", "low", "high"] := fun _ _ _ _ _ _ us hl => match us, hl with | [_, _, _], _ => rfl
theorem ok_is_below_within (T : Top K mg) : Df P w K mg base "is_below_within" s_is_below_within 4 ["heights", "low", "high"] m_is_below_within := by
  refine ⟨defM_ar, ?_⟩
  obtain ⟨f, fd, F, gf⟩ := T.has_is_below_within
  exact ⟨f, fd, F, gf, fnG_of F sc_is_below_within defM_ok fun cdv Ar outer s H E A => (pmb_cons (pms_asg (pm_var 0) (pmg_tup rfl (pmgs_cons (pmg_name 3 sc_is_below_within.nd) (pmgs_cons (pmg_name 4 sc_is_below_within.nd) pmgs_nil))))
    (pmb_cons (pms_set 5 sc_is_below_within.nd (pm_call A (ok_ratio_less T) b_ratio_less (by decide) (pma_cons (pm_var 4) (pma_cons (pm_var 3) pma_nil))))
    (pmb_one (pms_ret (pm_bi (c_any rfl) T.z_any (by decide +kernel) (pma_cons (pm_lc [("share", 6)] rfl sc_is_below_within.nd (blkOk_by (own := [("share", 6)]) (N := N_is_below_within) (sc := defScope s_is_below_within) (by decide +kernel)) (pmi_seq (pm_tup (pma_cons (pm_var 1) (pma_cons (pm_var 2) pma_nil)))) (fun _ _ _ _ _ => (pmf_name 6 sc_is_below_within.nd)) (fun _ _ _ _ _ => pbs_nil) (fun _ _ _ _ _ => (pm_call A.blk (ok_is_lower T) b_is_lower (by decide) (pma_cons (pm_var 3) (pma_cons (pm_call A.blk (ok_ratio_back T) b_ratio_back (by decide) (pma_cons (pm_call A.blk (ok_ratio_product T) b_ratio_product (by decide) (pma_cons (pm_var 5) (pma_cons (pm_var 6) pma_nil))) pma_nil)) pma_nil))))) pma_nil))))))⟩
/-! swept_falls -/
abbrev s_swept_falls : Stmt := topS 43
abbrev N_swept_falls : List Str := ["jet", "other", "ground", "found", "shares", "index", "place", "heights"]
theorem sc_swept_falls : FnScope N_swept_falls ["jet", "other", "ground"] (defScope s_swept_falls) := ⟨rfl, rfl, rfl, by decide +kernel, rfl, by decide +kernel, by decide +kernel⟩
theorem b_swept_falls : BindP "swept_falls" s_swept_falls ["jet", "other", "ground"] := fun _ _ _ _ _ _ us hl => match us, hl with | [_, _, _], _ => rfl
theorem ok_swept_falls (T : Top K mg) : Df P w K mg base "swept_falls" s_swept_falls 6 ["jet", "other", "ground"] m_swept_falls := by
  refine ⟨defM_ar, ?_⟩
  obtain ⟨f, fd, F, gf⟩ := T.has_swept_falls
  exact ⟨f, fd, F, gf, fnG_of F sc_swept_falls defM_ok fun cdv Ar outer s H E A => (pmb_cons (pms_par rfl sc_swept_falls.nd (pma_cons (pm_loc pma_nil) (pma_cons (pm_tup (pma_cons (pm_glob T.c_ZERO rfl) (pma_cons (pm_tup (pma_cons pm_int (pma_cons pm_int pma_nil))) pma_nil))) pma_nil)))
    (pmb_cons (pms_for (passes_of rfl) rfl (pmi_enum T.z_enumerate (pma_cons (pm_var 2) pma_nil)) (pmg_tup rfl (pmgs_cons (pmg_name 5 sc_swept_falls.nd) (pmgs_cons (pmg_name 6 sc_swept_falls.nd) pmgs_nil))) (pmb_cons (pms_set 7 sc_swept_falls.nd (pm_call A (ok_swept_heights T) b_swept_heights (by decide) (pma_cons (pm_var 0) (pma_cons (pm_var 1) (pma_cons (pm_var 6) pma_nil)))))
    (pmb_cons (pms_if (pb_tru (pm_call A (ok_is_below_within T) b_is_below_within (by decide) (pma_cons (pm_var 7) (pma_cons (pm_ix (pm_var 4) pm_int) (pma_cons (pm_ix (pm_var 4) pm_int) pma_nil))))) (pmb_one (pms_expr (pm_append (pm_var 3) (pm_var 5)))) pmb_nil)
    (pmb_cons (pms_set 4 sc_swept_falls.nd (pm_call A (ok_shares_over T) b_shares_over (by decide) (pma_cons (pm_var 7) (pma_cons (pm_ix (pm_var 4) pm_int) (pma_cons (pm_ix (pm_var 4) pm_int) pma_nil)))))
    (pmb_one (pms_if (pb_cmp o_isN (pm_var 4) pm_non (nomark _)) (pmb_one (pms_ret (pm_var 3))) pmb_nil))))))
    (pmb_one (pms_ret (pm_op o_add (pm_var 3) (pm_lst (pma_cons (pm_bi c_len T.z_len (by decide +kernel) (pma_cons (pm_var 2) pma_nil)) pma_nil)))))))⟩
/-! check_ground -/
abbrev s_check_ground : Stmt := topS 47
abbrev N_check_ground : List Str := ["value", "index", "place"]
theorem sc_check_ground : FnScope N_check_ground ["value"] (defScope s_check_ground) := ⟨rfl, rfl, rfl, by decide +kernel, rfl, by decide +kernel, by decide +kernel⟩
theorem b_check_ground : BindP "check_ground" s_check_ground ["value"] := fun _ _ _ _ _ _ us hl => match us, hl with | [_], _ => rfl
theorem ok_check_ground (T : Top K mg) : Df P w K mg base "check_ground" s_check_ground 5 ["value"] m_check_ground := by
  refine ⟨defM_ar, ?_⟩
  obtain ⟨f, fd, F, gf⟩ := T.has_check_ground
  exact ⟨f, fd, F, gf, fnG_of F sc_check_ground defM_ok fun cdv Ar outer s H E A => (pmb_cons (pms_if (PW.pt (pbw_or (pb_not (pb_tru (pm_isi kit_tuple T.z_isinstance T.z_tuple (by decide +kernel) (pm_var 0)))) (pw1_or (pb_cmp o_lt (pm_bi c_len T.z_len (by decide +kernel) (pma_cons (pm_var 0) pma_nil)) (pm_glob T.c_LEAST_CORNERS rfl) (nomark _))))) (pmb_one pms_never) pmb_nil)
    (pmb_one (pms_for (passes_of rfl) rfl (pmi_enum T.z_enumerate (pma_cons (pm_var 0) pma_nil)) (pmg_tup rfl (pmgs_cons (pmg_name 1 sc_check_ground.nd) (pmgs_cons (pmg_name 2 sc_check_ground.nd) pmgs_nil))) (pmb_one (pms_if (PW.pt (pbw_or (pb_cmp (o_eq A.u) (pm_var 1) (pm_glob T.c_MOST_CORNERS rfl) (nomark _)) (pbw_or (pb_not (pb_tru (pm_call A (ok_is_ahead T) b_is_ahead (by decide) (pma_cons (pm_var 2) pma_nil)))) (pw1_or (PW.pt (pbw_and (pb_cmp o_gt (pm_var 1) pm_int (nomark _)) (pw1_and (pb_not (pb_tru (pm_call A (ok_is_nearer T) b_is_nearer (by decide) (pma_cons (pm_ix (pm_var 0) (pm_op o_sub (pm_var 1) pm_int)) (pma_cons (pm_var 2) pma_nil)))))))))))) (pmb_one pms_never) pmb_nil)))))⟩
/-! check_strike -/
abbrev s_check_strike : Stmt := topS 48
abbrev N_check_strike : List Str := ["jet", "ground"]
theorem sc_check_strike : FnScope N_check_strike ["jet", "ground"] (defScope s_check_strike) := ⟨rfl, rfl, rfl, by decide +kernel, rfl, by decide +kernel, by decide +kernel⟩
theorem b_check_strike : BindP "check_strike" s_check_strike ["jet", "ground"] := fun _ _ _ _ _ _ us hl => match us, hl with | [_, _], _ => rfl
theorem ok_check_strike (T : Top K mg) : Df P w K mg base "check_strike" s_check_strike 6 ["jet", "ground"] m_check_strike := by
  refine ⟨defM_ar, ?_⟩
  obtain ⟨f, fd, F, gf⟩ := T.has_check_strike
  exact ⟨f, fd, F, gf, fnG_of F sc_check_strike defM_ok fun cdv Ar outer s H E A => (pmb_cons (pms_expr (pm_call A (ok_check_jet T) b_check_jet (by decide) (pma_cons (pm_var 0) pma_nil)))
    (pmb_one (pms_expr (pm_call A (ok_check_ground T) b_check_ground (by decide) (pma_cons (pm_var 1) pma_nil)))))⟩
/-! ground_word -/
abbrev s_ground_word : Stmt := topS 49
abbrev N_ground_word : List Str := ["jet", "ground"]
theorem sc_ground_word : FnScope N_ground_word ["jet", "ground"] (defScope s_ground_word) := ⟨rfl, rfl, rfl, by decide +kernel, rfl, by decide +kernel, by decide +kernel⟩
theorem b_ground_word : BindP "ground_word" s_ground_word ["jet", "ground"] := fun _ _ _ _ _ _ us hl => match us, hl with | [_, _], _ => rfl
theorem ok_ground_word (T : Top K mg) : Df P w K mg base "ground_word" s_ground_word 7 ["jet", "ground"] m_ground_word := by
  refine ⟨defM_ar, ?_⟩
  obtain ⟨f, fd, F, gf⟩ := T.has_ground_word
  exact ⟨f, fd, F, gf, fnG_of F sc_ground_word defM_ok fun cdv Ar outer s H E A => (pmb_cons (pms_expr (pm_call A (ok_check_strike T) b_check_strike (by decide) (pma_cons (pm_var 0) (pma_cons (pm_var 1) pma_nil))))
    (pmb_one (pms_ret (pm_call A (ok_word_for T) b_word_for (by decide) (pma_cons (pm_call A (ok_first_below T) b_first_below (by decide) (pma_cons (pm_var 0) (pma_cons (pm_var 1) pma_nil))) (pma_cons (pm_var 1) pma_nil))))))⟩
/-! strike_edge -/
abbrev s_strike_edge : Stmt := topS 50
abbrev N_strike_edge : List Str := ["jet", "ground", "index"]
theorem sc_strike_edge : FnScope N_strike_edge ["jet", "ground"] (defScope s_strike_edge) := ⟨rfl, rfl, rfl, by decide +kernel, rfl, by decide +kernel, by decide +kernel⟩
theorem b_strike_edge : BindP "strike_edge" s_strike_edge ["jet", "ground"] := fun _ _ _ _ _ _ us hl => match us, hl with | [_, _], _ => rfl
theorem ok_strike_edge (T : Top K mg) : Df P w K mg base "strike_edge" s_strike_edge 7 ["jet", "ground"] m_strike_edge := by
  refine ⟨defM_ar, ?_⟩
  obtain ⟨f, fd, F, gf⟩ := T.has_strike_edge
  exact ⟨f, fd, F, gf, fnG_of F sc_strike_edge defM_ok fun cdv Ar outer s H E A => (pmb_cons (pms_expr (pm_call A (ok_check_strike T) b_check_strike (by decide) (pma_cons (pm_var 0) (pma_cons (pm_var 1) pma_nil))))
    (pmb_cons (pms_set 2 sc_strike_edge.nd (pm_call A (ok_first_below T) b_first_below (by decide) (pma_cons (pm_var 0) (pma_cons (pm_var 1) pma_nil))))
    (pmb_one (pms_ret (pm_if (pb_cmp (o_eq A.u) (pm_call A (ok_word_for T) b_word_for (by decide) (pma_cons (pm_var 2) (pma_cons (pm_var 1) pma_nil))) pm_str (nomark _)) (pm_op o_sub (pm_var 2) pm_int) pm_non)))))⟩
/-! check_turn -/
abbrev s_check_turn : Stmt := topS 52
abbrev N_check_turn : List Str := ["jet", "other"]
theorem sc_check_turn : FnScope N_check_turn ["jet", "other"] (defScope s_check_turn) := ⟨rfl, rfl, rfl, by decide +kernel, rfl, by decide +kernel, by decide +kernel⟩
theorem b_check_turn : BindP "check_turn" s_check_turn ["jet", "other"] := fun _ _ _ _ _ _ us hl => match us, hl with | [_, _], _ => rfl
theorem ok_check_turn (T : Top K mg) : Df P w K mg base "check_turn" s_check_turn 6 ["jet", "other"] m_check_turn := by
  refine ⟨defM_ar, ?_⟩
  obtain ⟨f, fd, F, gf⟩ := T.has_check_turn
  exact ⟨f, fd, F, gf, fnG_of F sc_check_turn defM_ok fun cdv Ar outer s H E A => (pmb_cons (pms_expr (pm_call A (ok_check_jet T) b_check_jet (by decide) (pma_cons (pm_var 0) pma_nil)))
    (pmb_one (pms_expr (pm_call A (ok_check_jet T) b_check_jet (by decide) (pma_cons (pm_var 1) pma_nil)))))⟩
/-! jet_between -/
abbrev s_jet_between : Stmt := topS 53
abbrev N_jet_between : List Str := ["jet", "other", "fraction"]
theorem sc_jet_between : FnScope N_jet_between ["jet", "other", "fraction"] (defScope s_jet_between) := ⟨rfl, rfl, rfl, by decide +kernel, rfl, by decide +kernel, by decide +kernel⟩
theorem b_jet_between : BindP "jet_between" s_jet_between ["jet", "other", "fraction"] := fun _ _ _ _ _ _ us hl => match us, hl with | [_, _, _], _ => rfl
theorem ok_jet_between (T : Top K mg) : Df P w K mg base "jet_between" s_jet_between 7 ["jet", "other", "fraction"] m_jet_between := by
  refine ⟨defM_ar, ?_⟩
  obtain ⟨f, fd, F, gf⟩ := T.has_jet_between
  exact ⟨f, fd, F, gf, fnG_of F sc_jet_between defM_ok fun cdv Ar outer s H E A => (pmb_cons (pms_expr (pm_call A (ok_check_turn T) b_check_turn (by decide) (pma_cons (pm_var 0) (pma_cons (pm_var 1) pma_nil))))
    (pmb_cons (pms_expr (pm_call A (ok_check_fraction T) b_check_fraction (by decide) (pma_cons (pm_var 2) pma_nil)))
    (pmb_cons (pms_if (PW.pt (pbw_or (pb_tru (pm_call A (ok_is_lower T) b_is_lower (by decide) (pma_cons (pm_var 2) (pma_cons (pm_glob T.c_ZERO rfl) pma_nil)))) (pw1_or (pb_tru (pm_call A (ok_is_lower T) b_is_lower (by decide) (pma_cons (pm_glob T.c_ONE rfl) (pma_cons (pm_var 2) pma_nil))))))) (pmb_one pms_never) pmb_nil)
    (pmb_one (pms_ret (pm_call A (ok_between_jets T) b_between_jets (by decide) (pma_cons (pm_var 0) (pma_cons (pm_var 1) (pma_cons (pm_var 2) pma_nil)))))))))⟩
/-! swept_words -/
abbrev s_swept_words : Stmt := topS 54
abbrev N_swept_words : List Str := ["jet", "other", "ground", "words", "index", "word"]
theorem sc_swept_words : FnScope N_swept_words ["jet", "other", "ground"] (defScope s_swept_words) := ⟨rfl, rfl, rfl, by decide +kernel, rfl, by decide +kernel, by decide +kernel⟩
theorem b_swept_words : BindP "swept_words" s_swept_words ["jet", "other", "ground"] := fun _ _ _ _ _ _ us hl => match us, hl with | [_, _, _], _ => rfl
theorem kb_swept_words_1 : BindK "swept_words" s_swept_words ["jet", "other", "ground"] 0 ["jet", "other", "ground"] (kput [0, 1, 2]) := fun _ _ _ _ _ _ us ws h1 h2 => match us, ws, h1, h2 with | [], [_, _, _], _, _ => rfl
theorem ok_swept_words (T : Top K mg) : Df P w K mg base "swept_words" s_swept_words 7 ["jet", "other", "ground"] m_swept_words := by
  refine ⟨defM_ar, ?_⟩
  obtain ⟨f, fd, F, gf⟩ := T.has_swept_words
  exact ⟨f, fd, F, gf, fnG_of F sc_swept_words defM_ok fun cdv Ar outer s H E A => (pmb_cons (pms_expr (pm_call A (ok_check_turn T) b_check_turn (by decide) (pma_cons (pm_var 0) (pma_cons (pm_var 1) pma_nil))))
    (pmb_cons (pms_expr (pm_call A (ok_check_ground T) b_check_ground (by decide) (pma_cons (pm_var 2) pma_nil)))
    (pmb_cons (pms_set 3 sc_swept_words.nd (pm_lc [("index", 4)] rfl sc_swept_words.nd (blkOk_by (own := [("index", 4)]) (N := N_swept_words) (sc := defScope s_swept_words) (by decide +kernel)) (pmi_seq (pm_call A (ok_swept_falls T) b_swept_falls (by decide) (pma_cons (pm_var 0) (pma_cons (pm_var 1) (pma_cons (pm_var 2) pma_nil))))) (fun _ _ _ _ _ => (pmf_name 4 sc_swept_words.nd)) (fun _ _ _ _ _ => pbs_nil) (fun _ _ _ _ _ => (pm_call A.blk (ok_word_for T) b_word_for (by decide) (pma_cons (pm_var 4) (pma_cons (pm_var 2) pma_nil))))) (hs := sw_cell rfl))
    (pmb_one (pms_ret (pm_ty c_tuple T.z_tuple (by decide +kernel) (pma_cons (pm_lc [("word", 5)] rfl sc_swept_words.nd (blkOk_by (own := [("word", 5)]) (N := N_swept_words) (sc := defScope s_swept_words) (by decide +kernel)) (pmi_seq (pm_glob T.c_WORDS rfl)) (fun _ _ _ _ _ => (pmf_name 5 sc_swept_words.nd)) (fun _ _ _ _ _ => (pbs_one (pb_cmp (o_in A.blk.u65) (pm_var 5) (pm_var 3) (by rfl)))) (fun _ _ _ _ _ => (pm_var 5))) pma_nil)))))))⟩
/-! swept_edges -/
abbrev s_swept_edges : Stmt := topS 55
abbrev N_swept_edges : List Str := ["jet", "other", "ground", "falls", "index"]
theorem sc_swept_edges : FnScope N_swept_edges ["jet", "other", "ground"] (defScope s_swept_edges) := ⟨rfl, rfl, rfl, by decide +kernel, rfl, by decide +kernel, by decide +kernel⟩
theorem b_swept_edges : BindP "swept_edges" s_swept_edges ["jet", "other", "ground"] := fun _ _ _ _ _ _ us hl => match us, hl with | [_, _, _], _ => rfl
theorem kb_swept_edges_0 : BindK "swept_edges" s_swept_edges ["jet", "other", "ground"] 0 ["jet", "other", "ground"] (kput [0, 1, 2]) := fun _ _ _ _ _ _ us ws h1 h2 => match us, ws, h1, h2 with | [], [_, _, _], _, _ => rfl
theorem ok_swept_edges (T : Top K mg) : Df P w K mg base "swept_edges" s_swept_edges 7 ["jet", "other", "ground"] m_swept_edges := by
  refine ⟨defM_ar, ?_⟩
  obtain ⟨f, fd, F, gf⟩ := T.has_swept_edges
  exact ⟨f, fd, F, gf, fnG_of F sc_swept_edges defM_ok fun cdv Ar outer s H E A => (pmb_cons (pms_expr (pm_call A (ok_check_turn T) b_check_turn (by decide) (pma_cons (pm_var 0) (pma_cons (pm_var 1) pma_nil))))
    (pmb_cons (pms_expr (pm_call A (ok_check_ground T) b_check_ground (by decide) (pma_cons (pm_var 2) pma_nil)))
    (pmb_cons (pms_set 3 sc_swept_edges.nd (pm_call A (ok_swept_falls T) b_swept_falls (by decide) (pma_cons (pm_var 0) (pma_cons (pm_var 1) (pma_cons (pm_var 2) pma_nil)))))
    (pmb_one (pms_ret (pm_ty c_tuple T.z_tuple (by decide +kernel) (pma_cons (pm_lc [("index", 4)] rfl sc_swept_edges.nd (blkOk_by (own := [("index", 4)]) (N := N_swept_edges) (sc := defScope s_swept_edges) (by decide +kernel)) (pmi_seq (pm_var 3)) (fun _ _ _ _ _ => (pmf_name 4 sc_swept_edges.nd)) (fun _ _ _ _ _ => (pbs_one (pb_cmp (o_eq A.blk.u) (pm_call A.blk (ok_word_for T) b_word_for (by decide) (pma_cons (pm_var 4) (pma_cons (pm_var 2) pma_nil))) pm_str (nomark _)))) (fun _ _ _ _ _ => (pm_op o_sub (pm_var 4) pm_int))) pma_nil)))))))⟩
/-! _law_well -/
abbrev s__law_well : Stmt := topS 57
abbrev N__law_well : List Str := ["_law_script", "_law_turn", "_law_stirred", "_law_cell", "_law_own", "_law_great"]
theorem sc__law_well : FnScope N__law_well ["_law_script", "_law_turn"] (defScope s__law_well) := ⟨rfl, rfl, rfl, by decide +kernel, rfl, by decide +kernel, by decide +kernel⟩
theorem b__law_well : BindP "_law_well" s__law_well ["_law_script", "_law_turn"] := fun _ _ _ _ _ _ us hl => match us, hl with | [_, _], _ => rfl
theorem ok__law_well (T : Top K mg) : Df P w K mg base "_law_well" s__law_well 1 ["_law_script", "_law_turn"] m__law_well := by
  refine ⟨defK_ar, ?_⟩
  obtain ⟨f, fd, F, gf⟩ := T.has__law_well
  exact ⟨f, fd, F, gf, fnG_of F sc__law_well defK_ok fun cdv Ar outer s H E A => (pmb_cons (pms_set 2 sc__law_well.nd (pm_op o_add pm_int (pm_op o_mul pm_int (pm_var 1))))
    (pmb_cons (pms_for (passes_of rfl) rfl (pmi_seq (pm_sl (pm_var 0) pmo_none (pmo_some pm_int))) (pmg_name 3 sc__law_well.nd) (pmb_one (pms_set 2 sc__law_well.nd (pm_op o_mod (pm_ty c_int T.z_int (by decide +kernel) (pma_cons (pm_op o_add (pm_op o_add (pm_op o_mul (pm_var 2) pm_int) (pm_op o_mod (pm_ty c_int T.z_int (by decide +kernel) (pma_cons (pm_var 3) pma_nil)) pm_int)) pm_int) pma_nil)) pm_int))))
    (pmb_cons (pms_set 4 sc__law_well.nd (pm_if (pb_cmp o_lt (pm_var 1) (pm_bi c_len T.z_len (by decide +kernel) (pma_cons (pm_var 0) pma_nil)) (nomark _)) (pm_ty c_int T.z_int (by decide +kernel) (pma_cons (pm_ix (pm_var 0) (pm_var 1)) pma_nil)) pm_int))
    (pmb_cons (pms_set 5 sc__law_well.nd (pm_if (pb_cmp o_ge (pm_bi c_abs T.z_abs (by decide +kernel) (pma_cons (pm_var 4) pma_nil)) (pm_op o_pow pm_int pm_int) (nomark _)) (pm_bi c_abs T.z_abs (by decide +kernel) (pma_cons (pm_var 4) pma_nil)) pm_int))
    (pmb_one (pms_ret (pm_loc (pma_cons (pm_var 5) (pma_cons (pm_op o_mod (pm_ty c_int T.z_int (by decide +kernel) (pma_cons (pm_op o_add (pm_var 2) (pm_op o_mul pm_int (pm_op o_mod (pm_ty c_int T.z_int (by decide +kernel) (pma_cons (pm_var 4) pma_nil)) pm_int))) pma_nil)) pm_int) (pma_cons pm_int pma_nil))))))))))⟩
/-! _law_draw -/
abbrev s__law_draw : Stmt := topS 58
abbrev N__law_draw : List Str := ["_law_well_here", "_law_many", "_law_mixed", "_law_digit"]
theorem sc__law_draw : FnScope N__law_draw ["_law_well_here", "_law_many"] (defScope s__law_draw) := ⟨rfl, rfl, rfl, by decide +kernel, rfl, by decide +kernel, by decide +kernel⟩
theorem b__law_draw : BindP "_law_draw" s__law_draw ["_law_well_here", "_law_many"] := fun _ _ _ _ _ _ us hl => match us, hl with | [_, _], _ => rfl
theorem ok__law_draw (T : Top K mg) : Df P w K mg base "_law_draw" s__law_draw 1 ["_law_well_here", "_law_many"] m__law_draw := by
  refine ⟨defM_ar, ?_⟩
  obtain ⟨f, fd, F, gf⟩ := T.has__law_draw
  exact ⟨f, fd, F, gf, fnG_of F sc__law_draw defM_ok fun cdv Ar outer s H E A => (pmb_cons (pms_if (pb_cmp o_gt (pm_ix (pm_var 0) pm_int) pm_int (nomark _)) (pmb_cons (pms_asg (pm_bi c_divmod T.z_divmod (by decide +kernel) (pma_cons (pm_ix (pm_var 0) pm_int) (pma_cons (pm_var 1) pma_nil))) (pmg_tup rfl (pmgs_cons (pmg_sub (pm_var 0) pm_int) (pmgs_cons (pmg_name 3 sc__law_draw.nd) pmgs_nil))))
    (pmb_one (pms_ret (pm_var 3)))) pmb_nil)
    (pmb_cons (pms_asg (pm_op o_add (pm_ix (pm_var 0) pm_int) pm_int) (pmg_sub (pm_var 0) pm_int))
    (pmb_cons (pms_set 2 sc__law_draw.nd (pm_op o_mod (pm_ty c_int T.z_int (by decide +kernel) (pma_cons (pm_op o_add (pm_op o_add (pm_op o_mul (pm_ix (pm_var 0) pm_int) pm_int) (pm_op o_mul pm_int (pm_ix (pm_var 0) pm_int))) pm_int) pma_nil)) pm_int))
    (pmb_cons (pms_asg (pm_op o_mod (pm_ty c_int T.z_int (by decide +kernel) (pma_cons (pm_op o_add (pm_op o_mul (pm_var 2) (pm_op o_add (pm_op o_mod (pm_ty c_int T.z_int (by decide +kernel) (pma_cons (pm_var 2) pma_nil)) pm_int) pm_int)) (pm_op o_mul pm_int (pm_ix (pm_var 0) pm_int))) pma_nil)) pm_int) (pmg_sub (pm_var 0) pm_int))
    (pmb_one (pms_ret (pm_op o_mod (pm_ty c_int T.z_int (by decide +kernel) (pma_cons (pm_op o_fdiv (pm_ix (pm_var 0) pm_int) pm_int) pma_nil)) (pm_var 1))))))))⟩
/-! _law_rounds -/
abbrev s__law_rounds : Stmt := topS 59
abbrev N__law_rounds : List Str := ["_law_script", "_law_least", "_law_most"]
theorem sc__law_rounds : FnScope N__law_rounds ["_law_script", "_law_least", "_law_most"] (defScope s__law_rounds) := ⟨rfl, rfl, rfl, by decide +kernel, rfl, by decide +kernel, by decide +kernel⟩
theorem b__law_rounds : BindP "_law_rounds" s__law_rounds ["_law_script", "_law_least", "_law_most"] := fun _ _ _ _ _ _ us hl => match us, hl with | [_, _, _], _ => rfl
theorem ok__law_rounds (T : Top K mg) : Df P w K mg base "_law_rounds" s__law_rounds 1 ["_law_script", "_law_least", "_law_most"] m__law_rounds := by
  refine ⟨defM_ar, ?_⟩
  obtain ⟨f, fd, F, gf⟩ := T.has__law_rounds
  exact ⟨f, fd, F, gf, fnG_of F sc__law_rounds defM_ok fun cdv Ar outer s H E A => (pmb_one (pms_ret (pm_bi (c_max2 rfl) T.z_max (by decide +kernel) (pma_cons (pm_var 1) (pma_cons (pm_bi (c_min2 rfl) T.z_min (by decide +kernel) (pma_cons (pm_bi c_len T.z_len (by decide +kernel) (pma_cons (pm_var 0) pma_nil)) (pma_cons (pm_var 2) pma_nil))) pma_nil)))))⟩
/-! _law_pick -/
abbrev s__law_pick : Stmt := topS 60
abbrev N__law_pick : List Str := ["_law_well_here", "_law_some"]
theorem sc__law_pick : FnScope N__law_pick ["_law_well_here", "_law_some"] (defScope s__law_pick) := ⟨rfl, rfl, rfl, by decide +kernel, rfl, by decide +kernel, by decide +kernel⟩
theorem b__law_pick : BindP "_law_pick" s__law_pick ["_law_well_here", "_law_some"] := fun _ _ _ _ _ _ us hl => match us, hl with | [_, _], _ => rfl
theorem ok__law_pick (T : Top K mg) : Df P w K mg base "_law_pick" s__law_pick 2 ["_law_well_here", "_law_some"] m__law_pick := by
  refine ⟨defM_ar, ?_⟩
  obtain ⟨f, fd, F, gf⟩ := T.has__law_pick
  exact ⟨f, fd, F, gf, fnG_of F sc__law_pick defM_ok fun cdv Ar outer s H E A => (pmb_one (pms_ret (pm_ix (pm_var 1) (pm_call A (ok__law_draw T) b__law_draw (by decide) (pma_cons (pm_var 0) (pma_cons (pm_bi c_len T.z_len (by decide +kernel) (pma_cons (pm_var 1) pma_nil)) pma_nil))))))⟩
/-! _law_common -/
abbrev s__law_common : Stmt := topS 61
abbrev N__law_common : List Str := ["_law_numbers", "_law_found", "_law_number", "_law_one", "_law_two", "_law_step"]
theorem sc__law_common : FnScope N__law_common ["_law_numbers"] (defScope s__law_common) := ⟨rfl, rfl, rfl, by decide +kernel, rfl, by decide +kernel, by decide +kernel⟩
theorem b__law_common : BindP "_law_common" s__law_common ["_law_numbers"] := fun _ _ _ _ _ _ us hl => match us, hl with | [_], _ => rfl
theorem ok__law_common (T : Top K mg) : Df P w K mg base "_law_common" s__law_common 1 ["_law_numbers"] m__law_common := by
  refine ⟨defM_ar, ?_⟩
  obtain ⟨f, fd, F, gf⟩ := T.has__law_common
  exact ⟨f, fd, F, gf, fnG_of F sc__law_common defM_ok fun cdv Ar outer s H E A => (pmb_cons (pms_set 1 sc__law_common.nd pm_int)
    (pmb_cons (pms_for (passes_of rfl) rfl (pmi_seq (pm_var 0)) (pmg_name 2 sc__law_common.nd) (pmb_cons (pms_par rfl sc__law_common.nd (pma_cons (pm_var 1) (pma_cons (pm_bi c_abs T.z_abs (by decide +kernel) (pma_cons (pm_var 2) pma_nil)) pma_nil)))
    (pmb_cons (pms_for (passes_of rfl) rfl (pmi_rng1 T.z_range (pma_cons (pm_op o_add (pm_op o_mul pm_int (pm_bits (pm_bi c_abs T.z_abs (by decide +kernel) (pma_cons (pm_var 2) pma_nil)))) pm_int) pma_nil)) (pmg_name 5 sc__law_common.nd) (pmb_cons (pms_if (pb_cmp (o_eq A.u) (pm_var 4) pm_int (nomark _)) (pmb_one pms_brk) pmb_nil)
    (pmb_one (pms_par rfl sc__law_common.nd (pma_cons (pm_var 4) (pma_cons (pm_op o_mod (pm_ty c_int T.z_int (by decide +kernel) (pma_cons (pm_var 3) pma_nil)) (pm_var 4)) pma_nil))))))
    (pmb_one (pms_set 1 sc__law_common.nd (pm_var 3))))))
    (pmb_one (pms_ret (pm_var 1)))))⟩
/-! _law_lean -/
abbrev s__law_lean : Stmt := topS 62
abbrev N__law_lean : List Str := ["_law_numbers", "_law_by", "_law_number"]
theorem sc__law_lean : FnScope N__law_lean ["_law_numbers"] (defScope s__law_lean) := ⟨rfl, rfl, rfl, by decide +kernel, rfl, by decide +kernel, by decide +kernel⟩
theorem b__law_lean : BindP "_law_lean" s__law_lean ["_law_numbers"] := fun _ _ _ _ _ _ us hl => match us, hl with | [_], _ => rfl
theorem ok__law_lean (T : Top K mg) : Df P w K mg base "_law_lean" s__law_lean 2 ["_law_numbers"] m__law_lean := by
  refine ⟨defM_ar, ?_⟩
  obtain ⟨f, fd, F, gf⟩ := T.has__law_lean
  exact ⟨f, fd, F, gf, fnG_of F sc__law_lean defM_ok fun cdv Ar outer s H E A => (pmb_cons (pms_set 1 sc__law_lean.nd (pm_bi (c_max2 rfl) T.z_max (by decide +kernel) (pma_cons pm_int (pma_cons (pm_call A (ok__law_common T) b__law_common (by decide) (pma_cons (pm_var 0) pma_nil)) pma_nil))))
    (pmb_one (pms_ret (pm_ty c_tuple T.z_tuple (by decide +kernel) (pma_cons (pm_lc [("_law_number", 2)] rfl sc__law_lean.nd (blkOk_by (own := [("_law_number", 2)]) (N := N__law_lean) (sc := defScope s__law_lean) (by decide +kernel)) (pmi_seq (pm_var 0)) (fun _ _ _ _ _ => (pmf_name 2 sc__law_lean.nd)) (fun _ _ _ _ _ => pbs_nil) (fun _ _ _ _ _ => (pm_op o_fdiv (pm_var 2) (pm_var 1)))) pma_nil)))))⟩
/-! _law_ratio -/
abbrev s__law_ratio : Stmt := topS 63
abbrev N__law_ratio : List Str := ["_law_n", "_law_m"]
theorem sc__law_ratio : FnScope N__law_ratio ["_law_n", "_law_m"] (defScope s__law_ratio) := ⟨rfl, rfl, rfl, by decide +kernel, rfl, by decide +kernel, by decide +kernel⟩
theorem b__law_ratio : BindP "_law_ratio" s__law_ratio ["_law_n", "_law_m"] := fun _ _ _ _ _ _ us hl => match us, hl with | [_, _], _ => rfl
theorem ok__law_ratio (T : Top K mg) : Df P w K mg base "_law_ratio" s__law_ratio 3 ["_law_n", "_law_m"] m__law_ratio := by
  refine ⟨defM_ar, ?_⟩
  obtain ⟨f, fd, F, gf⟩ := T.has__law_ratio
  exact ⟨f, fd, F, gf, fnG_of F sc__law_ratio defM_ok fun cdv Ar outer s H E A => (pmb_one (pms_ret (pm_if (pb_cmp o_gt (pm_var 1) pm_int (nomark _)) (pm_call A (ok__law_lean T) b__law_lean (by decide) (pma_cons (pm_tup (pma_cons (pm_var 0) (pma_cons (pm_var 1) pma_nil))) pma_nil)) (pm_call A (ok__law_lean T) b__law_lean (by decide) (pma_cons (pm_tup (pma_cons (pm_op o_sub pm_int (pm_var 0)) (pma_cons (pm_op o_sub pm_int (pm_var 1)) pma_nil))) pma_nil)))))⟩
/-! _law_plus -/
abbrev s__law_plus : Stmt := topS 64
abbrev N__law_plus : List Str := ["_law_one", "_law_two"]
theorem sc__law_plus : FnScope N__law_plus ["_law_one", "_law_two"] (defScope s__law_plus) := ⟨rfl, rfl, rfl, by decide +kernel, rfl, by decide +kernel, by decide +kernel⟩
theorem b__law_plus : BindP "_law_plus" s__law_plus ["_law_one", "_law_two"] := fun _ _ _ _ _ _ us hl => match us, hl with | [_, _], _ => rfl
theorem ok__law_plus (T : Top K mg) : Df P w K mg base "_law_plus" s__law_plus 4 ["_law_one", "_law_two"] m__law_plus := by
  refine ⟨defM_ar, ?_⟩
  obtain ⟨f, fd, F, gf⟩ := T.has__law_plus
  exact ⟨f, fd, F, gf, fnG_of F sc__law_plus defM_ok fun cdv Ar outer s H E A => (pmb_one (pms_ret (pm_call A (ok__law_ratio T) b__law_ratio (by decide) (pma_cons (pm_op o_add (pm_op o_mul (pm_ix (pm_var 0) pm_int) (pm_ix (pm_var 1) pm_int)) (pm_op o_mul (pm_ix (pm_var 1) pm_int) (pm_ix (pm_var 0) pm_int))) (pma_cons (pm_op o_mul (pm_ix (pm_var 0) pm_int) (pm_ix (pm_var 1) pm_int)) pma_nil)))))⟩
/-! _law_less -/
abbrev s__law_less : Stmt := topS 65
abbrev N__law_less : List Str := ["_law_one", "_law_two"]
theorem sc__law_less : FnScope N__law_less ["_law_one", "_law_two"] (defScope s__law_less) := ⟨rfl, rfl, rfl, by decide +kernel, rfl, by decide +kernel, by decide +kernel⟩
theorem b__law_less : BindP "_law_less" s__law_less ["_law_one", "_law_two"] := fun _ _ _ _ _ _ us hl => match us, hl with | [_, _], _ => rfl
theorem ok__law_less (T : Top K mg) : Df P w K mg base "_law_less" s__law_less 4 ["_law_one", "_law_two"] m__law_less := by
  refine ⟨defM_ar, ?_⟩
  obtain ⟨f, fd, F, gf⟩ := T.has__law_less
  exact ⟨f, fd, F, gf, fnG_of F sc__law_less defM_ok fun cdv Ar outer s H E A => (pmb_one (pms_ret (pm_call A (ok__law_ratio T) b__law_ratio (by decide) (pma_cons (pm_op o_sub (pm_op o_mul (pm_ix (pm_var 0) pm_int) (pm_ix (pm_var 1) pm_int)) (pm_op o_mul (pm_ix (pm_var 1) pm_int) (pm_ix (pm_var 0) pm_int))) (pma_cons (pm_op o_mul (pm_ix (pm_var 0) pm_int) (pm_ix (pm_var 1) pm_int)) pma_nil)))))⟩
/-! _law_times -/
abbrev s__law_times : Stmt := topS 66
abbrev N__law_times : List Str := ["_law_one", "_law_two"]
theorem sc__law_times : FnScope N__law_times ["_law_one", "_law_two"] (defScope s__law_times) := ⟨rfl, rfl, rfl, by decide +kernel, rfl, by decide +kernel, by decide +kernel⟩
theorem b__law_times : BindP "_law_times" s__law_times ["_law_one", "_law_two"] := fun _ _ _ _ _ _ us hl => match us, hl with | [_, _], _ => rfl
theorem ok__law_times (T : Top K mg) : Df P w K mg base "_law_times" s__law_times 4 ["_law_one", "_law_two"] m__law_times := by
  refine ⟨defM_ar, ?_⟩
  obtain ⟨f, fd, F, gf⟩ := T.has__law_times
  exact ⟨f, fd, F, gf, fnG_of F sc__law_times defM_ok fun cdv Ar outer s H E A => (pmb_one (pms_ret (pm_call A (ok__law_ratio T) b__law_ratio (by decide) (pma_cons (pm_op o_mul (pm_ix (pm_var 0) pm_int) (pm_ix (pm_var 1) pm_int)) (pma_cons (pm_op o_mul (pm_ix (pm_var 0) pm_int) (pm_ix (pm_var 1) pm_int)) pma_nil)))))⟩
/-! _law_over -/
abbrev s__law_over : Stmt := topS 67
abbrev N__law_over : List Str := ["_law_one", "_law_two"]
theorem sc__law_over : FnScope N__law_over ["_law_one", "_law_two"] (defScope s__law_over) := ⟨rfl, rfl, rfl, by decide +kernel, rfl, by decide +kernel, by decide +kernel⟩
theorem b__law_over : BindP "_law_over" s__law_over ["_law_one", "_law_two"] := fun _ _ _ _ _ _ us hl => match us, hl with | [_, _], _ => rfl
theorem ok__law_over (T : Top K mg) : Df P w K mg base "_law_over" s__law_over 4 ["_law_one", "_law_two"] m__law_over := by
  refine ⟨defM_ar, ?_⟩
  obtain ⟨f, fd, F, gf⟩ := T.has__law_over
  exact ⟨f, fd, F, gf, fnG_of F sc__law_over defM_ok fun cdv Ar outer s H E A => (pmb_one (pms_ret (pm_call A (ok__law_ratio T) b__law_ratio (by decide) (pma_cons (pm_op o_mul (pm_ix (pm_var 0) pm_int) (pm_ix (pm_var 1) pm_int)) (pma_cons (pm_op o_mul (pm_ix (pm_var 0) pm_int) (pm_ix (pm_var 1) pm_int)) pma_nil)))))⟩
/-! _law_sign -/
abbrev s__law_sign : Stmt := topS 69
abbrev N__law_sign : List Str := ["_law_number"]
theorem sc__law_sign : FnScope N__law_sign ["_law_number"] (defScope s__law_sign) := ⟨rfl, rfl, rfl, by decide +kernel, rfl, by decide +kernel, by decide +kernel⟩
theorem b__law_sign : BindP "_law_sign" s__law_sign ["_law_number"] := fun _ _ _ _ _ _ us hl => match us, hl with | [_], _ => rfl
theorem ok__law_sign (T : Top K mg) : Df P w K mg base "_law_sign" s__law_sign 1 ["_law_number"] m__law_sign := by
  refine ⟨defM_ar, ?_⟩
  obtain ⟨f, fd, F, gf⟩ := T.has__law_sign
  exact ⟨f, fd, F, gf, fnG_of F sc__law_sign defM_ok fun cdv Ar outer s H E A => (pmb_one (pms_ret (pm_op o_sub (pm_ty c_int T.z_int (by decide +kernel) (pma_cons (pm_cmp o_gt (pm_var 0) pm_int (nomark _)) pma_nil)) (pm_ty c_int T.z_int (by decide +kernel) (pma_cons (pm_cmp o_lt (pm_var 0) pm_int (nomark _)) pma_nil)))))⟩
/-! _law_order -/
abbrev s__law_order : Stmt := topS 68
abbrev N__law_order : List Str := ["_law_one", "_law_two"]
theorem sc__law_order : FnScope N__law_order ["_law_one", "_law_two"] (defScope s__law_order) := ⟨rfl, rfl, rfl, by decide +kernel, rfl, by decide +kernel, by decide +kernel⟩
theorem b__law_order : BindP "_law_order" s__law_order ["_law_one", "_law_two"] := fun _ _ _ _ _ _ us hl => match us, hl with | [_, _], _ => rfl
theorem ok__law_order (T : Top K mg) : Df P w K mg base "_law_order" s__law_order 2 ["_law_one", "_law_two"] m__law_order := by
  refine ⟨defM_ar, ?_⟩
  obtain ⟨f, fd, F, gf⟩ := T.has__law_order
  exact ⟨f, fd, F, gf, fnG_of F sc__law_order defM_ok fun cdv Ar outer s H E A => (pmb_one (pms_ret (pm_call A (ok__law_sign T) b__law_sign (by decide) (pma_cons (pm_op o_sub (pm_op o_mul (pm_ix (pm_var 0) pm_int) (pm_ix (pm_var 1) pm_int)) (pm_op o_mul (pm_ix (pm_var 1) pm_int) (pm_ix (pm_var 0) pm_int))) pma_nil))))⟩
/-! _law_place -/
abbrev s__law_place : Stmt := topS 70
abbrev N__law_place : List Str := ["_law_distance", "_law_height"]
theorem sc__law_place : FnScope N__law_place ["_law_distance", "_law_height"] (defScope s__law_place) := ⟨rfl, rfl, rfl, by decide +kernel, rfl, by decide +kernel, by decide +kernel⟩
theorem b__law_place : BindP "_law_place" s__law_place ["_law_distance", "_law_height"] := fun _ _ _ _ _ _ us hl => match us, hl with | [_, _], _ => rfl
theorem ok__law_place (T : Top K mg) : Df P w K mg base "_law_place" s__law_place 3 ["_law_distance", "_law_height"] m__law_place := by
  refine ⟨defM_ar, ?_⟩
  obtain ⟨f, fd, F, gf⟩ := T.has__law_place
  exact ⟨f, fd, F, gf, fnG_of F sc__law_place defM_ok fun cdv Ar outer s H E A => (pmb_one (pms_ret (pm_call A (ok__law_lean T) b__law_lean (by decide) (pma_cons (pm_tup (pma_cons (pm_op o_mul (pm_ix (pm_var 0) pm_int) (pm_ix (pm_var 1) pm_int)) (pma_cons (pm_op o_mul (pm_ix (pm_var 1) pm_int) (pm_ix (pm_var 0) pm_int)) (pma_cons (pm_op o_mul (pm_ix (pm_var 0) pm_int) (pm_ix (pm_var 1) pm_int)) pma_nil)))) pma_nil))))⟩
/-! _law_apart -/
abbrev s__law_apart : Stmt := topS 71
abbrev N__law_apart : List Str := ["_law_place_here"]
theorem sc__law_apart : FnScope N__law_apart ["_law_place_here"] (defScope s__law_apart) := ⟨rfl, rfl, rfl, by decide +kernel, rfl, by decide +kernel, by decide +kernel⟩
theorem b__law_apart : BindP "_law_apart" s__law_apart ["_law_place_here"] := fun _ _ _ _ _ _ us hl => match us, hl with | [_], _ => rfl
theorem ok__law_apart (T : Top K mg) : Df P w K mg base "_law_apart" s__law_apart 4 ["_law_place_here"] m__law_apart := by
  refine ⟨defM_ar, ?_⟩
  obtain ⟨f, fd, F, gf⟩ := T.has__law_apart
  exact ⟨f, fd, F, gf, fnG_of F sc__law_apart defM_ok fun cdv Ar outer s H E A => (pmb_one (pms_ret (pm_tup (pma_cons (pm_call A (ok__law_ratio T) b__law_ratio (by decide) (pma_cons (pm_ix (pm_var 0) pm_int) (pma_cons (pm_ix (pm_var 0) pm_int) pma_nil))) (pma_cons (pm_call A (ok__law_ratio T) b__law_ratio (by decide) (pma_cons (pm_ix (pm_var 0) pm_int) (pma_cons (pm_ix (pm_var 0) pm_int) pma_nil))) pma_nil)))))⟩
/-! _law_high -/
abbrev s__law_high : Stmt := topS 72
abbrev N__law_high : List Str := ["_law_jet_here", "_law_distance"]
theorem sc__law_high : FnScope N__law_high ["_law_jet_here", "_law_distance"] (defScope s__law_high) := ⟨rfl, rfl, rfl, by decide +kernel, rfl, by decide +kernel, by decide +kernel⟩
theorem b__law_high : BindP "_law_high" s__law_high ["_law_jet_here", "_law_distance"] := fun _ _ _ _ _ _ us hl => match us, hl with | [_, _], _ => rfl
theorem ok__law_high (T : Top K mg) : Df P w K mg base "_law_high" s__law_high 5 ["_law_jet_here", "_law_distance"] m__law_high := by
  refine ⟨defM_ar, ?_⟩
  obtain ⟨f, fd, F, gf⟩ := T.has__law_high
  exact ⟨f, fd, F, gf, fnG_of F sc__law_high defM_ok fun cdv Ar outer s H E A => (pmb_one (pms_ret (pm_call A (ok__law_times T) b__law_times (by decide) (pma_cons (pm_var 1) (pma_cons (pm_call A (ok__law_less T) b__law_less (by decide) (pma_cons (pm_ix (pm_var 0) pm_int) (pma_cons (pm_call A (ok__law_times T) b__law_times (by decide) (pma_cons (pm_ix (pm_var 0) pm_int) (pma_cons (pm_var 1) pma_nil))) pma_nil))) pma_nil)))))⟩
/-! _law_size -/
abbrev s__law_size : Stmt := topS 73
abbrev N__law_size : List Str := ["_law_well_here", "_law_way"]
theorem sc__law_size : FnScope N__law_size ["_law_well_here"] (defScope s__law_size) := ⟨rfl, rfl, rfl, by decide +kernel, rfl, by decide +kernel, by decide +kernel⟩
theorem b__law_size : BindP "_law_size" s__law_size ["_law_well_here"] := fun _ _ _ _ _ _ us hl => match us, hl with | [_], _ => rfl
theorem ok__law_size (T : Top K mg) : Df P w K mg base "_law_size" s__law_size 4 ["_law_well_here"] m__law_size := by
  refine ⟨defM_ar, ?_⟩
  obtain ⟨f, fd, F, gf⟩ := T.has__law_size
  exact ⟨f, fd, F, gf, fnG_of F sc__law_size defM_ok fun cdv Ar outer s H E A => (pmb_cons (pms_set 1 sc__law_size.nd (pm_call A (ok__law_draw T) b__law_draw (by decide) (pma_cons (pm_var 0) (pma_cons pm_int pma_nil))))
    (pmb_cons (pms_if (pb_cmp o_lt (pm_var 1) pm_int (nomark _)) (pmb_one (pms_ret (pm_call A (ok__law_pick T) b__law_pick (by decide) (pma_cons (pm_var 0) (pma_cons (pm_tup (pma_cons (pm_tup (pma_cons pm_int (pma_cons pm_int pma_nil))) (pma_cons (pm_tup (pma_cons pm_int (pma_cons pm_int pma_nil))) (pma_cons (pm_tup (pma_cons pm_int (pma_cons pm_int pma_nil))) (pma_cons (pm_tup (pma_cons pm_int (pma_cons pm_int pma_nil))) (pma_cons (pm_tup (pma_cons pm_int (pma_cons pm_int pma_nil))) (pma_cons (pm_tup (pma_cons pm_int (pma_cons pm_int pma_nil))) (pma_cons (pm_tup (pma_cons pm_int (pma_cons pm_int pma_nil))) (pma_cons (pm_tup (pma_cons pm_int (pma_cons pm_int pma_nil))) pma_nil))))))))) pma_nil))))) pmb_nil)
    (pmb_one (pms_ret (pm_call A (ok__law_ratio T) b__law_ratio (by decide) (pma_cons (pm_op o_add pm_int (pm_call A (ok__law_draw T) b__law_draw (by decide) (pma_cons (pm_var 0) (pma_cons pm_int pma_nil)))) (pma_cons (pm_op o_add pm_int (pm_call A (ok__law_draw T) b__law_draw (by decide) (pma_cons (pm_var 0) (pma_cons pm_int pma_nil)))) pma_nil)))))))⟩
/-! _law_part -/
abbrev s__law_part : Stmt := topS 74
abbrev N__law_part : List Str := ["_law_well_here", "_law_size_here"]
theorem sc__law_part : FnScope N__law_part ["_law_well_here"] (defScope s__law_part) := ⟨rfl, rfl, rfl, by decide +kernel, rfl, by decide +kernel, by decide +kernel⟩
theorem b__law_part : BindP "_law_part" s__law_part ["_law_well_here"] := fun _ _ _ _ _ _ us hl => match us, hl with | [_], _ => rfl
theorem ok__law_part (T : Top K mg) : Df P w K mg base "_law_part" s__law_part 5 ["_law_well_here"] m__law_part := by
  refine ⟨defM_ar, ?_⟩
  obtain ⟨f, fd, F, gf⟩ := T.has__law_part
  exact ⟨f, fd, F, gf, fnG_of F sc__law_part defM_ok fun cdv Ar outer s H E A => (pmb_cons (pms_set 1 sc__law_part.nd (pm_call A (ok__law_pick T) b__law_pick (by decide) (pma_cons (pm_var 0) (pma_cons (pm_tup (pma_cons (pm_tup (pma_cons pm_int (pma_cons pm_int pma_nil))) (pma_cons (pm_tup (pma_cons pm_int (pma_cons pm_int pma_nil))) (pma_cons (pm_tup (pma_cons pm_int (pma_cons pm_int pma_nil))) (pma_cons (pm_tup (pma_cons pm_int (pma_cons pm_int pma_nil))) (pma_cons pm_non (pma_cons pm_non (pma_cons pm_non pma_nil)))))))) pma_nil))))
    (pmb_cons (pms_set 1 sc__law_part.nd (pm_if (pb_cmp o_isN (pm_var 1) pm_non (nomark _)) (pm_call A (ok__law_size T) b__law_size (by decide) (pma_cons (pm_var 0) pma_nil)) (pm_var 1)))
    (pmb_one (pms_ret (pm_if (pb_cmp o_lt (pm_call A (ok__law_draw T) b__law_draw (by decide) (pma_cons (pm_var 0) (pma_cons pm_int pma_nil))) pm_int (nomark _)) (pm_var 1) (pm_tup (pma_cons (pm_op o_sub pm_int (pm_ix (pm_var 1) pm_int)) (pma_cons (pm_ix (pm_var 1) pm_int) pma_nil))))))))⟩
/-! _law_jet -/
abbrev s__law_jet : Stmt := topS 75
abbrev N__law_jet : List Str := ["_law_well_here", "_law_way"]
theorem sc__law_jet : FnScope N__law_jet ["_law_well_here"] (defScope s__law_jet) := ⟨rfl, rfl, rfl, by decide +kernel, rfl, by decide +kernel, by decide +kernel⟩
theorem b__law_jet : BindP "_law_jet" s__law_jet ["_law_well_here"] := fun _ _ _ _ _ _ us hl => match us, hl with | [_], _ => rfl
theorem ok__law_jet (T : Top K mg) : Df P w K mg base "_law_jet" s__law_jet 6 ["_law_well_here"] m__law_jet := by
  refine ⟨defM_ar, ?_⟩
  obtain ⟨f, fd, F, gf⟩ := T.has__law_jet
  exact ⟨f, fd, F, gf, fnG_of F sc__law_jet defM_ok fun cdv Ar outer s H E A => (pmb_cons (pms_set 1 sc__law_jet.nd (pm_call A (ok__law_draw T) b__law_draw (by decide) (pma_cons (pm_var 0) (pma_cons pm_int pma_nil))))
    (pmb_cons (pms_if (pb_cmp o_lt (pm_var 1) pm_int (nomark _)) (pmb_one (pms_ret (pm_call A (ok__law_pick T) b__law_pick (by decide) (pma_cons (pm_var 0) (pma_cons (pm_tup (pma_cons (pm_tup (pma_cons (pm_tup (pma_cons pm_int (pma_cons pm_int pma_nil))) (pma_cons (pm_tup (pma_cons pm_int (pma_cons pm_int pma_nil))) pma_nil))) (pma_cons (pm_tup (pma_cons (pm_tup (pma_cons pm_int (pma_cons pm_int pma_nil))) (pma_cons (pm_tup (pma_cons pm_int (pma_cons pm_int pma_nil))) pma_nil))) (pma_cons (pm_tup (pma_cons (pm_tup (pma_cons pm_int (pma_cons pm_int pma_nil))) (pma_cons (pm_tup (pma_cons pm_int (pma_cons pm_int pma_nil))) pma_nil))) (pma_cons (pm_tup (pma_cons (pm_tup (pma_cons pm_int (pma_cons pm_int pma_nil))) (pma_cons (pm_tup (pma_cons pm_int (pma_cons pm_int pma_nil))) pma_nil))) (pma_cons (pm_tup (pma_cons (pm_tup (pma_cons pm_int (pma_cons pm_int pma_nil))) (pma_cons (pm_tup (pma_cons pm_int (pma_cons pm_int pma_nil))) pma_nil))) pma_nil)))))) pma_nil))))) pmb_nil)
    (pmb_one (pms_ret (pm_tup (pma_cons (pm_call A (ok__law_part T) b__law_part (by decide) (pma_cons (pm_var 0) pma_nil)) (pma_cons (pm_call A (ok__law_size T) b__law_size (by decide) (pma_cons (pm_var 0) pma_nil)) pma_nil)))))))⟩
/-! _law_slack -/
abbrev s__law_slack : Stmt := topS 76
abbrev N__law_slack : List Str := ["_law_well_here"]
theorem sc__law_slack : FnScope N__law_slack ["_law_well_here"] (defScope s__law_slack) := ⟨rfl, rfl, rfl, by decide +kernel, rfl, by decide +kernel, by decide +kernel⟩
theorem b__law_slack : BindP "_law_slack" s__law_slack ["_law_well_here"] := fun _ _ _ _ _ _ us hl => match us, hl with | [_], _ => rfl
theorem ok__law_slack (T : Top K mg) : Df P w K mg base "_law_slack" s__law_slack 3 ["_law_well_here"] m__law_slack := by
  refine ⟨defM_ar, ?_⟩
  obtain ⟨f, fd, F, gf⟩ := T.has__law_slack
  exact ⟨f, fd, F, gf, fnG_of F sc__law_slack defM_ok fun cdv Ar outer s H E A => (pmb_one (pms_ret (pm_call A (ok__law_pick T) b__law_pick (by decide) (pma_cons (pm_var 0) (pma_cons (pm_tup (pma_cons (pm_tup (pma_cons pm_int (pma_cons pm_int pma_nil))) (pma_cons (pm_tup (pma_cons pm_int (pma_cons pm_int pma_nil))) (pma_cons (pm_tup (pma_cons pm_int (pma_cons pm_int pma_nil))) (pma_cons (pm_tup (pma_cons pm_int (pma_cons pm_int pma_nil))) (pma_cons (pm_tup (pma_cons pm_int (pma_cons pm_int pma_nil))) (pma_cons (pm_tup (pma_cons pm_int (pma_cons pm_int pma_nil))) (pma_cons (pm_tup (pma_cons pm_int (pma_cons pm_int pma_nil))) pma_nil)))))))) pma_nil)))))⟩
/-! _law_ground -/
abbrev s__law_ground : Stmt := topS 77
abbrev N__law_ground : List Str := ["_law_well_here", "_law_jet_here", "_law_found", "_law_x", "_law_many", "_law_turn", "_law_high_here", "_law_way", "_law_y"]
theorem sc__law_ground : FnScope N__law_ground ["_law_well_here", "_law_jet_here"] (defScope s__law_ground) := ⟨rfl, rfl, rfl, by decide +kernel, rfl, by decide +kernel, by decide +kernel⟩
theorem b__law_ground : BindP "_law_ground" s__law_ground ["_law_well_here", "_law_jet_here"] := fun _ _ _ _ _ _ us hl => match us, hl with | [_, _], _ => rfl
theorem ok__law_ground (T : Top K mg) : Df P w K mg base "_law_ground" s__law_ground 6 ["_law_well_here", "_law_jet_here"] m__law_ground := by
  refine ⟨defM_ar, ?_⟩
  obtain ⟨f, fd, F, gf⟩ := T.has__law_ground
  exact ⟨f, fd, F, gf, fnG_of F sc__law_ground defM_ok fun cdv Ar outer s H E A => (pmb_cons (pms_par3 rfl sc__law_ground.nd (pma_cons (pm_loc pma_nil) (pma_cons (pm_call A (ok__law_size T) b__law_size (by decide) (pma_cons (pm_var 0) pma_nil)) (pma_cons (pm_op o_add pm_int (pm_call A (ok__law_draw T) b__law_draw (by decide) (pma_cons (pm_var 0) (pma_cons pm_int pma_nil)))) pma_nil))))
    (pmb_cons (pms_for (passes_of rfl) rfl (pmi_rng1 T.z_range (pma_cons (pm_var 4) pma_nil)) (pmg_name 5 sc__law_ground.nd) (pmb_cons (pms_par rfl sc__law_ground.nd (pma_cons (pm_call A (ok__law_high T) b__law_high (by decide) (pma_cons (pm_var 1) (pma_cons (pm_var 3) pma_nil))) (pma_cons (pm_call A (ok__law_draw T) b__law_draw (by decide) (pma_cons (pm_var 0) (pma_cons pm_int pma_nil))) pma_nil)))
    (pmb_cons (pms_set 8 sc__law_ground.nd (pm_if (pb_cmp o_lt (pm_var 7) pm_int (nomark _)) (pm_tup (pma_cons pm_int (pma_cons pm_int pma_nil))) (pm_if (pb_cmp (o_eq A.u) (pm_var 7) pm_int (nomark _)) (pm_call A (ok__law_part T) b__law_part (by decide) (pma_cons (pm_var 0) pma_nil)) (pm_call A (ok__law_less T) b__law_less (by decide) (pma_cons (pm_var 6) (pma_cons (pm_call A (ok__law_slack T) b__law_slack (by decide) (pma_cons (pm_var 0) pma_nil)) pma_nil))))))
    (pmb_cons (pms_expr (pm_append (pm_var 2) (pm_call A (ok__law_place T) b__law_place (by decide) (pma_cons (pm_var 3) (pma_cons (pm_var 8) pma_nil)))))
    (pmb_one (pms_set 3 sc__law_ground.nd (pm_call A (ok__law_plus T) b__law_plus (by decide) (pma_cons (pm_var 3) (pma_cons (pm_call A (ok__law_size T) b__law_size (by decide) (pma_cons (pm_var 0) pma_nil)) pma_nil)))))))))
    (pmb_one (pms_ret (pm_ty c_tuple T.z_tuple (by decide +kernel) (pma_cons (pm_var 2) pma_nil))))))⟩
/-! _law_is_below -/
abbrev s__law_is_below : Stmt := topS 78
abbrev N__law_is_below : List Str := ["_law_jet_here", "_law_place_here", "_law_x", "_law_y"]
theorem sc__law_is_below : FnScope N__law_is_below ["_law_jet_here", "_law_place_here"] (defScope s__law_is_below) := ⟨rfl, rfl, rfl, by decide +kernel, rfl, by decide +kernel, by decide +kernel⟩
theorem b__law_is_below : BindP "_law_is_below" s__law_is_below ["_law_jet_here", "_law_place_here"] := fun _ _ _ _ _ _ us hl => match us, hl with | [_, _], _ => rfl
theorem ok__law_is_below (T : Top K mg) : Df P w K mg base "_law_is_below" s__law_is_below 6 ["_law_jet_here", "_law_place_here"] m__law_is_below := by
  refine ⟨defM_ar, ?_⟩
  obtain ⟨f, fd, F, gf⟩ := T.has__law_is_below
  exact ⟨f, fd, F, gf, fnG_of F sc__law_is_below defM_ok fun cdv Ar outer s H E A => (pmb_cons (pms_asg (pm_call A (ok__law_apart T) b__law_apart (by decide) (pma_cons (pm_var 1) pma_nil)) (pmg_tup rfl (pmgs_cons (pmg_name 2 sc__law_is_below.nd) (pmgs_cons (pmg_name 3 sc__law_is_below.nd) pmgs_nil))))
    (pmb_one (pms_ret (pm_cmp o_lt (pm_call A (ok__law_order T) b__law_order (by decide) (pma_cons (pm_call A (ok__law_high T) b__law_high (by decide) (pma_cons (pm_var 0) (pma_cons (pm_var 2) pma_nil))) (pma_cons (pm_var 3) pma_nil))) pm_int (nomark _)))))⟩
/-! _law_ground_word -/
abbrev s__law_ground_word : Stmt := topS 79
abbrev N__law_ground_word : List Str := ["_law_jet_here", "_law_ground_here", "_law_some", "_law_k"]
theorem sc__law_ground_word : FnScope N__law_ground_word ["_law_jet_here", "_law_ground_here"] (defScope s__law_ground_word) := ⟨rfl, rfl, rfl, by decide +kernel, rfl, by decide +kernel, by decide +kernel⟩
theorem b__law_ground_word : BindP "_law_ground_word" s__law_ground_word ["_law_jet_here", "_law_ground_here"] := fun _ _ _ _ _ _ us hl => match us, hl with | [_, _], _ => rfl
theorem ok__law_ground_word (T : Top K mg) : Df P w K mg base "_law_ground_word" s__law_ground_word 7 ["_law_jet_here", "_law_ground_here"] m__law_ground_word := by
  refine ⟨defM_ar, ?_⟩
  obtain ⟨f, fd, F, gf⟩ := T.has__law_ground_word
  exact ⟨f, fd, F, gf, fnG_of F sc__law_ground_word defM_ok fun cdv Ar outer s H E A => (pmb_cons (pms_setLc 2 [("_law_k", 3)] rfl sc__law_ground_word.nd (blkOk_by (own := [("_law_k", 3)]) (N := N__law_ground_word) (sc := defScope s__law_ground_word) (by decide +kernel)) (sw_true rfl rfl rfl (by decide +kernel)) (pmi_rng1 T.z_range (pma_cons (pm_bi c_len T.z_len (by decide +kernel) (pma_cons (pm_var 1) pma_nil)) pma_nil)) (fun _ _ _ _ _ => (pmf_name 3 sc__law_ground_word.nd)) (fun _ _ _ _ _ => (pbs_one (pb_tru (pm_call A.blk (ok__law_is_below T) b__law_is_below (by decide) (pma_cons (pm_var 0) (pma_cons (pm_ix (pm_var 1) (pm_var 3)) pma_nil)))))) (fun _ _ _ _ _ => (pm_var 3)))
    (pmb_cons (pms_if (pb_cmp (o_eq A.u) (pm_var 2) (pm_lst pma_nil) (nomark _)) (pmb_one (pms_ret (pm_tup (pma_cons pm_str (pma_cons pm_non pma_nil))))) pmb_nil)
    (pmb_one (pms_ret (pm_if (pb_cmp (o_eq A.u) (pm_ix (pm_var 2) pm_int) pm_int (nomark _)) (pm_tup (pma_cons pm_str (pma_cons pm_non pma_nil))) (pm_tup (pma_cons pm_str (pma_cons (pm_op o_sub (pm_ix (pm_var 2) pm_int) pm_int) pma_nil))))))))⟩
/-! _law_swept -/
abbrev s__law_swept : Stmt := topS 80
abbrev N__law_swept : List Str := ["_law_jet_here", "_law_other", "_law_ground_here", "_law_here", "_law_there", "_law_ends", "_law_words", "_law_edges", "_law_k", "_law_some", "_law_cut", "_law_place_here", "_law_r"]
theorem sc__law_swept : FnScope N__law_swept ["_law_jet_here", "_law_other", "_law_ground_here"] (defScope s__law_swept) := ⟨rfl, rfl, rfl, by decide +kernel, rfl, by decide +kernel, by decide +kernel⟩
theorem b__law_swept : BindP "_law_swept" s__law_swept ["_law_jet_here", "_law_other", "_law_ground_here"] := fun _ _ _ _ _ _ us hl => match us, hl with | [_, _, _], _ => rfl
theorem ok__law_swept (T : Top K mg) : Df P w K mg base "_law_swept" s__law_swept 6 ["_law_jet_here", "_law_other", "_law_ground_here"] m__law_swept := by
  refine ⟨defM_ar, ?_⟩
  obtain ⟨f, fd, F, gf⟩ := T.has__law_swept
  exact ⟨f, fd, F, gf, fnG_of F sc__law_swept defM_ok fun cdv Ar outer s H E A => (pmb_cons (pms_set 3 sc__law_swept.nd (pm_lc [("_law_place_here", 11)] rfl sc__law_swept.nd (blkOk_by (own := [("_law_place_here", 11)]) (N := N__law_swept) (sc := defScope s__law_swept) (by decide +kernel)) (pmi_seq (pm_var 2)) (fun _ _ _ _ _ => (pmf_name 11 sc__law_swept.nd)) (fun _ _ _ _ _ => pbs_nil) (fun _ _ _ _ _ => (pm_call A.blk (ok__law_less T) b__law_less (by decide) (pma_cons (pm_call A.blk (ok__law_high T) b__law_high (by decide) (pma_cons (pm_var 0) (pma_cons (pm_ix (pm_call A.blk (ok__law_apart T) b__law_apart (by decide) (pma_cons (pm_var 11) pma_nil)) pm_int) pma_nil))) (pma_cons (pm_ix (pm_call A.blk (ok__law_apart T) b__law_apart (by decide) (pma_cons (pm_var 11) pma_nil)) pm_int) pma_nil))))) (hs := sw_cell rfl))
    (pmb_cons (pms_set 4 sc__law_swept.nd (pm_lc [("_law_place_here", 11)] rfl sc__law_swept.nd (blkOk_by (own := [("_law_place_here", 11)]) (N := N__law_swept) (sc := defScope s__law_swept) (by decide +kernel)) (pmi_seq (pm_var 2)) (fun _ _ _ _ _ => (pmf_name 11 sc__law_swept.nd)) (fun _ _ _ _ _ => pbs_nil) (fun _ _ _ _ _ => (pm_call A.blk (ok__law_less T) b__law_less (by decide) (pma_cons (pm_call A.blk (ok__law_high T) b__law_high (by decide) (pma_cons (pm_var 1) (pma_cons (pm_ix (pm_call A.blk (ok__law_apart T) b__law_apart (by decide) (pma_cons (pm_var 11) pma_nil)) pm_int) pma_nil))) (pma_cons (pm_ix (pm_call A.blk (ok__law_apart T) b__law_apart (by decide) (pma_cons (pm_var 11) pma_nil)) pm_int) pma_nil))))) (hs := sw_cell rfl))
    (pmb_cons (pms_par3 rfl sc__law_swept.nd (pma_cons (pm_tup (pma_cons (pm_tup (pma_cons pm_int (pma_cons pm_int pma_nil))) (pma_cons (pm_tup (pma_cons pm_int (pma_cons pm_int pma_nil))) pma_nil))) (pma_cons (pm_lst pma_nil) (pma_cons (pm_lst pma_nil) pma_nil))))
    (pmb_cons (pms_for (passes_of rfl) rfl (pmi_rng1 T.z_range (pma_cons (pm_bi c_len T.z_len (by decide +kernel) (pma_cons (pm_var 2) pma_nil)) pma_nil)) (pmg_name 8 sc__law_swept.nd) (pmb_cons (pms_setLc 9 [("_law_r", 12)] rfl sc__law_swept.nd (blkOk_by (own := [("_law_r", 12)]) (N := N__law_swept) (sc := defScope s__law_swept) (by decide +kernel)) (sw_true rfl rfl rfl (by decide +kernel)) (pmi_seq (pm_var 5)) (fun _ _ _ _ _ => (pmf_name 12 sc__law_swept.nd)) (fun _ _ _ _ _ => pbs_nil) (fun _ _ _ _ _ => (pm_call A.blk (ok__law_plus T) b__law_plus (by decide) (pma_cons (pm_ix (pm_var 3) (pm_var 8)) (pma_cons (pm_call A.blk (ok__law_times T) b__law_times (by decide) (pma_cons (pm_var 12) (pma_cons (pm_call A.blk (ok__law_less T) b__law_less (by decide) (pma_cons (pm_ix (pm_var 4) (pm_var 8)) (pma_cons (pm_ix (pm_var 3) (pm_var 8)) pma_nil))) pma_nil))) pma_nil)))))
    (pmb_cons (pms_if (PW.pt (pbw_or (pb_cmp o_lt (pm_ix (pm_ix (pm_var 9) pm_int) pm_int) pm_int (nomark _)) (pw1_or (pb_cmp o_lt (pm_ix (pm_ix (pm_var 9) pm_int) pm_int) pm_int (nomark _))))) (pmb_one (pms_asg (pm_if (pb_cmp (o_eq A.u) (pm_var 8) pm_int (nomark _)) (pm_tup (pma_cons (pm_lst (pma_cons pm_str pma_nil)) (pma_cons (pm_lst pma_nil) pma_nil))) (pm_tup (pma_cons (pm_var 6) (pma_cons (pm_op o_add (pm_var 7) (pm_lst (pma_cons (pm_op o_sub (pm_var 8) pm_int) pma_nil))) pma_nil)))) (pmg_tup rfl (pmgs_cons (pmg_name 6 sc__law_swept.nd) (pmgs_cons (pmg_name 7 sc__law_swept.nd) pmgs_nil))))) pmb_nil)
    (pmb_cons (pms_if (PW.pt (pbw_and (pb_cmp o_lt (pm_ix (pm_ix (pm_var 9) pm_int) pm_int) pm_int (nomark _)) (pw1_and (pb_cmp o_lt (pm_ix (pm_ix (pm_var 9) pm_int) pm_int) pm_int (nomark _))))) (pmb_one (pms_ret (pm_tup (pma_cons (pm_var 6) (pma_cons (pm_var 7) (pma_cons pm_bl pma_nil)))))) pmb_nil)
    (pmb_one (pms_if (PW.pt (pbw_or (pb_cmp o_lt (pm_ix (pm_ix (pm_var 9) pm_int) pm_int) pm_int (nomark _)) (pw1_or (pb_cmp o_lt (pm_ix (pm_ix (pm_var 9) pm_int) pm_int) pm_int (nomark _))))) (pmb_cons (pms_set 10 sc__law_swept.nd (pm_call A (ok__law_over T) b__law_over (by decide) (pma_cons (pm_ix (pm_var 3) (pm_var 8)) (pma_cons (pm_call A (ok__law_less T) b__law_less (by decide) (pma_cons (pm_ix (pm_var 3) (pm_var 8)) (pma_cons (pm_ix (pm_var 4) (pm_var 8)) pma_nil))) pma_nil))))
    (pmb_one (pms_set 5 sc__law_swept.nd (pm_if (pb_cmp o_lt (pm_ix (pm_ix (pm_var 9) pm_int) pm_int) pm_int (nomark _)) (pm_tup (pma_cons (pm_var 10) (pma_cons (pm_ix (pm_var 5) pm_int) pma_nil))) (pm_tup (pma_cons (pm_ix (pm_var 5) pm_int) (pma_cons (pm_var 10) pma_nil))))))) pmb_nil))))))
    (pmb_one (pms_ret (pm_tup (pma_cons (pm_var 6) (pma_cons (pm_var 7) (pma_cons pm_bl pma_nil))))))))))⟩
/-! _law_two_jets -/
abbrev s__law_two_jets : Stmt := topS 81
abbrev N__law_two_jets : List Str := ["_law_well_here", "_law_one", "_law_two", "_law_way"]
theorem sc__law_two_jets : FnScope N__law_two_jets ["_law_well_here"] (defScope s__law_two_jets) := ⟨rfl, rfl, rfl, by decide +kernel, rfl, by decide +kernel, by decide +kernel⟩
theorem b__law_two_jets : BindP "_law_two_jets" s__law_two_jets ["_law_well_here"] := fun _ _ _ _ _ _ us hl => match us, hl with | [_], _ => rfl
theorem ok__law_two_jets (T : Top K mg) : Df P w K mg base "_law_two_jets" s__law_two_jets 7 ["_law_well_here"] m__law_two_jets := by
  refine ⟨defM_ar, ?_⟩
  obtain ⟨f, fd, F, gf⟩ := T.has__law_two_jets
  exact ⟨f, fd, F, gf, fnG_of F sc__law_two_jets defM_ok fun cdv Ar outer s H E A => (pmb_cons (pms_par3 rfl sc__law_two_jets.nd (pma_cons (pm_call A (ok__law_jet T) b__law_jet (by decide) (pma_cons (pm_var 0) pma_nil)) (pma_cons (pm_call A (ok__law_jet T) b__law_jet (by decide) (pma_cons (pm_var 0) pma_nil)) (pma_cons (pm_call A (ok__law_draw T) b__law_draw (by decide) (pma_cons (pm_var 0) (pma_cons pm_int pma_nil))) pma_nil))))
    (pmb_cons (pms_if (pb_cmp (o_eq A.u) (pm_var 3) pm_int (nomark _)) (pmb_one (pms_ret (pm_tup (pma_cons (pm_var 1) (pma_cons (pm_tup (pma_cons (pm_ix (pm_var 1) pm_int) (pma_cons (pm_ix (pm_var 2) pm_int) pma_nil))) pma_nil))))) pmb_nil)
    (pmb_cons (pms_if (pb_cmp (o_eq A.u) (pm_var 3) pm_int (nomark _)) (pmb_one (pms_ret (pm_tup (pma_cons (pm_var 1) (pma_cons (pm_tup (pma_cons (pm_ix (pm_var 2) pm_int) (pma_cons (pm_ix (pm_var 1) pm_int) pma_nil))) pma_nil))))) pmb_nil)
    (pmb_one (pms_ret (pm_tup (pma_cons (pm_var 1) (pma_cons (pm_if (pb_cmp (o_eq A.u) (pm_var 3) pm_int (nomark _)) (pm_var 1) (pm_var 2)) pma_nil))))))))⟩
/-! _law_right -/
abbrev s__law_right : Stmt := topS 82
abbrev N__law_right : List Str := ["_law_well_here", "_law_one", "_law_two", "_law_ground_here", "_law_words", "_law_edges", "_law_past", "_law_told", "_law_back", "_law_many", "_law_n", "_law_word", "_law_index", "_law_due", "_law_jet_here", "_law_edge"]
theorem sc__law_right : FnScope N__law_right ["_law_well_here"] (defScope s__law_right) := ⟨rfl, rfl, rfl, by decide +kernel, rfl, by decide +kernel, by decide +kernel⟩
theorem b__law_right : BindP "_law_right" s__law_right ["_law_well_here"] := fun _ _ _ _ _ _ us hl => match us, hl with | [_], _ => rfl
theorem ok__law_right (T : Top K mg) : Df P w K mg base "_law_right" s__law_right 8 ["_law_well_here"] m__law_right := by
  refine ⟨defM_ar, ?_⟩
  obtain ⟨f, fd, F, gf⟩ := T.has__law_right
  exact ⟨f, fd, F, gf, fnG_of F sc__law_right defM_ok fun cdv Ar outer s H E A => (pmb_cons (pms_asg (pm_call A (ok__law_two_jets T) b__law_two_jets (by decide) (pma_cons (pm_var 0) pma_nil)) (pmg_tup rfl (pmgs_cons (pmg_name 1 sc__law_right.nd) (pmgs_cons (pmg_name 2 sc__law_right.nd) pmgs_nil))))
    (pmb_cons (pms_set 3 sc__law_right.nd (pm_call A (ok__law_ground T) b__law_ground (by decide) (pma_cons (pm_var 0) (pma_cons (pm_if (pb_cmp (o_eq A.u) (pm_call A (ok__law_draw T) b__law_draw (by decide) (pma_cons (pm_var 0) (pma_cons pm_int pma_nil))) pm_int (nomark _)) (pm_var 1) (pm_var 2)) pma_nil))))
    (pmb_cons (pms_asg (pm_call A (ok__law_swept T) b__law_swept (by decide) (pma_cons (pm_var 1) (pma_cons (pm_var 2) (pma_cons (pm_var 3) pma_nil)))) (pmg_tup rfl (pmgs_cons (pmg_name 4 sc__law_right.nd) (pmgs_cons (pmg_name 5 sc__law_right.nd) (pmgs_cons (pmg_name 6 sc__law_right.nd) pmgs_nil)))))
    (pmb_cons (pms_set 4 sc__law_right.nd (pm_op o_add (pm_op o_add (pm_var 4) (pm_if (pb_cmp (o_ne A.u) (pm_var 5) (pm_lst pma_nil) (nomark _)) (pm_lst (pma_cons pm_str pma_nil)) (pm_lst pma_nil))) (pm_if (pb_tru (pm_var 6)) (pm_lst (pma_cons pm_str pma_nil)) (pm_lst pma_nil))))
    (pmb_cons (pms_set 7 sc__law_right.nd (pm_lst (pma_cons (pm_call A (ok_swept_words T) b_swept_words (by decide) (pma_cons (pm_var 1) (pma_cons (pm_var 2) (pma_cons (pm_var 3) pma_nil)))) (pma_cons (pm_call A (ok_swept_edges T) b_swept_edges (by decide) (pma_cons (pm_var 1) (pma_cons (pm_var 2) (pma_cons (pm_var 3) pma_nil)))) pma_nil))))
    (pmb_cons (pms_if (pb_cmp (o_ne A.u) (pm_bi (c_repr A.guards A.u66) T.z_repr (by decide +kernel) (pma_cons (pm_var 7) pma_nil)) (pm_bi (c_repr A.guards A.u66) T.z_repr (by decide +kernel) (pma_cons (pm_lst (pma_cons (pm_ty c_tuple T.z_tuple (by decide +kernel) (pma_cons (pm_var 4) pma_nil)) (pma_cons (pm_ty c_tuple T.z_tuple (by decide +kernel) (pma_cons (pm_var 5) pma_nil)) pma_nil))) pma_nil)) (nomark _)) (pmb_one (pms_ret pm_bl)) pmb_nil)
    (pmb_cons (pms_set 8 sc__law_right.nd (pm_lst (pma_cons (pm_callK0 ["jet", "other", "ground"] [0, 1, 2] A (ok_swept_words T) kb_swept_words_1 (by decide) (pmk_cons (pm_var 2) (pmk_cons (pm_var 1) (pmk_cons (pm_var 3) pmk_nil)))) (pma_cons (pm_callK0 ["jet", "other", "ground"] [0, 1, 2] A (ok_swept_edges T) kb_swept_edges_0 (by decide) (pmk_cons (pm_var 2) (pmk_cons (pm_var 1) (pmk_cons (pm_var 3) pmk_nil)))) pma_nil))))
    (pmb_cons (pms_if (pb_cmp (o_ne A.u) (pm_bi (c_repr A.guards A.u66) T.z_repr (by decide +kernel) (pma_cons (pm_var 8) pma_nil)) (pm_bi (c_repr A.guards A.u66) T.z_repr (by decide +kernel) (pma_cons (pm_var 7) pma_nil)) (nomark _)) (pmb_one (pms_ret pm_bl)) pmb_nil)
    (pmb_cons (pms_set 9 sc__law_right.nd (pm_op o_add pm_int (pm_call A (ok__law_draw T) b__law_draw (by decide) (pma_cons (pm_var 0) (pma_cons pm_int pma_nil)))))
    (pmb_cons (pms_for (passes_of rfl) rfl (pmi_rng1 T.z_range (pma_cons (pm_op o_add (pm_var 9) pm_int) pma_nil)) (pmg_name 10 sc__law_right.nd) (pmb_cons (pms_set 14 sc__law_right.nd (pm_call A (ok_jet_between T) b_jet_between (by decide) (pma_cons (pm_var 1) (pma_cons (pm_var 2) (pma_cons (pm_call A (ok__law_ratio T) b__law_ratio (by decide) (pma_cons (pm_var 10) (pma_cons (pm_var 9) pma_nil))) pma_nil)))))
    (pmb_cons (pms_set 15 sc__law_right.nd (pm_call A (ok_strike_edge T) b_strike_edge (by decide) (pma_cons (pm_var 14) (pma_cons (pm_var 3) pma_nil))))
    (pmb_one (pms_if (PW.pt (pbw_or (pb_cmp (o_nin A.u65) (pm_call A (ok_ground_word T) b_ground_word (by decide) (pma_cons (pm_var 14) (pma_cons (pm_var 3) pma_nil))) (pm_var 4) (by rfl)) (pw1_or (PW.pt (pbw_and (pb_cmp o_notN (pm_var 15) pm_non (nomark _)) (pw1_and (pb_cmp (o_nin A.u65) (pm_var 15) (pm_var 5) (by rfl)))))))) (pmb_one (pms_ret pm_bl)) pmb_nil)))))
    (pmb_cons (pms_asg (pm_call A (ok__law_ground_word T) b__law_ground_word (by decide) (pma_cons (pm_var 1) (pma_cons (pm_var 3) pma_nil))) (pmg_tup rfl (pmgs_cons (pmg_name 11 sc__law_right.nd) (pmgs_cons (pmg_name 12 sc__law_right.nd) pmgs_nil))))
    (pmb_cons (pms_set 13 sc__law_right.nd (pm_lst (pma_cons (pm_tup (pma_cons (pm_var 11) pma_nil)) (pma_cons (pm_if (pb_cmp o_isN (pm_var 12) pm_non (nomark _)) (pm_tup pma_nil) (pm_tup (pma_cons (pm_var 12) pma_nil))) pma_nil))))
    (pmb_one (pms_ret (pm_cmp (o_eq A.u) (pm_bi (c_repr A.guards A.u66) T.z_repr (by decide +kernel) (pma_cons (pm_lst (pma_cons (pm_call A (ok_swept_words T) b_swept_words (by decide) (pma_cons (pm_var 1) (pma_cons (pm_var 1) (pma_cons (pm_var 3) pma_nil)))) (pma_cons (pm_call A (ok_swept_edges T) b_swept_edges (by decide) (pma_cons (pm_var 1) (pma_cons (pm_var 1) (pma_cons (pm_var 3) pma_nil)))) pma_nil))) pma_nil)) (pm_bi (c_repr A.guards A.u66) T.z_repr (by decide +kernel) (pma_cons (pm_var 13) pma_nil)) (nomark _))))))))))))))))⟩
/-! law -/
abbrev s_law : Stmt := topS 83
abbrev N_law : List Str := ["_law_script", "_law_turn"]
theorem sc_law : FnScope N_law ["_law_script"] (defScope s_law) := ⟨rfl, rfl, rfl, by decide +kernel, rfl, by decide +kernel, by decide +kernel⟩
theorem b_law : BindP "law" s_law ["_law_script"] := fun _ _ _ _ _ _ us hl => match us, hl with | [_], _ => rfl
theorem ok_law (T : Top K mg) : Df P w K mg base "law" s_law 9 ["_law_script"] m_law := by
  refine ⟨defM_ar, ?_⟩
  obtain ⟨f, fd, F, gf⟩ := T.has_law
  exact ⟨f, fd, F, gf, fnG_of F sc_law defM_ok fun cdv Ar outer s H E A => (pmb_one (pms_ret (pm_bi (c_all rfl) T.z_all (by decide +kernel) (pma_cons (pm_lc [("_law_turn", 1)] rfl sc_law.nd (blkOk_by (own := [("_law_turn", 1)]) (N := N_law) (sc := defScope s_law) (by decide +kernel)) (pmi_rng1 T.z_range (pma_cons (pm_call A (ok__law_rounds T) b__law_rounds (by decide) (pma_cons (pm_var 0) (pma_cons pm_int (pma_cons pm_int pma_nil)))) pma_nil)) (fun _ _ _ _ _ => (pmf_name 1 sc_law.nd)) (fun _ _ _ _ _ => pbs_nil) (fun _ _ _ _ _ => (pm_call A.blk (ok__law_right T) b__law_right (by decide) (pma_cons (pm_call A.blk (ok__law_well T) b__law_well (by decide) (pma_cons (pm_var 0) (pma_cons (pm_var 1) pma_nil))) pma_nil)))) pma_nil))))⟩
end
/-! the head -/
def fnL0 : List He.DefD := [⟨("is_whole", none), "is_whole", "is_whole", defArgs s_is_whole, defBody s_is_whole, defScope s_is_whole, [], []⟩,
  ⟨("are_wholes", none), "are_wholes", "are_wholes", defArgs s_are_wholes, defBody s_are_wholes, defScope s_are_wholes, [], []⟩,
  ⟨("divisor_of", none), "divisor_of", "divisor_of", defArgs s_divisor_of, defBody s_divisor_of, defScope s_divisor_of, [], []⟩,
  ⟨("is_reduced", none), "is_reduced", "is_reduced", defArgs s_is_reduced, defBody s_is_reduced, defScope s_is_reduced, [], []⟩,
  ⟨("is_ratio", none), "is_ratio", "is_ratio", defArgs s_is_ratio, defBody s_is_ratio, defScope s_is_ratio, [], []⟩,
  ⟨("ratio", none), "ratio", "ratio", defArgs s_ratio, defBody s_ratio, defScope s_ratio, [], []⟩,
  ⟨("ratio_sum", none), "ratio_sum", "ratio_sum", defArgs s_ratio_sum, defBody s_ratio_sum, defScope s_ratio_sum, [], []⟩,
  ⟨("ratio_less", none), "ratio_less", "ratio_less", defArgs s_ratio_less, defBody s_ratio_less, defScope s_ratio_less, [], []⟩,
  ⟨("ratio_product", none), "ratio_product", "ratio_product", defArgs s_ratio_product, defBody s_ratio_product, defScope s_ratio_product, [], []⟩,
  ⟨("ratio_over", none), "ratio_over", "ratio_over", defArgs s_ratio_over, defBody s_ratio_over, defScope s_ratio_over, [], []⟩,
  ⟨("ratio_back", none), "ratio_back", "ratio_back", defArgs s_ratio_back, defBody s_ratio_back, defScope s_ratio_back, [], []⟩,
  ⟨("is_lower", none), "is_lower", "is_lower", defArgs s_is_lower, defBody s_is_lower, defScope s_is_lower, [], []⟩,
  ⟨("is_spot", none), "is_spot", "is_spot", defArgs s_is_spot, defBody s_is_spot, defScope s_is_spot, [], []⟩,
  ⟨("is_ahead", none), "is_ahead", "is_ahead", defArgs s_is_ahead, defBody s_is_ahead, defScope s_is_ahead, [], []⟩,
  ⟨("far_of", none), "far_of", "far_of", defArgs s_far_of, defBody s_far_of, defScope s_far_of, [], []⟩,
  ⟨("tall_of", none), "tall_of", "tall_of", defArgs s_tall_of, defBody s_tall_of, defScope s_tall_of, [], []⟩,
  ⟨("is_nearer", none), "is_nearer", "is_nearer", defArgs s_is_nearer, defBody s_is_nearer, defScope s_is_nearer, [], []⟩,
  ⟨("is_stream_pair", none), "is_stream_pair", "is_stream_pair", defArgs s_is_stream_pair, defBody s_is_stream_pair, defScope s_is_stream_pair, [], []⟩,
  ⟨("height_of_jet", none), "height_of_jet", "height_of_jet", defArgs s_height_of_jet, defBody s_height_of_jet, defScope s_height_of_jet, [], []⟩,
  ⟨("between_jets", none), "between_jets", "between_jets", defArgs s_between_jets, defBody s_between_jets, defScope s_between_jets, [], []⟩,
  ⟨("check_fraction", none), "check_fraction", "check_fraction", defArgs s_check_fraction, defBody s_check_fraction, defScope s_check_fraction, [], []⟩,
  ⟨("check_jet", none), "check_jet", "check_jet", defArgs s_check_jet, defBody s_check_jet, defScope s_check_jet, [], []⟩,
  ⟨("is_below", none), "is_below", "is_below", defArgs s_is_below, defBody s_is_below, defScope s_is_below, [], []⟩,
  ⟨("first_below", none), "first_below", "first_below", defArgs s_first_below, defBody s_first_below, defScope s_first_below, [], []⟩]
def faL0 : List He.Fa := [.glo "is_whole", .glo "are_wholes", .glo "divisor_of", .glo "is_reduced", .glo "is_ratio", .glo "ratio", .glo "ratio_sum", .glo "ratio_less", .glo "ratio_product", .glo "ratio_over", .glo "ratio_back", .glo "is_lower", .glo "is_spot", .glo "is_ahead", .glo "far_of", .glo "tall_of", .glo "is_nearer", .glo "is_stream_pair", .glo "height_of_jet", .glo "between_jets", .glo "check_fraction", .glo "check_jet", .glo "is_below", .glo "first_below"]
def fnL1 : List He.DefD := [⟨("word_for", none), "word_for", "word_for", defArgs s_word_for, defBody s_word_for, defScope s_word_for, [], []⟩,
  ⟨("swept_heights", none), "swept_heights", "swept_heights", defArgs s_swept_heights, defBody s_swept_heights, defScope s_swept_heights, [], []⟩,
  ⟨("shares_over", none), "shares_over", "shares_over", defArgs s_shares_over, defBody s_shares_over, defScope s_shares_over, [], []⟩,
  ⟨("is_below_within", none), "is_below_within", "is_below_within", defArgs s_is_below_within, defBody s_is_below_within, defScope s_is_below_within, [], []⟩,
  ⟨("swept_falls", none), "swept_falls", "swept_falls", defArgs s_swept_falls, defBody s_swept_falls, defScope s_swept_falls, [], []⟩,
  ⟨("check_ground", none), "check_ground", "check_ground", defArgs s_check_ground, defBody s_check_ground, defScope s_check_ground, [], []⟩,
  ⟨("check_strike", none), "check_strike", "check_strike", defArgs s_check_strike, defBody s_check_strike, defScope s_check_strike, [], []⟩,
  ⟨("ground_word", none), "ground_word", "ground_word", defArgs s_ground_word, defBody s_ground_word, defScope s_ground_word, [], []⟩,
  ⟨("strike_edge", none), "strike_edge", "strike_edge", defArgs s_strike_edge, defBody s_strike_edge, defScope s_strike_edge, [], []⟩,
  ⟨("check_turn", none), "check_turn", "check_turn", defArgs s_check_turn, defBody s_check_turn, defScope s_check_turn, [], []⟩,
  ⟨("jet_between", none), "jet_between", "jet_between", defArgs s_jet_between, defBody s_jet_between, defScope s_jet_between, [], []⟩,
  ⟨("swept_words", none), "swept_words", "swept_words", defArgs s_swept_words, defBody s_swept_words, defScope s_swept_words, [], []⟩,
  ⟨("swept_edges", none), "swept_edges", "swept_edges", defArgs s_swept_edges, defBody s_swept_edges, defScope s_swept_edges, [], []⟩,
  ⟨("_law_well", none), "_law_well", "_law_well", defArgs s__law_well, defBody s__law_well, defScope s__law_well, [], []⟩,
  ⟨("_law_draw", none), "_law_draw", "_law_draw", defArgs s__law_draw, defBody s__law_draw, defScope s__law_draw, [], []⟩,
  ⟨("_law_rounds", none), "_law_rounds", "_law_rounds", defArgs s__law_rounds, defBody s__law_rounds, defScope s__law_rounds, [], []⟩,
  ⟨("_law_pick", none), "_law_pick", "_law_pick", defArgs s__law_pick, defBody s__law_pick, defScope s__law_pick, [], []⟩,
  ⟨("_law_common", none), "_law_common", "_law_common", defArgs s__law_common, defBody s__law_common, defScope s__law_common, [], []⟩,
  ⟨("_law_lean", none), "_law_lean", "_law_lean", defArgs s__law_lean, defBody s__law_lean, defScope s__law_lean, [], []⟩,
  ⟨("_law_ratio", none), "_law_ratio", "_law_ratio", defArgs s__law_ratio, defBody s__law_ratio, defScope s__law_ratio, [], []⟩,
  ⟨("_law_plus", none), "_law_plus", "_law_plus", defArgs s__law_plus, defBody s__law_plus, defScope s__law_plus, [], []⟩,
  ⟨("_law_less", none), "_law_less", "_law_less", defArgs s__law_less, defBody s__law_less, defScope s__law_less, [], []⟩,
  ⟨("_law_times", none), "_law_times", "_law_times", defArgs s__law_times, defBody s__law_times, defScope s__law_times, [], []⟩,
  ⟨("_law_over", none), "_law_over", "_law_over", defArgs s__law_over, defBody s__law_over, defScope s__law_over, [], []⟩]
def faL1 : List He.Fa := [.glo "word_for", .glo "swept_heights", .glo "shares_over", .glo "is_below_within", .glo "swept_falls", .glo "check_ground", .glo "check_strike", .glo "ground_word", .glo "strike_edge", .glo "check_turn", .glo "jet_between", .glo "swept_words", .glo "swept_edges", .glo "_law_well", .glo "_law_draw", .glo "_law_rounds", .glo "_law_pick", .glo "_law_common", .glo "_law_lean", .glo "_law_ratio", .glo "_law_plus", .glo "_law_less", .glo "_law_times", .glo "_law_over"]
def fnL2 : List He.DefD := [⟨("_law_sign", none), "_law_sign", "_law_sign", defArgs s__law_sign, defBody s__law_sign, defScope s__law_sign, [], []⟩,
  ⟨("_law_order", none), "_law_order", "_law_order", defArgs s__law_order, defBody s__law_order, defScope s__law_order, [], []⟩,
  ⟨("_law_place", none), "_law_place", "_law_place", defArgs s__law_place, defBody s__law_place, defScope s__law_place, [], []⟩,
  ⟨("_law_apart", none), "_law_apart", "_law_apart", defArgs s__law_apart, defBody s__law_apart, defScope s__law_apart, [], []⟩,
  ⟨("_law_high", none), "_law_high", "_law_high", defArgs s__law_high, defBody s__law_high, defScope s__law_high, [], []⟩,
  ⟨("_law_size", none), "_law_size", "_law_size", defArgs s__law_size, defBody s__law_size, defScope s__law_size, [], []⟩,
  ⟨("_law_part", none), "_law_part", "_law_part", defArgs s__law_part, defBody s__law_part, defScope s__law_part, [], []⟩,
  ⟨("_law_jet", none), "_law_jet", "_law_jet", defArgs s__law_jet, defBody s__law_jet, defScope s__law_jet, [], []⟩,
  ⟨("_law_slack", none), "_law_slack", "_law_slack", defArgs s__law_slack, defBody s__law_slack, defScope s__law_slack, [], []⟩,
  ⟨("_law_ground", none), "_law_ground", "_law_ground", defArgs s__law_ground, defBody s__law_ground, defScope s__law_ground, [], []⟩,
  ⟨("_law_is_below", none), "_law_is_below", "_law_is_below", defArgs s__law_is_below, defBody s__law_is_below, defScope s__law_is_below, [], []⟩,
  ⟨("_law_ground_word", none), "_law_ground_word", "_law_ground_word", defArgs s__law_ground_word, defBody s__law_ground_word, defScope s__law_ground_word, [], []⟩,
  ⟨("_law_swept", none), "_law_swept", "_law_swept", defArgs s__law_swept, defBody s__law_swept, defScope s__law_swept, [], []⟩,
  ⟨("_law_two_jets", none), "_law_two_jets", "_law_two_jets", defArgs s__law_two_jets, defBody s__law_two_jets, defScope s__law_two_jets, [], []⟩,
  ⟨("_law_right", none), "_law_right", "_law_right", defArgs s__law_right, defBody s__law_right, defScope s__law_right, [], []⟩,
  ⟨("law", none), "law", "law", defArgs s_law, defBody s_law, defScope s_law, [], []⟩]
def faL2 : List He.Fa := [.glo "_law_sign", .glo "_law_order", .glo "_law_place", .glo "_law_apart", .glo "_law_high", .glo "_law_size", .glo "_law_part", .glo "_law_jet", .glo "_law_slack", .glo "_law_ground", .glo "_law_is_below", .glo "_law_ground_word", .glo "_law_swept", .glo "_law_two_jets", .glo "_law_right", .glo "law"]
def faLz : List He.Fa := [.free "abs", .free "all", .free "any", .free "bool", .free "divmod", .free "enumerate", .free "int", .free "isinstance", .free "len", .free "max", .free "min", .free "range", .free "repr", .free "tuple", .free "zip"]
def csL : List (Str × PV) := [("ZERO", v_ZERO), ("ONE", v_ONE), ("WORDS", v_WORDS), ("LEAST_CORNERS", v_LEAST_CORNERS), ("MOST_CORNERS", v_MOST_CORNERS)]
def bsL : List (Str × String) := [("gcd", "math.gcd")]
def tell : Tell := ⟨faL0 ++ faL1 ++ faL2 ++ faLz, fnL0 ++ fnL1 ++ fnL2, csL, bsL⟩
def loose0 : List Str := ["is_whole", "are_wholes", "divisor_of", "is_reduced", "ZERO", "ONE", "is_ratio", "ratio", "ratio_sum", "ratio_less", "ratio_product", "ratio_over", "ratio_back", "is_lower", "is_spot", "is_ahead", "far_of", "tall_of", "is_nearer", "is_stream_pair", "height_of_jet", "between_jets", "JetError", "InvalidFraction", "InvalidJet", "InvalidGround", "check_fraction", "check_jet", "WORDS", "is_below"]
def loose1 : List Str := ["first_below", "word_for", "swept_heights", "shares_over", "is_below_within", "swept_falls", "LEAST_CORNERS", "MOST_CORNERS", "check_ground", "check_strike", "ground_word", "strike_edge", "check_turn", "jet_between", "swept_words", "swept_edges", "_law_well", "_law_draw", "_law_rounds", "_law_pick", "_law_common", "_law_lean", "_law_ratio", "_law_plus", "_law_less", "_law_times", "_law_over", "_law_order", "_law_sign", "_law_place"]
def loose2 : List Str := ["_law_apart", "_law_high", "_law_size", "_law_part", "_law_jet", "_law_slack", "_law_ground", "_law_is_below", "_law_ground_word", "_law_swept", "_law_two_jets", "_law_right"]
def looseL : List Str := loose0 ++ loose1 ++ loose2
abbrev R : PySem.W.OpenRow := PySem.W.OpenLaw.row PySem.Challenge.rw_spoutlines_k89_whole_words_and_edges_on
abbrev hk : PySem.W.Hook := hookP 2 tell
def ob (s : PySem.W.SharedT) : AlP := obsPG 2 tell (HandSHeadRun.getT s)
theorem ob_eq (s : PySem.W.SharedT) : ob s = hk.obs s.abs := obsPG_eq (HandSHeadRun.getT_eq s)
section
open HandSHeadRun PySem.W PySem.Calls PyProof.Rows
set_option maxHeartbeats 0 in
theorem runA (w : World) : (wholeF (fun p => stepQ (denQ tabQ) p w) fenceQ 20000 R.prog).map (fun x => looksF R.prog x.1.heap x.2.abs) = some true := by kernel_rfl
set_option maxHeartbeats 0 in
theorem runB (w : World) : (wholeF (fun p => stepQ (denQ tabQ) p w) fenceQ 20000 R.prog).map (fun x => seenQ (PySem.W.view R.prog [0, 83]) looseL (importedModules R.prog.main.body) (fun s => xlAt (PySem.W.view R.prog [0, 83]) [] s && recOk R.toRowW.records s) x.2.abs) = some (openGood (PySem.W.view R.prog [0, 83]) looseL) := by kernel_rfl
set_option maxHeartbeats 0 in
theorem run_tell (w : World) : (wholeF (fun p => stepQ (denQ tabQ) p w) fenceQ 20000 R.prog).map (fun x => obsPG 2 tell (getT x.2)) = some (valP tell) := by kernel_rfl
theorem run (w : World) : RunEqI R (PySem.W.view R.prog [0, 83]) hk ob 20000 looseL w := map3 (runA w) (runB w) (run_tell w)
end
theorem top_of {K : PySem.W.Frag} {h : Heap} {mg : Str → Option Value} (X : K.In h) (G : h.Ns mainGlobals mg) (c : SaysP tell K) : Top K mg where
  has_is_whole := by
    obtain ⟨fd, F⟩ := c.d.def_ 0 (d := ⟨("is_whole", none), "is_whole", "is_whole", defArgs s_is_whole, defBody s_is_whole, defScope s_is_whole, [], []⟩) rfl
    exact ⟨_, fd, F, He.glo_ok X G (c.d.fact 0 (f := .glo "is_whole") rfl)⟩
  has_are_wholes := by
    obtain ⟨fd, F⟩ := c.d.def_ 1 (d := ⟨("are_wholes", none), "are_wholes", "are_wholes", defArgs s_are_wholes, defBody s_are_wholes, defScope s_are_wholes, [], []⟩) rfl
    exact ⟨_, fd, F, He.glo_ok X G (c.d.fact 1 (f := .glo "are_wholes") rfl)⟩
  has_divisor_of := by
    obtain ⟨fd, F⟩ := c.d.def_ 2 (d := ⟨("divisor_of", none), "divisor_of", "divisor_of", defArgs s_divisor_of, defBody s_divisor_of, defScope s_divisor_of, [], []⟩) rfl
    exact ⟨_, fd, F, He.glo_ok X G (c.d.fact 2 (f := .glo "divisor_of") rfl)⟩
  has_is_reduced := by
    obtain ⟨fd, F⟩ := c.d.def_ 3 (d := ⟨("is_reduced", none), "is_reduced", "is_reduced", defArgs s_is_reduced, defBody s_is_reduced, defScope s_is_reduced, [], []⟩) rfl
    exact ⟨_, fd, F, He.glo_ok X G (c.d.fact 3 (f := .glo "is_reduced") rfl)⟩
  has_is_ratio := by
    obtain ⟨fd, F⟩ := c.d.def_ 4 (d := ⟨("is_ratio", none), "is_ratio", "is_ratio", defArgs s_is_ratio, defBody s_is_ratio, defScope s_is_ratio, [], []⟩) rfl
    exact ⟨_, fd, F, He.glo_ok X G (c.d.fact 4 (f := .glo "is_ratio") rfl)⟩
  has_ratio := by
    obtain ⟨fd, F⟩ := c.d.def_ 5 (d := ⟨("ratio", none), "ratio", "ratio", defArgs s_ratio, defBody s_ratio, defScope s_ratio, [], []⟩) rfl
    exact ⟨_, fd, F, He.glo_ok X G (c.d.fact 5 (f := .glo "ratio") rfl)⟩
  has_ratio_sum := by
    obtain ⟨fd, F⟩ := c.d.def_ 6 (d := ⟨("ratio_sum", none), "ratio_sum", "ratio_sum", defArgs s_ratio_sum, defBody s_ratio_sum, defScope s_ratio_sum, [], []⟩) rfl
    exact ⟨_, fd, F, He.glo_ok X G (c.d.fact 6 (f := .glo "ratio_sum") rfl)⟩
  has_ratio_less := by
    obtain ⟨fd, F⟩ := c.d.def_ 7 (d := ⟨("ratio_less", none), "ratio_less", "ratio_less", defArgs s_ratio_less, defBody s_ratio_less, defScope s_ratio_less, [], []⟩) rfl
    exact ⟨_, fd, F, He.glo_ok X G (c.d.fact 7 (f := .glo "ratio_less") rfl)⟩
  has_ratio_product := by
    obtain ⟨fd, F⟩ := c.d.def_ 8 (d := ⟨("ratio_product", none), "ratio_product", "ratio_product", defArgs s_ratio_product, defBody s_ratio_product, defScope s_ratio_product, [], []⟩) rfl
    exact ⟨_, fd, F, He.glo_ok X G (c.d.fact 8 (f := .glo "ratio_product") rfl)⟩
  has_ratio_over := by
    obtain ⟨fd, F⟩ := c.d.def_ 9 (d := ⟨("ratio_over", none), "ratio_over", "ratio_over", defArgs s_ratio_over, defBody s_ratio_over, defScope s_ratio_over, [], []⟩) rfl
    exact ⟨_, fd, F, He.glo_ok X G (c.d.fact 9 (f := .glo "ratio_over") rfl)⟩
  has_ratio_back := by
    obtain ⟨fd, F⟩ := c.d.def_ 10 (d := ⟨("ratio_back", none), "ratio_back", "ratio_back", defArgs s_ratio_back, defBody s_ratio_back, defScope s_ratio_back, [], []⟩) rfl
    exact ⟨_, fd, F, He.glo_ok X G (c.d.fact 10 (f := .glo "ratio_back") rfl)⟩
  has_is_lower := by
    obtain ⟨fd, F⟩ := c.d.def_ 11 (d := ⟨("is_lower", none), "is_lower", "is_lower", defArgs s_is_lower, defBody s_is_lower, defScope s_is_lower, [], []⟩) rfl
    exact ⟨_, fd, F, He.glo_ok X G (c.d.fact 11 (f := .glo "is_lower") rfl)⟩
  has_is_spot := by
    obtain ⟨fd, F⟩ := c.d.def_ 12 (d := ⟨("is_spot", none), "is_spot", "is_spot", defArgs s_is_spot, defBody s_is_spot, defScope s_is_spot, [], []⟩) rfl
    exact ⟨_, fd, F, He.glo_ok X G (c.d.fact 12 (f := .glo "is_spot") rfl)⟩
  has_is_ahead := by
    obtain ⟨fd, F⟩ := c.d.def_ 13 (d := ⟨("is_ahead", none), "is_ahead", "is_ahead", defArgs s_is_ahead, defBody s_is_ahead, defScope s_is_ahead, [], []⟩) rfl
    exact ⟨_, fd, F, He.glo_ok X G (c.d.fact 13 (f := .glo "is_ahead") rfl)⟩
  has_far_of := by
    obtain ⟨fd, F⟩ := c.d.def_ 14 (d := ⟨("far_of", none), "far_of", "far_of", defArgs s_far_of, defBody s_far_of, defScope s_far_of, [], []⟩) rfl
    exact ⟨_, fd, F, He.glo_ok X G (c.d.fact 14 (f := .glo "far_of") rfl)⟩
  has_tall_of := by
    obtain ⟨fd, F⟩ := c.d.def_ 15 (d := ⟨("tall_of", none), "tall_of", "tall_of", defArgs s_tall_of, defBody s_tall_of, defScope s_tall_of, [], []⟩) rfl
    exact ⟨_, fd, F, He.glo_ok X G (c.d.fact 15 (f := .glo "tall_of") rfl)⟩
  has_is_nearer := by
    obtain ⟨fd, F⟩ := c.d.def_ 16 (d := ⟨("is_nearer", none), "is_nearer", "is_nearer", defArgs s_is_nearer, defBody s_is_nearer, defScope s_is_nearer, [], []⟩) rfl
    exact ⟨_, fd, F, He.glo_ok X G (c.d.fact 16 (f := .glo "is_nearer") rfl)⟩
  has_is_stream_pair := by
    obtain ⟨fd, F⟩ := c.d.def_ 17 (d := ⟨("is_stream_pair", none), "is_stream_pair", "is_stream_pair", defArgs s_is_stream_pair, defBody s_is_stream_pair, defScope s_is_stream_pair, [], []⟩) rfl
    exact ⟨_, fd, F, He.glo_ok X G (c.d.fact 17 (f := .glo "is_stream_pair") rfl)⟩
  has_height_of_jet := by
    obtain ⟨fd, F⟩ := c.d.def_ 18 (d := ⟨("height_of_jet", none), "height_of_jet", "height_of_jet", defArgs s_height_of_jet, defBody s_height_of_jet, defScope s_height_of_jet, [], []⟩) rfl
    exact ⟨_, fd, F, He.glo_ok X G (c.d.fact 18 (f := .glo "height_of_jet") rfl)⟩
  has_between_jets := by
    obtain ⟨fd, F⟩ := c.d.def_ 19 (d := ⟨("between_jets", none), "between_jets", "between_jets", defArgs s_between_jets, defBody s_between_jets, defScope s_between_jets, [], []⟩) rfl
    exact ⟨_, fd, F, He.glo_ok X G (c.d.fact 19 (f := .glo "between_jets") rfl)⟩
  has_check_fraction := by
    obtain ⟨fd, F⟩ := c.d.def_ 20 (d := ⟨("check_fraction", none), "check_fraction", "check_fraction", defArgs s_check_fraction, defBody s_check_fraction, defScope s_check_fraction, [], []⟩) rfl
    exact ⟨_, fd, F, He.glo_ok X G (c.d.fact 20 (f := .glo "check_fraction") rfl)⟩
  has_check_jet := by
    obtain ⟨fd, F⟩ := c.d.def_ 21 (d := ⟨("check_jet", none), "check_jet", "check_jet", defArgs s_check_jet, defBody s_check_jet, defScope s_check_jet, [], []⟩) rfl
    exact ⟨_, fd, F, He.glo_ok X G (c.d.fact 21 (f := .glo "check_jet") rfl)⟩
  has_is_below := by
    obtain ⟨fd, F⟩ := c.d.def_ 22 (d := ⟨("is_below", none), "is_below", "is_below", defArgs s_is_below, defBody s_is_below, defScope s_is_below, [], []⟩) rfl
    exact ⟨_, fd, F, He.glo_ok X G (c.d.fact 22 (f := .glo "is_below") rfl)⟩
  has_first_below := by
    obtain ⟨fd, F⟩ := c.d.def_ 23 (d := ⟨("first_below", none), "first_below", "first_below", defArgs s_first_below, defBody s_first_below, defScope s_first_below, [], []⟩) rfl
    exact ⟨_, fd, F, He.glo_ok X G (c.d.fact 23 (f := .glo "first_below") rfl)⟩
  has_word_for := by
    obtain ⟨fd, F⟩ := c.d.def_ 24 (d := ⟨("word_for", none), "word_for", "word_for", defArgs s_word_for, defBody s_word_for, defScope s_word_for, [], []⟩) rfl
    exact ⟨_, fd, F, He.glo_ok X G (c.d.fact 24 (f := .glo "word_for") rfl)⟩
  has_swept_heights := by
    obtain ⟨fd, F⟩ := c.d.def_ 25 (d := ⟨("swept_heights", none), "swept_heights", "swept_heights", defArgs s_swept_heights, defBody s_swept_heights, defScope s_swept_heights, [], []⟩) rfl
    exact ⟨_, fd, F, He.glo_ok X G (c.d.fact 25 (f := .glo "swept_heights") rfl)⟩
  has_shares_over := by
    obtain ⟨fd, F⟩ := c.d.def_ 26 (d := ⟨("shares_over", none), "shares_over", "shares_over", defArgs s_shares_over, defBody s_shares_over, defScope s_shares_over, [], []⟩) rfl
    exact ⟨_, fd, F, He.glo_ok X G (c.d.fact 26 (f := .glo "shares_over") rfl)⟩
  has_is_below_within := by
    obtain ⟨fd, F⟩ := c.d.def_ 27 (d := ⟨("is_below_within", none), "is_below_within", "is_below_within", defArgs s_is_below_within, defBody s_is_below_within, defScope s_is_below_within, [], []⟩) rfl
    exact ⟨_, fd, F, He.glo_ok X G (c.d.fact 27 (f := .glo "is_below_within") rfl)⟩
  has_swept_falls := by
    obtain ⟨fd, F⟩ := c.d.def_ 28 (d := ⟨("swept_falls", none), "swept_falls", "swept_falls", defArgs s_swept_falls, defBody s_swept_falls, defScope s_swept_falls, [], []⟩) rfl
    exact ⟨_, fd, F, He.glo_ok X G (c.d.fact 28 (f := .glo "swept_falls") rfl)⟩
  has_check_ground := by
    obtain ⟨fd, F⟩ := c.d.def_ 29 (d := ⟨("check_ground", none), "check_ground", "check_ground", defArgs s_check_ground, defBody s_check_ground, defScope s_check_ground, [], []⟩) rfl
    exact ⟨_, fd, F, He.glo_ok X G (c.d.fact 29 (f := .glo "check_ground") rfl)⟩
  has_check_strike := by
    obtain ⟨fd, F⟩ := c.d.def_ 30 (d := ⟨("check_strike", none), "check_strike", "check_strike", defArgs s_check_strike, defBody s_check_strike, defScope s_check_strike, [], []⟩) rfl
    exact ⟨_, fd, F, He.glo_ok X G (c.d.fact 30 (f := .glo "check_strike") rfl)⟩
  has_ground_word := by
    obtain ⟨fd, F⟩ := c.d.def_ 31 (d := ⟨("ground_word", none), "ground_word", "ground_word", defArgs s_ground_word, defBody s_ground_word, defScope s_ground_word, [], []⟩) rfl
    exact ⟨_, fd, F, He.glo_ok X G (c.d.fact 31 (f := .glo "ground_word") rfl)⟩
  has_strike_edge := by
    obtain ⟨fd, F⟩ := c.d.def_ 32 (d := ⟨("strike_edge", none), "strike_edge", "strike_edge", defArgs s_strike_edge, defBody s_strike_edge, defScope s_strike_edge, [], []⟩) rfl
    exact ⟨_, fd, F, He.glo_ok X G (c.d.fact 32 (f := .glo "strike_edge") rfl)⟩
  has_check_turn := by
    obtain ⟨fd, F⟩ := c.d.def_ 33 (d := ⟨("check_turn", none), "check_turn", "check_turn", defArgs s_check_turn, defBody s_check_turn, defScope s_check_turn, [], []⟩) rfl
    exact ⟨_, fd, F, He.glo_ok X G (c.d.fact 33 (f := .glo "check_turn") rfl)⟩
  has_jet_between := by
    obtain ⟨fd, F⟩ := c.d.def_ 34 (d := ⟨("jet_between", none), "jet_between", "jet_between", defArgs s_jet_between, defBody s_jet_between, defScope s_jet_between, [], []⟩) rfl
    exact ⟨_, fd, F, He.glo_ok X G (c.d.fact 34 (f := .glo "jet_between") rfl)⟩
  has_swept_words := by
    obtain ⟨fd, F⟩ := c.d.def_ 35 (d := ⟨("swept_words", none), "swept_words", "swept_words", defArgs s_swept_words, defBody s_swept_words, defScope s_swept_words, [], []⟩) rfl
    exact ⟨_, fd, F, He.glo_ok X G (c.d.fact 35 (f := .glo "swept_words") rfl)⟩
  has_swept_edges := by
    obtain ⟨fd, F⟩ := c.d.def_ 36 (d := ⟨("swept_edges", none), "swept_edges", "swept_edges", defArgs s_swept_edges, defBody s_swept_edges, defScope s_swept_edges, [], []⟩) rfl
    exact ⟨_, fd, F, He.glo_ok X G (c.d.fact 36 (f := .glo "swept_edges") rfl)⟩
  has__law_well := by
    obtain ⟨fd, F⟩ := c.d.def_ 37 (d := ⟨("_law_well", none), "_law_well", "_law_well", defArgs s__law_well, defBody s__law_well, defScope s__law_well, [], []⟩) rfl
    exact ⟨_, fd, F, He.glo_ok X G (c.d.fact 37 (f := .glo "_law_well") rfl)⟩
  has__law_draw := by
    obtain ⟨fd, F⟩ := c.d.def_ 38 (d := ⟨("_law_draw", none), "_law_draw", "_law_draw", defArgs s__law_draw, defBody s__law_draw, defScope s__law_draw, [], []⟩) rfl
    exact ⟨_, fd, F, He.glo_ok X G (c.d.fact 38 (f := .glo "_law_draw") rfl)⟩
  has__law_rounds := by
    obtain ⟨fd, F⟩ := c.d.def_ 39 (d := ⟨("_law_rounds", none), "_law_rounds", "_law_rounds", defArgs s__law_rounds, defBody s__law_rounds, defScope s__law_rounds, [], []⟩) rfl
    exact ⟨_, fd, F, He.glo_ok X G (c.d.fact 39 (f := .glo "_law_rounds") rfl)⟩
  has__law_pick := by
    obtain ⟨fd, F⟩ := c.d.def_ 40 (d := ⟨("_law_pick", none), "_law_pick", "_law_pick", defArgs s__law_pick, defBody s__law_pick, defScope s__law_pick, [], []⟩) rfl
    exact ⟨_, fd, F, He.glo_ok X G (c.d.fact 40 (f := .glo "_law_pick") rfl)⟩
  has__law_common := by
    obtain ⟨fd, F⟩ := c.d.def_ 41 (d := ⟨("_law_common", none), "_law_common", "_law_common", defArgs s__law_common, defBody s__law_common, defScope s__law_common, [], []⟩) rfl
    exact ⟨_, fd, F, He.glo_ok X G (c.d.fact 41 (f := .glo "_law_common") rfl)⟩
  has__law_lean := by
    obtain ⟨fd, F⟩ := c.d.def_ 42 (d := ⟨("_law_lean", none), "_law_lean", "_law_lean", defArgs s__law_lean, defBody s__law_lean, defScope s__law_lean, [], []⟩) rfl
    exact ⟨_, fd, F, He.glo_ok X G (c.d.fact 42 (f := .glo "_law_lean") rfl)⟩
  has__law_ratio := by
    obtain ⟨fd, F⟩ := c.d.def_ 43 (d := ⟨("_law_ratio", none), "_law_ratio", "_law_ratio", defArgs s__law_ratio, defBody s__law_ratio, defScope s__law_ratio, [], []⟩) rfl
    exact ⟨_, fd, F, He.glo_ok X G (c.d.fact 43 (f := .glo "_law_ratio") rfl)⟩
  has__law_plus := by
    obtain ⟨fd, F⟩ := c.d.def_ 44 (d := ⟨("_law_plus", none), "_law_plus", "_law_plus", defArgs s__law_plus, defBody s__law_plus, defScope s__law_plus, [], []⟩) rfl
    exact ⟨_, fd, F, He.glo_ok X G (c.d.fact 44 (f := .glo "_law_plus") rfl)⟩
  has__law_less := by
    obtain ⟨fd, F⟩ := c.d.def_ 45 (d := ⟨("_law_less", none), "_law_less", "_law_less", defArgs s__law_less, defBody s__law_less, defScope s__law_less, [], []⟩) rfl
    exact ⟨_, fd, F, He.glo_ok X G (c.d.fact 45 (f := .glo "_law_less") rfl)⟩
  has__law_times := by
    obtain ⟨fd, F⟩ := c.d.def_ 46 (d := ⟨("_law_times", none), "_law_times", "_law_times", defArgs s__law_times, defBody s__law_times, defScope s__law_times, [], []⟩) rfl
    exact ⟨_, fd, F, He.glo_ok X G (c.d.fact 46 (f := .glo "_law_times") rfl)⟩
  has__law_over := by
    obtain ⟨fd, F⟩ := c.d.def_ 47 (d := ⟨("_law_over", none), "_law_over", "_law_over", defArgs s__law_over, defBody s__law_over, defScope s__law_over, [], []⟩) rfl
    exact ⟨_, fd, F, He.glo_ok X G (c.d.fact 47 (f := .glo "_law_over") rfl)⟩
  has__law_sign := by
    obtain ⟨fd, F⟩ := c.d.def_ 48 (d := ⟨("_law_sign", none), "_law_sign", "_law_sign", defArgs s__law_sign, defBody s__law_sign, defScope s__law_sign, [], []⟩) rfl
    exact ⟨_, fd, F, He.glo_ok X G (c.d.fact 48 (f := .glo "_law_sign") rfl)⟩
  has__law_order := by
    obtain ⟨fd, F⟩ := c.d.def_ 49 (d := ⟨("_law_order", none), "_law_order", "_law_order", defArgs s__law_order, defBody s__law_order, defScope s__law_order, [], []⟩) rfl
    exact ⟨_, fd, F, He.glo_ok X G (c.d.fact 49 (f := .glo "_law_order") rfl)⟩
  has__law_place := by
    obtain ⟨fd, F⟩ := c.d.def_ 50 (d := ⟨("_law_place", none), "_law_place", "_law_place", defArgs s__law_place, defBody s__law_place, defScope s__law_place, [], []⟩) rfl
    exact ⟨_, fd, F, He.glo_ok X G (c.d.fact 50 (f := .glo "_law_place") rfl)⟩
  has__law_apart := by
    obtain ⟨fd, F⟩ := c.d.def_ 51 (d := ⟨("_law_apart", none), "_law_apart", "_law_apart", defArgs s__law_apart, defBody s__law_apart, defScope s__law_apart, [], []⟩) rfl
    exact ⟨_, fd, F, He.glo_ok X G (c.d.fact 51 (f := .glo "_law_apart") rfl)⟩
  has__law_high := by
    obtain ⟨fd, F⟩ := c.d.def_ 52 (d := ⟨("_law_high", none), "_law_high", "_law_high", defArgs s__law_high, defBody s__law_high, defScope s__law_high, [], []⟩) rfl
    exact ⟨_, fd, F, He.glo_ok X G (c.d.fact 52 (f := .glo "_law_high") rfl)⟩
  has__law_size := by
    obtain ⟨fd, F⟩ := c.d.def_ 53 (d := ⟨("_law_size", none), "_law_size", "_law_size", defArgs s__law_size, defBody s__law_size, defScope s__law_size, [], []⟩) rfl
    exact ⟨_, fd, F, He.glo_ok X G (c.d.fact 53 (f := .glo "_law_size") rfl)⟩
  has__law_part := by
    obtain ⟨fd, F⟩ := c.d.def_ 54 (d := ⟨("_law_part", none), "_law_part", "_law_part", defArgs s__law_part, defBody s__law_part, defScope s__law_part, [], []⟩) rfl
    exact ⟨_, fd, F, He.glo_ok X G (c.d.fact 54 (f := .glo "_law_part") rfl)⟩
  has__law_jet := by
    obtain ⟨fd, F⟩ := c.d.def_ 55 (d := ⟨("_law_jet", none), "_law_jet", "_law_jet", defArgs s__law_jet, defBody s__law_jet, defScope s__law_jet, [], []⟩) rfl
    exact ⟨_, fd, F, He.glo_ok X G (c.d.fact 55 (f := .glo "_law_jet") rfl)⟩
  has__law_slack := by
    obtain ⟨fd, F⟩ := c.d.def_ 56 (d := ⟨("_law_slack", none), "_law_slack", "_law_slack", defArgs s__law_slack, defBody s__law_slack, defScope s__law_slack, [], []⟩) rfl
    exact ⟨_, fd, F, He.glo_ok X G (c.d.fact 56 (f := .glo "_law_slack") rfl)⟩
  has__law_ground := by
    obtain ⟨fd, F⟩ := c.d.def_ 57 (d := ⟨("_law_ground", none), "_law_ground", "_law_ground", defArgs s__law_ground, defBody s__law_ground, defScope s__law_ground, [], []⟩) rfl
    exact ⟨_, fd, F, He.glo_ok X G (c.d.fact 57 (f := .glo "_law_ground") rfl)⟩
  has__law_is_below := by
    obtain ⟨fd, F⟩ := c.d.def_ 58 (d := ⟨("_law_is_below", none), "_law_is_below", "_law_is_below", defArgs s__law_is_below, defBody s__law_is_below, defScope s__law_is_below, [], []⟩) rfl
    exact ⟨_, fd, F, He.glo_ok X G (c.d.fact 58 (f := .glo "_law_is_below") rfl)⟩
  has__law_ground_word := by
    obtain ⟨fd, F⟩ := c.d.def_ 59 (d := ⟨("_law_ground_word", none), "_law_ground_word", "_law_ground_word", defArgs s__law_ground_word, defBody s__law_ground_word, defScope s__law_ground_word, [], []⟩) rfl
    exact ⟨_, fd, F, He.glo_ok X G (c.d.fact 59 (f := .glo "_law_ground_word") rfl)⟩
  has__law_swept := by
    obtain ⟨fd, F⟩ := c.d.def_ 60 (d := ⟨("_law_swept", none), "_law_swept", "_law_swept", defArgs s__law_swept, defBody s__law_swept, defScope s__law_swept, [], []⟩) rfl
    exact ⟨_, fd, F, He.glo_ok X G (c.d.fact 60 (f := .glo "_law_swept") rfl)⟩
  has__law_two_jets := by
    obtain ⟨fd, F⟩ := c.d.def_ 61 (d := ⟨("_law_two_jets", none), "_law_two_jets", "_law_two_jets", defArgs s__law_two_jets, defBody s__law_two_jets, defScope s__law_two_jets, [], []⟩) rfl
    exact ⟨_, fd, F, He.glo_ok X G (c.d.fact 61 (f := .glo "_law_two_jets") rfl)⟩
  has__law_right := by
    obtain ⟨fd, F⟩ := c.d.def_ 62 (d := ⟨("_law_right", none), "_law_right", "_law_right", defArgs s__law_right, defBody s__law_right, defScope s__law_right, [], []⟩) rfl
    exact ⟨_, fd, F, He.glo_ok X G (c.d.fact 62 (f := .glo "_law_right") rfl)⟩
  has_law := by
    obtain ⟨fd, F⟩ := c.d.def_ 63 (d := ⟨("law", none), "law", "law", defArgs s_law, defBody s_law, defScope s_law, [], []⟩) rfl
    exact ⟨_, fd, F, He.glo_ok X G (c.d.fact 63 (f := .glo "law") rfl)⟩
  c_ZERO := c.const X G 0
  c_ONE := c.const X G 1
  c_WORDS := c.const X G 2
  c_LEAST_CORNERS := c.const X G 3
  c_MOST_CORNERS := c.const X G 4
  bi_gcd := c.bi X G 0
  z_abs := c.free X G 64
  z_all := c.free X G 65
  z_any := c.free X G 66
  z_bool := c.free X G 67
  z_divmod := c.free X G 68
  z_enumerate := c.free X G 69
  z_int := c.free X G 70
  z_isinstance := c.free X G 71
  z_len := c.free X G 72
  z_max := c.free X G 73
  z_min := c.free X G 74
  z_range := c.free X G 75
  z_repr := c.free X G 76
  z_tuple := c.free X G 77
  z_zip := c.free X G 78
set_option maxHeartbeats 0 in
theorem ends (hlaw : ∀ ns : List Int, ns.length ≤ 63 → ∃ S, m_law [.frz (ns.map PV.int)] [] = .ok (.bl true) S) : PySem.Challenge.rw_spoutlines_k89_whole_words_and_edges_on.Holds := by
  w_on; o_law
  refine HandSHeadRun.head_imp (r := PySem.W.OpenLaw.row PySem.Challenge.rw_spoutlines_k89_whole_words_and_edges_on) (q := PySem.W.view (PySem.W.OpenLaw.row PySem.Challenge.rw_spoutlines_k89_whole_words_and_edges_on).prog [0, 83]) (H := hk) (ob := ob) (M := 20000) (loose := looseL) (d := HandSHeadRun.topDef (PySem.W.OpenLaw.row PySem.Challenge.rw_spoutlines_k89_whole_words_and_edges_on).prog 83) (kwd := []) ob_eq
     run (by kernel_rfl) (by kernel_rfl) (by kernel_rfl) (by rfl) (by first | assumption | decide +kernel) (by decide +kernel) ⟨rfl, rfl, rfl, rfl, rfl, by decide +kernel⟩ ?hw ?hc
  case hw => w_witness2
  case hc =>
    refine walk_G (l := PySem.Challenge.rw_spoutlines_k89_whole_words_and_edges_on) (n := 63) (k := 9) (x := "_law_script") (sem := m_law) rfl (by decide) (by kernel_rfl) ⟨rfl, by decide, by decide⟩ ?F hlaw
    intro w mg fa h Y G hmg0
    obtain ⟨K, KX, c⟩ := Y
    have hmg : mg ("law" : PySem.Str) = some (.ref fa) := by
      have e : (HandSHeadRun.topDef (PySem.W.OpenLaw.row PySem.Challenge.rw_spoutlines_k89_whole_words_and_edges_on).prog 83).name = ("law" : PySem.Str) := by kernel_rfl
      rw [← e]
      exact hmg0
    have T : Top K mg := top_of KX G c
    obtain ⟨f, fd, F, gf⟩ := T.has_law
    cases hmg.symm.trans gf
    refine ⟨K, fd, KX, fun s v => FunD.bindsA F b_law s [v] rfl, fun base _ _ => ?_⟩
    obtain ⟨f2, fd2, F2, gf2, FG⟩ := (ok_law (P := PySem.Challenge.pw_spoutlines_k89_whole_words_and_edges_on) (w := w) (base := base) T).ex
    cases hmg.symm.trans gf2
    have efd : fd2 = fd := by
      obtain ⟨oc, od, dV, kV, doc, pm, an, cdv, ct, osl, e1, l1, _⟩ := F.ex
      obtain ⟨oc', od', dV', kV', doc', pm', an', cdv', ct', osl', e2, l2, _⟩ := F2.ex
      rw [l1] at l2
      simp only [Option.some.injEq, PySem.Obj.mk.injEq, PySem.Data.func.injEq] at l2
      exact l2.2.2.1.symm
    subst efd
    exact FG

end Pm.L

namespace Pm.L
open PySem PySem.Spec L2 Pm

end Pm.L
namespace Pm.L
open PySem PySem.Spec L2 Pm
section
variable {S : Sto} {Q : PV → Sto → Prop}
theorem e_is_whole {i : Int} : m_is_whole [.int i] S = .ok (.bl true) S := by
  refine Ok.eq (Ok_defM rfl ?_)
  simp -dsimp (disch := first | assumption | omega) only [zaa,zab,zac,zad,zae,zaf,zag,zah,zai,zaj,zak,zal,zam,zan,zao,zap,zaq,zar,zas,zat,zau,zav,zaw,zax,zay,zaz,zaA,zaB,zaC,zaD,zaE,zaF,zaG,zaH,zaI,zaJ,zaK,zaL,zaM,zaN,zaO,zaP,zaQ,zaR,zaS,zaT,zaU,zaV,zaW,zaX,zaY,zaZ,za0,za1,za2,za3,za4,za5,za6,za7,za8,za9,zba,zbb,zbc,zbd,zbe,zbf,zbg,zbh,zbi,zbj,zbk,zbl,zbm,zbn,zbo,zbp,zbq,zbr,zbs,zbt,zbu,zbv,zbw,zbx,zby,zbz,zbA,zbB,zbC,zbD,zbE,zbF,zbG,zbH,zbI,zbJ,zbK,zbL,zbM,zbN,zbO,zbP,zbQ,zbR,zbS,zbT,zbU,zbV,zbW,zbX,zbY,zbZ,zb0,zb1,zb2,zb3,zb4,zb5,zb6,zb7,zb8,zb9,zca,zcb,eq_self,zcc,zcd,zce,zcf,zcg,zch,zci,zcj,zck,zcl,zcm,List.getElem?_cons_succ,List.getElem?_cons_zero,List.set_cons_succ,List.set_cons_zero,List.map_cons,List.map_nil,List.length_cons,List.length_nil,List.cons_append,List.nil_append,List.append_nil,List.isEmpty_cons,List.isEmpty_nil,if_true,if_false,ite_true,ite_false,Bool.not_true,Bool.not_false,Bool.not_not,decide_true,true_and,and_true,false_and,and_false,Bool.false_eq_true,reduceCtorEq,decide_true,decide_false,ite_self,forall_const,Nat.zero_add,Nat.reduceAdd,Nat.reduceLeDiff,Nat.reduceLT,Nat.reduceEqDiff,Nat.reduceSub,Nat.reduceMul,Nat.reduceBEq,Int.reduceLT,Int.reduceLE,Int.reduceEq,Int.reduceNe,Int.reduceAdd,Int.reduceMul,Int.reduceSub,Int.reduceNeg,Int.reducePow,Int.reduceBEq,Int.reduceToNat,Int.reduceGT,Int.reduceGE,String.reduceBEq,zcn,zco,List.replicate_succ,List.replicate_zero,zcp,zcq,zcr,zcs,zct,zcu,zcv,zcw,zcx,zcy,zcz,zcA,zcB,zcC,zcD,zcE,zcF,zcG,zcH,zcI,zcJ,zcK,zcL,zcM,zcN,zcO,zcP,zcQ,zcR,zcS,zcT,zcU,zcV,zcW,zcX,zcY,zcZ,zc0,zc1,zc2,zc3,zc4,zc5,zc6,zc7,zc8,zc9,zda,zdb,zdc,Bool.true_or,Bool.or_true,Bool.false_or,Bool.or_false,Bool.and_true,Bool.true_and,Bool.and_false,Bool.false_and,Int.cast_ofNat_Int,Int.natCast_zero,Int.natCast_one,beq_self_eq_true,zdd,zde,zdf,zdg,zdh,wipeR]
theorem o_is_whole {i : Int} : Ok (m_is_whole [.int i] S) Q = Q (.bl true) S := by rw [e_is_whole, zaa]
theorem e_are2 {a b : Int} : m_are_wholes [.tup [.int a, .int b], .int 2] S = .ok (.bl true) S := by
  refine Ok.eq (Ok_defM rfl ?_)
  simp -dsimp (disch := first | assumption | omega) only [zaa,zab,zac,zad,zae,zaf,zag,zah,zai,zaj,zak,zal,zam,zan,zao,zap,zaq,zar,zas,zat,zau,zav,zaw,zax,zay,zaz,zaA,zaB,zaC,zaD,zaE,zaF,zaG,zaH,zaI,zaJ,zaK,zaL,zaM,zaN,zaO,zaP,zaQ,zaR,zaS,zaT,zaU,zaV,zaW,zaX,zaY,zaZ,za0,za1,za2,za3,za4,za5,za6,za7,za8,za9,zba,zbb,zbc,zbd,zbe,zbf,zbg,zbh,zbi,zbj,zbk,zbl,zbm,zbn,zbo,zbp,zbq,zbr,zbs,zbt,zbu,zbv,zbw,zbx,zby,zbz,zbA,zbB,zbC,zbD,zbE,zbF,zbG,zbH,zbI,zbJ,zbK,zbL,zbM,zbN,zbO,zbP,zbQ,zbR,zbS,zbT,zbU,zbV,zbW,zbX,zbY,zbZ,zb0,zb1,zb2,zb3,zb4,zb5,zb6,zb7,zb8,zb9,zca,zcb,eq_self,zcc,zcd,zce,zcf,zcg,zch,zci,zcj,zck,zcl,zcm,List.getElem?_cons_succ,List.getElem?_cons_zero,List.set_cons_succ,List.set_cons_zero,List.map_cons,List.map_nil,List.length_cons,List.length_nil,List.cons_append,List.nil_append,List.append_nil,List.isEmpty_cons,List.isEmpty_nil,if_true,if_false,ite_true,ite_false,Bool.not_true,Bool.not_false,Bool.not_not,decide_true,true_and,and_true,false_and,and_false,Bool.false_eq_true,reduceCtorEq,decide_true,decide_false,ite_self,forall_const,Nat.zero_add,Nat.reduceAdd,Nat.reduceLeDiff,Nat.reduceLT,Nat.reduceEqDiff,Nat.reduceSub,Nat.reduceMul,Nat.reduceBEq,Int.reduceLT,Int.reduceLE,Int.reduceEq,Int.reduceNe,Int.reduceAdd,Int.reduceMul,Int.reduceSub,Int.reduceNeg,Int.reducePow,Int.reduceBEq,Int.reduceToNat,Int.reduceGT,Int.reduceGE,String.reduceBEq,zcn,zco,List.replicate_succ,List.replicate_zero,zcp,zcq,zcr,zcs,zct,zcu,zcv,zcw,zcx,zcy,zcz,zcA,zcB,zcC,zcD,zcE,zcF,zcG,zcH,zcI,zcJ,zcK,zcL,zcM,zcN,zcO,zcP,zcQ,zcR,zcS,zcT,zcU,zcV,zcW,zcX,zcY,zcZ,zc0,zc1,zc2,zc3,zc4,zc5,zc6,zc7,zc8,zc9,zda,zdb,zdc,Bool.true_or,Bool.or_true,Bool.false_or,Bool.or_false,Bool.and_true,Bool.true_and,Bool.and_false,Bool.false_and,Int.cast_ofNat_Int,Int.natCast_zero,Int.natCast_one,beq_self_eq_true,zdd,zde,zdf,zdg,zdh,wipeR,o_is_whole,Ok_all (xs := [.bl true,.bl true]) (bs := [true,true]) rfl,show ([true,true].all id) = true from rfl]
theorem e_divisor {a b : Int} : m_divisor_of [.tup [.int a, .int b]] S = .ok (.int (Int.gcd a b)) S := by
  refine Ok.eq (Ok_defM rfl ?_)
  simp -dsimp (disch := first | assumption | omega) only [zaa,zab,zac,zad,zae,zaf,zag,zah,zai,zaj,zak,zal,zam,zan,zao,zap,zaq,zar,zas,zat,zau,zav,zaw,zax,zay,zaz,zaA,zaB,zaC,zaD,zaE,zaF,zaG,zaH,zaI,zaJ,zaK,zaL,zaM,zaN,zaO,zaP,zaQ,zaR,zaS,zaT,zaU,zaV,zaW,zaX,zaY,zaZ,za0,za1,za2,za3,za4,za5,za6,za7,za8,za9,zba,zbb,zbc,zbd,zbe,zbf,zbg,zbh,zbi,zbj,zbk,zbl,zbm,zbn,zbo,zbp,zbq,zbr,zbs,zbt,zbu,zbv,zbw,zbx,zby,zbz,zbA,zbB,zbC,zbD,zbE,zbF,zbG,zbH,zbI,zbJ,zbK,zbL,zbM,zbN,zbO,zbP,zbQ,zbR,zbS,zbT,zbU,zbV,zbW,zbX,zbY,zbZ,zb0,zb1,zb2,zb3,zb4,zb5,zb6,zb7,zb8,zb9,zca,zcb,eq_self,zcc,zcd,zce,zcf,zcg,zch,zci,zcj,zck,zcl,zcm,List.getElem?_cons_succ,List.getElem?_cons_zero,List.set_cons_succ,List.set_cons_zero,List.map_cons,List.map_nil,List.length_cons,List.length_nil,List.cons_append,List.nil_append,List.append_nil,List.isEmpty_cons,List.isEmpty_nil,if_true,if_false,ite_true,ite_false,Bool.not_true,Bool.not_false,Bool.not_not,decide_true,true_and,and_true,false_and,and_false,Bool.false_eq_true,reduceCtorEq,decide_true,decide_false,ite_self,forall_const,Nat.zero_add,Nat.reduceAdd,Nat.reduceLeDiff,Nat.reduceLT,Nat.reduceEqDiff,Nat.reduceSub,Nat.reduceMul,Nat.reduceBEq,Int.reduceLT,Int.reduceLE,Int.reduceEq,Int.reduceNe,Int.reduceAdd,Int.reduceMul,Int.reduceSub,Int.reduceNeg,Int.reducePow,Int.reduceBEq,Int.reduceToNat,Int.reduceGT,Int.reduceGE,String.reduceBEq,zcn,zco,List.replicate_succ,List.replicate_zero,zcp,zcq,zcr,zcs,zct,zcu,zcv,zcw,zcx,zcy,zcz,zcA,zcB,zcC,zcD,zcE,zcF,zcG,zcH,zcI,zcJ,zcK,zcL,zcM,zcN,zcO,zcP,zcQ,zcR,zcS,zcT,zcU,zcV,zcW,zcX,zcY,zcZ,zc0,zc1,zc2,zc3,zc4,zc5,zc6,zc7,zc8,zc9,zda,zdb,zdc,Bool.true_or,Bool.or_true,Bool.false_or,Bool.or_false,Bool.and_true,Bool.true_and,Bool.and_false,Bool.false_and,Int.cast_ofNat_Int,Int.natCast_zero,Int.natCast_one,beq_self_eq_true,zdd,zde,zdf,zdg,zdh,wipeR]
  simp [Int.gcd]
theorem o_divisor {a b : Int} : Ok (m_divisor_of [.tup [.int a, .int b]] S) Q = Q (.int (Int.gcd a b)) S := by rw [e_divisor, zaa]
theorem e_is_ratio {q : Rat} : m_is_ratio [rv q] S = .ok (.bl true) S := by
  have e : ∀ S, m_is_reduced [rv q] S = .ok (.bl true) S := fun S => by
    refine Ok.eq (Ok_defM rfl ?_)
    unfold rv
    simp -dsimp (disch := first | assumption | omega) only [zaa,zab,zac,zad,zae,zaf,zag,zah,zai,zaj,zak,zal,zam,zan,zao,zap,zaq,zar,zas,zat,zau,zav,zaw,zax,zay,zaz,zaA,zaB,zaC,zaD,zaE,zaF,zaG,zaH,zaI,zaJ,zaK,zaL,zaM,zaN,zaO,zaP,zaQ,zaR,zaS,zaT,zaU,zaV,zaW,zaX,zaY,zaZ,za0,za1,za2,za3,za4,za5,za6,za7,za8,za9,zba,zbb,zbc,zbd,zbe,zbf,zbg,zbh,zbi,zbj,zbk,zbl,zbm,zbn,zbo,zbp,zbq,zbr,zbs,zbt,zbu,zbv,zbw,zbx,zby,zbz,zbA,zbB,zbC,zbD,zbE,zbF,zbG,zbH,zbI,zbJ,zbK,zbL,zbM,zbN,zbO,zbP,zbQ,zbR,zbS,zbT,zbU,zbV,zbW,zbX,zbY,zbZ,zb0,zb1,zb2,zb3,zb4,zb5,zb6,zb7,zb8,zb9,zca,zcb,eq_self,zcc,zcd,zce,zcf,zcg,zch,zci,zcj,zck,zcl,zcm,List.getElem?_cons_succ,List.getElem?_cons_zero,List.set_cons_succ,List.set_cons_zero,List.map_cons,List.map_nil,List.length_cons,List.length_nil,List.cons_append,List.nil_append,List.append_nil,List.isEmpty_cons,List.isEmpty_nil,if_true,if_false,ite_true,ite_false,Bool.not_true,Bool.not_false,Bool.not_not,decide_true,true_and,and_true,false_and,and_false,Bool.false_eq_true,reduceCtorEq,decide_true,decide_false,ite_self,forall_const,Nat.zero_add,Nat.reduceAdd,Nat.reduceLeDiff,Nat.reduceLT,Nat.reduceEqDiff,Nat.reduceSub,Nat.reduceMul,Nat.reduceBEq,Int.reduceLT,Int.reduceLE,Int.reduceEq,Int.reduceNe,Int.reduceAdd,Int.reduceMul,Int.reduceSub,Int.reduceNeg,Int.reducePow,Int.reduceBEq,Int.reduceToNat,Int.reduceGT,Int.reduceGE,String.reduceBEq,zcn,zco,List.replicate_succ,List.replicate_zero,zcp,zcq,zcr,zcs,zct,zcu,zcv,zcw,zcx,zcy,zcz,zcA,zcB,zcC,zcD,zcE,zcF,zcG,zcH,zcI,zcJ,zcK,zcL,zcM,zcN,zcO,zcP,zcQ,zcR,zcS,zcT,zcU,zcV,zcW,zcX,zcY,zcZ,zc0,zc1,zc2,zc3,zc4,zc5,zc6,zc7,zc8,zc9,zda,zdb,zdc,Bool.true_or,Bool.or_true,Bool.false_or,Bool.or_false,Bool.and_true,Bool.true_and,Bool.and_false,Bool.false_and,Int.cast_ofNat_Int,Int.natCast_zero,Int.natCast_one,beq_self_eq_true,zdd,zde,zdf,zdg,zdh,wipeR,o_divisor,coprime_int]
  refine Ok.eq (Ok_defM rfl ?_)
  have hp : (0 : Int) < q.den := by have := q.den_pos; omega
  simp -dsimp (disch := first | assumption | omega) only [zaa,zab,zac,zad,zae,zaf,zag,zah,zai,zaj,zak,zal,zam,zan,zao,zap,zaq,zar,zas,zat,zau,zav,zaw,zax,zay,zaz,zaA,zaB,zaC,zaD,zaE,zaF,zaG,zaH,zaI,zaJ,zaK,zaL,zaM,zaN,zaO,zaP,zaQ,zaR,zaS,zaT,zaU,zaV,zaW,zaX,zaY,zaZ,za0,za1,za2,za3,za4,za5,za6,za7,za8,za9,zba,zbb,zbc,zbd,zbe,zbf,zbg,zbh,zbi,zbj,zbk,zbl,zbm,zbn,zbo,zbp,zbq,zbr,zbs,zbt,zbu,zbv,zbw,zbx,zby,zbz,zbA,zbB,zbC,zbD,zbE,zbF,zbG,zbH,zbI,zbJ,zbK,zbL,zbM,zbN,zbO,zbP,zbQ,zbR,zbS,zbT,zbU,zbV,zbW,zbX,zbY,zbZ,zb0,zb1,zb2,zb3,zb4,zb5,zb6,zb7,zb8,zb9,zca,zcb,eq_self,zcc,zcd,zce,zcf,zcg,zch,zci,zcj,zck,zcl,zcm,List.getElem?_cons_succ,List.getElem?_cons_zero,List.set_cons_succ,List.set_cons_zero,List.map_cons,List.map_nil,List.length_cons,List.length_nil,List.cons_append,List.nil_append,List.append_nil,List.isEmpty_cons,List.isEmpty_nil,if_true,if_false,ite_true,ite_false,Bool.not_true,Bool.not_false,Bool.not_not,decide_true,true_and,and_true,false_and,and_false,Bool.false_eq_true,reduceCtorEq,decide_true,decide_false,ite_self,forall_const,Nat.zero_add,Nat.reduceAdd,Nat.reduceLeDiff,Nat.reduceLT,Nat.reduceEqDiff,Nat.reduceSub,Nat.reduceMul,Nat.reduceBEq,Int.reduceLT,Int.reduceLE,Int.reduceEq,Int.reduceNe,Int.reduceAdd,Int.reduceMul,Int.reduceSub,Int.reduceNeg,Int.reducePow,Int.reduceBEq,Int.reduceToNat,Int.reduceGT,Int.reduceGE,String.reduceBEq,zcn,zco,List.replicate_succ,List.replicate_zero,zcp,zcq,zcr,zcs,zct,zcu,zcv,zcw,zcx,zcy,zcz,zcA,zcB,zcC,zcD,zcE,zcF,zcG,zcH,zcI,zcJ,zcK,zcL,zcM,zcN,zcO,zcP,zcQ,zcR,zcS,zcT,zcU,zcV,zcW,zcX,zcY,zcZ,zc0,zc1,zc2,zc3,zc4,zc5,zc6,zc7,zc8,zc9,zda,zdb,zdc,Bool.true_or,Bool.or_true,Bool.false_or,Bool.or_false,Bool.and_true,Bool.true_and,Bool.and_false,Bool.false_and,Int.cast_ofNat_Int,Int.natCast_zero,Int.natCast_one,beq_self_eq_true,zdd,zde,zdf,zdg,zdh,wipeR,show ∀ S,m_are_wholes [rv q,.int 2] S = .ok (.bl true) S from fun S => e_are2,e,hp]
theorem o_is_ratio {q : Rat} : Ok (m_is_ratio [rv q] S) Q = Q (.bl true) S := by rw [e_is_ratio, zaa]
theorem e_ratio {a b : Int} (hb : b ≠ 0) (hs : b.natAbs < 2 ^ 8999) : m_ratio [.int a, .int b] S = .ok (rv (Rat.divInt a b)) S := by
  refine Ok.eq (Ok_defM rfl ?_)
  have h1 := gcd_nz (a := a) hb
  have h2 := log_gcd (a := a) hb hs
  have e1 := fr_num (a := a) hb
  have e2 := fr_den (a := a) hb
  unfold rv
  simp -dsimp (disch := first | assumption | omega) only [zaa,zab,zac,zad,zae,zaf,zag,zah,zai,zaj,zak,zal,zam,zan,zao,zap,zaq,zar,zas,zat,zau,zav,zaw,zax,zay,zaz,zaA,zaB,zaC,zaD,zaE,zaF,zaG,zaH,zaI,zaJ,zaK,zaL,zaM,zaN,zaO,zaP,zaQ,zaR,zaS,zaT,zaU,zaV,zaW,zaX,zaY,zaZ,za0,za1,za2,za3,za4,za5,za6,za7,za8,za9,zba,zbb,zbc,zbd,zbe,zbf,zbg,zbh,zbi,zbj,zbk,zbl,zbm,zbn,zbo,zbp,zbq,zbr,zbs,zbt,zbu,zbv,zbw,zbx,zby,zbz,zbA,zbB,zbC,zbD,zbE,zbF,zbG,zbH,zbI,zbJ,zbK,zbL,zbM,zbN,zbO,zbP,zbQ,zbR,zbS,zbT,zbU,zbV,zbW,zbX,zbY,zbZ,zb0,zb1,zb2,zb3,zb4,zb5,zb6,zb7,zb8,zb9,zca,zcb,eq_self,zcc,zcd,zce,zcf,zcg,zch,zci,zcj,zck,zcl,zcm,List.getElem?_cons_succ,List.getElem?_cons_zero,List.set_cons_succ,List.set_cons_zero,List.map_cons,List.map_nil,List.length_cons,List.length_nil,List.cons_append,List.nil_append,List.append_nil,List.isEmpty_cons,List.isEmpty_nil,if_true,if_false,ite_true,ite_false,Bool.not_true,Bool.not_false,Bool.not_not,decide_true,true_and,and_true,false_and,and_false,Bool.false_eq_true,reduceCtorEq,decide_true,decide_false,ite_self,forall_const,Nat.zero_add,Nat.reduceAdd,Nat.reduceLeDiff,Nat.reduceLT,Nat.reduceEqDiff,Nat.reduceSub,Nat.reduceMul,Nat.reduceBEq,Int.reduceLT,Int.reduceLE,Int.reduceEq,Int.reduceNe,Int.reduceAdd,Int.reduceMul,Int.reduceSub,Int.reduceNeg,Int.reducePow,Int.reduceBEq,Int.reduceToNat,Int.reduceGT,Int.reduceGE,String.reduceBEq,zcn,zco,List.replicate_succ,List.replicate_zero,zcp,zcq,zcr,zcs,zct,zcu,zcv,zcw,zcx,zcy,zcz,zcA,zcB,zcC,zcD,zcE,zcF,zcG,zcH,zcI,zcJ,zcK,zcL,zcM,zcN,zcO,zcP,zcQ,zcR,zcS,zcT,zcU,zcV,zcW,zcX,zcY,zcZ,zc0,zc1,zc2,zc3,zc4,zc5,zc6,zc7,zc8,zc9,zda,zdb,zdc,Bool.true_or,Bool.or_true,Bool.false_or,Bool.or_false,Bool.and_true,Bool.true_and,Bool.and_false,Bool.false_and,Int.cast_ofNat_Int,Int.natCast_zero,Int.natCast_one,beq_self_eq_true,zdd,zde,zdf,zdg,zdh,wipeR,o_divisor]
  by_cases h : 0 < b
  · rw [if_pos h] at e1 e2
    simp [h, e1, e2, h1, h2]
    omega
  · rw [if_neg h] at e1 e2
    simp [h, e1, e2, h1, h2]
    omega
theorem o_ratio {a b : Int} (hb : b ≠ 0) (hs : b.natAbs < 2 ^ 8999) : Ok (m_ratio [.int a, .int b] S) Q = Q (rv (Rat.divInt a b)) S := by rw [e_ratio hb hs, zaa]
theorem e_ratio_sum {q r : Rat} {k l : Nat} [h : Sz q k] [g : Sz r l] (hk : k + l ≤ 8000) : m_ratio_sum [rv q, rv r] S = .ok (rv (q + r)) S := by
  refine Ok.eq (Ok_defM rfl ?_)
  have n1 := lg h.n g.n (by omega)
  have n2 : q.num.natAbs.log2 + (r.den : Int).natAbs.log2 < 1000000 := lg h.n g.d (by omega)
  have n3 : r.num.natAbs.log2 + (q.den : Int).natAbs.log2 < 1000000 := lg g.n h.d (by omega)
  have n4 : (q.den : Int).natAbs.log2 + (r.den : Int).natAbs.log2 < 1000000 := lg h.d g.d (by omega)
  have n5 : ((q.den : Int) * r.den).natAbs < 2 ^ 8999 := Nat.lt_of_lt_of_le (nDen h g) (Nat.pow_le_pow_right (by decide) (by omega))
  simp -dsimp (disch := first | assumption | omega) only [zaa,zab,zac,zad,zae,zaf,zag,zah,zai,zaj,zak,zal,zam,zan,zao,zap,zaq,zar,zas,zat,zau,zav,zaw,zax,zay,zaz,zaA,zaB,zaC,zaD,zaE,zaF,zaG,zaH,zaI,zaJ,zaK,zaL,zaM,zaN,zaO,zaP,zaQ,zaR,zaS,zaT,zaU,zaV,zaW,zaX,zaY,zaZ,za0,za1,za2,za3,za4,za5,za6,za7,za8,za9,zba,zbb,zbc,zbd,zbe,zbf,zbg,zbh,zbi,zbj,zbk,zbl,zbm,zbn,zbo,zbp,zbq,zbr,zbs,zbt,zbu,zbv,zbw,zbx,zby,zbz,zbA,zbB,zbC,zbD,zbE,zbF,zbG,zbH,zbI,zbJ,zbK,zbL,zbM,zbN,zbO,zbP,zbQ,zbR,zbS,zbT,zbU,zbV,zbW,zbX,zbY,zbZ,zb0,zb1,zb2,zb3,zb4,zb5,zb6,zb7,zb8,zb9,zca,zcb,eq_self,zcc,zcd,zce,zcf,zcg,zch,zci,zcj,zck,zcl,zcm,List.getElem?_cons_succ,List.getElem?_cons_zero,List.set_cons_succ,List.set_cons_zero,List.map_cons,List.map_nil,List.length_cons,List.length_nil,List.cons_append,List.nil_append,List.append_nil,List.isEmpty_cons,List.isEmpty_nil,if_true,if_false,ite_true,ite_false,Bool.not_true,Bool.not_false,Bool.not_not,decide_true,true_and,and_true,false_and,and_false,Bool.false_eq_true,reduceCtorEq,decide_true,decide_false,ite_self,forall_const,Nat.zero_add,Nat.reduceAdd,Nat.reduceLeDiff,Nat.reduceLT,Nat.reduceEqDiff,Nat.reduceSub,Nat.reduceMul,Nat.reduceBEq,Int.reduceLT,Int.reduceLE,Int.reduceEq,Int.reduceNe,Int.reduceAdd,Int.reduceMul,Int.reduceSub,Int.reduceNeg,Int.reducePow,Int.reduceBEq,Int.reduceToNat,Int.reduceGT,Int.reduceGE,String.reduceBEq,zcn,zco,List.replicate_succ,List.replicate_zero,zcp,zcq,zcr,zcs,zct,zcu,zcv,zcw,zcx,zcy,zcz,zcA,zcB,zcC,zcD,zcE,zcF,zcG,zcH,zcI,zcJ,zcK,zcL,zcM,zcN,zcO,zcP,zcQ,zcR,zcS,zcT,zcU,zcV,zcW,zcX,zcY,zcZ,zc0,zc1,zc2,zc3,zc4,zc5,zc6,zc7,zc8,zc9,zda,zdb,zdc,Bool.true_or,Bool.or_true,Bool.false_or,Bool.or_false,Bool.and_true,Bool.true_and,Bool.and_false,Bool.false_and,Int.cast_ofNat_Int,Int.natCast_zero,Int.natCast_one,beq_self_eq_true,zdd,zde,zdf,zdg,zdh,wipeR,n1,n2,n3,n4,o_ratio (dd_nz q r) n5,add_fr q r]
theorem o_ratio_sum {q r : Rat} {k l : Nat} [h : Sz q k] [g : Sz r l] (hk : k + l ≤ 8000) : Ok (m_ratio_sum [rv q, rv r] S) Q = Q (rv (q + r)) S := by rw [e_ratio_sum hk, zaa]
theorem e_ratio_less {q r : Rat} {k l : Nat} [h : Sz q k] [g : Sz r l] (hk : k + l ≤ 8000) : m_ratio_less [rv q, rv r] S = .ok (rv (q - r)) S := by
  refine Ok.eq (Ok_defM rfl ?_)
  have n1 := lg h.n g.n (by omega)
  have n2 : q.num.natAbs.log2 + (r.den : Int).natAbs.log2 < 1000000 := lg h.n g.d (by omega)
  have n3 : r.num.natAbs.log2 + (q.den : Int).natAbs.log2 < 1000000 := lg g.n h.d (by omega)
  have n4 : (q.den : Int).natAbs.log2 + (r.den : Int).natAbs.log2 < 1000000 := lg h.d g.d (by omega)
  have n5 : ((q.den : Int) * r.den).natAbs < 2 ^ 8999 := Nat.lt_of_lt_of_le (nDen h g) (Nat.pow_le_pow_right (by decide) (by omega))
  simp -dsimp (disch := first | assumption | omega) only [zaa,zab,zac,zad,zae,zaf,zag,zah,zai,zaj,zak,zal,zam,zan,zao,zap,zaq,zar,zas,zat,zau,zav,zaw,zax,zay,zaz,zaA,zaB,zaC,zaD,zaE,zaF,zaG,zaH,zaI,zaJ,zaK,zaL,zaM,zaN,zaO,zaP,zaQ,zaR,zaS,zaT,zaU,zaV,zaW,zaX,zaY,zaZ,za0,za1,za2,za3,za4,za5,za6,za7,za8,za9,zba,zbb,zbc,zbd,zbe,zbf,zbg,zbh,zbi,zbj,zbk,zbl,zbm,zbn,zbo,zbp,zbq,zbr,zbs,zbt,zbu,zbv,zbw,zbx,zby,zbz,zbA,zbB,zbC,zbD,zbE,zbF,zbG,zbH,zbI,zbJ,zbK,zbL,zbM,zbN,zbO,zbP,zbQ,zbR,zbS,zbT,zbU,zbV,zbW,zbX,zbY,zbZ,zb0,zb1,zb2,zb3,zb4,zb5,zb6,zb7,zb8,zb9,zca,zcb,eq_self,zcc,zcd,zce,zcf,zcg,zch,zci,zcj,zck,zcl,zcm,List.getElem?_cons_succ,List.getElem?_cons_zero,List.set_cons_succ,List.set_cons_zero,List.map_cons,List.map_nil,List.length_cons,List.length_nil,List.cons_append,List.nil_append,List.append_nil,List.isEmpty_cons,List.isEmpty_nil,if_true,if_false,ite_true,ite_false,Bool.not_true,Bool.not_false,Bool.not_not,decide_true,true_and,and_true,false_and,and_false,Bool.false_eq_true,reduceCtorEq,decide_true,decide_false,ite_self,forall_const,Nat.zero_add,Nat.reduceAdd,Nat.reduceLeDiff,Nat.reduceLT,Nat.reduceEqDiff,Nat.reduceSub,Nat.reduceMul,Nat.reduceBEq,Int.reduceLT,Int.reduceLE,Int.reduceEq,Int.reduceNe,Int.reduceAdd,Int.reduceMul,Int.reduceSub,Int.reduceNeg,Int.reducePow,Int.reduceBEq,Int.reduceToNat,Int.reduceGT,Int.reduceGE,String.reduceBEq,zcn,zco,List.replicate_succ,List.replicate_zero,zcp,zcq,zcr,zcs,zct,zcu,zcv,zcw,zcx,zcy,zcz,zcA,zcB,zcC,zcD,zcE,zcF,zcG,zcH,zcI,zcJ,zcK,zcL,zcM,zcN,zcO,zcP,zcQ,zcR,zcS,zcT,zcU,zcV,zcW,zcX,zcY,zcZ,zc0,zc1,zc2,zc3,zc4,zc5,zc6,zc7,zc8,zc9,zda,zdb,zdc,Bool.true_or,Bool.or_true,Bool.false_or,Bool.or_false,Bool.and_true,Bool.true_and,Bool.and_false,Bool.false_and,Int.cast_ofNat_Int,Int.natCast_zero,Int.natCast_one,beq_self_eq_true,zdd,zde,zdf,zdg,zdh,wipeR,n1,n2,n3,n4,o_ratio (dd_nz q r) n5,sub_fr q r]
theorem o_ratio_less {q r : Rat} {k l : Nat} [h : Sz q k] [g : Sz r l] (hk : k + l ≤ 8000) : Ok (m_ratio_less [rv q, rv r] S) Q = Q (rv (q - r)) S := by rw [e_ratio_less hk, zaa]
theorem e_ratio_product {q r : Rat} {k l : Nat} [h : Sz q k] [g : Sz r l] (hk : k + l ≤ 8000) : m_ratio_product [rv q, rv r] S = .ok (rv (q * r)) S := by
  refine Ok.eq (Ok_defM rfl ?_)
  have n1 := lg h.n g.n (by omega)
  have n2 : q.num.natAbs.log2 + (r.den : Int).natAbs.log2 < 1000000 := lg h.n g.d (by omega)
  have n3 : r.num.natAbs.log2 + (q.den : Int).natAbs.log2 < 1000000 := lg g.n h.d (by omega)
  have n4 : (q.den : Int).natAbs.log2 + (r.den : Int).natAbs.log2 < 1000000 := lg h.d g.d (by omega)
  have n5 : ((q.den : Int) * r.den).natAbs < 2 ^ 8999 := Nat.lt_of_lt_of_le (nDen h g) (Nat.pow_le_pow_right (by decide) (by omega))
  simp -dsimp (disch := first | assumption | omega) only [zaa,zab,zac,zad,zae,zaf,zag,zah,zai,zaj,zak,zal,zam,zan,zao,zap,zaq,zar,zas,zat,zau,zav,zaw,zax,zay,zaz,zaA,zaB,zaC,zaD,zaE,zaF,zaG,zaH,zaI,zaJ,zaK,zaL,zaM,zaN,zaO,zaP,zaQ,zaR,zaS,zaT,zaU,zaV,zaW,zaX,zaY,zaZ,za0,za1,za2,za3,za4,za5,za6,za7,za8,za9,zba,zbb,zbc,zbd,zbe,zbf,zbg,zbh,zbi,zbj,zbk,zbl,zbm,zbn,zbo,zbp,zbq,zbr,zbs,zbt,zbu,zbv,zbw,zbx,zby,zbz,zbA,zbB,zbC,zbD,zbE,zbF,zbG,zbH,zbI,zbJ,zbK,zbL,zbM,zbN,zbO,zbP,zbQ,zbR,zbS,zbT,zbU,zbV,zbW,zbX,zbY,zbZ,zb0,zb1,zb2,zb3,zb4,zb5,zb6,zb7,zb8,zb9,zca,zcb,eq_self,zcc,zcd,zce,zcf,zcg,zch,zci,zcj,zck,zcl,zcm,List.getElem?_cons_succ,List.getElem?_cons_zero,List.set_cons_succ,List.set_cons_zero,List.map_cons,List.map_nil,List.length_cons,List.length_nil,List.cons_append,List.nil_append,List.append_nil,List.isEmpty_cons,List.isEmpty_nil,if_true,if_false,ite_true,ite_false,Bool.not_true,Bool.not_false,Bool.not_not,decide_true,true_and,and_true,false_and,and_false,Bool.false_eq_true,reduceCtorEq,decide_true,decide_false,ite_self,forall_const,Nat.zero_add,Nat.reduceAdd,Nat.reduceLeDiff,Nat.reduceLT,Nat.reduceEqDiff,Nat.reduceSub,Nat.reduceMul,Nat.reduceBEq,Int.reduceLT,Int.reduceLE,Int.reduceEq,Int.reduceNe,Int.reduceAdd,Int.reduceMul,Int.reduceSub,Int.reduceNeg,Int.reducePow,Int.reduceBEq,Int.reduceToNat,Int.reduceGT,Int.reduceGE,String.reduceBEq,zcn,zco,List.replicate_succ,List.replicate_zero,zcp,zcq,zcr,zcs,zct,zcu,zcv,zcw,zcx,zcy,zcz,zcA,zcB,zcC,zcD,zcE,zcF,zcG,zcH,zcI,zcJ,zcK,zcL,zcM,zcN,zcO,zcP,zcQ,zcR,zcS,zcT,zcU,zcV,zcW,zcX,zcY,zcZ,zc0,zc1,zc2,zc3,zc4,zc5,zc6,zc7,zc8,zc9,zda,zdb,zdc,Bool.true_or,Bool.or_true,Bool.false_or,Bool.or_false,Bool.and_true,Bool.true_and,Bool.and_false,Bool.false_and,Int.cast_ofNat_Int,Int.natCast_zero,Int.natCast_one,beq_self_eq_true,zdd,zde,zdf,zdg,zdh,wipeR,n1,n2,n3,n4,o_ratio (dd_nz q r) n5,mul_fr q r]
theorem o_ratio_product {q r : Rat} {k l : Nat} [h : Sz q k] [g : Sz r l] (hk : k + l ≤ 8000) : Ok (m_ratio_product [rv q, rv r] S) Q = Q (rv (q * r)) S := by rw [e_ratio_product hk, zaa]
theorem e_ratio_over {q r : Rat} {k l : Nat} [h : Sz q k] [g : Sz r l] (hr : r ≠ 0) (hk : k + l ≤ 8000) : m_ratio_over [rv q, rv r] S = .ok (rv (q / r)) S := by
  refine Ok.eq (Ok_defM rfl ?_)
  have n2 : q.num.natAbs.log2 + (r.den : Int).natAbs.log2 < 1000000 := lg h.n g.d (by omega)
  have n4 : (q.den : Int).natAbs.log2 + r.num.natAbs.log2 < 1000000 := lg h.d g.n (by omega)
  have n5 : ((q.den : Int) * r.num).natAbs < 2 ^ 8999 := Nat.lt_of_lt_of_le (nDivD h g) (Nat.pow_le_pow_right (by decide) (by omega))
  simp -dsimp (disch := first | assumption | omega) only [zaa,zab,zac,zad,zae,zaf,zag,zah,zai,zaj,zak,zal,zam,zan,zao,zap,zaq,zar,zas,zat,zau,zav,zaw,zax,zay,zaz,zaA,zaB,zaC,zaD,zaE,zaF,zaG,zaH,zaI,zaJ,zaK,zaL,zaM,zaN,zaO,zaP,zaQ,zaR,zaS,zaT,zaU,zaV,zaW,zaX,zaY,zaZ,za0,za1,za2,za3,za4,za5,za6,za7,za8,za9,zba,zbb,zbc,zbd,zbe,zbf,zbg,zbh,zbi,zbj,zbk,zbl,zbm,zbn,zbo,zbp,zbq,zbr,zbs,zbt,zbu,zbv,zbw,zbx,zby,zbz,zbA,zbB,zbC,zbD,zbE,zbF,zbG,zbH,zbI,zbJ,zbK,zbL,zbM,zbN,zbO,zbP,zbQ,zbR,zbS,zbT,zbU,zbV,zbW,zbX,zbY,zbZ,zb0,zb1,zb2,zb3,zb4,zb5,zb6,zb7,zb8,zb9,zca,zcb,eq_self,zcc,zcd,zce,zcf,zcg,zch,zci,zcj,zck,zcl,zcm,List.getElem?_cons_succ,List.getElem?_cons_zero,List.set_cons_succ,List.set_cons_zero,List.map_cons,List.map_nil,List.length_cons,List.length_nil,List.cons_append,List.nil_append,List.append_nil,List.isEmpty_cons,List.isEmpty_nil,if_true,if_false,ite_true,ite_false,Bool.not_true,Bool.not_false,Bool.not_not,decide_true,true_and,and_true,false_and,and_false,Bool.false_eq_true,reduceCtorEq,decide_true,decide_false,ite_self,forall_const,Nat.zero_add,Nat.reduceAdd,Nat.reduceLeDiff,Nat.reduceLT,Nat.reduceEqDiff,Nat.reduceSub,Nat.reduceMul,Nat.reduceBEq,Int.reduceLT,Int.reduceLE,Int.reduceEq,Int.reduceNe,Int.reduceAdd,Int.reduceMul,Int.reduceSub,Int.reduceNeg,Int.reducePow,Int.reduceBEq,Int.reduceToNat,Int.reduceGT,Int.reduceGE,String.reduceBEq,zcn,zco,List.replicate_succ,List.replicate_zero,zcp,zcq,zcr,zcs,zct,zcu,zcv,zcw,zcx,zcy,zcz,zcA,zcB,zcC,zcD,zcE,zcF,zcG,zcH,zcI,zcJ,zcK,zcL,zcM,zcN,zcO,zcP,zcQ,zcR,zcS,zcT,zcU,zcV,zcW,zcX,zcY,zcZ,zc0,zc1,zc2,zc3,zc4,zc5,zc6,zc7,zc8,zc9,zda,zdb,zdc,Bool.true_or,Bool.or_true,Bool.false_or,Bool.or_false,Bool.and_true,Bool.true_and,Bool.and_false,Bool.false_and,Int.cast_ofNat_Int,Int.natCast_zero,Int.natCast_one,beq_self_eq_true,zdd,zde,zdf,zdg,zdh,wipeR,n2,n4,o_ratio (Int.mul_ne_zero (den_nz q) (num_nz hr)) n5,div_fr q r]
theorem o_ratio_over {q r : Rat} {k l : Nat} [h : Sz q k] [g : Sz r l] (hr : r ≠ 0) (hk : k + l ≤ 8000) : Ok (m_ratio_over [rv q, rv r] S) Q = Q (rv (q / r)) S := by rw [e_ratio_over hr hk, zaa]
end
end Pm.L

namespace Pm.L
open PySem PySem.Spec L2 Pm
section
variable {S : Sto} {Q : PV → Sto → Prop}
theorem abs_nat (a : Int) : (if a < 0 then -a else a) = (a.natAbs : Int) := by omega
end
end Pm.L

namespace Pm.L
open PySem PySem.Spec L2 Pm
section
variable {S : Sto} {Q : PV → Sto → Prop}
end
end Pm.L

namespace Pm.L
open PySem PySem.Spec L2 Pm
section
variable {S : Sto} {Q : PV → Sto → Prop}
end
end Pm.L

namespace Pm.L
open PySem PySem.Spec L2 Pm
abbrev jv (s b : Rat) : PV := .tup [rv s, rv b]
section
variable {S : Sto} {Q : PV → Sto → Prop}
theorem num_pos {b : Rat} (hb : 0 < b) : 0 < b.num := by
  have h1 := Rat.num_nonneg.mpr (Rat.le_of_lt hb)
  have h2 := num_nz (Rat.ne_of_gt hb)
  omega
theorem o_is_stream_pair {s b : Rat} (hb : 0 < b) : Ok (m_is_stream_pair [jv s b] S) Q = Q (.bl true) S := by
  have e : m_is_stream_pair [jv s b] S = .ok (.bl true) S := by
    refine Ok.eq (Ok_defM rfl ?_)
    have h := num_pos hb
    simp -dsimp (disch := first | assumption | omega) only [zaa,zab,zac,zad,zae,zaf,zag,zah,zai,zaj,zak,zal,zam,zan,zao,zap,zaq,zar,zas,zat,zau,zav,zaw,zax,zay,zaz,zaA,zaB,zaC,zaD,zaE,zaF,zaG,zaH,zaI,zaJ,zaK,zaL,zaM,zaN,zaO,zaP,zaQ,zaR,zaS,zaT,zaU,zaV,zaW,zaX,zaY,zaZ,za0,za1,za2,za3,za4,za5,za6,za7,za8,za9,zba,zbb,zbc,zbd,zbe,zbf,zbg,zbh,zbi,zbj,zbk,zbl,zbm,zbn,zbo,zbp,zbq,zbr,zbs,zbt,zbu,zbv,zbw,zbx,zby,zbz,zbA,zbB,zbC,zbD,zbE,zbF,zbG,zbH,zbI,zbJ,zbK,zbL,zbM,zbN,zbO,zbP,zbQ,zbR,zbS,zbT,zbU,zbV,zbW,zbX,zbY,zbZ,zb0,zb1,zb2,zb3,zb4,zb5,zb6,zb7,zb8,zb9,zca,zcb,eq_self,zcc,zcd,zce,zcf,zcg,zch,zci,zcj,zck,zcl,zcm,List.getElem?_cons_succ,List.getElem?_cons_zero,List.set_cons_succ,List.set_cons_zero,List.map_cons,List.map_nil,List.length_cons,List.length_nil,List.cons_append,List.nil_append,List.append_nil,List.isEmpty_cons,List.isEmpty_nil,if_true,if_false,ite_true,ite_false,Bool.not_true,Bool.not_false,Bool.not_not,decide_true,true_and,and_true,false_and,and_false,Bool.false_eq_true,reduceCtorEq,decide_true,decide_false,ite_self,forall_const,Nat.zero_add,Nat.reduceAdd,Nat.reduceLeDiff,Nat.reduceLT,Nat.reduceEqDiff,Nat.reduceSub,Nat.reduceMul,Nat.reduceBEq,Int.reduceLT,Int.reduceLE,Int.reduceEq,Int.reduceNe,Int.reduceAdd,Int.reduceMul,Int.reduceSub,Int.reduceNeg,Int.reducePow,Int.reduceBEq,Int.reduceToNat,Int.reduceGT,Int.reduceGE,String.reduceBEq,zcn,zco,List.replicate_succ,List.replicate_zero,zcp,zcq,zcr,zcs,zct,zcu,zcv,zcw,zcx,zcy,zcz,zcA,zcB,zcC,zcD,zcE,zcF,zcG,zcH,zcI,zcJ,zcK,zcL,zcM,zcN,zcO,zcP,zcQ,zcR,zcS,zcT,zcU,zcV,zcW,zcX,zcY,zcZ,zc0,zc1,zc2,zc3,zc4,zc5,zc6,zc7,zc8,zc9,zda,zdb,zdc,Bool.true_or,Bool.or_true,Bool.false_or,Bool.or_false,Bool.and_true,Bool.true_and,Bool.and_false,Bool.false_and,Int.cast_ofNat_Int,Int.natCast_zero,Int.natCast_one,beq_self_eq_true,zdd,zde,zdf,zdg,zdh,wipeR,o_is_ratio,h]
  rw [e, zaa]
theorem o_check_jet {s b : Rat} (hb : 0 < b) : Ok (m_check_jet [jv s b] S) Q = Q .non S := by
  have e : m_check_jet [jv s b] S = .ok .non S := by
    refine Ok.eq (Ok_defM rfl ?_)
    simp -dsimp (disch := first | assumption | omega) only [zaa,zab,zac,zad,zae,zaf,zag,zah,zai,zaj,zak,zal,zam,zan,zao,zap,zaq,zar,zas,zat,zau,zav,zaw,zax,zay,zaz,zaA,zaB,zaC,zaD,zaE,zaF,zaG,zaH,zaI,zaJ,zaK,zaL,zaM,zaN,zaO,zaP,zaQ,zaR,zaS,zaT,zaU,zaV,zaW,zaX,zaY,zaZ,za0,za1,za2,za3,za4,za5,za6,za7,za8,za9,zba,zbb,zbc,zbd,zbe,zbf,zbg,zbh,zbi,zbj,zbk,zbl,zbm,zbn,zbo,zbp,zbq,zbr,zbs,zbt,zbu,zbv,zbw,zbx,zby,zbz,zbA,zbB,zbC,zbD,zbE,zbF,zbG,zbH,zbI,zbJ,zbK,zbL,zbM,zbN,zbO,zbP,zbQ,zbR,zbS,zbT,zbU,zbV,zbW,zbX,zbY,zbZ,zb0,zb1,zb2,zb3,zb4,zb5,zb6,zb7,zb8,zb9,zca,zcb,eq_self,zcc,zcd,zce,zcf,zcg,zch,zci,zcj,zck,zcl,zcm,List.getElem?_cons_succ,List.getElem?_cons_zero,List.set_cons_succ,List.set_cons_zero,List.map_cons,List.map_nil,List.length_cons,List.length_nil,List.cons_append,List.nil_append,List.append_nil,List.isEmpty_cons,List.isEmpty_nil,if_true,if_false,ite_true,ite_false,Bool.not_true,Bool.not_false,Bool.not_not,decide_true,true_and,and_true,false_and,and_false,Bool.false_eq_true,reduceCtorEq,decide_true,decide_false,ite_self,forall_const,Nat.zero_add,Nat.reduceAdd,Nat.reduceLeDiff,Nat.reduceLT,Nat.reduceEqDiff,Nat.reduceSub,Nat.reduceMul,Nat.reduceBEq,Int.reduceLT,Int.reduceLE,Int.reduceEq,Int.reduceNe,Int.reduceAdd,Int.reduceMul,Int.reduceSub,Int.reduceNeg,Int.reducePow,Int.reduceBEq,Int.reduceToNat,Int.reduceGT,Int.reduceGE,String.reduceBEq,zcn,zco,List.replicate_succ,List.replicate_zero,zcp,zcq,zcr,zcs,zct,zcu,zcv,zcw,zcx,zcy,zcz,zcA,zcB,zcC,zcD,zcE,zcF,zcG,zcH,zcI,zcJ,zcK,zcL,zcM,zcN,zcO,zcP,zcQ,zcR,zcS,zcT,zcU,zcV,zcW,zcX,zcY,zcZ,zc0,zc1,zc2,zc3,zc4,zc5,zc6,zc7,zc8,zc9,zda,zdb,zdc,Bool.true_or,Bool.or_true,Bool.false_or,Bool.or_false,Bool.and_true,Bool.true_and,Bool.and_false,Bool.false_and,Int.cast_ofNat_Int,Int.natCast_zero,Int.natCast_one,beq_self_eq_true,zdd,zde,zdf,zdg,zdh,wipeR,o_is_stream_pair]
  rw [e, zaa]
theorem v_ZERO_rv : v_ZERO = rv 0 := rfl
theorem v_ONE_rv : v_ONE = rv 1 := rfl
theorem lt_ne {b : Rat} (hb : 0 < b) : b ≠ 0 := Rat.ne_of_gt hb
theorem four_nz {b : Rat} (hb : 0 < b) : 4 * b ≠ 0 := Rat.ne_of_gt (Rat.mul_pos (by decide) hb)
section
variable {s b d : Rat} {k l m : Nat} [hs : Sz s k] [hz : Sz b l] [hy : Sz d m]
theorem o_height_of_jet (hk : k + l + m ≤ 2000) : Ok (m_height_of_jet [jv s b, rv d] S) Q = Q (rv (d * (s - b * d))) S := by
  have e : m_height_of_jet [jv s b, rv d] S = .ok (rv (d * (s - b * d))) S := by
    refine Ok.eq (Ok_defM rfl ?_)
    simp -dsimp (disch := first | assumption | omega) only [zaa,zab,zac,zad,zae,zaf,zag,zah,zai,zaj,zak,zal,zam,zan,zao,zap,zaq,zar,zas,zat,zau,zav,zaw,zax,zay,zaz,zaA,zaB,zaC,zaD,zaE,zaF,zaG,zaH,zaI,zaJ,zaK,zaL,zaM,zaN,zaO,zaP,zaQ,zaR,zaS,zaT,zaU,zaV,zaW,zaX,zaY,zaZ,za0,za1,za2,za3,za4,za5,za6,za7,za8,za9,zba,zbb,zbc,zbd,zbe,zbf,zbg,zbh,zbi,zbj,zbk,zbl,zbm,zbn,zbo,zbp,zbq,zbr,zbs,zbt,zbu,zbv,zbw,zbx,zby,zbz,zbA,zbB,zbC,zbD,zbE,zbF,zbG,zbH,zbI,zbJ,zbK,zbL,zbM,zbN,zbO,zbP,zbQ,zbR,zbS,zbT,zbU,zbV,zbW,zbX,zbY,zbZ,zb0,zb1,zb2,zb3,zb4,zb5,zb6,zb7,zb8,zb9,zca,zcb,eq_self,zcc,zcd,zce,zcf,zcg,zch,zci,zcj,zck,zcl,zcm,List.getElem?_cons_succ,List.getElem?_cons_zero,List.set_cons_succ,List.set_cons_zero,List.map_cons,List.map_nil,List.length_cons,List.length_nil,List.cons_append,List.nil_append,List.append_nil,List.isEmpty_cons,List.isEmpty_nil,if_true,if_false,ite_true,ite_false,Bool.not_true,Bool.not_false,Bool.not_not,decide_true,true_and,and_true,false_and,and_false,Bool.false_eq_true,reduceCtorEq,decide_true,decide_false,ite_self,forall_const,Nat.zero_add,Nat.reduceAdd,Nat.reduceLeDiff,Nat.reduceLT,Nat.reduceEqDiff,Nat.reduceSub,Nat.reduceMul,Nat.reduceBEq,Int.reduceLT,Int.reduceLE,Int.reduceEq,Int.reduceNe,Int.reduceAdd,Int.reduceMul,Int.reduceSub,Int.reduceNeg,Int.reducePow,Int.reduceBEq,Int.reduceToNat,Int.reduceGT,Int.reduceGE,String.reduceBEq,zcn,zco,List.replicate_succ,List.replicate_zero,zcp,zcq,zcr,zcs,zct,zcu,zcv,zcw,zcx,zcy,zcz,zcA,zcB,zcC,zcD,zcE,zcF,zcG,zcH,zcI,zcJ,zcK,zcL,zcM,zcN,zcO,zcP,zcQ,zcR,zcS,zcT,zcU,zcV,zcW,zcX,zcY,zcZ,zc0,zc1,zc2,zc3,zc4,zc5,zc6,zc7,zc8,zc9,zda,zdb,zdc,Bool.true_or,Bool.or_true,Bool.false_or,Bool.or_false,Bool.and_true,Bool.true_and,Bool.and_false,Bool.false_and,Int.cast_ofNat_Int,Int.natCast_zero,Int.natCast_one,beq_self_eq_true,zdd,zde,zdf,zdg,zdh,wipeR,o_ratio_product,o_ratio_less]
  rw [e, zaa]
end
section
variable {s b d : Rat} {k l m : Nat} [hs : Sz s k] [hz : Sz b l]
end
end
end Pm.L

namespace Pm.L
open PySem PySem.Spec L2 Pm
section
variable {S : Sto} {Q : PV → Sto → Prop}
theorem t01 : PV.tup [.int 0, .int 1] = rv 0 := rfl
theorem t11 : PV.tup [.int 1, .int 1] = rv 1 := rfl
theorem t21 : PV.tup [.int 2, .int 1] = rv 2 := rfl
theorem t41 : PV.tup [.int 4, .int 1] = rv 4 := rfl
theorem t14 : PV.tup [.int 1, .int 4] = rv (1 / 4) := by
  have h1 : (1 / 4 : Rat).num = 1 := by decide +kernel
  have h2 : (1 / 4 : Rat).den = 4 := by decide +kernel
  unfold rv
  rw [h1, h2]; rfl
theorem frac_sz {a b : Int} {k : Nat} (hb : b ≠ 0) (ha : a.natAbs < 2 ^ k) (hk : b.natAbs < 2 ^ k) : Sz (Rat.divInt a b) k := sz_fr hb ha hk
theorem frac_pos {a b : Int} (ha : 0 < a) (hb : 0 < b) : 0 < Rat.divInt a b := by
  rw [Rat.divInt_eq_div, Rat.div_def]
  exact Rat.mul_pos (Rat.intCast_pos.mpr ha) (Rat.inv_pos.mpr (Rat.intCast_pos.mpr hb))
section
variable {s b d : Rat} {k l m : Nat} [hs : Sz s k] [hz : Sz b l]
end
end
end Pm.L

namespace Pm.L
open PySem PySem.Spec L2 Pm
section
variable {S : Sto} {Q : PV → Sto → Prop}
theorem e_divisor3 {a b c : Int} : m_divisor_of [.tup [.int a, .int b, .int c]] S = .ok (.int (g3 a b c)) S := by
  refine Ok.eq (Ok_defM rfl ?_)
  simp -dsimp (disch := first | assumption | omega) only [zaa,zab,zac,zad,zae,zaf,zag,zah,zai,zaj,zak,zal,zam,zan,zao,zap,zaq,zar,zas,zat,zau,zav,zaw,zax,zay,zaz,zaA,zaB,zaC,zaD,zaE,zaF,zaG,zaH,zaI,zaJ,zaK,zaL,zaM,zaN,zaO,zaP,zaQ,zaR,zaS,zaT,zaU,zaV,zaW,zaX,zaY,zaZ,za0,za1,za2,za3,za4,za5,za6,za7,za8,za9,zba,zbb,zbc,zbd,zbe,zbf,zbg,zbh,zbi,zbj,zbk,zbl,zbm,zbn,zbo,zbp,zbq,zbr,zbs,zbt,zbu,zbv,zbw,zbx,zby,zbz,zbA,zbB,zbC,zbD,zbE,zbF,zbG,zbH,zbI,zbJ,zbK,zbL,zbM,zbN,zbO,zbP,zbQ,zbR,zbS,zbT,zbU,zbV,zbW,zbX,zbY,zbZ,zb0,zb1,zb2,zb3,zb4,zb5,zb6,zb7,zb8,zb9,zca,zcb,eq_self,zcc,zcd,zce,zcf,zcg,zch,zci,zcj,zck,zcl,zcm,List.getElem?_cons_succ,List.getElem?_cons_zero,List.set_cons_succ,List.set_cons_zero,List.map_cons,List.map_nil,List.length_cons,List.length_nil,List.cons_append,List.nil_append,List.append_nil,List.isEmpty_cons,List.isEmpty_nil,if_true,if_false,ite_true,ite_false,Bool.not_true,Bool.not_false,Bool.not_not,decide_true,true_and,and_true,false_and,and_false,Bool.false_eq_true,reduceCtorEq,decide_true,decide_false,ite_self,forall_const,Nat.zero_add,Nat.reduceAdd,Nat.reduceLeDiff,Nat.reduceLT,Nat.reduceEqDiff,Nat.reduceSub,Nat.reduceMul,Nat.reduceBEq,Int.reduceLT,Int.reduceLE,Int.reduceEq,Int.reduceNe,Int.reduceAdd,Int.reduceMul,Int.reduceSub,Int.reduceNeg,Int.reducePow,Int.reduceBEq,Int.reduceToNat,Int.reduceGT,Int.reduceGE,String.reduceBEq,zcn,zco,List.replicate_succ,List.replicate_zero,zcp,zcq,zcr,zcs,zct,zcu,zcv,zcw,zcx,zcy,zcz,zcA,zcB,zcC,zcD,zcE,zcF,zcG,zcH,zcI,zcJ,zcK,zcL,zcM,zcN,zcO,zcP,zcQ,zcR,zcS,zcT,zcU,zcV,zcW,zcX,zcY,zcZ,zc0,zc1,zc2,zc3,zc4,zc5,zc6,zc7,zc8,zc9,zda,zdb,zdc,Bool.true_or,Bool.or_true,Bool.false_or,Bool.or_false,Bool.and_true,Bool.true_and,Bool.and_false,Bool.false_and,Int.cast_ofNat_Int,Int.natCast_zero,Int.natCast_one,beq_self_eq_true,zdd,zde,zdf,zdg,zdh,wipeR]
  simp [Int.gcd, g3]
theorem o_divisor3 {a b c : Int} : Ok (m_divisor_of [.tup [.int a, .int b, .int c]] S) Q = Q (.int (g3 a b c)) S := by rw [e_divisor3, zaa]
theorem g3_nz {a b w : Int} (h : 0 < w) : (g3 a b w : Int) ≠ 0 := by have := g3_pos (a := a) (b := b) (w := w) (by omega); omega
theorem log_g3 {a b w : Int} {k : Nat} (hw : 0 < w) (h : w.natAbs < 2 ^ k) : (g3 a b w).log2 < k := log_gcd (by omega) h
theorem pW_sz {x y : Rat} {k l : Nat} (h : Sz x k) (g : Sz y l) (hk : k + l ≤ 8000) : (pW x y).natAbs < 2 ^ 8999 := Nat.lt_of_lt_of_le (pW_lt h g) (Nat.pow_le_pow_right (by decide) (by omega))
theorem pW_nz (x y : Rat) : pW x y ≠ 0 := by have := pW_pos x y; omega
theorem o_far_of {x y : Rat} {k l : Nat} [h : Sz x k] [g : Sz y l] (hk : k + l ≤ 8000) : Ok (m_far_of [pl x y] S) Q = Q (rv x) S := by
  have e : m_far_of [pl x y] S = .ok (rv x) S := by
    refine Ok.eq (Ok_defM rfl ?_)
    simp -dsimp (disch := first | assumption | omega) only [zaa,zab,zac,zad,zae,zaf,zag,zah,zai,zaj,zak,zal,zam,zan,zao,zap,zaq,zar,zas,zat,zau,zav,zaw,zax,zay,zaz,zaA,zaB,zaC,zaD,zaE,zaF,zaG,zaH,zaI,zaJ,zaK,zaL,zaM,zaN,zaO,zaP,zaQ,zaR,zaS,zaT,zaU,zaV,zaW,zaX,zaY,zaZ,za0,za1,za2,za3,za4,za5,za6,za7,za8,za9,zba,zbb,zbc,zbd,zbe,zbf,zbg,zbh,zbi,zbj,zbk,zbl,zbm,zbn,zbo,zbp,zbq,zbr,zbs,zbt,zbu,zbv,zbw,zbx,zby,zbz,zbA,zbB,zbC,zbD,zbE,zbF,zbG,zbH,zbI,zbJ,zbK,zbL,zbM,zbN,zbO,zbP,zbQ,zbR,zbS,zbT,zbU,zbV,zbW,zbX,zbY,zbZ,zb0,zb1,zb2,zb3,zb4,zb5,zb6,zb7,zb8,zb9,zca,zcb,eq_self,zcc,zcd,zce,zcf,zcg,zch,zci,zcj,zck,zcl,zcm,List.getElem?_cons_succ,List.getElem?_cons_zero,List.set_cons_succ,List.set_cons_zero,List.map_cons,List.map_nil,List.length_cons,List.length_nil,List.cons_append,List.nil_append,List.append_nil,List.isEmpty_cons,List.isEmpty_nil,if_true,if_false,ite_true,ite_false,Bool.not_true,Bool.not_false,Bool.not_not,decide_true,true_and,and_true,false_and,and_false,Bool.false_eq_true,reduceCtorEq,decide_true,decide_false,ite_self,forall_const,Nat.zero_add,Nat.reduceAdd,Nat.reduceLeDiff,Nat.reduceLT,Nat.reduceEqDiff,Nat.reduceSub,Nat.reduceMul,Nat.reduceBEq,Int.reduceLT,Int.reduceLE,Int.reduceEq,Int.reduceNe,Int.reduceAdd,Int.reduceMul,Int.reduceSub,Int.reduceNeg,Int.reducePow,Int.reduceBEq,Int.reduceToNat,Int.reduceGT,Int.reduceGE,String.reduceBEq,zcn,zco,List.replicate_succ,List.replicate_zero,zcp,zcq,zcr,zcs,zct,zcu,zcv,zcw,zcx,zcy,zcz,zcA,zcB,zcC,zcD,zcE,zcF,zcG,zcH,zcI,zcJ,zcK,zcL,zcM,zcN,zcO,zcP,zcQ,zcR,zcS,zcT,zcU,zcV,zcW,zcX,zcY,zcZ,zc0,zc1,zc2,zc3,zc4,zc5,zc6,zc7,zc8,zc9,zda,zdb,zdc,Bool.true_or,Bool.or_true,Bool.false_or,Bool.or_false,Bool.and_true,Bool.true_and,Bool.and_false,Bool.false_and,Int.cast_ofNat_Int,Int.natCast_zero,Int.natCast_one,beq_self_eq_true,zdd,zde,zdf,zdg,zdh,wipeR,o_ratio (pW_nz x y) (pW_sz h g hk),p_far]
  rw [e, zaa]
theorem o_tall_of {x y : Rat} {k l : Nat} [h : Sz x k] [g : Sz y l] (hk : k + l ≤ 8000) : Ok (m_tall_of [pl x y] S) Q = Q (rv y) S := by
  have e : m_tall_of [pl x y] S = .ok (rv y) S := by
    refine Ok.eq (Ok_defM rfl ?_)
    simp -dsimp (disch := first | assumption | omega) only [zaa,zab,zac,zad,zae,zaf,zag,zah,zai,zaj,zak,zal,zam,zan,zao,zap,zaq,zar,zas,zat,zau,zav,zaw,zax,zay,zaz,zaA,zaB,zaC,zaD,zaE,zaF,zaG,zaH,zaI,zaJ,zaK,zaL,zaM,zaN,zaO,zaP,zaQ,zaR,zaS,zaT,zaU,zaV,zaW,zaX,zaY,zaZ,za0,za1,za2,za3,za4,za5,za6,za7,za8,za9,zba,zbb,zbc,zbd,zbe,zbf,zbg,zbh,zbi,zbj,zbk,zbl,zbm,zbn,zbo,zbp,zbq,zbr,zbs,zbt,zbu,zbv,zbw,zbx,zby,zbz,zbA,zbB,zbC,zbD,zbE,zbF,zbG,zbH,zbI,zbJ,zbK,zbL,zbM,zbN,zbO,zbP,zbQ,zbR,zbS,zbT,zbU,zbV,zbW,zbX,zbY,zbZ,zb0,zb1,zb2,zb3,zb4,zb5,zb6,zb7,zb8,zb9,zca,zcb,eq_self,zcc,zcd,zce,zcf,zcg,zch,zci,zcj,zck,zcl,zcm,List.getElem?_cons_succ,List.getElem?_cons_zero,List.set_cons_succ,List.set_cons_zero,List.map_cons,List.map_nil,List.length_cons,List.length_nil,List.cons_append,List.nil_append,List.append_nil,List.isEmpty_cons,List.isEmpty_nil,if_true,if_false,ite_true,ite_false,Bool.not_true,Bool.not_false,Bool.not_not,decide_true,true_and,and_true,false_and,and_false,Bool.false_eq_true,reduceCtorEq,decide_true,decide_false,ite_self,forall_const,Nat.zero_add,Nat.reduceAdd,Nat.reduceLeDiff,Nat.reduceLT,Nat.reduceEqDiff,Nat.reduceSub,Nat.reduceMul,Nat.reduceBEq,Int.reduceLT,Int.reduceLE,Int.reduceEq,Int.reduceNe,Int.reduceAdd,Int.reduceMul,Int.reduceSub,Int.reduceNeg,Int.reducePow,Int.reduceBEq,Int.reduceToNat,Int.reduceGT,Int.reduceGE,String.reduceBEq,zcn,zco,List.replicate_succ,List.replicate_zero,zcp,zcq,zcr,zcs,zct,zcu,zcv,zcw,zcx,zcy,zcz,zcA,zcB,zcC,zcD,zcE,zcF,zcG,zcH,zcI,zcJ,zcK,zcL,zcM,zcN,zcO,zcP,zcQ,zcR,zcS,zcT,zcU,zcV,zcW,zcX,zcY,zcZ,zc0,zc1,zc2,zc3,zc4,zc5,zc6,zc7,zc8,zc9,zda,zdb,zdc,Bool.true_or,Bool.or_true,Bool.false_or,Bool.or_false,Bool.and_true,Bool.true_and,Bool.and_false,Bool.false_and,Int.cast_ofNat_Int,Int.natCast_zero,Int.natCast_one,beq_self_eq_true,zdd,zde,zdf,zdg,zdh,wipeR,o_ratio (pW_nz x y) (pW_sz h g hk),p_tall]
  rw [e, zaa]
theorem e_are3 {a b c : Int} : m_are_wholes [.tup [.int a, .int b, .int c], .int 3] S = .ok (.bl true) S := by
  refine Ok.eq (Ok_defM rfl ?_)
  simp -dsimp (disch := first | assumption | omega) only [zaa,zab,zac,zad,zae,zaf,zag,zah,zai,zaj,zak,zal,zam,zan,zao,zap,zaq,zar,zas,zat,zau,zav,zaw,zax,zay,zaz,zaA,zaB,zaC,zaD,zaE,zaF,zaG,zaH,zaI,zaJ,zaK,zaL,zaM,zaN,zaO,zaP,zaQ,zaR,zaS,zaT,zaU,zaV,zaW,zaX,zaY,zaZ,za0,za1,za2,za3,za4,za5,za6,za7,za8,za9,zba,zbb,zbc,zbd,zbe,zbf,zbg,zbh,zbi,zbj,zbk,zbl,zbm,zbn,zbo,zbp,zbq,zbr,zbs,zbt,zbu,zbv,zbw,zbx,zby,zbz,zbA,zbB,zbC,zbD,zbE,zbF,zbG,zbH,zbI,zbJ,zbK,zbL,zbM,zbN,zbO,zbP,zbQ,zbR,zbS,zbT,zbU,zbV,zbW,zbX,zbY,zbZ,zb0,zb1,zb2,zb3,zb4,zb5,zb6,zb7,zb8,zb9,zca,zcb,eq_self,zcc,zcd,zce,zcf,zcg,zch,zci,zcj,zck,zcl,zcm,List.getElem?_cons_succ,List.getElem?_cons_zero,List.set_cons_succ,List.set_cons_zero,List.map_cons,List.map_nil,List.length_cons,List.length_nil,List.cons_append,List.nil_append,List.append_nil,List.isEmpty_cons,List.isEmpty_nil,if_true,if_false,ite_true,ite_false,Bool.not_true,Bool.not_false,Bool.not_not,decide_true,true_and,and_true,false_and,and_false,Bool.false_eq_true,reduceCtorEq,decide_true,decide_false,ite_self,forall_const,Nat.zero_add,Nat.reduceAdd,Nat.reduceLeDiff,Nat.reduceLT,Nat.reduceEqDiff,Nat.reduceSub,Nat.reduceMul,Nat.reduceBEq,Int.reduceLT,Int.reduceLE,Int.reduceEq,Int.reduceNe,Int.reduceAdd,Int.reduceMul,Int.reduceSub,Int.reduceNeg,Int.reducePow,Int.reduceBEq,Int.reduceToNat,Int.reduceGT,Int.reduceGE,String.reduceBEq,zcn,zco,List.replicate_succ,List.replicate_zero,zcp,zcq,zcr,zcs,zct,zcu,zcv,zcw,zcx,zcy,zcz,zcA,zcB,zcC,zcD,zcE,zcF,zcG,zcH,zcI,zcJ,zcK,zcL,zcM,zcN,zcO,zcP,zcQ,zcR,zcS,zcT,zcU,zcV,zcW,zcX,zcY,zcZ,zc0,zc1,zc2,zc3,zc4,zc5,zc6,zc7,zc8,zc9,zda,zdb,zdc,Bool.true_or,Bool.or_true,Bool.false_or,Bool.or_false,Bool.and_true,Bool.true_and,Bool.and_false,Bool.false_and,Int.cast_ofNat_Int,Int.natCast_zero,Int.natCast_one,beq_self_eq_true,zdd,zde,zdf,zdg,zdh,wipeR,o_is_whole,Ok_all (xs := [.bl true,.bl true,.bl true]) (bs := [true,true,true]) rfl,show ([true,true,true].all id) = true from rfl]
theorem o_is_spot {x y : Rat} : Ok (m_is_spot [pl x y] S) Q = Q (.bl true) S := by
  have e2 : ∀ S, m_is_reduced [pl x y] S = .ok (.bl true) S := fun S => by
    refine Ok.eq (Ok_defM rfl ?_)
    rw [pl_eq]; unfold t3
    simp -dsimp (disch := first | assumption | omega) only [zaa,zab,zac,zad,zae,zaf,zag,zah,zai,zaj,zak,zal,zam,zan,zao,zap,zaq,zar,zas,zat,zau,zav,zaw,zax,zay,zaz,zaA,zaB,zaC,zaD,zaE,zaF,zaG,zaH,zaI,zaJ,zaK,zaL,zaM,zaN,zaO,zaP,zaQ,zaR,zaS,zaT,zaU,zaV,zaW,zaX,zaY,zaZ,za0,za1,za2,za3,za4,za5,za6,za7,za8,za9,zba,zbb,zbc,zbd,zbe,zbf,zbg,zbh,zbi,zbj,zbk,zbl,zbm,zbn,zbo,zbp,zbq,zbr,zbs,zbt,zbu,zbv,zbw,zbx,zby,zbz,zbA,zbB,zbC,zbD,zbE,zbF,zbG,zbH,zbI,zbJ,zbK,zbL,zbM,zbN,zbO,zbP,zbQ,zbR,zbS,zbT,zbU,zbV,zbW,zbX,zbY,zbZ,zb0,zb1,zb2,zb3,zb4,zb5,zb6,zb7,zb8,zb9,zca,zcb,eq_self,zcc,zcd,zce,zcf,zcg,zch,zci,zcj,zck,zcl,zcm,List.getElem?_cons_succ,List.getElem?_cons_zero,List.set_cons_succ,List.set_cons_zero,List.map_cons,List.map_nil,List.length_cons,List.length_nil,List.cons_append,List.nil_append,List.append_nil,List.isEmpty_cons,List.isEmpty_nil,if_true,if_false,ite_true,ite_false,Bool.not_true,Bool.not_false,Bool.not_not,decide_true,true_and,and_true,false_and,and_false,Bool.false_eq_true,reduceCtorEq,decide_true,decide_false,ite_self,forall_const,Nat.zero_add,Nat.reduceAdd,Nat.reduceLeDiff,Nat.reduceLT,Nat.reduceEqDiff,Nat.reduceSub,Nat.reduceMul,Nat.reduceBEq,Int.reduceLT,Int.reduceLE,Int.reduceEq,Int.reduceNe,Int.reduceAdd,Int.reduceMul,Int.reduceSub,Int.reduceNeg,Int.reducePow,Int.reduceBEq,Int.reduceToNat,Int.reduceGT,Int.reduceGE,String.reduceBEq,zcn,zco,List.replicate_succ,List.replicate_zero,zcp,zcq,zcr,zcs,zct,zcu,zcv,zcw,zcx,zcy,zcz,zcA,zcB,zcC,zcD,zcE,zcF,zcG,zcH,zcI,zcJ,zcK,zcL,zcM,zcN,zcO,zcP,zcQ,zcR,zcS,zcT,zcU,zcV,zcW,zcX,zcY,zcZ,zc0,zc1,zc2,zc3,zc4,zc5,zc6,zc7,zc8,zc9,zda,zdb,zdc,Bool.true_or,Bool.or_true,Bool.false_or,Bool.or_false,Bool.and_true,Bool.true_and,Bool.and_false,Bool.false_and,Int.cast_ofNat_Int,Int.natCast_zero,Int.natCast_one,beq_self_eq_true,zdd,zde,zdf,zdg,zdh,wipeR,o_divisor3,p_g]
  have e : m_is_spot [pl x y] S = .ok (.bl true) S := by
    refine Ok.eq (Ok_defM rfl ?_)
    have hp := pW_pos x y
    simp -dsimp (disch := first | assumption | omega) only [zaa,zab,zac,zad,zae,zaf,zag,zah,zai,zaj,zak,zal,zam,zan,zao,zap,zaq,zar,zas,zat,zau,zav,zaw,zax,zay,zaz,zaA,zaB,zaC,zaD,zaE,zaF,zaG,zaH,zaI,zaJ,zaK,zaL,zaM,zaN,zaO,zaP,zaQ,zaR,zaS,zaT,zaU,zaV,zaW,zaX,zaY,zaZ,za0,za1,za2,za3,za4,za5,za6,za7,za8,za9,zba,zbb,zbc,zbd,zbe,zbf,zbg,zbh,zbi,zbj,zbk,zbl,zbm,zbn,zbo,zbp,zbq,zbr,zbs,zbt,zbu,zbv,zbw,zbx,zby,zbz,zbA,zbB,zbC,zbD,zbE,zbF,zbG,zbH,zbI,zbJ,zbK,zbL,zbM,zbN,zbO,zbP,zbQ,zbR,zbS,zbT,zbU,zbV,zbW,zbX,zbY,zbZ,zb0,zb1,zb2,zb3,zb4,zb5,zb6,zb7,zb8,zb9,zca,zcb,eq_self,zcc,zcd,zce,zcf,zcg,zch,zci,zcj,zck,zcl,zcm,List.getElem?_cons_succ,List.getElem?_cons_zero,List.set_cons_succ,List.set_cons_zero,List.map_cons,List.map_nil,List.length_cons,List.length_nil,List.cons_append,List.nil_append,List.append_nil,List.isEmpty_cons,List.isEmpty_nil,if_true,if_false,ite_true,ite_false,Bool.not_true,Bool.not_false,Bool.not_not,decide_true,true_and,and_true,false_and,and_false,Bool.false_eq_true,reduceCtorEq,decide_true,decide_false,ite_self,forall_const,Nat.zero_add,Nat.reduceAdd,Nat.reduceLeDiff,Nat.reduceLT,Nat.reduceEqDiff,Nat.reduceSub,Nat.reduceMul,Nat.reduceBEq,Int.reduceLT,Int.reduceLE,Int.reduceEq,Int.reduceNe,Int.reduceAdd,Int.reduceMul,Int.reduceSub,Int.reduceNeg,Int.reducePow,Int.reduceBEq,Int.reduceToNat,Int.reduceGT,Int.reduceGE,String.reduceBEq,zcn,zco,List.replicate_succ,List.replicate_zero,zcp,zcq,zcr,zcs,zct,zcu,zcv,zcw,zcx,zcy,zcz,zcA,zcB,zcC,zcD,zcE,zcF,zcG,zcH,zcI,zcJ,zcK,zcL,zcM,zcN,zcO,zcP,zcQ,zcR,zcS,zcT,zcU,zcV,zcW,zcX,zcY,zcZ,zc0,zc1,zc2,zc3,zc4,zc5,zc6,zc7,zc8,zc9,zda,zdb,zdc,Bool.true_or,Bool.or_true,Bool.false_or,Bool.or_false,Bool.and_true,Bool.true_and,Bool.and_false,Bool.false_and,Int.cast_ofNat_Int,Int.natCast_zero,Int.natCast_one,beq_self_eq_true,zdd,zde,zdf,zdg,zdh,wipeR,show ∀ S,m_are_wholes [pl x y,.int 3] S = .ok (.bl true) S from fun S => e_are3,e2,hp]
  rw [e, zaa]
theorem o_is_ahead {x y : Rat} (hx : 0 < x) : Ok (m_is_ahead [pl x y] S) Q = Q (.bl true) S := by
  have e : m_is_ahead [pl x y] S = .ok (.bl true) S := by
    refine Ok.eq (Ok_defM rfl ?_)
    have hp : 0 < pX x y := pX_pos hx
    simp -dsimp (disch := first | assumption | omega) only [zaa,zab,zac,zad,zae,zaf,zag,zah,zai,zaj,zak,zal,zam,zan,zao,zap,zaq,zar,zas,zat,zau,zav,zaw,zax,zay,zaz,zaA,zaB,zaC,zaD,zaE,zaF,zaG,zaH,zaI,zaJ,zaK,zaL,zaM,zaN,zaO,zaP,zaQ,zaR,zaS,zaT,zaU,zaV,zaW,zaX,zaY,zaZ,za0,za1,za2,za3,za4,za5,za6,za7,za8,za9,zba,zbb,zbc,zbd,zbe,zbf,zbg,zbh,zbi,zbj,zbk,zbl,zbm,zbn,zbo,zbp,zbq,zbr,zbs,zbt,zbu,zbv,zbw,zbx,zby,zbz,zbA,zbB,zbC,zbD,zbE,zbF,zbG,zbH,zbI,zbJ,zbK,zbL,zbM,zbN,zbO,zbP,zbQ,zbR,zbS,zbT,zbU,zbV,zbW,zbX,zbY,zbZ,zb0,zb1,zb2,zb3,zb4,zb5,zb6,zb7,zb8,zb9,zca,zcb,eq_self,zcc,zcd,zce,zcf,zcg,zch,zci,zcj,zck,zcl,zcm,List.getElem?_cons_succ,List.getElem?_cons_zero,List.set_cons_succ,List.set_cons_zero,List.map_cons,List.map_nil,List.length_cons,List.length_nil,List.cons_append,List.nil_append,List.append_nil,List.isEmpty_cons,List.isEmpty_nil,if_true,if_false,ite_true,ite_false,Bool.not_true,Bool.not_false,Bool.not_not,decide_true,true_and,and_true,false_and,and_false,Bool.false_eq_true,reduceCtorEq,decide_true,decide_false,ite_self,forall_const,Nat.zero_add,Nat.reduceAdd,Nat.reduceLeDiff,Nat.reduceLT,Nat.reduceEqDiff,Nat.reduceSub,Nat.reduceMul,Nat.reduceBEq,Int.reduceLT,Int.reduceLE,Int.reduceEq,Int.reduceNe,Int.reduceAdd,Int.reduceMul,Int.reduceSub,Int.reduceNeg,Int.reducePow,Int.reduceBEq,Int.reduceToNat,Int.reduceGT,Int.reduceGE,String.reduceBEq,zcn,zco,List.replicate_succ,List.replicate_zero,zcp,zcq,zcr,zcs,zct,zcu,zcv,zcw,zcx,zcy,zcz,zcA,zcB,zcC,zcD,zcE,zcF,zcG,zcH,zcI,zcJ,zcK,zcL,zcM,zcN,zcO,zcP,zcQ,zcR,zcS,zcT,zcU,zcV,zcW,zcX,zcY,zcZ,zc0,zc1,zc2,zc3,zc4,zc5,zc6,zc7,zc8,zc9,zda,zdb,zdc,Bool.true_or,Bool.or_true,Bool.false_or,Bool.or_false,Bool.and_true,Bool.true_and,Bool.and_false,Bool.false_and,Int.cast_ofNat_Int,Int.natCast_zero,Int.natCast_one,beq_self_eq_true,zdd,zde,zdf,zdg,zdh,wipeR,o_is_spot,hp]
  rw [e, zaa]
theorem o_is_nearer {x y x' y' : Rat} {k l k' l' : Nat} [h : Sz x k] [g : Sz y l] [h' : Sz x' k'] [g' : Sz y' l'] (hk : k + l + k' + l' ≤ 8000) : Ok (m_is_nearer [pl x y, pl x' y'] S) Q = Q (.bl (decide (x < x'))) S := by
  have e : m_is_nearer [pl x y, pl x' y'] S = .ok (.bl (decide (x < x'))) S := by
    refine Ok.eq (Ok_defM rfl ?_)
    have n1 := lg (pX_lt h g) (pW_lt h' g') (by omega)
    have n2 := lg (pX_lt h' g') (pW_lt h g) (by omega)
    simp -dsimp (disch := first | assumption | omega) only [zaa,zab,zac,zad,zae,zaf,zag,zah,zai,zaj,zak,zal,zam,zan,zao,zap,zaq,zar,zas,zat,zau,zav,zaw,zax,zay,zaz,zaA,zaB,zaC,zaD,zaE,zaF,zaG,zaH,zaI,zaJ,zaK,zaL,zaM,zaN,zaO,zaP,zaQ,zaR,zaS,zaT,zaU,zaV,zaW,zaX,zaY,zaZ,za0,za1,za2,za3,za4,za5,za6,za7,za8,za9,zba,zbb,zbc,zbd,zbe,zbf,zbg,zbh,zbi,zbj,zbk,zbl,zbm,zbn,zbo,zbp,zbq,zbr,zbs,zbt,zbu,zbv,zbw,zbx,zby,zbz,zbA,zbB,zbC,zbD,zbE,zbF,zbG,zbH,zbI,zbJ,zbK,zbL,zbM,zbN,zbO,zbP,zbQ,zbR,zbS,zbT,zbU,zbV,zbW,zbX,zbY,zbZ,zb0,zb1,zb2,zb3,zb4,zb5,zb6,zb7,zb8,zb9,zca,zcb,eq_self,zcc,zcd,zce,zcf,zcg,zch,zci,zcj,zck,zcl,zcm,List.getElem?_cons_succ,List.getElem?_cons_zero,List.set_cons_succ,List.set_cons_zero,List.map_cons,List.map_nil,List.length_cons,List.length_nil,List.cons_append,List.nil_append,List.append_nil,List.isEmpty_cons,List.isEmpty_nil,if_true,if_false,ite_true,ite_false,Bool.not_true,Bool.not_false,Bool.not_not,decide_true,true_and,and_true,false_and,and_false,Bool.false_eq_true,reduceCtorEq,decide_true,decide_false,ite_self,forall_const,Nat.zero_add,Nat.reduceAdd,Nat.reduceLeDiff,Nat.reduceLT,Nat.reduceEqDiff,Nat.reduceSub,Nat.reduceMul,Nat.reduceBEq,Int.reduceLT,Int.reduceLE,Int.reduceEq,Int.reduceNe,Int.reduceAdd,Int.reduceMul,Int.reduceSub,Int.reduceNeg,Int.reducePow,Int.reduceBEq,Int.reduceToNat,Int.reduceGT,Int.reduceGE,String.reduceBEq,zcn,zco,List.replicate_succ,List.replicate_zero,zcp,zcq,zcr,zcs,zct,zcu,zcv,zcw,zcx,zcy,zcz,zcA,zcB,zcC,zcD,zcE,zcF,zcG,zcH,zcI,zcJ,zcK,zcL,zcM,zcN,zcO,zcP,zcQ,zcR,zcS,zcT,zcU,zcV,zcW,zcX,zcY,zcZ,zc0,zc1,zc2,zc3,zc4,zc5,zc6,zc7,zc8,zc9,zda,zdb,zdc,Bool.true_or,Bool.or_true,Bool.false_or,Bool.or_false,Bool.and_true,Bool.true_and,Bool.and_false,Bool.false_and,Int.cast_ofNat_Int,Int.natCast_zero,Int.natCast_one,beq_self_eq_true,zdd,zde,zdf,zdg,zdh,wipeR,n1,n2]
    simp only [p_lt]
  rw [e, zaa]
theorem o_check_fraction {x : Rat} : Ok (m_check_fraction [rv x] S) Q = Q .non S := by
  have e : m_check_fraction [rv x] S = .ok .non S := by
    refine Ok.eq (Ok_defM rfl ?_)
    simp -dsimp (disch := first | assumption | omega) only [zaa,zab,zac,zad,zae,zaf,zag,zah,zai,zaj,zak,zal,zam,zan,zao,zap,zaq,zar,zas,zat,zau,zav,zaw,zax,zay,zaz,zaA,zaB,zaC,zaD,zaE,zaF,zaG,zaH,zaI,zaJ,zaK,zaL,zaM,zaN,zaO,zaP,zaQ,zaR,zaS,zaT,zaU,zaV,zaW,zaX,zaY,zaZ,za0,za1,za2,za3,za4,za5,za6,za7,za8,za9,zba,zbb,zbc,zbd,zbe,zbf,zbg,zbh,zbi,zbj,zbk,zbl,zbm,zbn,zbo,zbp,zbq,zbr,zbs,zbt,zbu,zbv,zbw,zbx,zby,zbz,zbA,zbB,zbC,zbD,zbE,zbF,zbG,zbH,zbI,zbJ,zbK,zbL,zbM,zbN,zbO,zbP,zbQ,zbR,zbS,zbT,zbU,zbV,zbW,zbX,zbY,zbZ,zb0,zb1,zb2,zb3,zb4,zb5,zb6,zb7,zb8,zb9,zca,zcb,eq_self,zcc,zcd,zce,zcf,zcg,zch,zci,zcj,zck,zcl,zcm,List.getElem?_cons_succ,List.getElem?_cons_zero,List.set_cons_succ,List.set_cons_zero,List.map_cons,List.map_nil,List.length_cons,List.length_nil,List.cons_append,List.nil_append,List.append_nil,List.isEmpty_cons,List.isEmpty_nil,if_true,if_false,ite_true,ite_false,Bool.not_true,Bool.not_false,Bool.not_not,decide_true,true_and,and_true,false_and,and_false,Bool.false_eq_true,reduceCtorEq,decide_true,decide_false,ite_self,forall_const,Nat.zero_add,Nat.reduceAdd,Nat.reduceLeDiff,Nat.reduceLT,Nat.reduceEqDiff,Nat.reduceSub,Nat.reduceMul,Nat.reduceBEq,Int.reduceLT,Int.reduceLE,Int.reduceEq,Int.reduceNe,Int.reduceAdd,Int.reduceMul,Int.reduceSub,Int.reduceNeg,Int.reducePow,Int.reduceBEq,Int.reduceToNat,Int.reduceGT,Int.reduceGE,String.reduceBEq,zcn,zco,List.replicate_succ,List.replicate_zero,zcp,zcq,zcr,zcs,zct,zcu,zcv,zcw,zcx,zcy,zcz,zcA,zcB,zcC,zcD,zcE,zcF,zcG,zcH,zcI,zcJ,zcK,zcL,zcM,zcN,zcO,zcP,zcQ,zcR,zcS,zcT,zcU,zcV,zcW,zcX,zcY,zcZ,zc0,zc1,zc2,zc3,zc4,zc5,zc6,zc7,zc8,zc9,zda,zdb,zdc,Bool.true_or,Bool.or_true,Bool.false_or,Bool.or_false,Bool.and_true,Bool.true_and,Bool.and_false,Bool.false_and,Int.cast_ofNat_Int,Int.natCast_zero,Int.natCast_one,beq_self_eq_true,zdd,zde,zdf,zdg,zdh,wipeR,o_is_ratio]
  rw [e, zaa]
/-! the law's own places -/
end
end Pm.L

namespace Pm.L
open PySem PySem.Spec L2 Pm
theorem rep3 {p : PV} : repL 3 [p] = [p, p, p] := rfl
theorem sq_nonneg (x : Rat) : 0 ≤ x * x := by
  rcases Rat.le_total (a := 0) (b := x) with h | h
  · exact Rat.mul_nonneg h h
  · have h2 : 0 ≤ -x := by grind
    have := Rat.mul_nonneg h2 h2
    grind
theorem div_nonneg {a b : Rat} (ha : 0 ≤ a) (hb : 0 < b) : 0 ≤ a / b := by
  rw [Rat.div_def]
  exact Rat.mul_nonneg ha (Rat.le_of_lt (Rat.inv_pos.mpr hb))
theorem pos_of_num {q : Rat} (h : 0 < q.num) : 0 ≤ q := Rat.num_nonneg.mp (by omega)
end Pm.L
namespace Pm.L
open PySem PySem.Spec L2 Pm
/-! jets through places -/
def wB (s x y : Rat) : Rat := (x * s - y) / (x * x)
def withV (s x y : Rat) : PV := if 0 < wB s x y then jv s (wB s x y) else .non
def tB (xa ya xb yb : Rat) : Rat := (ya / xa - yb / xb) / (xb - xa)
def tS (xa ya xb yb : Rat) : Rat := ya / xa + tB xa ya xb yb * xa
def thrV (xa ya xb yb : Rat) : PV := if 0 < tB xa ya xb yb then jv (tS xa ya xb yb) (tB xa ya xb yb) else .non
section
variable {s x y xa ya xb yb : Rat} {k l m n : Nat}
instance Sz.wB [h1 : Sz s k] [h2 : Sz x l] [h3 : Sz y m] : Sz (Pm.L.wB s x y) ((l + k + m + 1) + (l + l)) := by unfold Pm.L.wB; infer_instance
instance Sz.tB [h1 : Sz xa k] [h2 : Sz ya l] [h3 : Sz xb m] [h4 : Sz yb n] : Sz (Pm.L.tB xa ya xb yb) ((l + k) + (n + m) + 1 + (m + k + 1)) := by unfold Pm.L.tB; infer_instance
instance Sz.tS [h1 : Sz xa k] [h2 : Sz ya l] [h3 : Sz xb m] [h4 : Sz yb n] : Sz (Pm.L.tS xa ya xb yb) ((l + k) + (((l + k) + (n + m) + 1 + (m + k + 1)) + k) + 1) := by unfold Pm.L.tS; infer_instance
instance Shw.withV [h1 : Sz s k] [h2 : Sz x l] [h3 : Sz y m] : Shw (Pm.L.withV s x y) (6 + 1000 * (k - 1920) + 1000 * (l + k + m + 1 + (l + l) - 1920)) 2 := by
  refine ⟨fun hw => ?_⟩
  have i1 : Shw (if 0 < Pm.L.wB s x y then jv s (Pm.L.wB s x y) else PV.non) _ _ := inferInstance
  obtain ⟨d, h1, h2, h3, h4, h5, h6⟩ := i1.ex (by omega)
  exact ⟨d, h1, h2, h3, h4, by omega, by omega⟩
instance Shw.thrV [h1 : Sz xa k] [h2 : Sz ya l] [h3 : Sz xb m] [h4 : Sz yb n] : Shw (Pm.L.thrV xa ya xb yb) (6 + 2000 * ((l + k) + (((l + k) + (n + m) + 1 + (m + k + 1)) + k) + 1 - 1920)) 2 := by
  refine ⟨fun hw => ?_⟩
  have i1 : Shw (if 0 < Pm.L.tB xa ya xb yb then jv (Pm.L.tS xa ya xb yb) (Pm.L.tB xa ya xb yb) else PV.non) _ _ := inferInstance
  obtain ⟨d, h1, h2, h3, h4, h5, h6⟩ := i1.ex (by omega)
  exact ⟨d, h1, h2, h3, h4, by omega, by omega⟩
theorem xx_nz (hx : 0 < x) : x * x ≠ 0 := Rat.ne_of_gt (Rat.mul_pos hx hx)
theorem withV_jet {b : Rat} (hx : 0 < x) (hb : 0 < b) : withV s x (x * (s - b * x)) = jv s b := by
  have e : wB s x (x * (s - b * x)) = b := by
    have := xx_nz hx
    have := lt_ne hx
    unfold wB
    grind
  unfold withV
  rw [e, if_pos hb]
theorem withV_jet' {b : Rat} (hx : 0 < x) (hb : 0 < b) (e : x * (s - b * x) = y) : withV s x y = jv s b := by
  rw [← e]
  exact withV_jet hx hb
theorem thrV_jet {b : Rat} (ha : 0 < xa) (hl : xa < xb) (hb : 0 < b) : thrV xa (xa * (s - b * xa)) xb (xb * (s - b * xb)) = jv s b := by
  have h1 : xa ≠ 0 := lt_ne ha
  have h2 : xb ≠ 0 := by grind
  have h3 : xb - xa ≠ 0 := by grind
  have e : tB xa (xa * (s - b * xa)) xb (xb * (s - b * xb)) = b := by
    unfold tB
    grind
  have e2 : tS xa (xa * (s - b * xa)) xb (xb * (s - b * xb)) = s := by
    unfold tS
    rw [e]
    grind
  unfold thrV
  rw [e, e2, if_pos hb]
end
section
variable {S : Sto} {Q : PV → Sto → Prop} {s x y xa ya xb yb : Rat} {k l m n : Nat}
end
end Pm.L
namespace Pm.L
open PySem PySem.Spec L2 Pm
/-! signs -/
theorem sg_pos {q : Rat} (h : 0 < q) : q.num.sign = 1 := Int.sign_eq_one_of_pos (num_pos h)
theorem sg_neg {q : Rat} (h : q < 0) : q.num.sign = -1 := by
  have h1 : 0 < -q := by grind
  have h2 := num_pos h1
  rw [Rat.neg_num] at h2
  exact Int.sign_eq_neg_one_of_neg (by omega)
theorem sg_zero {q : Rat} (h : q = 0) : q.num.sign = 0 := by rw [h]; rfl
theorem neg_num_iff {q : Rat} : q.num < 0 ↔ q < 0 := by
  constructor
  · intro h
    have h1 : 0 < (-q).num := by rw [Rat.neg_num]; omega
    have := num_pos_iff.mp h1
    grind
  · intro h
    have h1 : 0 < -q := by grind
    have h2 := num_pos h1
    rw [Rat.neg_num] at h2
    omega
section
variable {S : Sto} {Q : PV → Sto → Prop}
end
end Pm.L


namespace Pm.L
open PySem PySem.Spec L2 Pm
/-! ## defs with places of their own that give plain data -/
mutual
theorem pln_inn (n : Nat) : ∀ p : PV, p.pln = true → PV.inn n p = true
  | .non, _ => rfl
  | .int _, _ => rfl
  | .str _, _ => rfl
  | .tup xs, h => by simp only [PV.inn]; exact plnL_inn n xs (by simpa [PV.pln] using h)
  | .lst xs, h => by simp only [PV.inn]; exact plnL_inn n xs (by simpa [PV.pln] using h)
  | .bl _, h => by simp [PV.pln] at h
  | .frz _, h => by simp [PV.pln] at h
  | .loc _, h => by simp [PV.pln] at h
  | .dct, h => by simp [PV.pln] at h
theorem plnL_inn (n : Nat) : ∀ ps : List PV, plnL ps = true → innL n ps = true
  | [], _ => rfl
  | p :: ps, h => by
    simp only [plnL, Bool.and_eq_true] at h
    simp only [innL, pln_inn n p h.1, plnL_inn n ps h.2, Bool.and_self]
end
mutual
theorem fzV_pln (S : Sto) (n : Nat) : ∀ (k : Nat) (p : PV), p.pln = true → p.dep < k → fzV S n k p = some p
  | 0, _, _, h => absurd h (by omega)
  | k + 1, .non, _, _ => by simp [fzV]
  | k + 1, .int _, _, _ => by simp [fzV]
  | k + 1, .str _, _, _ => by simp [fzV]
  | k + 1, .tup xs, h, h2 => by
    simp only [PV.dep] at h2
    simp only [fzV, fzV_plnL S n k xs (by simpa [PV.pln] using h) (by omega), Option.map_some]
  | k + 1, .lst xs, h, h2 => by
    simp only [PV.dep] at h2
    simp only [fzV, fzV_plnL S n k xs (by simpa [PV.pln] using h) (by omega), Option.map_some]
  | k + 1, .bl _, h, _ => by simp [PV.pln] at h
  | k + 1, .frz _, h, _ => by simp [PV.pln] at h
  | k + 1, .loc _, h, _ => by simp [PV.pln] at h
  | k + 1, .dct, h, _ => by simp [PV.pln] at h
theorem fzV_plnL (S : Sto) (n : Nat) : ∀ (k : Nat) (ps : List PV), plnL ps = true → depL ps < k → mapO (fzV S n k) ps = some ps
  | k, [], _, _ => by simp [mapO]
  | k, p :: ps, h, h2 => by
    simp only [plnL, Bool.and_eq_true] at h
    simp only [depL] at h2
    simp only [mapO, fzV_pln S n k p h.1 (by omega), fzV_plnL S n k ps h.2 (by omega)]
end
/-- no place leads beyond the store -/
def InS (S : Sto) : Prop := S.all (Ent.inn S.length) = true
theorem IntS.inS {S : Sto} {n : Nat} (h : IntS S n) (hl : S.length = n + 1) : InS S := by
  have := h.all
  rwa [List.take_of_length_le (by omega), ← hl] at this
theorem innL_mono {m n : Nat} (h : m ≤ n) : ∀ ps : List PV, plnL ps = true → innL n ps = true := fun ps hp => plnL_inn n ps hp
mutual
theorem inn_mono {m n : Nat} (hm : m ≤ n) : ∀ p : PV, PV.inn m p = true → PV.inn n p = true
  | .non, _ => rfl
  | .int _, _ => rfl
  | .str _, _ => rfl
  | .bl _, _ => rfl
  | .dct, _ => rfl
  | .tup xs, h => by simp only [PV.inn] at h ⊢; exact innL_mono' hm xs h
  | .lst xs, h => by simp only [PV.inn] at h ⊢; exact innL_mono' hm xs h
  | .frz xs, h => by simp only [PV.inn] at h ⊢; exact innL_mono' hm xs h
  | .loc i, h => by simp only [PV.inn, decide_eq_true_eq] at h ⊢; omega
theorem innL_mono' {m n : Nat} (hm : m ≤ n) : ∀ ps : List PV, innL m ps = true → innL n ps = true
  | [], _ => rfl
  | p :: ps, h => by
    simp only [innL, Bool.and_eq_true] at h
    simp only [innL, inn_mono hm p h.1, innL_mono' hm ps h.2, Bool.and_self]
end
theorem InS.app {S : Sto} {xs : List PV} (h : InS S) (hx : plnL xs = true) : InS (S ++ [.lst xs]) := by
  unfold InS at h ⊢
  rw [List.all_append, Bool.and_eq_true]
  constructor
  · rw [List.all_eq_true] at h ⊢
    intro e he
    have := h e he
    cases e with
    | lst ps => simp only [Ent.inn] at this ⊢; exact innL_mono' (by simp) ps this
  · simp [Ent.inn, plnL_inn _ xs hx]
theorem Ok_defM_v {a n : Nat} {d : SD} {ps : List PV} {S : Sto} {Q : PV → Sto → Prop} (hl : ps.length = a) (hI : InS S) (h : Ok (d (rho0 n ps) S) fun r S1 => match r with
  | .rt p => p.pln = true ∧ p.dep < 20 ∧ (∃ T, S1 = S ++ T) ∧ Q p S
  | _ => False) : Ok (defM a n d ps S) Q := by
  unfold defM
  rw [if_pos hl]
  obtain ⟨r, S1, e, q⟩ := h.ex
  cases r with
  | nx _ => exact q.elim
  | bk _ => exact q.elim
  | ct _ => exact q.elim
  | rt p =>
    obtain ⟨h1, h2, ⟨T, rfl⟩, h3⟩ := q
    have e2 : bodyR d (rho0 n ps) S = .ok p (S ++ T) := by
      unfold bodyR bnd
      rw [e]
      rfl
    rw [e2]
    by_cases hlen : (S ++ T).length = S.length
    · have : T = [] := by
        rw [List.length_append] at hlen
        exact List.length_eq_zero_iff.mp (by omega)
      subst this
      have : fin S.length (.ok p (S ++ [])) = .ok p S := by simp [fin]
      rw [this]
      exact h3
    · have e3 := fzV_pln (S ++ T) S.length 20 p h1 h2
      have e4 : (S ++ T).take S.length = S := by simp
      have : fin S.length (.ok p (S ++ T)) = .ok p S := by
        simp only [fin, if_neg hlen, e3, e4]
        rw [if_pos ⟨hI, by simp⟩]
      rw [this]
      exact h3
theorem Ok_tuple_loc {S : Sto} {Q : PV → Sto → Prop} {k : Nat} : Ok (tupleM [.loc k] S) Q = (match S[k]? with
  | some (.lst xs) => Q (.tup xs) S
  | none => False) := by
  unfold tupleM asL
  cases h : S[k]? with
  | none => first | rfl | (simp only [h]; rfl)
  | some e => cases e with
    | lst xs => first | rfl | (simp only [h]; rfl)
theorem Ok_defM_l {a n : Nat} {d : SD} {ps : List PV} {S : Sto} {Q : PV → Sto → Prop} (hl : ps.length = a) (hI : InS S) (h : Ok (d (rho0 n ps) S) fun r S1 => match r with
  | .rt p => ∃ xs, p = .loc S.length ∧ S1 = S ++ [.lst xs] ∧ plnL xs = true ∧ depL xs < 19 ∧ Q (.lst xs) S
  | _ => False) : Ok (defM a n d ps S) Q := by
  unfold defM
  rw [if_pos hl]
  obtain ⟨r, S1, e, q⟩ := h.ex
  cases r with
  | nx _ => exact q.elim
  | bk _ => exact q.elim
  | ct _ => exact q.elim
  | rt p =>
    obtain ⟨xs, rfl, rfl, h1, h2, h3⟩ := q
    have e2 : bodyR d (rho0 n ps) S = .ok (.loc S.length) (S ++ [.lst xs]) := by
      unfold bodyR bnd
      rw [e]
      rfl
    rw [e2]
    have hlen : ¬ (S ++ [Ent.lst xs]).length = S.length := by simp
    have e3 : fzV (S ++ [Ent.lst xs]) S.length 20 (.loc S.length) = some (.lst xs) := by
      simp only [fzV, Nat.lt_irrefl, if_false, zb4, fzV_plnL (S ++ [Ent.lst xs]) S.length 19 xs h1 h2, Option.map_some]
    have e4 : (S ++ [Ent.lst xs]).take S.length = S := by simp
    have : fin S.length (.ok (.loc S.length) (S ++ [Ent.lst xs])) = .ok (.lst xs) S := by
      simp only [fin, if_neg hlen, e3, e4]
      rw [if_pos ⟨hI, by simp⟩]
    rw [this]
    exact h3
/-- a list's place compared with plain data -/
theorem eqB_loc {S : Sto} {k : Nat} {xs : List PV} {q : PV} {d : Nat} [g : PlnL xs d] (e : S[k]? = some (.lst xs)) (hq : ∀ x, q ≠ .str x) : eqB (.loc k) q S = eqB (.lst xs) q S := by
  obtain ⟨ds, b1, _, _⟩ := pln_dataL xs g.ok.1
  have h1 : dataS (.loc k) S = some (.list ds) := by
    unfold dataS
    simp only [deref, e, PV.data, b1]
  have h2 : dataS (.lst xs) S = some (.list ds) := dataS_of (by simp [PV.data, b1])
  unfold eqB
  have t1 : twoStr (.loc k) q = none := by cases q <;> rfl
  have t2 : twoStr (.lst xs) q = none := by cases q <;> rfl
  rw [t1, t2]
  simp only [eqD, h1, h2]
theorem Ok_ne_loc {S : Sto} {Q : PV → Sto → Prop} {k : Nat} {xs ys : List PV} {d : Nat} [g : PlnL xs d] (e : S[k]? = some (.lst xs)) : Ok (neM (.loc k) (.lst ys) S) Q = Ok (neM (.lst xs) (.lst ys) S) Q := by
  unfold neM
  rw [eqB_loc e (by simp)]
end Pm.L


namespace Pm.L
open PySem PySem.Spec L2 Pm
section
variable {S : Sto} {Q : PV → Sto → Prop}
theorem Ok_bits {i : Int} : Ok (bitsM (.int i) S) Q = Q (.int (Builtin.Int.intBits i : Nat)) S := rfl
theorem bits_lt (x : Int) : x.natAbs < 2 ^ Builtin.Int.intBits x := by
  unfold Builtin.Int.intBits
  split
  · rename_i h
    have : x = 0 := by simpa using h
    subst this
    decide
  · exact Nat.lt_log2_self
def gF (is : List Int) : Nat := is.foldl (fun g x => Int.gcd g x) 0
/-- where Euclid's steps stand -/
def EuI (g L j a b : Nat) : Prop := Nat.gcd a b = g ∧ (j % 2 = 0 → b * 2 ^ (j / 2) < 2 ^ L) ∧ (j % 2 = 1 → b < a ∧ a * 2 ^ (j / 2) < 2 ^ L)
theorem EuI.step {g L j a b : Nat} (h : EuI g L j a b) (hb : b ≠ 0) : EuI g L (j + 1) b (a % b) := by
  obtain ⟨h1, h2, h3⟩ := h
  refine ⟨by rw [Nat.gcd_comm b, ← Nat.gcd_rec, Nat.gcd_comm, h1], fun e => ?_, fun e => ?_⟩
  · obtain ⟨q1, q2⟩ := h3 (by omega)
    have e2 : (j + 1) / 2 = j / 2 + 1 := by omega
    have hd := Nat.div_add_mod a b
    have hq : 1 ≤ a / b := Nat.div_pos (by omega) (by omega)
    have hm := Nat.mod_lt a (show b > 0 by omega)
    have hbq : b ≤ b * (a / b) := Nat.le_mul_of_pos_right b (by omega)
    have h4 : 2 * (a % b) ≤ a := by omega
    rw [e2, Nat.pow_succ]
    have : a % b * (2 ^ (j / 2) * 2) = 2 * (a % b) * 2 ^ (j / 2) := by
      rw [Nat.mul_comm (2 ^ (j / 2)) 2, ← Nat.mul_assoc, Nat.mul_comm (a % b) 2]
    rw [this]
    exact Nat.lt_of_le_of_lt (Nat.mul_le_mul_right _ h4) q2
  · have q := h2 (by omega)
    have e2 : (j + 1) / 2 = j / 2 := by omega
    rw [e2]
    exact ⟨Nat.mod_lt _ (by omega), q⟩
theorem EuI.ends {g L a b : Nat} (h : EuI g L (2 * L + 2) a b) : a = g := by
  obtain ⟨h1, h2, _⟩ := h
  have q := h2 (by omega)
  have e2 : (2 * L + 2) / 2 = L + 1 := by omega
  rw [e2] at q
  have : b = 0 := by
    by_cases z : b = 0
    · exact z
    · have : 2 ^ (L + 1) ≤ b * 2 ^ (L + 1) := Nat.le_mul_of_pos_left _ (by omega)
      have : 2 ^ L ≤ 2 ^ (L + 1) := Nat.pow_le_pow_right (by decide) (by omega)
      omega
  subst this
  simpa using h1
theorem gF_succ {is : List Int} {i : Nat} {x : Int} (h : is[i]? = some x) : gF (is.take (i + 1)) = Int.gcd (gF (is.take i)) x := by
  unfold gF
  rw [List.take_add_one, h, List.foldl_append]
  rfl
theorem rngL_len {n : Nat} {i : Int} : (rngL i n).length = n := by simp [rngL]
theorem o_common {is : List Int} (hb : ∀ x ∈ is, x.natAbs < 2 ^ 8999) : Ok (m__law_common [.tup (is.map PV.int)] S) Q = Q (.int (gF is : Nat)) S := by
  have e : m__law_common [.tup (is.map PV.int)] S = .ok (.int (gF is : Nat)) S := by
    refine Ok.eq (Ok_defM rfl ?_)
    simp -dsimp (disch := first | assumption | omega) only [zaa,zab,zac,zad,zae,zaf,zag,zah,zai,zaj,zak,zal,zam,zan,zao,zap,zaq,zar,zas,zat,zau,zav,zaw,zax,zay,zaz,zaA,zaB,zaC,zaD,zaE,zaF,zaG,zaH,zaI,zaJ,zaK,zaL,zaM,zaN,zaO,zaP,zaQ,zaR,zaS,zaT,zaU,zaV,zaW,zaX,zaY,zaZ,za0,za1,za2,za3,za4,za5,za6,za7,za8,za9,zba,zbb,zbc,zbd,zbe,zbf,zbg,zbh,zbi,zbj,zbk,zbl,zbm,zbn,zbo,zbp,zbq,zbr,zbs,zbt,zbu,zbv,zbw,zbx,zby,zbz,zbA,zbB,zbC,zbD,zbE,zbF,zbG,zbH,zbI,zbJ,zbK,zbL,zbM,zbN,zbO,zbP,zbQ,zbR,zbS,zbT,zbU,zbV,zbW,zbX,zbY,zbZ,zb0,zb1,zb2,zb3,zb4,zb5,zb6,zb7,zb8,zb9,zca,zcb,eq_self,zcc,zcd,zce,zcf,zcg,zch,zci,zcj,zck,zcl,zcm,List.getElem?_cons_succ,List.getElem?_cons_zero,List.set_cons_succ,List.set_cons_zero,List.map_cons,List.map_nil,List.length_cons,List.length_nil,List.cons_append,List.nil_append,List.append_nil,List.isEmpty_cons,List.isEmpty_nil,if_true,if_false,ite_true,ite_false,Bool.not_true,Bool.not_false,Bool.not_not,decide_true,true_and,and_true,false_and,and_false,Bool.false_eq_true,reduceCtorEq,decide_true,decide_false,ite_self,forall_const,Nat.zero_add,Nat.reduceAdd,Nat.reduceLeDiff,Nat.reduceLT,Nat.reduceEqDiff,Nat.reduceSub,Nat.reduceMul,Nat.reduceBEq,Int.reduceLT,Int.reduceLE,Int.reduceEq,Int.reduceNe,Int.reduceAdd,Int.reduceMul,Int.reduceSub,Int.reduceNeg,Int.reducePow,Int.reduceBEq,Int.reduceToNat,Int.reduceGT,Int.reduceGE,String.reduceBEq,zcn,zco,List.replicate_succ,List.replicate_zero,zcp,zcq,zcr,zcs,zct,zcu,zcv,zcw,zcx,zcy,zcz,zcA,zcB,zcC,zcD,zcE,zcF,zcG,zcH,zcI,zcJ,zcK,zcL,zcM,zcN,zcO,zcP,zcQ,zcR,zcS,zcT,zcU,zcV,zcW,zcX,zcY,zcZ,zc0,zc1,zc2,zc3,zc4,zc5,zc6,zc7,zc8,zc9,zda,zdb,zdc,Bool.true_or,Bool.or_true,Bool.false_or,Bool.or_false,Bool.and_true,Bool.true_and,Bool.and_false,Bool.false_and,Int.cast_ofNat_Int,Int.natCast_zero,Int.natCast_one,beq_self_eq_true,zdd,wipeR]
    refine Ok_for (fun i ρ S' => S = S' ∧ ∃ z2 z3 z4 z5, ρ = [some (.tup (is.map .int)), some (.int (gF (is.take i) : Nat)), z2, z3, z4, z5]) ⟨rfl, _, _, _, _, rfl⟩ ?_ ?_
    · rintro i p ρ S' hp ⟨rfl, z2, z3, z4, z5, rfl⟩
      rw [List.getElem?_map, Option.map_eq_some_iff] at hp
      obtain ⟨x, hx, rfl⟩ := hp
      have hxb := hb x (List.mem_of_getElem? hx)
      have hL : Builtin.Int.intBits x ≤ 8999 := PyProof.Rows.intBits_le hxb
      have hxl := bits_lt x
      have eb : Builtin.Int.intBits (x.natAbs : Int) = Builtin.Int.intBits x := by
        unfold Builtin.Int.intBits
        by_cases z : x = 0
        · subst z; rfl
        · have z1 : (x == 0) = false := by simpa using z
          have z2 : ((x.natAbs : Int) == 0) = false := by simp; omega
          rw [z1, z2, Int.natAbs_natCast]
      generalize hLe : Builtin.Int.intBits x = L at hL hxl eb
      have l1 : (2 : Int).natAbs.log2 + ((L : Nat) : Int).natAbs.log2 < 1000000 := lg (k := 2) (l := 14) (by omega) (by omega) (by omega)
      have rr : -(2 ^ 62) ≤ 2 * ((L : Nat) : Int) + 2 ∧ 2 * ((L : Nat) : Int) + 2 < 2 ^ 62 := by omega
      have rt : (2 * ((L : Nat) : Int) + 2).toNat = 2 * L + 2 := by omega
      rw [gF_succ hx]
      generalize gF (is.take i) = f
      simp -dsimp (disch := first | assumption | omega) only [zaa,zab,zac,zad,zae,zaf,zag,zah,zai,zaj,zak,zal,zam,zan,zao,zap,zaq,zar,zas,zat,zau,zav,zaw,zax,zay,zaz,zaA,zaB,zaC,zaD,zaE,zaF,zaG,zaH,zaI,zaJ,zaK,zaL,zaM,zaN,zaO,zaP,zaQ,zaR,zaS,zaT,zaU,zaV,zaW,zaX,zaY,zaZ,za0,za1,za2,za3,za4,za5,za6,za7,za8,za9,zba,zbb,zbc,zbd,zbe,zbf,zbg,zbh,zbi,zbj,zbk,zbl,zbm,zbn,zbo,zbp,zbq,zbr,zbs,zbt,zbu,zbv,zbw,zbx,zby,zbz,zbA,zbB,zbC,zbD,zbE,zbF,zbG,zbH,zbI,zbJ,zbK,zbL,zbM,zbN,zbO,zbP,zbQ,zbR,zbS,zbT,zbU,zbV,zbW,zbX,zbY,zbZ,zb0,zb1,zb2,zb3,zb4,zb5,zb6,zb7,zb8,zb9,zca,zcb,eq_self,zcc,zcd,zce,zcf,zcg,zch,zci,zcj,zck,zcl,zcm,List.getElem?_cons_succ,List.getElem?_cons_zero,List.set_cons_succ,List.set_cons_zero,List.map_cons,List.map_nil,List.length_cons,List.length_nil,List.cons_append,List.nil_append,List.append_nil,List.isEmpty_cons,List.isEmpty_nil,if_true,if_false,ite_true,ite_false,Bool.not_true,Bool.not_false,Bool.not_not,decide_true,true_and,and_true,false_and,and_false,Bool.false_eq_true,reduceCtorEq,decide_true,decide_false,ite_self,forall_const,Nat.zero_add,Nat.reduceAdd,Nat.reduceLeDiff,Nat.reduceLT,Nat.reduceEqDiff,Nat.reduceSub,Nat.reduceMul,Nat.reduceBEq,Int.reduceLT,Int.reduceLE,Int.reduceEq,Int.reduceNe,Int.reduceAdd,Int.reduceMul,Int.reduceSub,Int.reduceNeg,Int.reducePow,Int.reduceBEq,Int.reduceToNat,Int.reduceGT,Int.reduceGE,String.reduceBEq,zcn,zco,List.replicate_succ,List.replicate_zero,zcp,zcq,zcr,zcs,zct,zcu,zcv,zcw,zcx,zcy,zcz,zcA,zcB,zcC,zcD,zcE,zcF,zcG,zcH,zcI,zcJ,zcK,zcL,zcM,zcN,zcO,zcP,zcQ,zcR,zcS,zcT,zcU,zcV,zcW,zcX,zcY,zcZ,zc0,zc1,zc2,zc3,zc4,zc5,zc6,zc7,zc8,zc9,zda,zdb,zdc,Bool.true_or,Bool.or_true,Bool.false_or,Bool.or_false,Bool.and_true,Bool.true_and,Bool.and_false,Bool.false_and,Int.cast_ofNat_Int,Int.natCast_zero,Int.natCast_one,beq_self_eq_true,zdd,wipeR,abs_nat,Ok_bits,eb,l1,rt]
      refine ⟨by omega, ?_⟩
      refine Ok.mono (Q := fun r S' => S = S' ∧ ∃ z4 z5, r = .nx [some (.tup (is.map .int)), some (.int f), some (.int x), some (.int (Int.gcd f x : Nat)), z4, z5]) ?_ ?_
      · refine Ok_for (fun j ρ S' => S = S' ∧ ∃ (a b : Nat) (z5 : Option PV), ρ = [some (.tup (is.map .int)), some (.int f), some (.int x), some (.int a), some (.int b), z5] ∧ EuI (Int.gcd f x) L j a b) ⟨rfl, f, x.natAbs, _, rfl, rfl, fun _ => by simpa using hxl, fun z => by simp at z⟩ ?_ ?_
        · rintro j p ρ S' _ ⟨rfl, a, b, z5, rfl, hE⟩
          by_cases z : b = 0
          · have z1 : (((b : Nat) : Int) == 0) = true := by simpa using z
            simp -dsimp (disch := first | assumption | omega) only [zaa,zab,zac,zad,zae,zaf,zag,zah,zai,zaj,zak,zal,zam,zan,zao,zap,zaq,zar,zas,zat,zau,zav,zaw,zax,zay,zaz,zaA,zaB,zaC,zaD,zaE,zaF,zaG,zaH,zaI,zaJ,zaK,zaL,zaM,zaN,zaO,zaP,zaQ,zaR,zaS,zaT,zaU,zaV,zaW,zaX,zaY,zaZ,za0,za1,za2,za3,za4,za5,za6,za7,za8,za9,zba,zbb,zbc,zbd,zbe,zbf,zbg,zbh,zbi,zbj,zbk,zbl,zbm,zbn,zbo,zbp,zbq,zbr,zbs,zbt,zbu,zbv,zbw,zbx,zby,zbz,zbA,zbB,zbC,zbD,zbE,zbF,zbG,zbH,zbI,zbJ,zbK,zbL,zbM,zbN,zbO,zbP,zbQ,zbR,zbS,zbT,zbU,zbV,zbW,zbX,zbY,zbZ,zb0,zb1,zb2,zb3,zb4,zb5,zb6,zb7,zb8,zb9,zca,zcb,eq_self,zcc,zcd,zce,zcf,zcg,zch,zci,zcj,zck,zcl,zcm,List.getElem?_cons_succ,List.getElem?_cons_zero,List.set_cons_succ,List.set_cons_zero,List.map_cons,List.map_nil,List.length_cons,List.length_nil,List.cons_append,List.nil_append,List.append_nil,List.isEmpty_cons,List.isEmpty_nil,if_true,if_false,ite_true,ite_false,Bool.not_true,Bool.not_false,Bool.not_not,decide_true,true_and,and_true,false_and,and_false,Bool.false_eq_true,reduceCtorEq,decide_true,decide_false,ite_self,forall_const,Nat.zero_add,Nat.reduceAdd,Nat.reduceLeDiff,Nat.reduceLT,Nat.reduceEqDiff,Nat.reduceSub,Nat.reduceMul,Nat.reduceBEq,Int.reduceLT,Int.reduceLE,Int.reduceEq,Int.reduceNe,Int.reduceAdd,Int.reduceMul,Int.reduceSub,Int.reduceNeg,Int.reducePow,Int.reduceBEq,Int.reduceToNat,Int.reduceGT,Int.reduceGE,String.reduceBEq,zcn,zco,List.replicate_succ,List.replicate_zero,zcp,zcq,zcr,zcs,zct,zcu,zcv,zcw,zcx,zcy,zcz,zcA,zcB,zcC,zcD,zcE,zcF,zcG,zcH,zcI,zcJ,zcK,zcL,zcM,zcN,zcO,zcP,zcQ,zcR,zcS,zcT,zcU,zcV,zcW,zcX,zcY,zcZ,zc0,zc1,zc2,zc3,zc4,zc5,zc6,zc7,zc8,zc9,zda,zdb,zdc,Bool.true_or,Bool.or_true,Bool.false_or,Bool.or_false,Bool.and_true,Bool.true_and,Bool.and_false,Bool.false_and,Int.cast_ofNat_Int,Int.natCast_zero,Int.natCast_one,beq_self_eq_true,zdd,wipeR,z1]
            have e : a = Int.gcd f x := by
              have := hE.1
              rw [z] at this
              simpa using this
            rw [← e]
            exact ⟨_, _, rfl⟩
          · have z1 : (((b : Nat) : Int) == 0) = false := by simpa using z
            have z2 : ((b : Nat) : Int) ≠ 0 := by omega
            simp -dsimp (disch := first | assumption | omega) only [zaa,zab,zac,zad,zae,zaf,zag,zah,zai,zaj,zak,zal,zam,zan,zao,zap,zaq,zar,zas,zat,zau,zav,zaw,zax,zay,zaz,zaA,zaB,zaC,zaD,zaE,zaF,zaG,zaH,zaI,zaJ,zaK,zaL,zaM,zaN,zaO,zaP,zaQ,zaR,zaS,zaT,zaU,zaV,zaW,zaX,zaY,zaZ,za0,za1,za2,za3,za4,za5,za6,za7,za8,za9,zba,zbb,zbc,zbd,zbe,zbf,zbg,zbh,zbi,zbj,zbk,zbl,zbm,zbn,zbo,zbp,zbq,zbr,zbs,zbt,zbu,zbv,zbw,zbx,zby,zbz,zbA,zbB,zbC,zbD,zbE,zbF,zbG,zbH,zbI,zbJ,zbK,zbL,zbM,zbN,zbO,zbP,zbQ,zbR,zbS,zbT,zbU,zbV,zbW,zbX,zbY,zbZ,zb0,zb1,zb2,zb3,zb4,zb5,zb6,zb7,zb8,zb9,zca,zcb,eq_self,zcc,zcd,zce,zcf,zcg,zch,zci,zcj,zck,zcl,zcm,List.getElem?_cons_succ,List.getElem?_cons_zero,List.set_cons_succ,List.set_cons_zero,List.map_cons,List.map_nil,List.length_cons,List.length_nil,List.cons_append,List.nil_append,List.append_nil,List.isEmpty_cons,List.isEmpty_nil,if_true,if_false,ite_true,ite_false,Bool.not_true,Bool.not_false,Bool.not_not,decide_true,true_and,and_true,false_and,and_false,Bool.false_eq_true,reduceCtorEq,decide_true,decide_false,ite_self,forall_const,Nat.zero_add,Nat.reduceAdd,Nat.reduceLeDiff,Nat.reduceLT,Nat.reduceEqDiff,Nat.reduceSub,Nat.reduceMul,Nat.reduceBEq,Int.reduceLT,Int.reduceLE,Int.reduceEq,Int.reduceNe,Int.reduceAdd,Int.reduceMul,Int.reduceSub,Int.reduceNeg,Int.reducePow,Int.reduceBEq,Int.reduceToNat,Int.reduceGT,Int.reduceGE,String.reduceBEq,zcn,zco,List.replicate_succ,List.replicate_zero,zcp,zcq,zcr,zcs,zct,zcu,zcv,zcw,zcx,zcy,zcz,zcA,zcB,zcC,zcD,zcE,zcF,zcG,zcH,zcI,zcJ,zcK,zcL,zcM,zcN,zcO,zcP,zcQ,zcR,zcS,zcT,zcU,zcV,zcW,zcX,zcY,zcZ,zc0,zc1,zc2,zc3,zc4,zc5,zc6,zc7,zc8,zc9,zda,zdb,zdc,Bool.true_or,Bool.or_true,Bool.false_or,Bool.or_false,Bool.and_true,Bool.true_and,Bool.and_false,Bool.false_and,Int.cast_ofNat_Int,Int.natCast_zero,Int.natCast_one,beq_self_eq_true,zdd,wipeR,z1]
            have em : ((a : Nat) : Int).fmod ((b : Nat) : Int) = ((a % b : Nat) : Int) := by
              rw [Int.fmod_eq_emod_of_nonneg _ (by omega)]; rfl
            rw [em]
            exact ⟨z2, b, a % b, _, rfl, hE.step z⟩
        · rintro ρ S' ⟨rfl, a, b, z5, rfl, hE⟩
          rw [rngL_len] at hE
          rw [hE.ends]
          exact ⟨rfl, _, _, rfl⟩
      · rintro r S' ⟨rfl, z4, z5, rfl⟩
        simp -dsimp (disch := first | assumption | omega) only [zaa,zab,zac,zad,zae,zaf,zag,zah,zai,zaj,zak,zal,zam,zan,zao,zap,zaq,zar,zas,zat,zau,zav,zaw,zax,zay,zaz,zaA,zaB,zaC,zaD,zaE,zaF,zaG,zaH,zaI,zaJ,zaK,zaL,zaM,zaN,zaO,zaP,zaQ,zaR,zaS,zaT,zaU,zaV,zaW,zaX,zaY,zaZ,za0,za1,za2,za3,za4,za5,za6,za7,za8,za9,zba,zbb,zbc,zbd,zbe,zbf,zbg,zbh,zbi,zbj,zbk,zbl,zbm,zbn,zbo,zbp,zbq,zbr,zbs,zbt,zbu,zbv,zbw,zbx,zby,zbz,zbA,zbB,zbC,zbD,zbE,zbF,zbG,zbH,zbI,zbJ,zbK,zbL,zbM,zbN,zbO,zbP,zbQ,zbR,zbS,zbT,zbU,zbV,zbW,zbX,zbY,zbZ,zb0,zb1,zb2,zb3,zb4,zb5,zb6,zb7,zb8,zb9,zca,zcb,eq_self,zcc,zcd,zce,zcf,zcg,zch,zci,zcj,zck,zcl,zcm,List.getElem?_cons_succ,List.getElem?_cons_zero,List.set_cons_succ,List.set_cons_zero,List.map_cons,List.map_nil,List.length_cons,List.length_nil,List.cons_append,List.nil_append,List.append_nil,List.isEmpty_cons,List.isEmpty_nil,if_true,if_false,ite_true,ite_false,Bool.not_true,Bool.not_false,Bool.not_not,decide_true,true_and,and_true,false_and,and_false,Bool.false_eq_true,reduceCtorEq,decide_true,decide_false,ite_self,forall_const,Nat.zero_add,Nat.reduceAdd,Nat.reduceLeDiff,Nat.reduceLT,Nat.reduceEqDiff,Nat.reduceSub,Nat.reduceMul,Nat.reduceBEq,Int.reduceLT,Int.reduceLE,Int.reduceEq,Int.reduceNe,Int.reduceAdd,Int.reduceMul,Int.reduceSub,Int.reduceNeg,Int.reducePow,Int.reduceBEq,Int.reduceToNat,Int.reduceGT,Int.reduceGE,String.reduceBEq,zcn,zco,List.replicate_succ,List.replicate_zero,zcp,zcq,zcr,zcs,zct,zcu,zcv,zcw,zcx,zcy,zcz,zcA,zcB,zcC,zcD,zcE,zcF,zcG,zcH,zcI,zcJ,zcK,zcL,zcM,zcN,zcO,zcP,zcQ,zcR,zcS,zcT,zcU,zcV,zcW,zcX,zcY,zcZ,zc0,zc1,zc2,zc3,zc4,zc5,zc6,zc7,zc8,zc9,zda,zdb,zdc,Bool.true_or,Bool.or_true,Bool.false_or,Bool.or_false,Bool.and_true,Bool.true_and,Bool.and_false,Bool.false_and,Int.cast_ofNat_Int,Int.natCast_zero,Int.natCast_one,beq_self_eq_true,zdd,wipeR]
        exact ⟨_, _, _, _, rfl⟩
    · rintro ρ S' ⟨rfl, z2, z3, z4, z5, rfl⟩
      rw [List.length_map, List.take_length]
      simp -dsimp (disch := first | assumption | omega) only [zaa,zab,zac,zad,zae,zaf,zag,zah,zai,zaj,zak,zal,zam,zan,zao,zap,zaq,zar,zas,zat,zau,zav,zaw,zax,zay,zaz,zaA,zaB,zaC,zaD,zaE,zaF,zaG,zaH,zaI,zaJ,zaK,zaL,zaM,zaN,zaO,zaP,zaQ,zaR,zaS,zaT,zaU,zaV,zaW,zaX,zaY,zaZ,za0,za1,za2,za3,za4,za5,za6,za7,za8,za9,zba,zbb,zbc,zbd,zbe,zbf,zbg,zbh,zbi,zbj,zbk,zbl,zbm,zbn,zbo,zbp,zbq,zbr,zbs,zbt,zbu,zbv,zbw,zbx,zby,zbz,zbA,zbB,zbC,zbD,zbE,zbF,zbG,zbH,zbI,zbJ,zbK,zbL,zbM,zbN,zbO,zbP,zbQ,zbR,zbS,zbT,zbU,zbV,zbW,zbX,zbY,zbZ,zb0,zb1,zb2,zb3,zb4,zb5,zb6,zb7,zb8,zb9,zca,zcb,eq_self,zcc,zcd,zce,zcf,zcg,zch,zci,zcj,zck,zcl,zcm,List.getElem?_cons_succ,List.getElem?_cons_zero,List.set_cons_succ,List.set_cons_zero,List.map_cons,List.map_nil,List.length_cons,List.length_nil,List.cons_append,List.nil_append,List.append_nil,List.isEmpty_cons,List.isEmpty_nil,if_true,if_false,ite_true,ite_false,Bool.not_true,Bool.not_false,Bool.not_not,decide_true,true_and,and_true,false_and,and_false,Bool.false_eq_true,reduceCtorEq,decide_true,decide_false,ite_self,forall_const,Nat.zero_add,Nat.reduceAdd,Nat.reduceLeDiff,Nat.reduceLT,Nat.reduceEqDiff,Nat.reduceSub,Nat.reduceMul,Nat.reduceBEq,Int.reduceLT,Int.reduceLE,Int.reduceEq,Int.reduceNe,Int.reduceAdd,Int.reduceMul,Int.reduceSub,Int.reduceNeg,Int.reducePow,Int.reduceBEq,Int.reduceToNat,Int.reduceGT,Int.reduceGE,String.reduceBEq,zcn,zco,List.replicate_succ,List.replicate_zero,zcp,zcq,zcr,zcs,zct,zcu,zcv,zcw,zcx,zcy,zcz,zcA,zcB,zcC,zcD,zcE,zcF,zcG,zcH,zcI,zcJ,zcK,zcL,zcM,zcN,zcO,zcP,zcQ,zcR,zcS,zcT,zcU,zcV,zcW,zcX,zcY,zcZ,zc0,zc1,zc2,zc3,zc4,zc5,zc6,zc7,zc8,zc9,zda,zdb,zdc,Bool.true_or,Bool.or_true,Bool.false_or,Bool.or_false,Bool.and_true,Bool.true_and,Bool.and_false,Bool.false_and,Int.cast_ofNat_Int,Int.natCast_zero,Int.natCast_one,beq_self_eq_true,zdd,wipeR]
  rw [e, zaa]
end
end Pm.L


namespace Pm.L
open PySem PySem.Spec L2 Pm
section
variable {S : Sto} {Q : PV → Sto → Prop}
theorem gF_2 (a b : Int) : gF [a, b] = Int.gcd a b := by simp [gF, Int.gcd]
theorem gF_3 (a b w : Int) : gF [a, b, w] = g3 a b w := by simp [gF, Int.gcd, g3]
theorem max_g {g : Nat} (h : 0 < g) : (if ((g : Nat) : Int) > 1 then ((g : Nat) : Int) else 1) = g := by omega
theorem w_lean {a b : Int} (hb : 0 < b) (ha : a.natAbs < 2 ^ 8999) (hs : b.natAbs < 2 ^ 8999) : Ok (m__law_lean [.tup [.int a, .int b]] S) Q = Q (rv (Rat.divInt a b)) S := by
  have e : m__law_lean [.tup [.int a, .int b]] S = .ok (rv (Rat.divInt a b)) S := by
    refine Ok.eq (Ok_defM rfl ?_)
    have hb' : b ≠ 0 := by omega
    have h1 := gcd_nz (a := a) hb'
    have h2 := log_gcd (a := a) hb' hs
    have e1 := fr_num (a := a) hb'
    have e2 := fr_den (a := a) hb'
    rw [if_pos hb] at e1 e2
    have c := fun S Q => o_common (S := S) (Q := Q) (is := [a, b]) (by intro x hx; simp at hx; rcases hx with rfl | rfl <;> assumption)
    simp only [List.map_cons, List.map_nil, gF_2] at c
    have g0 : 0 < Int.gcd a b := by omega
    have mg : (if ((Int.gcd a b : Nat) : Int) > 1 then ((Int.gcd a b : Nat) : Int) else 1) = (Int.gcd a b : Nat) := max_g g0
    simp only [gt_iff_lt] at mg
    unfold rv
    simp -dsimp (disch := first | assumption | omega) only [zaa,zab,zac,zad,zae,zaf,zag,zah,zai,zaj,zak,zal,zam,zan,zao,zap,zaq,zar,zas,zat,zau,zav,zaw,zax,zay,zaz,zaA,zaB,zaC,zaD,zaE,zaF,zaG,zaH,zaI,zaJ,zaK,zaL,zaM,zaN,zaO,zaP,zaQ,zaR,zaS,zaT,zaU,zaV,zaW,zaX,zaY,zaZ,za0,za1,za2,za3,za4,za5,za6,za7,za8,za9,zba,zbb,zbc,zbd,zbe,zbf,zbg,zbh,zbi,zbj,zbk,zbl,zbm,zbn,zbo,zbp,zbq,zbr,zbs,zbt,zbu,zbv,zbw,zbx,zby,zbz,zbA,zbB,zbC,zbD,zbE,zbF,zbG,zbH,zbI,zbJ,zbK,zbL,zbM,zbN,zbO,zbP,zbQ,zbR,zbS,zbT,zbU,zbV,zbW,zbX,zbY,zbZ,zb0,zb1,zb2,zb3,zb4,zb5,zb6,zb7,zb8,zb9,zca,zcb,eq_self,zcc,zcd,zce,zcf,zcg,zch,zci,zcj,zck,zcl,zcm,List.getElem?_cons_succ,List.getElem?_cons_zero,List.set_cons_succ,List.set_cons_zero,List.map_cons,List.map_nil,List.length_cons,List.length_nil,List.cons_append,List.nil_append,List.append_nil,List.isEmpty_cons,List.isEmpty_nil,if_true,if_false,ite_true,ite_false,Bool.not_true,Bool.not_false,Bool.not_not,decide_true,true_and,and_true,false_and,and_false,Bool.false_eq_true,reduceCtorEq,decide_true,decide_false,ite_self,forall_const,Nat.zero_add,Nat.reduceAdd,Nat.reduceLeDiff,Nat.reduceLT,Nat.reduceEqDiff,Nat.reduceSub,Nat.reduceMul,Nat.reduceBEq,Int.reduceLT,Int.reduceLE,Int.reduceEq,Int.reduceNe,Int.reduceAdd,Int.reduceMul,Int.reduceSub,Int.reduceNeg,Int.reducePow,Int.reduceBEq,Int.reduceToNat,Int.reduceGT,Int.reduceGE,String.reduceBEq,zcn,zco,List.replicate_succ,List.replicate_zero,zcp,zcq,zcr,zcs,zct,zcu,zcv,zcw,zcx,zcy,zcz,zcA,zcB,zcC,zcD,zcE,zcF,zcG,zcH,zcI,zcJ,zcK,zcL,zcM,zcN,zcO,zcP,zcQ,zcR,zcS,zcT,zcU,zcV,zcW,zcX,zcY,zcZ,zc0,zc1,zc2,zc3,zc4,zc5,zc6,zc7,zc8,zc9,zda,zdb,zdc,Bool.true_or,Bool.or_true,Bool.false_or,Bool.or_false,Bool.and_true,Bool.true_and,Bool.and_false,Bool.false_and,Int.cast_ofNat_Int,Int.natCast_zero,Int.natCast_one,beq_self_eq_true,zdd,zde,zdf,zdg,zdh,wipeR,c,mg,e1,e2]
    simp [h1, h2]
    omega
  rw [e, zaa]
theorem w_ratio {a b : Int} (hb : b ≠ 0) (ha : a.natAbs < 2 ^ 8999) (hs : b.natAbs < 2 ^ 8999) : Ok (m__law_ratio [.int a, .int b] S) Q = Q (rv (Rat.divInt a b)) S := by
  have e : m__law_ratio [.int a, .int b] S = .ok (rv (Rat.divInt a b)) S := by
    refine Ok.eq (Ok_defM rfl ?_)
    by_cases h : 0 < b
    · simp -dsimp (disch := first | assumption | omega) only [zaa,zab,zac,zad,zae,zaf,zag,zah,zai,zaj,zak,zal,zam,zan,zao,zap,zaq,zar,zas,zat,zau,zav,zaw,zax,zay,zaz,zaA,zaB,zaC,zaD,zaE,zaF,zaG,zaH,zaI,zaJ,zaK,zaL,zaM,zaN,zaO,zaP,zaQ,zaR,zaS,zaT,zaU,zaV,zaW,zaX,zaY,zaZ,za0,za1,za2,za3,za4,za5,za6,za7,za8,za9,zba,zbb,zbc,zbd,zbe,zbf,zbg,zbh,zbi,zbj,zbk,zbl,zbm,zbn,zbo,zbp,zbq,zbr,zbs,zbt,zbu,zbv,zbw,zbx,zby,zbz,zbA,zbB,zbC,zbD,zbE,zbF,zbG,zbH,zbI,zbJ,zbK,zbL,zbM,zbN,zbO,zbP,zbQ,zbR,zbS,zbT,zbU,zbV,zbW,zbX,zbY,zbZ,zb0,zb1,zb2,zb3,zb4,zb5,zb6,zb7,zb8,zb9,zca,zcb,eq_self,zcc,zcd,zce,zcf,zcg,zch,zci,zcj,zck,zcl,zcm,List.getElem?_cons_succ,List.getElem?_cons_zero,List.set_cons_succ,List.set_cons_zero,List.map_cons,List.map_nil,List.length_cons,List.length_nil,List.cons_append,List.nil_append,List.append_nil,List.isEmpty_cons,List.isEmpty_nil,if_true,if_false,ite_true,ite_false,Bool.not_true,Bool.not_false,Bool.not_not,decide_true,true_and,and_true,false_and,and_false,Bool.false_eq_true,reduceCtorEq,decide_true,decide_false,ite_self,forall_const,Nat.zero_add,Nat.reduceAdd,Nat.reduceLeDiff,Nat.reduceLT,Nat.reduceEqDiff,Nat.reduceSub,Nat.reduceMul,Nat.reduceBEq,Int.reduceLT,Int.reduceLE,Int.reduceEq,Int.reduceNe,Int.reduceAdd,Int.reduceMul,Int.reduceSub,Int.reduceNeg,Int.reducePow,Int.reduceBEq,Int.reduceToNat,Int.reduceGT,Int.reduceGE,String.reduceBEq,zcn,zco,List.replicate_succ,List.replicate_zero,zcp,zcq,zcr,zcs,zct,zcu,zcv,zcw,zcx,zcy,zcz,zcA,zcB,zcC,zcD,zcE,zcF,zcG,zcH,zcI,zcJ,zcK,zcL,zcM,zcN,zcO,zcP,zcQ,zcR,zcS,zcT,zcU,zcV,zcW,zcX,zcY,zcZ,zc0,zc1,zc2,zc3,zc4,zc5,zc6,zc7,zc8,zc9,zda,zdb,zdc,Bool.true_or,Bool.or_true,Bool.false_or,Bool.or_false,Bool.and_true,Bool.true_and,Bool.and_false,Bool.false_and,Int.cast_ofNat_Int,Int.natCast_zero,Int.natCast_one,beq_self_eq_true,zdd,zde,zdf,zdg,zdh,wipeR,h,w_lean h ha hs]
    · have h1 : 0 < 0 - b := by omega
      have h2 : (0 - b).natAbs < 2 ^ 8999 := by
        have : (0 - b).natAbs = b.natAbs := by omega
        rw [this]; exact hs
      have h3 : (0 - a).natAbs < 2 ^ 8999 := by
        have : (0 - a).natAbs = a.natAbs := by omega
        rw [this]; exact ha
      have e : Rat.divInt (0 - a) (0 - b) = Rat.divInt a b := by
        rw [Int.zero_sub, Int.zero_sub, Rat.neg_divInt_neg]
      simp -dsimp (disch := first | assumption | omega) only [zaa,zab,zac,zad,zae,zaf,zag,zah,zai,zaj,zak,zal,zam,zan,zao,zap,zaq,zar,zas,zat,zau,zav,zaw,zax,zay,zaz,zaA,zaB,zaC,zaD,zaE,zaF,zaG,zaH,zaI,zaJ,zaK,zaL,zaM,zaN,zaO,zaP,zaQ,zaR,zaS,zaT,zaU,zaV,zaW,zaX,zaY,zaZ,za0,za1,za2,za3,za4,za5,za6,za7,za8,za9,zba,zbb,zbc,zbd,zbe,zbf,zbg,zbh,zbi,zbj,zbk,zbl,zbm,zbn,zbo,zbp,zbq,zbr,zbs,zbt,zbu,zbv,zbw,zbx,zby,zbz,zbA,zbB,zbC,zbD,zbE,zbF,zbG,zbH,zbI,zbJ,zbK,zbL,zbM,zbN,zbO,zbP,zbQ,zbR,zbS,zbT,zbU,zbV,zbW,zbX,zbY,zbZ,zb0,zb1,zb2,zb3,zb4,zb5,zb6,zb7,zb8,zb9,zca,zcb,eq_self,zcc,zcd,zce,zcf,zcg,zch,zci,zcj,zck,zcl,zcm,List.getElem?_cons_succ,List.getElem?_cons_zero,List.set_cons_succ,List.set_cons_zero,List.map_cons,List.map_nil,List.length_cons,List.length_nil,List.cons_append,List.nil_append,List.append_nil,List.isEmpty_cons,List.isEmpty_nil,if_true,if_false,ite_true,ite_false,Bool.not_true,Bool.not_false,Bool.not_not,decide_true,true_and,and_true,false_and,and_false,Bool.false_eq_true,reduceCtorEq,decide_true,decide_false,ite_self,forall_const,Nat.zero_add,Nat.reduceAdd,Nat.reduceLeDiff,Nat.reduceLT,Nat.reduceEqDiff,Nat.reduceSub,Nat.reduceMul,Nat.reduceBEq,Int.reduceLT,Int.reduceLE,Int.reduceEq,Int.reduceNe,Int.reduceAdd,Int.reduceMul,Int.reduceSub,Int.reduceNeg,Int.reducePow,Int.reduceBEq,Int.reduceToNat,Int.reduceGT,Int.reduceGE,String.reduceBEq,zcn,zco,List.replicate_succ,List.replicate_zero,zcp,zcq,zcr,zcs,zct,zcu,zcv,zcw,zcx,zcy,zcz,zcA,zcB,zcC,zcD,zcE,zcF,zcG,zcH,zcI,zcJ,zcK,zcL,zcM,zcN,zcO,zcP,zcQ,zcR,zcS,zcT,zcU,zcV,zcW,zcX,zcY,zcZ,zc0,zc1,zc2,zc3,zc4,zc5,zc6,zc7,zc8,zc9,zda,zdb,zdc,Bool.true_or,Bool.or_true,Bool.false_or,Bool.or_false,Bool.and_true,Bool.true_and,Bool.and_false,Bool.false_and,Int.cast_ofNat_Int,Int.natCast_zero,Int.natCast_one,beq_self_eq_true,zdd,zde,zdf,zdg,zdh,wipeR,h,w_lean h1 h3 h2,e]
  rw [e, zaa]
theorem up8 {n k : Nat} (h : n < 2 ^ k) (hk : k ≤ 8999) : n < 2 ^ 8999 := Nat.lt_of_lt_of_le h (Nat.pow_le_pow_right (by decide) hk)
section
variable {q r : Rat} {k l : Nat} [h : Sz q k] [g : Sz r l]
theorem w_plus (hk : k + l ≤ 8000) : Ok (m__law_plus [rv q, rv r] S) Q = Q (rv (q + r)) S := by
  have e : m__law_plus [rv q, rv r] S = .ok (rv (q + r)) S := by
    refine Ok.eq (Ok_defM rfl ?_)
    have n2 : q.num.natAbs.log2 + (r.den : Int).natAbs.log2 < 1000000 := lg h.n g.d (by omega)
    have n3 : r.num.natAbs.log2 + (q.den : Int).natAbs.log2 < 1000000 := lg g.n h.d (by omega)
    have n4 : (q.den : Int).natAbs.log2 + (r.den : Int).natAbs.log2 < 1000000 := lg h.d g.d (by omega)
    simp -dsimp (disch := first | assumption | omega) only [zaa,zab,zac,zad,zae,zaf,zag,zah,zai,zaj,zak,zal,zam,zan,zao,zap,zaq,zar,zas,zat,zau,zav,zaw,zax,zay,zaz,zaA,zaB,zaC,zaD,zaE,zaF,zaG,zaH,zaI,zaJ,zaK,zaL,zaM,zaN,zaO,zaP,zaQ,zaR,zaS,zaT,zaU,zaV,zaW,zaX,zaY,zaZ,za0,za1,za2,za3,za4,za5,za6,za7,za8,za9,zba,zbb,zbc,zbd,zbe,zbf,zbg,zbh,zbi,zbj,zbk,zbl,zbm,zbn,zbo,zbp,zbq,zbr,zbs,zbt,zbu,zbv,zbw,zbx,zby,zbz,zbA,zbB,zbC,zbD,zbE,zbF,zbG,zbH,zbI,zbJ,zbK,zbL,zbM,zbN,zbO,zbP,zbQ,zbR,zbS,zbT,zbU,zbV,zbW,zbX,zbY,zbZ,zb0,zb1,zb2,zb3,zb4,zb5,zb6,zb7,zb8,zb9,zca,zcb,eq_self,zcc,zcd,zce,zcf,zcg,zch,zci,zcj,zck,zcl,zcm,List.getElem?_cons_succ,List.getElem?_cons_zero,List.set_cons_succ,List.set_cons_zero,List.map_cons,List.map_nil,List.length_cons,List.length_nil,List.cons_append,List.nil_append,List.append_nil,List.isEmpty_cons,List.isEmpty_nil,if_true,if_false,ite_true,ite_false,Bool.not_true,Bool.not_false,Bool.not_not,decide_true,true_and,and_true,false_and,and_false,Bool.false_eq_true,reduceCtorEq,decide_true,decide_false,ite_self,forall_const,Nat.zero_add,Nat.reduceAdd,Nat.reduceLeDiff,Nat.reduceLT,Nat.reduceEqDiff,Nat.reduceSub,Nat.reduceMul,Nat.reduceBEq,Int.reduceLT,Int.reduceLE,Int.reduceEq,Int.reduceNe,Int.reduceAdd,Int.reduceMul,Int.reduceSub,Int.reduceNeg,Int.reducePow,Int.reduceBEq,Int.reduceToNat,Int.reduceGT,Int.reduceGE,String.reduceBEq,zcn,zco,List.replicate_succ,List.replicate_zero,zcp,zcq,zcr,zcs,zct,zcu,zcv,zcw,zcx,zcy,zcz,zcA,zcB,zcC,zcD,zcE,zcF,zcG,zcH,zcI,zcJ,zcK,zcL,zcM,zcN,zcO,zcP,zcQ,zcR,zcS,zcT,zcU,zcV,zcW,zcX,zcY,zcZ,zc0,zc1,zc2,zc3,zc4,zc5,zc6,zc7,zc8,zc9,zda,zdb,zdc,Bool.true_or,Bool.or_true,Bool.false_or,Bool.or_false,Bool.and_true,Bool.true_and,Bool.and_false,Bool.false_and,Int.cast_ofNat_Int,Int.natCast_zero,Int.natCast_one,beq_self_eq_true,zdd,zde,zdf,zdg,zdh,wipeR,n2,n3,n4,w_ratio (dd_nz q r) (up8 (nAdd h g) (by omega)) (up8 (nDen h g) (by omega)),add_fr q r]
  rw [e, zaa]
theorem w_less (hk : k + l ≤ 8000) : Ok (m__law_less [rv q, rv r] S) Q = Q (rv (q - r)) S := by
  have e : m__law_less [rv q, rv r] S = .ok (rv (q - r)) S := by
    refine Ok.eq (Ok_defM rfl ?_)
    have n2 : q.num.natAbs.log2 + (r.den : Int).natAbs.log2 < 1000000 := lg h.n g.d (by omega)
    have n3 : r.num.natAbs.log2 + (q.den : Int).natAbs.log2 < 1000000 := lg g.n h.d (by omega)
    have n4 : (q.den : Int).natAbs.log2 + (r.den : Int).natAbs.log2 < 1000000 := lg h.d g.d (by omega)
    simp -dsimp (disch := first | assumption | omega) only [zaa,zab,zac,zad,zae,zaf,zag,zah,zai,zaj,zak,zal,zam,zan,zao,zap,zaq,zar,zas,zat,zau,zav,zaw,zax,zay,zaz,zaA,zaB,zaC,zaD,zaE,zaF,zaG,zaH,zaI,zaJ,zaK,zaL,zaM,zaN,zaO,zaP,zaQ,zaR,zaS,zaT,zaU,zaV,zaW,zaX,zaY,zaZ,za0,za1,za2,za3,za4,za5,za6,za7,za8,za9,zba,zbb,zbc,zbd,zbe,zbf,zbg,zbh,zbi,zbj,zbk,zbl,zbm,zbn,zbo,zbp,zbq,zbr,zbs,zbt,zbu,zbv,zbw,zbx,zby,zbz,zbA,zbB,zbC,zbD,zbE,zbF,zbG,zbH,zbI,zbJ,zbK,zbL,zbM,zbN,zbO,zbP,zbQ,zbR,zbS,zbT,zbU,zbV,zbW,zbX,zbY,zbZ,zb0,zb1,zb2,zb3,zb4,zb5,zb6,zb7,zb8,zb9,zca,zcb,eq_self,zcc,zcd,zce,zcf,zcg,zch,zci,zcj,zck,zcl,zcm,List.getElem?_cons_succ,List.getElem?_cons_zero,List.set_cons_succ,List.set_cons_zero,List.map_cons,List.map_nil,List.length_cons,List.length_nil,List.cons_append,List.nil_append,List.append_nil,List.isEmpty_cons,List.isEmpty_nil,if_true,if_false,ite_true,ite_false,Bool.not_true,Bool.not_false,Bool.not_not,decide_true,true_and,and_true,false_and,and_false,Bool.false_eq_true,reduceCtorEq,decide_true,decide_false,ite_self,forall_const,Nat.zero_add,Nat.reduceAdd,Nat.reduceLeDiff,Nat.reduceLT,Nat.reduceEqDiff,Nat.reduceSub,Nat.reduceMul,Nat.reduceBEq,Int.reduceLT,Int.reduceLE,Int.reduceEq,Int.reduceNe,Int.reduceAdd,Int.reduceMul,Int.reduceSub,Int.reduceNeg,Int.reducePow,Int.reduceBEq,Int.reduceToNat,Int.reduceGT,Int.reduceGE,String.reduceBEq,zcn,zco,List.replicate_succ,List.replicate_zero,zcp,zcq,zcr,zcs,zct,zcu,zcv,zcw,zcx,zcy,zcz,zcA,zcB,zcC,zcD,zcE,zcF,zcG,zcH,zcI,zcJ,zcK,zcL,zcM,zcN,zcO,zcP,zcQ,zcR,zcS,zcT,zcU,zcV,zcW,zcX,zcY,zcZ,zc0,zc1,zc2,zc3,zc4,zc5,zc6,zc7,zc8,zc9,zda,zdb,zdc,Bool.true_or,Bool.or_true,Bool.false_or,Bool.or_false,Bool.and_true,Bool.true_and,Bool.and_false,Bool.false_and,Int.cast_ofNat_Int,Int.natCast_zero,Int.natCast_one,beq_self_eq_true,zdd,zde,zdf,zdg,zdh,wipeR,n2,n3,n4,w_ratio (dd_nz q r) (up8 (nSub h g) (by omega)) (up8 (nDen h g) (by omega)),sub_fr q r]
  rw [e, zaa]
theorem w_times (hk : k + l ≤ 8000) : Ok (m__law_times [rv q, rv r] S) Q = Q (rv (q * r)) S := by
  have e : m__law_times [rv q, rv r] S = .ok (rv (q * r)) S := by
    refine Ok.eq (Ok_defM rfl ?_)
    have n1 := lg h.n g.n (by omega)
    have n4 : (q.den : Int).natAbs.log2 + (r.den : Int).natAbs.log2 < 1000000 := lg h.d g.d (by omega)
    simp -dsimp (disch := first | assumption | omega) only [zaa,zab,zac,zad,zae,zaf,zag,zah,zai,zaj,zak,zal,zam,zan,zao,zap,zaq,zar,zas,zat,zau,zav,zaw,zax,zay,zaz,zaA,zaB,zaC,zaD,zaE,zaF,zaG,zaH,zaI,zaJ,zaK,zaL,zaM,zaN,zaO,zaP,zaQ,zaR,zaS,zaT,zaU,zaV,zaW,zaX,zaY,zaZ,za0,za1,za2,za3,za4,za5,za6,za7,za8,za9,zba,zbb,zbc,zbd,zbe,zbf,zbg,zbh,zbi,zbj,zbk,zbl,zbm,zbn,zbo,zbp,zbq,zbr,zbs,zbt,zbu,zbv,zbw,zbx,zby,zbz,zbA,zbB,zbC,zbD,zbE,zbF,zbG,zbH,zbI,zbJ,zbK,zbL,zbM,zbN,zbO,zbP,zbQ,zbR,zbS,zbT,zbU,zbV,zbW,zbX,zbY,zbZ,zb0,zb1,zb2,zb3,zb4,zb5,zb6,zb7,zb8,zb9,zca,zcb,eq_self,zcc,zcd,zce,zcf,zcg,zch,zci,zcj,zck,zcl,zcm,List.getElem?_cons_succ,List.getElem?_cons_zero,List.set_cons_succ,List.set_cons_zero,List.map_cons,List.map_nil,List.length_cons,List.length_nil,List.cons_append,List.nil_append,List.append_nil,List.isEmpty_cons,List.isEmpty_nil,if_true,if_false,ite_true,ite_false,Bool.not_true,Bool.not_false,Bool.not_not,decide_true,true_and,and_true,false_and,and_false,Bool.false_eq_true,reduceCtorEq,decide_true,decide_false,ite_self,forall_const,Nat.zero_add,Nat.reduceAdd,Nat.reduceLeDiff,Nat.reduceLT,Nat.reduceEqDiff,Nat.reduceSub,Nat.reduceMul,Nat.reduceBEq,Int.reduceLT,Int.reduceLE,Int.reduceEq,Int.reduceNe,Int.reduceAdd,Int.reduceMul,Int.reduceSub,Int.reduceNeg,Int.reducePow,Int.reduceBEq,Int.reduceToNat,Int.reduceGT,Int.reduceGE,String.reduceBEq,zcn,zco,List.replicate_succ,List.replicate_zero,zcp,zcq,zcr,zcs,zct,zcu,zcv,zcw,zcx,zcy,zcz,zcA,zcB,zcC,zcD,zcE,zcF,zcG,zcH,zcI,zcJ,zcK,zcL,zcM,zcN,zcO,zcP,zcQ,zcR,zcS,zcT,zcU,zcV,zcW,zcX,zcY,zcZ,zc0,zc1,zc2,zc3,zc4,zc5,zc6,zc7,zc8,zc9,zda,zdb,zdc,Bool.true_or,Bool.or_true,Bool.false_or,Bool.or_false,Bool.and_true,Bool.true_and,Bool.and_false,Bool.false_and,Int.cast_ofNat_Int,Int.natCast_zero,Int.natCast_one,beq_self_eq_true,zdd,zde,zdf,zdg,zdh,wipeR,n1,n4,w_ratio (dd_nz q r) (up8 (nMul h g) (by omega)) (up8 (nDen h g) (by omega)),mul_fr q r]
  rw [e, zaa]
theorem w_over (hr : r ≠ 0) (hk : k + l ≤ 8000) : Ok (m__law_over [rv q, rv r] S) Q = Q (rv (q / r)) S := by
  have e : m__law_over [rv q, rv r] S = .ok (rv (q / r)) S := by
    refine Ok.eq (Ok_defM rfl ?_)
    have n2 : q.num.natAbs.log2 + (r.den : Int).natAbs.log2 < 1000000 := lg h.n g.d (by omega)
    have n4 : (q.den : Int).natAbs.log2 + r.num.natAbs.log2 < 1000000 := lg h.d g.n (by omega)
    simp -dsimp (disch := first | assumption | omega) only [zaa,zab,zac,zad,zae,zaf,zag,zah,zai,zaj,zak,zal,zam,zan,zao,zap,zaq,zar,zas,zat,zau,zav,zaw,zax,zay,zaz,zaA,zaB,zaC,zaD,zaE,zaF,zaG,zaH,zaI,zaJ,zaK,zaL,zaM,zaN,zaO,zaP,zaQ,zaR,zaS,zaT,zaU,zaV,zaW,zaX,zaY,zaZ,za0,za1,za2,za3,za4,za5,za6,za7,za8,za9,zba,zbb,zbc,zbd,zbe,zbf,zbg,zbh,zbi,zbj,zbk,zbl,zbm,zbn,zbo,zbp,zbq,zbr,zbs,zbt,zbu,zbv,zbw,zbx,zby,zbz,zbA,zbB,zbC,zbD,zbE,zbF,zbG,zbH,zbI,zbJ,zbK,zbL,zbM,zbN,zbO,zbP,zbQ,zbR,zbS,zbT,zbU,zbV,zbW,zbX,zbY,zbZ,zb0,zb1,zb2,zb3,zb4,zb5,zb6,zb7,zb8,zb9,zca,zcb,eq_self,zcc,zcd,zce,zcf,zcg,zch,zci,zcj,zck,zcl,zcm,List.getElem?_cons_succ,List.getElem?_cons_zero,List.set_cons_succ,List.set_cons_zero,List.map_cons,List.map_nil,List.length_cons,List.length_nil,List.cons_append,List.nil_append,List.append_nil,List.isEmpty_cons,List.isEmpty_nil,if_true,if_false,ite_true,ite_false,Bool.not_true,Bool.not_false,Bool.not_not,decide_true,true_and,and_true,false_and,and_false,Bool.false_eq_true,reduceCtorEq,decide_true,decide_false,ite_self,forall_const,Nat.zero_add,Nat.reduceAdd,Nat.reduceLeDiff,Nat.reduceLT,Nat.reduceEqDiff,Nat.reduceSub,Nat.reduceMul,Nat.reduceBEq,Int.reduceLT,Int.reduceLE,Int.reduceEq,Int.reduceNe,Int.reduceAdd,Int.reduceMul,Int.reduceSub,Int.reduceNeg,Int.reducePow,Int.reduceBEq,Int.reduceToNat,Int.reduceGT,Int.reduceGE,String.reduceBEq,zcn,zco,List.replicate_succ,List.replicate_zero,zcp,zcq,zcr,zcs,zct,zcu,zcv,zcw,zcx,zcy,zcz,zcA,zcB,zcC,zcD,zcE,zcF,zcG,zcH,zcI,zcJ,zcK,zcL,zcM,zcN,zcO,zcP,zcQ,zcR,zcS,zcT,zcU,zcV,zcW,zcX,zcY,zcZ,zc0,zc1,zc2,zc3,zc4,zc5,zc6,zc7,zc8,zc9,zda,zdb,zdc,Bool.true_or,Bool.or_true,Bool.false_or,Bool.or_false,Bool.and_true,Bool.true_and,Bool.and_false,Bool.false_and,Int.cast_ofNat_Int,Int.natCast_zero,Int.natCast_one,beq_self_eq_true,zdd,zde,zdf,zdg,zdh,wipeR,n2,n4,w_ratio (Int.mul_ne_zero (den_nz q) (num_nz hr)) (up8 (nDiv h g) (by omega)) (up8 (nDivD h g) (by omega)),div_fr q r]
  rw [e, zaa]
theorem w_place (hk : k + l ≤ 8000) : Ok (m__law_place [rv q, rv r] S) Q = Q (pl q r) S := by
  have n2 : q.num.natAbs.log2 + (r.den : Int).natAbs.log2 < 1000000 := lg h.n g.d (by omega)
  have n3 : r.num.natAbs.log2 + (q.den : Int).natAbs.log2 < 1000000 := lg g.n h.d (by omega)
  have n4 : (q.den : Int).natAbs.log2 + (r.den : Int).natAbs.log2 < 1000000 := lg h.d g.d (by omega)
  have hw := dd_pos q r
  have b1 := up8 (nDiv h g) (by omega)
  have b2 := up8 (nDiv g h) (by omega)
  have b3 := up8 (nDen h g) (by omega)
  have lean3 : ∀ S Q, Ok (m__law_lean [.tup [.int (q.num * r.den), .int (r.num * q.den), .int (q.den * r.den)]] S) Q = Q (pl q r) S := fun S Q => by
    have e : m__law_lean [.tup [.int (q.num * r.den), .int (r.num * q.den), .int (q.den * r.den)]] S = .ok (pl q r) S := by
      refine Ok.eq (Ok_defM rfl ?_)
      have c := fun S Q => o_common (S := S) (Q := Q) (is := [q.num * r.den, r.num * q.den, q.den * r.den]) (by intro x hx; simp at hx; rcases hx with rfl | rfl | rfl <;> assumption)
      simp only [List.map_cons, List.map_nil, gF_3] at c
      have h1 := g3_nz (a := q.num * r.den) (b := r.num * q.den) hw
      have h2 : (g3 (q.num * r.den) (r.num * q.den) (q.den * r.den)).log2 < 9000 := Nat.lt_succ_of_lt (log_g3 hw b3)
      have g0 : 0 < g3 (q.num * r.den) (r.num * q.den) (q.den * r.den) := by omega
      have mg := max_g g0
      simp only [gt_iff_lt] at mg
      have e1 : (q.num * r.den).fdiv (g3 (q.num * r.den) (r.num * q.den) (q.den * r.den)) = q.num * r.den / g3 (q.num * r.den) (r.num * q.den) (q.den * r.den) := fdiv_of_dvd (g3_a ..)
      have e2 : (r.num * q.den).fdiv (g3 (q.num * r.den) (r.num * q.den) (q.den * r.den)) = r.num * q.den / g3 (q.num * r.den) (r.num * q.den) (q.den * r.den) := fdiv_of_dvd (g3_b ..)
      have e3 : ((q.den : Int) * r.den).fdiv (g3 (q.num * r.den) (r.num * q.den) (q.den * r.den)) = q.den * r.den / g3 (q.num * r.den) (r.num * q.den) (q.den * r.den) := fdiv_of_dvd (g3_w ..)
      simp -dsimp (disch := first | assumption | omega) only [zaa,zab,zac,zad,zae,zaf,zag,zah,zai,zaj,zak,zal,zam,zan,zao,zap,zaq,zar,zas,zat,zau,zav,zaw,zax,zay,zaz,zaA,zaB,zaC,zaD,zaE,zaF,zaG,zaH,zaI,zaJ,zaK,zaL,zaM,zaN,zaO,zaP,zaQ,zaR,zaS,zaT,zaU,zaV,zaW,zaX,zaY,zaZ,za0,za1,za2,za3,za4,za5,za6,za7,za8,za9,zba,zbb,zbc,zbd,zbe,zbf,zbg,zbh,zbi,zbj,zbk,zbl,zbm,zbn,zbo,zbp,zbq,zbr,zbs,zbt,zbu,zbv,zbw,zbx,zby,zbz,zbA,zbB,zbC,zbD,zbE,zbF,zbG,zbH,zbI,zbJ,zbK,zbL,zbM,zbN,zbO,zbP,zbQ,zbR,zbS,zbT,zbU,zbV,zbW,zbX,zbY,zbZ,zb0,zb1,zb2,zb3,zb4,zb5,zb6,zb7,zb8,zb9,zca,zcb,eq_self,zcc,zcd,zce,zcf,zcg,zch,zci,zcj,zck,zcl,zcm,List.getElem?_cons_succ,List.getElem?_cons_zero,List.set_cons_succ,List.set_cons_zero,List.map_cons,List.map_nil,List.length_cons,List.length_nil,List.cons_append,List.nil_append,List.append_nil,List.isEmpty_cons,List.isEmpty_nil,if_true,if_false,ite_true,ite_false,Bool.not_true,Bool.not_false,Bool.not_not,decide_true,true_and,and_true,false_and,and_false,Bool.false_eq_true,reduceCtorEq,decide_true,decide_false,ite_self,forall_const,Nat.zero_add,Nat.reduceAdd,Nat.reduceLeDiff,Nat.reduceLT,Nat.reduceEqDiff,Nat.reduceSub,Nat.reduceMul,Nat.reduceBEq,Int.reduceLT,Int.reduceLE,Int.reduceEq,Int.reduceNe,Int.reduceAdd,Int.reduceMul,Int.reduceSub,Int.reduceNeg,Int.reducePow,Int.reduceBEq,Int.reduceToNat,Int.reduceGT,Int.reduceGE,String.reduceBEq,zcn,zco,List.replicate_succ,List.replicate_zero,zcp,zcq,zcr,zcs,zct,zcu,zcv,zcw,zcx,zcy,zcz,zcA,zcB,zcC,zcD,zcE,zcF,zcG,zcH,zcI,zcJ,zcK,zcL,zcM,zcN,zcO,zcP,zcQ,zcR,zcS,zcT,zcU,zcV,zcW,zcX,zcY,zcZ,zc0,zc1,zc2,zc3,zc4,zc5,zc6,zc7,zc8,zc9,zda,zdb,zdc,Bool.true_or,Bool.or_true,Bool.false_or,Bool.or_false,Bool.and_true,Bool.true_and,Bool.and_false,Bool.false_and,Int.cast_ofNat_Int,Int.natCast_zero,Int.natCast_one,beq_self_eq_true,zdd,zde,zdf,zdg,zdh,wipeR,c,mg,h1,e1,e2,e3,Int.natAbs_natCast,h2,ne_eq,not_false_eq_true]
      rfl
    rw [e, zaa]
  have e : m__law_place [rv q, rv r] S = .ok (pl q r) S := by
    refine Ok.eq (Ok_defM rfl ?_)
    simp -dsimp (disch := first | assumption | omega) only [zaa,zab,zac,zad,zae,zaf,zag,zah,zai,zaj,zak,zal,zam,zan,zao,zap,zaq,zar,zas,zat,zau,zav,zaw,zax,zay,zaz,zaA,zaB,zaC,zaD,zaE,zaF,zaG,zaH,zaI,zaJ,zaK,zaL,zaM,zaN,zaO,zaP,zaQ,zaR,zaS,zaT,zaU,zaV,zaW,zaX,zaY,zaZ,za0,za1,za2,za3,za4,za5,za6,za7,za8,za9,zba,zbb,zbc,zbd,zbe,zbf,zbg,zbh,zbi,zbj,zbk,zbl,zbm,zbn,zbo,zbp,zbq,zbr,zbs,zbt,zbu,zbv,zbw,zbx,zby,zbz,zbA,zbB,zbC,zbD,zbE,zbF,zbG,zbH,zbI,zbJ,zbK,zbL,zbM,zbN,zbO,zbP,zbQ,zbR,zbS,zbT,zbU,zbV,zbW,zbX,zbY,zbZ,zb0,zb1,zb2,zb3,zb4,zb5,zb6,zb7,zb8,zb9,zca,zcb,eq_self,zcc,zcd,zce,zcf,zcg,zch,zci,zcj,zck,zcl,zcm,List.getElem?_cons_succ,List.getElem?_cons_zero,List.set_cons_succ,List.set_cons_zero,List.map_cons,List.map_nil,List.length_cons,List.length_nil,List.cons_append,List.nil_append,List.append_nil,List.isEmpty_cons,List.isEmpty_nil,if_true,if_false,ite_true,ite_false,Bool.not_true,Bool.not_false,Bool.not_not,decide_true,true_and,and_true,false_and,and_false,Bool.false_eq_true,reduceCtorEq,decide_true,decide_false,ite_self,forall_const,Nat.zero_add,Nat.reduceAdd,Nat.reduceLeDiff,Nat.reduceLT,Nat.reduceEqDiff,Nat.reduceSub,Nat.reduceMul,Nat.reduceBEq,Int.reduceLT,Int.reduceLE,Int.reduceEq,Int.reduceNe,Int.reduceAdd,Int.reduceMul,Int.reduceSub,Int.reduceNeg,Int.reducePow,Int.reduceBEq,Int.reduceToNat,Int.reduceGT,Int.reduceGE,String.reduceBEq,zcn,zco,List.replicate_succ,List.replicate_zero,zcp,zcq,zcr,zcs,zct,zcu,zcv,zcw,zcx,zcy,zcz,zcA,zcB,zcC,zcD,zcE,zcF,zcG,zcH,zcI,zcJ,zcK,zcL,zcM,zcN,zcO,zcP,zcQ,zcR,zcS,zcT,zcU,zcV,zcW,zcX,zcY,zcZ,zc0,zc1,zc2,zc3,zc4,zc5,zc6,zc7,zc8,zc9,zda,zdb,zdc,Bool.true_or,Bool.or_true,Bool.false_or,Bool.or_false,Bool.and_true,Bool.true_and,Bool.and_false,Bool.false_and,Int.cast_ofNat_Int,Int.natCast_zero,Int.natCast_one,beq_self_eq_true,zdd,zde,zdf,zdg,zdh,wipeR,n2,n3,n4,lean3]
  rw [e, zaa]
theorem w_apart (hk : k + l ≤ 8000) : Ok (m__law_apart [pl q r] S) Q = Q (.tup [rv q, rv r]) S := by
  have e : m__law_apart [pl q r] S = .ok (.tup [rv q, rv r]) S := by
    refine Ok.eq (Ok_defM rfl ?_)
    have b1 := up8 (pX_lt h g) (by omega)
    have b2 := up8 (pY_lt h g) (by omega)
    have b3 := up8 (pW_lt h g) (by omega)
    simp -dsimp (disch := first | assumption | omega) only [zaa,zab,zac,zad,zae,zaf,zag,zah,zai,zaj,zak,zal,zam,zan,zao,zap,zaq,zar,zas,zat,zau,zav,zaw,zax,zay,zaz,zaA,zaB,zaC,zaD,zaE,zaF,zaG,zaH,zaI,zaJ,zaK,zaL,zaM,zaN,zaO,zaP,zaQ,zaR,zaS,zaT,zaU,zaV,zaW,zaX,zaY,zaZ,za0,za1,za2,za3,za4,za5,za6,za7,za8,za9,zba,zbb,zbc,zbd,zbe,zbf,zbg,zbh,zbi,zbj,zbk,zbl,zbm,zbn,zbo,zbp,zbq,zbr,zbs,zbt,zbu,zbv,zbw,zbx,zby,zbz,zbA,zbB,zbC,zbD,zbE,zbF,zbG,zbH,zbI,zbJ,zbK,zbL,zbM,zbN,zbO,zbP,zbQ,zbR,zbS,zbT,zbU,zbV,zbW,zbX,zbY,zbZ,zb0,zb1,zb2,zb3,zb4,zb5,zb6,zb7,zb8,zb9,zca,zcb,eq_self,zcc,zcd,zce,zcf,zcg,zch,zci,zcj,zck,zcl,zcm,List.getElem?_cons_succ,List.getElem?_cons_zero,List.set_cons_succ,List.set_cons_zero,List.map_cons,List.map_nil,List.length_cons,List.length_nil,List.cons_append,List.nil_append,List.append_nil,List.isEmpty_cons,List.isEmpty_nil,if_true,if_false,ite_true,ite_false,Bool.not_true,Bool.not_false,Bool.not_not,decide_true,true_and,and_true,false_and,and_false,Bool.false_eq_true,reduceCtorEq,decide_true,decide_false,ite_self,forall_const,Nat.zero_add,Nat.reduceAdd,Nat.reduceLeDiff,Nat.reduceLT,Nat.reduceEqDiff,Nat.reduceSub,Nat.reduceMul,Nat.reduceBEq,Int.reduceLT,Int.reduceLE,Int.reduceEq,Int.reduceNe,Int.reduceAdd,Int.reduceMul,Int.reduceSub,Int.reduceNeg,Int.reducePow,Int.reduceBEq,Int.reduceToNat,Int.reduceGT,Int.reduceGE,String.reduceBEq,zcn,zco,List.replicate_succ,List.replicate_zero,zcp,zcq,zcr,zcs,zct,zcu,zcv,zcw,zcx,zcy,zcz,zcA,zcB,zcC,zcD,zcE,zcF,zcG,zcH,zcI,zcJ,zcK,zcL,zcM,zcN,zcO,zcP,zcQ,zcR,zcS,zcT,zcU,zcV,zcW,zcX,zcY,zcZ,zc0,zc1,zc2,zc3,zc4,zc5,zc6,zc7,zc8,zc9,zda,zdb,zdc,Bool.true_or,Bool.or_true,Bool.false_or,Bool.or_false,Bool.and_true,Bool.true_and,Bool.and_false,Bool.false_and,Int.cast_ofNat_Int,Int.natCast_zero,Int.natCast_one,beq_self_eq_true,zdd,zde,zdf,zdg,zdh,wipeR,w_ratio (pW_nz q r) b1 b3,w_ratio (pW_nz q r) b2 b3,p_far,p_tall]
  rw [e, zaa]
end
section
variable {s b d : Rat} {k l m : Nat} [hs : Sz s k] [hz : Sz b l] [hy : Sz d m]
theorem w_high (hk : k + l + m ≤ 2000) : Ok (m__law_high [jv s b, rv d] S) Q = Q (rv (d * (s - b * d))) S := by
  have e : m__law_high [jv s b, rv d] S = .ok (rv (d * (s - b * d))) S := by
    refine Ok.eq (Ok_defM rfl ?_)
    simp -dsimp (disch := first | assumption | omega) only [zaa,zab,zac,zad,zae,zaf,zag,zah,zai,zaj,zak,zal,zam,zan,zao,zap,zaq,zar,zas,zat,zau,zav,zaw,zax,zay,zaz,zaA,zaB,zaC,zaD,zaE,zaF,zaG,zaH,zaI,zaJ,zaK,zaL,zaM,zaN,zaO,zaP,zaQ,zaR,zaS,zaT,zaU,zaV,zaW,zaX,zaY,zaZ,za0,za1,za2,za3,za4,za5,za6,za7,za8,za9,zba,zbb,zbc,zbd,zbe,zbf,zbg,zbh,zbi,zbj,zbk,zbl,zbm,zbn,zbo,zbp,zbq,zbr,zbs,zbt,zbu,zbv,zbw,zbx,zby,zbz,zbA,zbB,zbC,zbD,zbE,zbF,zbG,zbH,zbI,zbJ,zbK,zbL,zbM,zbN,zbO,zbP,zbQ,zbR,zbS,zbT,zbU,zbV,zbW,zbX,zbY,zbZ,zb0,zb1,zb2,zb3,zb4,zb5,zb6,zb7,zb8,zb9,zca,zcb,eq_self,zcc,zcd,zce,zcf,zcg,zch,zci,zcj,zck,zcl,zcm,List.getElem?_cons_succ,List.getElem?_cons_zero,List.set_cons_succ,List.set_cons_zero,List.map_cons,List.map_nil,List.length_cons,List.length_nil,List.cons_append,List.nil_append,List.append_nil,List.isEmpty_cons,List.isEmpty_nil,if_true,if_false,ite_true,ite_false,Bool.not_true,Bool.not_false,Bool.not_not,decide_true,true_and,and_true,false_and,and_false,Bool.false_eq_true,reduceCtorEq,decide_true,decide_false,ite_self,forall_const,Nat.zero_add,Nat.reduceAdd,Nat.reduceLeDiff,Nat.reduceLT,Nat.reduceEqDiff,Nat.reduceSub,Nat.reduceMul,Nat.reduceBEq,Int.reduceLT,Int.reduceLE,Int.reduceEq,Int.reduceNe,Int.reduceAdd,Int.reduceMul,Int.reduceSub,Int.reduceNeg,Int.reducePow,Int.reduceBEq,Int.reduceToNat,Int.reduceGT,Int.reduceGE,String.reduceBEq,zcn,zco,List.replicate_succ,List.replicate_zero,zcp,zcq,zcr,zcs,zct,zcu,zcv,zcw,zcx,zcy,zcz,zcA,zcB,zcC,zcD,zcE,zcF,zcG,zcH,zcI,zcJ,zcK,zcL,zcM,zcN,zcO,zcP,zcQ,zcR,zcS,zcT,zcU,zcV,zcW,zcX,zcY,zcZ,zc0,zc1,zc2,zc3,zc4,zc5,zc6,zc7,zc8,zc9,zda,zdb,zdc,Bool.true_or,Bool.or_true,Bool.false_or,Bool.or_false,Bool.and_true,Bool.true_and,Bool.and_false,Bool.false_and,Int.cast_ofNat_Int,Int.natCast_zero,Int.natCast_one,beq_self_eq_true,zdd,zde,zdf,zdg,zdh,wipeR,w_times,w_less]
  rw [e, zaa]
end
end
end Pm.L


namespace Pm.L
open PySem PySem.Spec L2 Pm
section
variable {S : Sto} {Q : PV → Sto → Prop}
theorem wdraw_ok {n m : Nat} {many : Int} (h : Vat m S n) (hm : m ≤ 1000000000) (h0 : 0 < many) (h1 : many < 1073741824)
    (hq : ∀ (d : Int) S', 0 ≤ d → d < many → S'.length = S.length → Vat (m + 1) S' n → Q (.int d) S') : Ok (m__law_draw [.loc n, .int many] S) Q := by
  have hn := h.lt
  obtain ⟨⟨c, ch, k, hS, c0, ch0, ch1, k0, k1⟩, hI⟩ := h
  refine Ok_defM rfl ?_
  have i0 : ixN 3 0 = some 0 := rfl
  have i1 : ixN 3 1 = some 1 := rfl
  have i2 : ixN 3 2 = some 2 := rfl
  by_cases hc : 0 < c
  · simp -dsimp (disch := first | assumption | omega) only [zaa,zab,zac,zad,zae,zaf,zag,zah,zai,zaj,zak,zal,zam,zan,zao,zap,zaq,zar,zas,zat,zau,zav,zaw,zax,zay,zaz,zaA,zaB,zaC,zaD,zaE,zaF,zaG,zaH,zaI,zaJ,zaK,zaL,zaM,zaN,zaO,zaP,zaQ,zaR,zaS,zaT,zaU,zaV,zaW,zaX,zaY,zaZ,za0,za1,za2,za3,za4,za5,za6,za7,za8,za9,zba,zbb,zbc,zbd,zbe,zbf,zbg,zbh,zbi,zbj,zbk,zbl,zbm,zbn,zbo,zbp,zbq,zbr,zbs,zbt,zbu,zbv,zbw,zbx,zby,zbz,zbA,zbB,zbC,zbD,zbE,zbF,zbG,zbH,zbI,zbJ,zbK,zbL,zbM,zbN,zbO,zbP,zbQ,zbR,zbS,zbT,zbU,zbV,zbW,zbX,zbY,zbZ,zb0,zb1,zb2,zb3,zb4,zb5,zb6,zb7,zb8,zb9,zca,zcb,eq_self,zcc,zcd,zce,zcf,zcg,zch,zci,zcj,zck,zcl,zcm,List.getElem?_cons_succ,List.getElem?_cons_zero,List.set_cons_succ,List.set_cons_zero,List.map_cons,List.map_nil,List.length_cons,List.length_nil,List.cons_append,List.nil_append,List.append_nil,List.isEmpty_cons,List.isEmpty_nil,if_true,if_false,ite_true,ite_false,Bool.not_true,Bool.not_false,Bool.not_not,decide_true,true_and,and_true,false_and,and_false,Bool.false_eq_true,reduceCtorEq,decide_true,decide_false,ite_self,forall_const,Nat.zero_add,Nat.reduceAdd,Nat.reduceLeDiff,Nat.reduceLT,Nat.reduceEqDiff,Nat.reduceSub,Nat.reduceMul,Nat.reduceBEq,Int.reduceLT,Int.reduceLE,Int.reduceEq,Int.reduceNe,Int.reduceAdd,Int.reduceMul,Int.reduceSub,Int.reduceNeg,Int.reducePow,Int.reduceBEq,Int.reduceToNat,Int.reduceGT,Int.reduceGE,String.reduceBEq,zcn,zco,List.replicate_succ,List.replicate_zero,zcp,zcq,zcr,zcs,zct,zcu,zcv,zcw,zcx,zcy,zcz,zcA,zcB,zcC,zcD,zcE,zcF,zcG,zcH,zcI,zcJ,zcK,zcL,zcM,zcN,zcO,zcP,zcQ,zcR,zcS,zcT,zcU,zcV,zcW,zcX,zcY,zcZ,zc0,zc1,zc2,zc3,zc4,zc5,zc6,zc7,zc8,zc9,zda,zdb,zdc,Bool.true_or,Bool.or_true,Bool.false_or,Bool.or_false,Bool.and_true,Bool.true_and,Bool.and_false,Bool.false_and,Int.cast_ofNat_Int,Int.natCast_zero,Int.natCast_one,beq_self_eq_true,zdd,zde,zdf,zdg,zdh,wipeR,hS,hc,Ok_divmod,h0,h1,i0,List.length_set]
    exact hq _ _ (Int.emod_nonneg _ (by omega)) (Int.emod_lt_of_pos _ h0) (by simp) ⟨⟨c / many, ch, k, by simp [hn], Int.ediv_nonneg c0 (by omega), ch0, ch1, k0, by omega⟩, hI.set _ _ _⟩
  · have f2 : ∀ z : Int, z.fmod 1000000123 = z % 1000000123 := fun z => Int.fmod_eq_emod_of_nonneg _ (by omega)
    have f1 : ∀ z : Int, z.fmod 6961 = z % 6961 := fun z => Int.fmod_eq_emod_of_nonneg _ (by omega)
    have f3 : ∀ z : Int, z.fmod many = z % many := fun z => Int.fmod_eq_emod_of_nonneg _ (by omega)
    have l1 : ch.natAbs.log2 + (37 : Int).natAbs.log2 < 1000000 := lg (k := 31) (l := 17) (by omega) (by omega) (by omega)
    have l2 : (80021 : Int).natAbs.log2 + (k + 1).natAbs.log2 < 1000000 := lg (k := 17) (l := 62) (by omega) (by omega) (by omega)
    have l4 : (29 : Int).natAbs.log2 + (k + 1).natAbs.log2 < 1000000 := lg (k := 17) (l := 62) (by omega) (by omega) (by omega)
    have x0 := Int.emod_nonneg (ch * 37 + 80021 * (k + 1) + 11) (show (1000000123 : Int) ≠ 0 by omega)
    have x1 := Int.emod_lt_of_pos (ch * 37 + 80021 * (k + 1) + 11) (show (0 : Int) < 1000000123 by omega)
    generalize hx : (ch * 37 + 80021 * (k + 1) + 11) % 1000000123 = x at x0 x1
    have l5 : x.natAbs.log2 + (x % 6961 + 21001).natAbs.log2 < 1000000 := lg (k := 31) (l := 17) (by omega) (by omega) (by omega)
    have l3 : (191 : Int).natAbs.log2 < 9000 := by decide
    have hm0 : many ≠ 0 := by omega
    simp -dsimp (disch := first | assumption | omega) only [zaa,zab,zac,zad,zae,zaf,zag,zah,zai,zaj,zak,zal,zam,zan,zao,zap,zaq,zar,zas,zat,zau,zav,zaw,zax,zay,zaz,zaA,zaB,zaC,zaD,zaE,zaF,zaG,zaH,zaI,zaJ,zaK,zaL,zaM,zaN,zaO,zaP,zaQ,zaR,zaS,zaT,zaU,zaV,zaW,zaX,zaY,zaZ,za0,za1,za2,za3,za4,za5,za6,za7,za8,za9,zba,zbb,zbc,zbd,zbe,zbf,zbg,zbh,zbi,zbj,zbk,zbl,zbm,zbn,zbo,zbp,zbq,zbr,zbs,zbt,zbu,zbv,zbw,zbx,zby,zbz,zbA,zbB,zbC,zbD,zbE,zbF,zbG,zbH,zbI,zbJ,zbK,zbL,zbM,zbN,zbO,zbP,zbQ,zbR,zbS,zbT,zbU,zbV,zbW,zbX,zbY,zbZ,zb0,zb1,zb2,zb3,zb4,zb5,zb6,zb7,zb8,zb9,zca,zcb,eq_self,zcc,zcd,zce,zcf,zcg,zch,zci,zcj,zck,zcl,zcm,List.getElem?_cons_succ,List.getElem?_cons_zero,List.set_cons_succ,List.set_cons_zero,List.map_cons,List.map_nil,List.length_cons,List.length_nil,List.cons_append,List.nil_append,List.append_nil,List.isEmpty_cons,List.isEmpty_nil,if_true,if_false,ite_true,ite_false,Bool.not_true,Bool.not_false,Bool.not_not,decide_true,true_and,and_true,false_and,and_false,Bool.false_eq_true,reduceCtorEq,decide_true,decide_false,ite_self,forall_const,Nat.zero_add,Nat.reduceAdd,Nat.reduceLeDiff,Nat.reduceLT,Nat.reduceEqDiff,Nat.reduceSub,Nat.reduceMul,Nat.reduceBEq,Int.reduceLT,Int.reduceLE,Int.reduceEq,Int.reduceNe,Int.reduceAdd,Int.reduceMul,Int.reduceSub,Int.reduceNeg,Int.reducePow,Int.reduceBEq,Int.reduceToNat,Int.reduceGT,Int.reduceGE,String.reduceBEq,zcn,zco,List.replicate_succ,List.replicate_zero,zcp,zcq,zcr,zcs,zct,zcu,zcv,zcw,zcx,zcy,zcz,zcA,zcB,zcC,zcD,zcE,zcF,zcG,zcH,zcI,zcJ,zcK,zcL,zcM,zcN,zcO,zcP,zcQ,zcR,zcS,zcT,zcU,zcV,zcW,zcX,zcY,zcZ,zc0,zc1,zc2,zc3,zc4,zc5,zc6,zc7,zc8,zc9,zda,zdb,zdc,Bool.true_or,Bool.or_true,Bool.false_or,Bool.or_false,Bool.and_true,Bool.true_and,Bool.and_false,Bool.false_and,Int.cast_ofNat_Int,Int.natCast_zero,Int.natCast_one,beq_self_eq_true,zdd,zde,zdf,zdg,zdh,wipeR,hS,hc,i0,i1,i2,List.length_set,f1,f2,f3,l1,l2,hx,l4,l5,l3,hm0,List.getElem?_set_self,hn,List.set_set,ne_eq,not_false_eq_true]
    exact hq _ _ (Int.emod_nonneg _ (by omega)) (Int.emod_lt_of_pos _ h0) (by simp) ⟨⟨c, (x * (x % 6961 + 21001) + 29 * (k + 1)) % 1000000123, k + 1, by simp [hn], c0, Int.emod_nonneg _ (by omega), by have := Int.emod_lt_of_pos (x * (x % 6961 + 21001) + 29 * (k + 1)) (show (0 : Int) < 1000000123 by omega); omega, by omega, by omega⟩, hI.set _ _ _⟩
theorem wpick_ok {n m : Nat} {xs : List PV} (h : Vat m S n) (hm : m ≤ 1000000000) (h0 : 0 < xs.length) (h1 : xs.length < 1000)
    (hq : ∀ p ∈ xs, ∀ S', S'.length = S.length → Vat (m + 1) S' n → Q p S') : Ok (m__law_pick [.loc n, .tup xs] S) Q := by
  refine Ok_defM rfl ?_
  simp -dsimp (disch := first | assumption | omega) only [zaa,zab,zac,zad,zae,zaf,zag,zah,zai,zaj,zak,zal,zam,zan,zao,zap,zaq,zar,zas,zat,zau,zav,zaw,zax,zay,zaz,zaA,zaB,zaC,zaD,zaE,zaF,zaG,zaH,zaI,zaJ,zaK,zaL,zaM,zaN,zaO,zaP,zaQ,zaR,zaS,zaT,zaU,zaV,zaW,zaX,zaY,zaZ,za0,za1,za2,za3,za4,za5,za6,za7,za8,za9,zba,zbb,zbc,zbd,zbe,zbf,zbg,zbh,zbi,zbj,zbk,zbl,zbm,zbn,zbo,zbp,zbq,zbr,zbs,zbt,zbu,zbv,zbw,zbx,zby,zbz,zbA,zbB,zbC,zbD,zbE,zbF,zbG,zbH,zbI,zbJ,zbK,zbL,zbM,zbN,zbO,zbP,zbQ,zbR,zbS,zbT,zbU,zbV,zbW,zbX,zbY,zbZ,zb0,zb1,zb2,zb3,zb4,zb5,zb6,zb7,zb8,zb9,zca,zcb,eq_self,zcc,zcd,zce,zcf,zcg,zch,zci,zcj,zck,zcl,zcm,List.getElem?_cons_succ,List.getElem?_cons_zero,List.set_cons_succ,List.set_cons_zero,List.map_cons,List.map_nil,List.length_cons,List.length_nil,List.cons_append,List.nil_append,List.append_nil,List.isEmpty_cons,List.isEmpty_nil,if_true,if_false,ite_true,ite_false,Bool.not_true,Bool.not_false,Bool.not_not,decide_true,true_and,and_true,false_and,and_false,Bool.false_eq_true,reduceCtorEq,decide_true,decide_false,ite_self,forall_const,Nat.zero_add,Nat.reduceAdd,Nat.reduceLeDiff,Nat.reduceLT,Nat.reduceEqDiff,Nat.reduceSub,Nat.reduceMul,Nat.reduceBEq,Int.reduceLT,Int.reduceLE,Int.reduceEq,Int.reduceNe,Int.reduceAdd,Int.reduceMul,Int.reduceSub,Int.reduceNeg,Int.reducePow,Int.reduceBEq,Int.reduceToNat,Int.reduceGT,Int.reduceGE,String.reduceBEq,zcn,zco,List.replicate_succ,List.replicate_zero,zcp,zcq,zcr,zcs,zct,zcu,zcv,zcw,zcx,zcy,zcz,zcA,zcB,zcC,zcD,zcE,zcF,zcG,zcH,zcI,zcJ,zcK,zcL,zcM,zcN,zcO,zcP,zcQ,zcR,zcS,zcT,zcU,zcV,zcW,zcX,zcY,zcZ,zc0,zc1,zc2,zc3,zc4,zc5,zc6,zc7,zc8,zc9,zda,zdb,zdc,Bool.true_or,Bool.or_true,Bool.false_or,Bool.or_false,Bool.and_true,Bool.true_and,Bool.and_false,Bool.false_and,Int.cast_ofNat_Int,Int.natCast_zero,Int.natCast_one,beq_self_eq_true,zdd,zde,zdf,zdg,zdh,wipeR]
  refine wdraw_ok h hm (by omega) (by omega) fun d S' d0 d1 hl hv => ?_
  have hd : d.toNat < xs.length := by omega
  have e : atI xs d = some xs[d.toNat] := by
    unfold atI ixN
    rw [if_pos d0, if_pos d1]
    simp [hd]
  simp -dsimp (disch := first | assumption | omega) only [zaa,zab,zac,zad,zae,zaf,zag,zah,zai,zaj,zak,zal,zam,zan,zao,zap,zaq,zar,zas,zat,zau,zav,zaw,zax,zay,zaz,zaA,zaB,zaC,zaD,zaE,zaF,zaG,zaH,zaI,zaJ,zaK,zaL,zaM,zaN,zaO,zaP,zaQ,zaR,zaS,zaT,zaU,zaV,zaW,zaX,zaY,zaZ,za0,za1,za2,za3,za4,za5,za6,za7,za8,za9,zba,zbb,zbc,zbd,zbe,zbf,zbg,zbh,zbi,zbj,zbk,zbl,zbm,zbn,zbo,zbp,zbq,zbr,zbs,zbt,zbu,zbv,zbw,zbx,zby,zbz,zbA,zbB,zbC,zbD,zbE,zbF,zbG,zbH,zbI,zbJ,zbK,zbL,zbM,zbN,zbO,zbP,zbQ,zbR,zbS,zbT,zbU,zbV,zbW,zbX,zbY,zbZ,zb0,zb1,zb2,zb3,zb4,zb5,zb6,zb7,zb8,zb9,zca,zcb,eq_self,zcc,zcd,zce,zcf,zcg,zch,zci,zcj,zck,zcl,zcm,List.getElem?_cons_succ,List.getElem?_cons_zero,List.set_cons_succ,List.set_cons_zero,List.map_cons,List.map_nil,List.length_cons,List.length_nil,List.cons_append,List.nil_append,List.append_nil,List.isEmpty_cons,List.isEmpty_nil,if_true,if_false,ite_true,ite_false,Bool.not_true,Bool.not_false,Bool.not_not,decide_true,true_and,and_true,false_and,and_false,Bool.false_eq_true,reduceCtorEq,decide_true,decide_false,ite_self,forall_const,Nat.zero_add,Nat.reduceAdd,Nat.reduceLeDiff,Nat.reduceLT,Nat.reduceEqDiff,Nat.reduceSub,Nat.reduceMul,Nat.reduceBEq,Int.reduceLT,Int.reduceLE,Int.reduceEq,Int.reduceNe,Int.reduceAdd,Int.reduceMul,Int.reduceSub,Int.reduceNeg,Int.reducePow,Int.reduceBEq,Int.reduceToNat,Int.reduceGT,Int.reduceGE,String.reduceBEq,zcn,zco,List.replicate_succ,List.replicate_zero,zcp,zcq,zcr,zcs,zct,zcu,zcv,zcw,zcx,zcy,zcz,zcA,zcB,zcC,zcD,zcE,zcF,zcG,zcH,zcI,zcJ,zcK,zcL,zcM,zcN,zcO,zcP,zcQ,zcR,zcS,zcT,zcU,zcV,zcW,zcX,zcY,zcZ,zc0,zc1,zc2,zc3,zc4,zc5,zc6,zc7,zc8,zc9,zda,zdb,zdc,Bool.true_or,Bool.or_true,Bool.false_or,Bool.or_false,Bool.and_true,Bool.true_and,Bool.and_false,Bool.false_and,Int.cast_ofNat_Int,Int.natCast_zero,Int.natCast_one,beq_self_eq_true,zdd,zde,zdf,zdg,zdh,wipeR,e]
  exact ⟨hl, hq _ (List.getElem_mem hd) _ hl hv⟩
theorem wfrac_sz {a b : Int} {k : Nat} (hb : b ≠ 0) (ha : a.natAbs < 2 ^ k) (hk : b.natAbs < 2 ^ k) : Sz (Rat.divInt a b) k := sz_fr hb ha hk
theorem wfrac_pos {a b : Int} (ha : 0 < a) (hb : 0 < b) : 0 < Rat.divInt a b := by
  rw [Rat.divInt_eq_div, Rat.div_def]
  exact Rat.mul_pos (Rat.intCast_pos.mpr ha) (Rat.inv_pos.mpr (Rat.intCast_pos.mpr hb))
theorem frv {a b : Int} (h1 : (Rat.divInt a b).num = a) (h2 : ((Rat.divInt a b).den : Int) = b) : PV.tup [.int a, .int b] = rv (Rat.divInt a b) := by
  unfold rv
  rw [h1, h2]
/-- a small fraction, spelt out -/
structure Sf (p : PV) (q : Rat) : Prop where
  e : p = rv q
  z : Sz q 5
theorem Sf.mk' {a b : Int} (h1 : (Rat.divInt a b).num = a) (h2 : ((Rat.divInt a b).den : Int) = b) (hb : b ≠ 0) (ha : a.natAbs < 2 ^ 5) (hk : b.natAbs < 2 ^ 5) : Sf (.tup [.int a, .int b]) (Rat.divInt a b) := ⟨frv h1 h2, wfrac_sz hb ha hk⟩
theorem wsize_ok {n m : Nat} (h : Vat m S n) (hm : m ≤ 999999000) (hq : ∀ q S', 0 < q → Sz q 5 → S'.length = S.length → Vat (m + 3) S' n → Q (rv q) S') : Ok (m__law_size [.loc n] S) Q := by
  refine Ok_defM rfl ?_
  simp -dsimp (disch := first | assumption | omega) only [zaa,zab,zac,zad,zae,zaf,zag,zah,zai,zaj,zak,zal,zam,zan,zao,zap,zaq,zar,zas,zat,zau,zav,zaw,zax,zay,zaz,zaA,zaB,zaC,zaD,zaE,zaF,zaG,zaH,zaI,zaJ,zaK,zaL,zaM,zaN,zaO,zaP,zaQ,zaR,zaS,zaT,zaU,zaV,zaW,zaX,zaY,zaZ,za0,za1,za2,za3,za4,za5,za6,za7,za8,za9,zba,zbb,zbc,zbd,zbe,zbf,zbg,zbh,zbi,zbj,zbk,zbl,zbm,zbn,zbp,zbq,zbr,zbs,zbt,zbu,zbv,zbw,zbx,zby,zbz,zbA,zbB,zbC,zbD,zbE,zbF,zbG,zbH,zbI,zbJ,zbK,zbL,zbM,zbN,zbO,zbP,zbQ,zbR,zbS,zbT,zbU,zbV,zbW,zbX,zbY,zbZ,zb0,zb1,zb2,zb3,zb4,zb5,zb6,zb7,zb8,zb9,zca,zcb,eq_self,zcc,zcd,zce,zcf,zcg,zch,zci,zcj,zck,zcl,zcm,List.getElem?_cons_succ,List.getElem?_cons_zero,List.set_cons_succ,List.set_cons_zero,List.map_cons,List.map_nil,List.length_cons,List.length_nil,List.cons_append,List.nil_append,List.append_nil,List.isEmpty_cons,List.isEmpty_nil,if_true,if_false,ite_true,ite_false,Bool.not_true,Bool.not_false,Bool.not_not,decide_true,true_and,and_true,false_and,and_false,Bool.false_eq_true,reduceCtorEq,decide_true,decide_false,ite_self,forall_const,Nat.zero_add,Nat.reduceAdd,Nat.reduceLeDiff,Nat.reduceLT,Nat.reduceEqDiff,Nat.reduceSub,Nat.reduceMul,Nat.reduceBEq,Int.reduceLT,Int.reduceLE,Int.reduceEq,Int.reduceNe,Int.reduceAdd,Int.reduceMul,Int.reduceSub,Int.reduceNeg,Int.reducePow,Int.reduceBEq,Int.reduceToNat,Int.reduceGT,Int.reduceGE,String.reduceBEq,zcn,zco,List.replicate_succ,List.replicate_zero,zcp,zcq,zcr,zcs,zct,zcu,zcv,zcw,zcx,zcy,zcz,zcA,zcB,zcC,zcD,zcE,zcF,zcG,zcH,zcI,zcJ,zcK,zcL,zcM,zcN,zcO,zcP,zcQ,zcR,zcS,zcT,zcU,zcV,zcW,zcX,zcY,zcZ,zc0,zc1,zc2,zc3,zc4,zc5,zc6,zc7,zc8,zc9,zda,zdb,zdc,Bool.true_or,Bool.or_true,Bool.false_or,Bool.or_false,Bool.and_true,Bool.true_and,Bool.and_false,Bool.false_and,Int.cast_ofNat_Int,Int.natCast_zero,Int.natCast_one,beq_self_eq_true,zdd,wipeR]
  refine wdraw_ok h (by omega) (by omega) (by omega) fun d S1 d0 d1 l1 v1 => ?_
  by_cases c : d < 3
  · simp -dsimp (disch := first | assumption | omega) only [zaa,zab,zac,zad,zae,zaf,zag,zah,zai,zaj,zak,zal,zam,zan,zao,zap,zaq,zar,zas,zat,zau,zav,zaw,zax,zay,zaz,zaA,zaB,zaC,zaD,zaE,zaF,zaG,zaH,zaI,zaJ,zaK,zaL,zaM,zaN,zaO,zaP,zaQ,zaR,zaS,zaT,zaU,zaV,zaW,zaX,zaY,zaZ,za0,za1,za2,za3,za4,za5,za6,za7,za8,za9,zba,zbb,zbc,zbd,zbe,zbf,zbg,zbh,zbi,zbj,zbk,zbl,zbm,zbn,zbo,zbp,zbq,zbr,zbs,zbt,zbu,zbv,zbw,zbx,zby,zbz,zbA,zbB,zbC,zbD,zbE,zbF,zbG,zbH,zbI,zbJ,zbK,zbL,zbM,zbN,zbO,zbP,zbQ,zbR,zbS,zbT,zbU,zbV,zbW,zbX,zbY,zbZ,zb0,zb1,zb2,zb3,zb4,zb5,zb6,zb7,zb8,zb9,zca,zcb,eq_self,zcc,zcd,zce,zcf,zcg,zch,zci,zcj,zck,zcl,zcm,List.getElem?_cons_succ,List.getElem?_cons_zero,List.set_cons_succ,List.set_cons_zero,List.map_cons,List.map_nil,List.length_cons,List.length_nil,List.cons_append,List.nil_append,List.append_nil,List.isEmpty_cons,List.isEmpty_nil,if_true,if_false,ite_true,ite_false,Bool.not_true,Bool.not_false,Bool.not_not,decide_true,true_and,and_true,false_and,and_false,Bool.false_eq_true,reduceCtorEq,decide_true,decide_false,ite_self,forall_const,Nat.zero_add,Nat.reduceAdd,Nat.reduceLeDiff,Nat.reduceLT,Nat.reduceEqDiff,Nat.reduceSub,Nat.reduceMul,Nat.reduceBEq,Int.reduceLT,Int.reduceLE,Int.reduceEq,Int.reduceNe,Int.reduceAdd,Int.reduceMul,Int.reduceSub,Int.reduceNeg,Int.reducePow,Int.reduceBEq,Int.reduceToNat,Int.reduceGT,Int.reduceGE,String.reduceBEq,zcn,zco,List.replicate_succ,List.replicate_zero,zcp,zcq,zcr,zcs,zct,zcu,zcv,zcw,zcx,zcy,zcz,zcA,zcB,zcC,zcD,zcE,zcF,zcG,zcH,zcI,zcJ,zcK,zcL,zcM,zcN,zcO,zcP,zcQ,zcR,zcS,zcT,zcU,zcV,zcW,zcX,zcY,zcZ,zc0,zc1,zc2,zc3,zc4,zc5,zc6,zc7,zc8,zc9,zda,zdb,zdc,Bool.true_or,Bool.or_true,Bool.false_or,Bool.or_false,Bool.and_true,Bool.true_and,Bool.and_false,Bool.false_and,Int.cast_ofNat_Int,Int.natCast_zero,Int.natCast_one,beq_self_eq_true,zdd,zde,zdf,zdg,zdh,wipeR,c]
    refine wpick_ok v1 (by omega) (by simp) (by simp) fun p hp S2 l2 v2 => ?_
    obtain ⟨q, hs, q0⟩ : ∃ q, Sf p q ∧ 0 < q := by
      simp only [List.mem_cons, List.not_mem_nil, or_false] at hp
      rcases hp with rfl | rfl | rfl | rfl | rfl | rfl | rfl | rfl
      all_goals exact ⟨_, .mk' (by decide +kernel) (by decide +kernel) (by decide) (by decide) (by decide), by decide +kernel⟩
    obtain ⟨rfl, hz⟩ := hs
    try simp -dsimp (disch := first | assumption | omega) only [zaa,zab,zac,zad,zae,zaf,zag,zah,zai,zaj,zak,zal,zam,zan,zao,zap,zaq,zar,zas,zat,zau,zav,zaw,zax,zay,zaz,zaA,zaB,zaC,zaD,zaE,zaF,zaG,zaH,zaI,zaJ,zaK,zaL,zaM,zaN,zaO,zaP,zaQ,zaR,zaS,zaT,zaU,zaV,zaW,zaX,zaY,zaZ,za0,za1,za2,za3,za4,za5,za6,za7,za8,za9,zba,zbb,zbc,zbd,zbe,zbf,zbg,zbh,zbi,zbj,zbk,zbl,zbm,zbn,zbo,zbp,zbq,zbr,zbs,zbt,zbu,zbv,zbw,zbx,zby,zbz,zbA,zbB,zbC,zbD,zbE,zbF,zbG,zbH,zbI,zbJ,zbK,zbL,zbM,zbN,zbO,zbP,zbQ,zbR,zbS,zbT,zbU,zbV,zbW,zbX,zbY,zbZ,zb0,zb1,zb2,zb3,zb4,zb5,zb6,zb7,zb8,zb9,zca,zcb,eq_self,zcc,zcd,zce,zcf,zcg,zch,zci,zcj,zck,zcl,zcm,List.getElem?_cons_succ,List.getElem?_cons_zero,List.set_cons_succ,List.set_cons_zero,List.map_cons,List.map_nil,List.length_cons,List.length_nil,List.cons_append,List.nil_append,List.append_nil,List.isEmpty_cons,List.isEmpty_nil,if_true,if_false,ite_true,ite_false,Bool.not_true,Bool.not_false,Bool.not_not,decide_true,true_and,and_true,false_and,and_false,Bool.false_eq_true,reduceCtorEq,decide_true,decide_false,ite_self,forall_const,Nat.zero_add,Nat.reduceAdd,Nat.reduceLeDiff,Nat.reduceLT,Nat.reduceEqDiff,Nat.reduceSub,Nat.reduceMul,Nat.reduceBEq,Int.reduceLT,Int.reduceLE,Int.reduceEq,Int.reduceNe,Int.reduceAdd,Int.reduceMul,Int.reduceSub,Int.reduceNeg,Int.reducePow,Int.reduceBEq,Int.reduceToNat,Int.reduceGT,Int.reduceGE,String.reduceBEq,zcn,zco,List.replicate_succ,List.replicate_zero,zcp,zcq,zcr,zcs,zct,zcu,zcv,zcw,zcx,zcy,zcz,zcA,zcB,zcC,zcD,zcE,zcF,zcG,zcH,zcI,zcJ,zcK,zcL,zcM,zcN,zcO,zcP,zcQ,zcR,zcS,zcT,zcU,zcV,zcW,zcX,zcY,zcZ,zc0,zc1,zc2,zc3,zc4,zc5,zc6,zc7,zc8,zc9,zda,zdb,zdc,Bool.true_or,Bool.or_true,Bool.false_or,Bool.or_false,Bool.and_true,Bool.true_and,Bool.and_false,Bool.false_and,Int.cast_ofNat_Int,Int.natCast_zero,Int.natCast_one,beq_self_eq_true,zdd,zde,zdf,zdg,zdh,wipeR]
    exact ⟨by omega, hq _ _ q0 hz (by omega) (v2.le (by omega))⟩
  · simp -dsimp (disch := first | assumption | omega) only [zaa,zab,zac,zad,zae,zaf,zag,zah,zai,zaj,zak,zal,zam,zan,zao,zap,zaq,zar,zas,zat,zau,zav,zaw,zax,zay,zaz,zaA,zaB,zaC,zaD,zaE,zaF,zaG,zaH,zaI,zaJ,zaK,zaL,zaM,zaN,zaO,zaP,zaQ,zaR,zaS,zaT,zaU,zaV,zaW,zaX,zaY,zaZ,za0,za1,za2,za3,za4,za5,za6,za7,za8,za9,zba,zbb,zbc,zbd,zbe,zbf,zbg,zbh,zbi,zbj,zbk,zbl,zbm,zbn,zbo,zbp,zbq,zbr,zbs,zbt,zbu,zbv,zbw,zbx,zby,zbz,zbA,zbB,zbC,zbD,zbE,zbF,zbG,zbH,zbI,zbJ,zbK,zbL,zbM,zbN,zbO,zbP,zbQ,zbR,zbS,zbT,zbU,zbV,zbW,zbX,zbY,zbZ,zb0,zb1,zb2,zb3,zb4,zb5,zb6,zb7,zb8,zb9,zca,zcb,eq_self,zcc,zcd,zce,zcf,zcg,zch,zci,zcj,zck,zcl,zcm,List.getElem?_cons_succ,List.getElem?_cons_zero,List.set_cons_succ,List.set_cons_zero,List.map_cons,List.map_nil,List.length_cons,List.length_nil,List.cons_append,List.nil_append,List.append_nil,List.isEmpty_cons,List.isEmpty_nil,if_true,if_false,ite_true,ite_false,Bool.not_true,Bool.not_false,Bool.not_not,decide_true,true_and,and_true,false_and,and_false,Bool.false_eq_true,reduceCtorEq,decide_true,decide_false,ite_self,forall_const,Nat.zero_add,Nat.reduceAdd,Nat.reduceLeDiff,Nat.reduceLT,Nat.reduceEqDiff,Nat.reduceSub,Nat.reduceMul,Nat.reduceBEq,Int.reduceLT,Int.reduceLE,Int.reduceEq,Int.reduceNe,Int.reduceAdd,Int.reduceMul,Int.reduceSub,Int.reduceNeg,Int.reducePow,Int.reduceBEq,Int.reduceToNat,Int.reduceGT,Int.reduceGE,String.reduceBEq,zcn,zco,List.replicate_succ,List.replicate_zero,zcp,zcq,zcr,zcs,zct,zcu,zcv,zcw,zcx,zcy,zcz,zcA,zcB,zcC,zcD,zcE,zcF,zcG,zcH,zcI,zcJ,zcK,zcL,zcM,zcN,zcO,zcP,zcQ,zcR,zcS,zcT,zcU,zcV,zcW,zcX,zcY,zcZ,zc0,zc1,zc2,zc3,zc4,zc5,zc6,zc7,zc8,zc9,zda,zdb,zdc,Bool.true_or,Bool.or_true,Bool.false_or,Bool.or_false,Bool.and_true,Bool.true_and,Bool.and_false,Bool.false_and,Int.cast_ofNat_Int,Int.natCast_zero,Int.natCast_one,beq_self_eq_true,zdd,zde,zdf,zdg,zdh,wipeR,c]
    refine wdraw_ok v1 (by omega) (by omega) (by omega) fun a S2 a0 a1 l2 v2 => ?_
    try simp -dsimp (disch := first | assumption | omega) only [zaa,zab,zac,zad,zae,zaf,zag,zah,zai,zaj,zak,zal,zam,zan,zao,zap,zaq,zar,zas,zat,zau,zav,zaw,zax,zay,zaz,zaA,zaB,zaC,zaD,zaE,zaF,zaG,zaH,zaI,zaJ,zaK,zaL,zaM,zaN,zaO,zaP,zaQ,zaR,zaS,zaT,zaU,zaV,zaW,zaX,zaY,zaZ,za0,za1,za2,za3,za4,za5,za6,za7,za8,za9,zba,zbb,zbc,zbd,zbe,zbf,zbg,zbh,zbi,zbj,zbk,zbl,zbm,zbn,zbo,zbp,zbq,zbr,zbs,zbt,zbu,zbv,zbw,zbx,zby,zbz,zbA,zbB,zbC,zbD,zbE,zbF,zbG,zbH,zbI,zbJ,zbK,zbL,zbM,zbN,zbO,zbP,zbQ,zbR,zbS,zbT,zbU,zbV,zbW,zbX,zbY,zbZ,zb0,zb1,zb2,zb3,zb4,zb5,zb6,zb7,zb8,zb9,zca,zcb,eq_self,zcc,zcd,zce,zcf,zcg,zch,zci,zcj,zck,zcl,zcm,List.getElem?_cons_succ,List.getElem?_cons_zero,List.set_cons_succ,List.set_cons_zero,List.map_cons,List.map_nil,List.length_cons,List.length_nil,List.cons_append,List.nil_append,List.append_nil,List.isEmpty_cons,List.isEmpty_nil,if_true,if_false,ite_true,ite_false,Bool.not_true,Bool.not_false,Bool.not_not,decide_true,true_and,and_true,false_and,and_false,Bool.false_eq_true,reduceCtorEq,decide_true,decide_false,ite_self,forall_const,Nat.zero_add,Nat.reduceAdd,Nat.reduceLeDiff,Nat.reduceLT,Nat.reduceEqDiff,Nat.reduceSub,Nat.reduceMul,Nat.reduceBEq,Int.reduceLT,Int.reduceLE,Int.reduceEq,Int.reduceNe,Int.reduceAdd,Int.reduceMul,Int.reduceSub,Int.reduceNeg,Int.reducePow,Int.reduceBEq,Int.reduceToNat,Int.reduceGT,Int.reduceGE,String.reduceBEq,zcn,zco,List.replicate_succ,List.replicate_zero,zcp,zcq,zcr,zcs,zct,zcu,zcv,zcw,zcx,zcy,zcz,zcA,zcB,zcC,zcD,zcE,zcF,zcG,zcH,zcI,zcJ,zcK,zcL,zcM,zcN,zcO,zcP,zcQ,zcR,zcS,zcT,zcU,zcV,zcW,zcX,zcY,zcZ,zc0,zc1,zc2,zc3,zc4,zc5,zc6,zc7,zc8,zc9,zda,zdb,zdc,Bool.true_or,Bool.or_true,Bool.false_or,Bool.or_false,Bool.and_true,Bool.true_and,Bool.and_false,Bool.false_and,Int.cast_ofNat_Int,Int.natCast_zero,Int.natCast_one,beq_self_eq_true,zdd,zde,zdf,zdg,zdh,wipeR]
    refine wdraw_ok v2 (by omega) (by omega) (by omega) fun b S3 b0 b1 l3 v3 => ?_
    have hb : 1 + b ≠ 0 := by omega
    have z1 : (1 + a).natAbs < 2 ^ 5 := by omega
    have z2 : (1 + b).natAbs < 2 ^ 5 := by omega
    simp -dsimp (disch := first | assumption | omega) only [zaa,zab,zac,zad,zae,zaf,zag,zah,zai,zaj,zak,zal,zam,zan,zao,zap,zaq,zar,zas,zat,zau,zav,zaw,zax,zay,zaz,zaA,zaB,zaC,zaD,zaE,zaF,zaG,zaH,zaI,zaJ,zaK,zaL,zaM,zaN,zaO,zaP,zaQ,zaR,zaS,zaT,zaU,zaV,zaW,zaX,zaY,zaZ,za0,za1,za2,za3,za4,za5,za6,za7,za8,za9,zba,zbb,zbc,zbd,zbe,zbf,zbg,zbh,zbi,zbj,zbk,zbl,zbm,zbn,zbo,zbp,zbq,zbr,zbs,zbt,zbu,zbv,zbw,zbx,zby,zbz,zbA,zbB,zbC,zbD,zbE,zbF,zbG,zbH,zbI,zbJ,zbK,zbL,zbM,zbN,zbO,zbP,zbQ,zbR,zbS,zbT,zbU,zbV,zbW,zbX,zbY,zbZ,zb0,zb1,zb2,zb3,zb4,zb5,zb6,zb7,zb8,zb9,zca,zcb,eq_self,zcc,zcd,zce,zcf,zcg,zch,zci,zcj,zck,zcl,zcm,List.getElem?_cons_succ,List.getElem?_cons_zero,List.set_cons_succ,List.set_cons_zero,List.map_cons,List.map_nil,List.length_cons,List.length_nil,List.cons_append,List.nil_append,List.append_nil,List.isEmpty_cons,List.isEmpty_nil,if_true,if_false,ite_true,ite_false,Bool.not_true,Bool.not_false,Bool.not_not,decide_true,true_and,and_true,false_and,and_false,Bool.false_eq_true,reduceCtorEq,decide_true,decide_false,ite_self,forall_const,Nat.zero_add,Nat.reduceAdd,Nat.reduceLeDiff,Nat.reduceLT,Nat.reduceEqDiff,Nat.reduceSub,Nat.reduceMul,Nat.reduceBEq,Int.reduceLT,Int.reduceLE,Int.reduceEq,Int.reduceNe,Int.reduceAdd,Int.reduceMul,Int.reduceSub,Int.reduceNeg,Int.reducePow,Int.reduceBEq,Int.reduceToNat,Int.reduceGT,Int.reduceGE,String.reduceBEq,zcn,zco,List.replicate_succ,List.replicate_zero,zcp,zcq,zcr,zcs,zct,zcu,zcv,zcw,zcx,zcy,zcz,zcA,zcB,zcC,zcD,zcE,zcF,zcG,zcH,zcI,zcJ,zcK,zcL,zcM,zcN,zcO,zcP,zcQ,zcR,zcS,zcT,zcU,zcV,zcW,zcX,zcY,zcZ,zc0,zc1,zc2,zc3,zc4,zc5,zc6,zc7,zc8,zc9,zda,zdb,zdc,Bool.true_or,Bool.or_true,Bool.false_or,Bool.or_false,Bool.and_true,Bool.true_and,Bool.and_false,Bool.false_and,Int.cast_ofNat_Int,Int.natCast_zero,Int.natCast_one,beq_self_eq_true,zdd,zde,zdf,zdg,zdh,wipeR,w_ratio hb (up8 z1 (by omega)) (up8 z2 (by omega))]
    exact ⟨by omega, hq _ _ (wfrac_pos (by omega) (by omega)) (wfrac_sz hb z1 z2) (by omega) (v3.le (by omega))⟩
theorem t_neg {q : Rat} : PV.tup [.int (0 - q.num), .int q.den] = rv (-q) := by
  unfold rv
  rw [Rat.neg_num, Rat.neg_den, Int.zero_sub]
theorem wpart_ok {n m : Nat} (h : Vat m S n) (hm : m ≤ 999998000) (hq : ∀ q S', Sz q 5 → S'.length = S.length → Vat (m + 5) S' n → Q (rv q) S') : Ok (m__law_part [.loc n] S) Q := by
  refine Ok_defM rfl ?_
  have fin : ∀ (q : Rat) (S1 : Sto), Sz q 5 → S1.length = S.length → Vat (m + 4) S1 n → Ok (sRet (dIf (bCmp (dOp ltM (dAp m__law_draw (dCons (dVar 0) (dCons (dC (.int 5)) dNil))) (dC (.int 3)))) (dVar 1) (dAp mkTup (dCons (dOp subM (dC (.int 0)) (dOp ixM (dVar 1) (dC (.int 0)))) (dCons (dOp ixM (dVar 1) (dC (.int 1))) dNil)))) [some (.loc n), some (rv q)] S1) fun r S1 => match r with
      | .nx _ => S1.length = S.length ∧ Q .non S1
      | .rt p => S1.length = S.length ∧ Q p S1
      | _ => False := by
    intro q S1 hz l1 v1
    simp -dsimp (disch := first | assumption | omega) only [zaa,zab,zac,zad,zae,zaf,zag,zah,zai,zaj,zak,zal,zam,zan,zao,zap,zaq,zar,zas,zat,zau,zav,zaw,zax,zay,zaz,zaA,zaB,zaC,zaD,zaE,zaF,zaG,zaH,zaI,zaJ,zaK,zaL,zaM,zaN,zaO,zaP,zaQ,zaR,zaS,zaT,zaU,zaV,zaW,zaX,zaY,zaZ,za0,za1,za2,za3,za4,za5,za6,za7,za8,za9,zba,zbb,zbc,zbd,zbe,zbf,zbg,zbh,zbi,zbj,zbk,zbl,zbm,zbn,zbo,zbp,zbq,zbr,zbs,zbt,zbu,zbv,zbw,zbx,zby,zbz,zbA,zbB,zbC,zbD,zbE,zbF,zbG,zbH,zbI,zbJ,zbK,zbL,zbM,zbN,zbO,zbP,zbQ,zbR,zbS,zbT,zbU,zbV,zbW,zbX,zbY,zbZ,zb0,zb1,zb2,zb3,zb4,zb5,zb6,zb7,zb8,zb9,zca,zcb,eq_self,zcc,zcd,zce,zcf,zcg,zch,zci,zcj,zck,zcl,zcm,List.getElem?_cons_succ,List.getElem?_cons_zero,List.set_cons_succ,List.set_cons_zero,List.map_cons,List.map_nil,List.length_cons,List.length_nil,List.cons_append,List.nil_append,List.append_nil,List.isEmpty_cons,List.isEmpty_nil,if_true,if_false,ite_true,ite_false,Bool.not_true,Bool.not_false,Bool.not_not,decide_true,true_and,and_true,false_and,and_false,Bool.false_eq_true,reduceCtorEq,decide_true,decide_false,ite_self,forall_const,Nat.zero_add,Nat.reduceAdd,Nat.reduceLeDiff,Nat.reduceLT,Nat.reduceEqDiff,Nat.reduceSub,Nat.reduceMul,Nat.reduceBEq,Int.reduceLT,Int.reduceLE,Int.reduceEq,Int.reduceNe,Int.reduceAdd,Int.reduceMul,Int.reduceSub,Int.reduceNeg,Int.reducePow,Int.reduceBEq,Int.reduceToNat,Int.reduceGT,Int.reduceGE,String.reduceBEq,zcn,zco,List.replicate_succ,List.replicate_zero,zcp,zcq,zcr,zcs,zct,zcu,zcv,zcw,zcx,zcy,zcz,zcA,zcB,zcC,zcD,zcE,zcF,zcG,zcH,zcI,zcJ,zcK,zcL,zcM,zcN,zcO,zcP,zcQ,zcR,zcS,zcT,zcU,zcV,zcW,zcX,zcY,zcZ,zc0,zc1,zc2,zc3,zc4,zc5,zc6,zc7,zc8,zc9,zda,zdb,zdc,Bool.true_or,Bool.or_true,Bool.false_or,Bool.or_false,Bool.and_true,Bool.true_and,Bool.and_false,Bool.false_and,Int.cast_ofNat_Int,Int.natCast_zero,Int.natCast_one,beq_self_eq_true,zdd,zde,zdf,zdg,zdh,wipeR]
    refine wdraw_ok v1 (by omega) (by omega) (by omega) fun d S2 d0 d1 l2 v2 => ?_
    by_cases c : d < 3
    · simp -dsimp (disch := first | assumption | omega) only [zaa,zab,zac,zad,zae,zaf,zag,zah,zai,zaj,zak,zal,zam,zan,zao,zap,zaq,zar,zas,zat,zau,zav,zaw,zax,zay,zaz,zaA,zaB,zaC,zaD,zaE,zaF,zaG,zaH,zaI,zaJ,zaK,zaL,zaM,zaN,zaO,zaP,zaQ,zaR,zaS,zaT,zaU,zaV,zaW,zaX,zaY,zaZ,za0,za1,za2,za3,za4,za5,za6,za7,za8,za9,zba,zbb,zbc,zbd,zbe,zbf,zbg,zbh,zbi,zbj,zbk,zbl,zbm,zbn,zbo,zbp,zbq,zbr,zbs,zbt,zbu,zbv,zbw,zbx,zby,zbz,zbA,zbB,zbC,zbD,zbE,zbF,zbG,zbH,zbI,zbJ,zbK,zbL,zbM,zbN,zbO,zbP,zbQ,zbR,zbS,zbT,zbU,zbV,zbW,zbX,zbY,zbZ,zb0,zb1,zb2,zb3,zb4,zb5,zb6,zb7,zb8,zb9,zca,zcb,eq_self,zcc,zcd,zce,zcf,zcg,zch,zci,zcj,zck,zcl,zcm,List.getElem?_cons_succ,List.getElem?_cons_zero,List.set_cons_succ,List.set_cons_zero,List.map_cons,List.map_nil,List.length_cons,List.length_nil,List.cons_append,List.nil_append,List.append_nil,List.isEmpty_cons,List.isEmpty_nil,if_true,if_false,ite_true,ite_false,Bool.not_true,Bool.not_false,Bool.not_not,decide_true,true_and,and_true,false_and,and_false,Bool.false_eq_true,reduceCtorEq,decide_true,decide_false,ite_self,forall_const,Nat.zero_add,Nat.reduceAdd,Nat.reduceLeDiff,Nat.reduceLT,Nat.reduceEqDiff,Nat.reduceSub,Nat.reduceMul,Nat.reduceBEq,Int.reduceLT,Int.reduceLE,Int.reduceEq,Int.reduceNe,Int.reduceAdd,Int.reduceMul,Int.reduceSub,Int.reduceNeg,Int.reducePow,Int.reduceBEq,Int.reduceToNat,Int.reduceGT,Int.reduceGE,String.reduceBEq,zcn,zco,List.replicate_succ,List.replicate_zero,zcp,zcq,zcr,zcs,zct,zcu,zcv,zcw,zcx,zcy,zcz,zcA,zcB,zcC,zcD,zcE,zcF,zcG,zcH,zcI,zcJ,zcK,zcL,zcM,zcN,zcO,zcP,zcQ,zcR,zcS,zcT,zcU,zcV,zcW,zcX,zcY,zcZ,zc0,zc1,zc2,zc3,zc4,zc5,zc6,zc7,zc8,zc9,zda,zdb,zdc,Bool.true_or,Bool.or_true,Bool.false_or,Bool.or_false,Bool.and_true,Bool.true_and,Bool.and_false,Bool.false_and,Int.cast_ofNat_Int,Int.natCast_zero,Int.natCast_one,beq_self_eq_true,zdd,zde,zdf,zdg,zdh,wipeR,c]
      exact ⟨by omega, hq _ _ hz (by omega) (v2.le (by omega))⟩
    · simp -dsimp (disch := first | assumption | omega) only [zaa,zab,zac,zad,zae,zaf,zag,zah,zai,zaj,zak,zal,zam,zan,zao,zap,zaq,zar,zas,zat,zau,zav,zaw,zax,zay,zaz,zaA,zaB,zaC,zaD,zaE,zaF,zaG,zaH,zaI,zaJ,zaK,zaL,zaM,zaN,zaO,zaP,zaQ,zaR,zaS,zaT,zaU,zaV,zaW,zaX,zaY,zaZ,za0,za1,za2,za3,za4,za5,za6,za7,za8,za9,zba,zbb,zbc,zbd,zbe,zbf,zbg,zbh,zbi,zbj,zbk,zbl,zbm,zbn,zbo,zbp,zbq,zbr,zbs,zbt,zbu,zbv,zbw,zbx,zby,zbz,zbA,zbB,zbC,zbD,zbE,zbF,zbG,zbH,zbI,zbJ,zbK,zbL,zbM,zbN,zbO,zbP,zbQ,zbR,zbS,zbT,zbU,zbV,zbW,zbX,zbY,zbZ,zb0,zb1,zb2,zb3,zb4,zb5,zb6,zb7,zb8,zb9,zca,zcb,eq_self,zcc,zcd,zce,zcf,zcg,zch,zci,zcj,zck,zcl,zcm,List.getElem?_cons_succ,List.getElem?_cons_zero,List.set_cons_succ,List.set_cons_zero,List.map_cons,List.map_nil,List.length_cons,List.length_nil,List.cons_append,List.nil_append,List.append_nil,List.isEmpty_cons,List.isEmpty_nil,if_true,if_false,ite_true,ite_false,Bool.not_true,Bool.not_false,Bool.not_not,decide_true,true_and,and_true,false_and,and_false,Bool.false_eq_true,reduceCtorEq,decide_true,decide_false,ite_self,forall_const,Nat.zero_add,Nat.reduceAdd,Nat.reduceLeDiff,Nat.reduceLT,Nat.reduceEqDiff,Nat.reduceSub,Nat.reduceMul,Nat.reduceBEq,Int.reduceLT,Int.reduceLE,Int.reduceEq,Int.reduceNe,Int.reduceAdd,Int.reduceMul,Int.reduceSub,Int.reduceNeg,Int.reducePow,Int.reduceBEq,Int.reduceToNat,Int.reduceGT,Int.reduceGE,String.reduceBEq,zcn,zco,List.replicate_succ,List.replicate_zero,zcp,zcq,zcr,zcs,zct,zcu,zcv,zcw,zcx,zcy,zcz,zcA,zcB,zcC,zcD,zcE,zcF,zcG,zcH,zcI,zcJ,zcK,zcL,zcM,zcN,zcO,zcP,zcQ,zcR,zcS,zcT,zcU,zcV,zcW,zcX,zcY,zcZ,zc0,zc1,zc2,zc3,zc4,zc5,zc6,zc7,zc8,zc9,zda,zdb,zdc,Bool.true_or,Bool.or_true,Bool.false_or,Bool.or_false,Bool.and_true,Bool.true_and,Bool.and_false,Bool.false_and,Int.cast_ofNat_Int,Int.natCast_zero,Int.natCast_one,beq_self_eq_true,zdd,zde,zdf,zdg,zdh,wipeR,c,t_neg]
      exact ⟨by omega, hq _ _ inferInstance (by omega) (v2.le (by omega))⟩
  simp -dsimp (disch := first | assumption | omega) only [zaa,zab,zac,zad,zae,zaf,zag,zah,zai,zaj,zak,zal,zam,zan,zao,zap,zaq,zar,zas,zat,zau,zav,zaw,zax,zay,zaz,zaA,zaB,zaC,zaD,zaE,zaF,zaG,zaH,zaI,zaJ,zaK,zaL,zaM,zaN,zaO,zaP,zaQ,zaR,zaS,zaT,zaU,zaV,zaW,zaX,zaY,zaZ,za0,za1,za2,za3,za4,za5,za6,za7,za8,za9,zba,zbb,zbc,zbd,zbe,zbf,zbg,zbh,zbi,zbj,zbk,zbl,zbm,zbn,zbp,zbq,zbr,zbs,zbt,zbu,zbv,zbw,zbx,zby,zbz,zbA,zbB,zbC,zbD,zbE,zbF,zbG,zbH,zbI,zbJ,zbK,zbL,zbM,zbN,zbO,zbP,zbQ,zbR,zbS,zbT,zbU,zbV,zbW,zbX,zbY,zbZ,zb0,zb1,zb2,zb3,zb4,zb5,zb6,zb7,zb8,zb9,zca,zcb,eq_self,zcc,zcd,zce,zcf,zcg,zch,zci,zcj,zck,zcl,zcm,List.getElem?_cons_succ,List.getElem?_cons_zero,List.set_cons_succ,List.set_cons_zero,List.map_cons,List.map_nil,List.length_cons,List.length_nil,List.cons_append,List.nil_append,List.append_nil,List.isEmpty_cons,List.isEmpty_nil,if_true,if_false,ite_true,ite_false,Bool.not_true,Bool.not_false,Bool.not_not,decide_true,true_and,and_true,false_and,and_false,Bool.false_eq_true,reduceCtorEq,decide_true,decide_false,ite_self,forall_const,Nat.zero_add,Nat.reduceAdd,Nat.reduceLeDiff,Nat.reduceLT,Nat.reduceEqDiff,Nat.reduceSub,Nat.reduceMul,Nat.reduceBEq,Int.reduceLT,Int.reduceLE,Int.reduceEq,Int.reduceNe,Int.reduceAdd,Int.reduceMul,Int.reduceSub,Int.reduceNeg,Int.reducePow,Int.reduceBEq,Int.reduceToNat,Int.reduceGT,Int.reduceGE,String.reduceBEq,zcn,zco,List.replicate_succ,List.replicate_zero,zcp,zcq,zcr,zcs,zct,zcu,zcv,zcw,zcx,zcy,zcz,zcA,zcB,zcC,zcD,zcE,zcF,zcG,zcH,zcI,zcJ,zcK,zcL,zcM,zcN,zcO,zcP,zcQ,zcR,zcS,zcT,zcU,zcV,zcW,zcX,zcY,zcZ,zc0,zc1,zc2,zc3,zc4,zc5,zc6,zc7,zc8,zc9,zda,zdb,zdc,Bool.true_or,Bool.or_true,Bool.false_or,Bool.or_false,Bool.and_true,Bool.true_and,Bool.and_false,Bool.false_and,Int.cast_ofNat_Int,Int.natCast_zero,Int.natCast_one,beq_self_eq_true,zdd,wipeR]
  refine wpick_ok h (by omega) (by simp) (by simp) fun p hp S1 l1 v1 => ?_
  have hp2 : (∃ q, Sf p q) ∨ p = .non := by
    simp only [List.mem_cons, List.not_mem_nil, or_false] at hp
    rcases hp with rfl | rfl | rfl | rfl | rfl | rfl | rfl
    · exact .inl ⟨_, .mk' (by decide +kernel) (by decide +kernel) (by decide) (by decide) (by decide)⟩
    · exact .inl ⟨_, .mk' (by decide +kernel) (by decide +kernel) (by decide) (by decide) (by decide)⟩
    · exact .inl ⟨_, .mk' (by decide +kernel) (by decide +kernel) (by decide) (by decide) (by decide)⟩
    · exact .inl ⟨_, .mk' (by decide +kernel) (by decide +kernel) (by decide) (by decide) (by decide)⟩
    · exact .inr rfl
    · exact .inr rfl
    · exact .inr rfl
  rcases hp2 with ⟨q, rfl, hz⟩ | rfl
  · simp -dsimp only [zbs, zbk, List.set_cons_succ, List.set_cons_zero, zbt, zan, zav, zal, zad, zae, List.getElem?_cons_succ, List.getElem?_cons_zero, zaS, zaW, zao, Bool.false_eq_true, if_false, ite_false, reduceCtorEq]
    exact fin q S1 hz l1 (v1.le (by omega))
  · simp -dsimp only [zbs, zbk, List.set_cons_succ, List.set_cons_zero, zbt, zan, zav, zal, zad, zae, List.getElem?_cons_succ, List.getElem?_cons_zero, zaS, zaU, zao, if_true, ite_true, zaj, zag, zaf]
    refine wsize_ok v1 (by omega) fun q S2 q0 hz l2 v2 => ?_
    simp -dsimp only [zbs, List.set_cons_succ, List.set_cons_zero]
    exact fin q S2 hz (by omega) (v2.le (by omega))
end
end Pm.L


namespace Pm.L
open PySem PySem.Spec L2 Pm
section
variable {S : Sto} {Q : PV → Sto → Prop}
theorem wjet_ok {n m : Nat} (h : Vat m S n) (hm : m ≤ 999997000) (hq : ∀ s b S', Sz s 5 → Sz b 5 → 0 < b → S'.length = S.length → Vat (m + 10) S' n → Q (jv s b) S') : Ok (m__law_jet [.loc n] S) Q := by
  refine Ok_defM rfl ?_
  simp -dsimp (disch := first | assumption | omega) only [zaa,zab,zac,zad,zae,zaf,zag,zah,zai,zaj,zak,zal,zam,zan,zao,zap,zaq,zar,zas,zat,zau,zav,zaw,zax,zay,zaz,zaA,zaB,zaC,zaD,zaE,zaF,zaG,zaH,zaI,zaJ,zaK,zaL,zaM,zaN,zaO,zaP,zaQ,zaR,zaS,zaT,zaU,zaV,zaW,zaX,zaY,zaZ,za0,za1,za2,za3,za4,za5,za6,za7,za8,za9,zba,zbb,zbc,zbd,zbe,zbf,zbg,zbh,zbi,zbj,zbk,zbl,zbm,zbn,zbp,zbq,zbr,zbs,zbt,zbu,zbv,zbw,zbx,zby,zbz,zbA,zbB,zbC,zbD,zbE,zbF,zbG,zbH,zbI,zbJ,zbK,zbL,zbM,zbN,zbO,zbP,zbQ,zbR,zbS,zbT,zbU,zbV,zbW,zbX,zbY,zbZ,zb0,zb1,zb2,zb3,zb4,zb5,zb6,zb7,zb8,zb9,zca,zcb,eq_self,zcc,zcd,zce,zcf,zcg,zch,zci,zcj,zck,zcl,zcm,List.getElem?_cons_succ,List.getElem?_cons_zero,List.set_cons_succ,List.set_cons_zero,List.map_cons,List.map_nil,List.length_cons,List.length_nil,List.cons_append,List.nil_append,List.append_nil,List.isEmpty_cons,List.isEmpty_nil,if_true,if_false,ite_true,ite_false,Bool.not_true,Bool.not_false,Bool.not_not,decide_true,true_and,and_true,false_and,and_false,Bool.false_eq_true,reduceCtorEq,decide_true,decide_false,ite_self,forall_const,Nat.zero_add,Nat.reduceAdd,Nat.reduceLeDiff,Nat.reduceLT,Nat.reduceEqDiff,Nat.reduceSub,Nat.reduceMul,Nat.reduceBEq,Int.reduceLT,Int.reduceLE,Int.reduceEq,Int.reduceNe,Int.reduceAdd,Int.reduceMul,Int.reduceSub,Int.reduceNeg,Int.reducePow,Int.reduceBEq,Int.reduceToNat,Int.reduceGT,Int.reduceGE,String.reduceBEq,zcn,zco,List.replicate_succ,List.replicate_zero,zcp,zcq,zcr,zcs,zct,zcu,zcv,zcw,zcx,zcy,zcz,zcA,zcB,zcC,zcD,zcE,zcF,zcG,zcH,zcI,zcJ,zcK,zcL,zcM,zcN,zcO,zcP,zcQ,zcR,zcS,zcT,zcU,zcV,zcW,zcX,zcY,zcZ,zc0,zc1,zc2,zc3,zc4,zc5,zc6,zc7,zc8,zc9,zda,zdb,zdc,Bool.true_or,Bool.or_true,Bool.false_or,Bool.or_false,Bool.and_true,Bool.true_and,Bool.and_false,Bool.false_and,Int.cast_ofNat_Int,Int.natCast_zero,Int.natCast_one,beq_self_eq_true,zdd,wipeR]
  refine wdraw_ok h (by omega) (by omega) (by omega) fun d S1 d0 d1 l1 v1 => ?_
  by_cases c : d < 2
  · simp -dsimp (disch := first | assumption | omega) only [zaa,zab,zac,zad,zae,zaf,zag,zah,zai,zaj,zak,zal,zam,zan,zao,zap,zaq,zar,zas,zat,zau,zav,zaw,zax,zay,zaz,zaA,zaB,zaC,zaD,zaE,zaF,zaG,zaH,zaI,zaJ,zaK,zaL,zaM,zaN,zaO,zaP,zaQ,zaR,zaS,zaT,zaU,zaV,zaW,zaX,zaY,zaZ,za0,za1,za2,za3,za4,za5,za6,za7,za8,za9,zba,zbb,zbc,zbd,zbe,zbf,zbg,zbh,zbi,zbj,zbk,zbl,zbm,zbn,zbo,zbp,zbq,zbr,zbs,zbt,zbu,zbv,zbw,zbx,zby,zbz,zbA,zbB,zbC,zbD,zbE,zbF,zbG,zbH,zbI,zbJ,zbK,zbL,zbM,zbN,zbO,zbP,zbQ,zbR,zbS,zbT,zbU,zbV,zbW,zbX,zbY,zbZ,zb0,zb1,zb2,zb3,zb4,zb5,zb6,zb7,zb8,zb9,zca,zcb,eq_self,zcc,zcd,zce,zcf,zcg,zch,zci,zcj,zck,zcl,zcm,List.getElem?_cons_succ,List.getElem?_cons_zero,List.set_cons_succ,List.set_cons_zero,List.map_cons,List.map_nil,List.length_cons,List.length_nil,List.cons_append,List.nil_append,List.append_nil,List.isEmpty_cons,List.isEmpty_nil,if_true,if_false,ite_true,ite_false,Bool.not_true,Bool.not_false,Bool.not_not,decide_true,true_and,and_true,false_and,and_false,Bool.false_eq_true,reduceCtorEq,decide_true,decide_false,ite_self,forall_const,Nat.zero_add,Nat.reduceAdd,Nat.reduceLeDiff,Nat.reduceLT,Nat.reduceEqDiff,Nat.reduceSub,Nat.reduceMul,Nat.reduceBEq,Int.reduceLT,Int.reduceLE,Int.reduceEq,Int.reduceNe,Int.reduceAdd,Int.reduceMul,Int.reduceSub,Int.reduceNeg,Int.reducePow,Int.reduceBEq,Int.reduceToNat,Int.reduceGT,Int.reduceGE,String.reduceBEq,zcn,zco,List.replicate_succ,List.replicate_zero,zcp,zcq,zcr,zcs,zct,zcu,zcv,zcw,zcx,zcy,zcz,zcA,zcB,zcC,zcD,zcE,zcF,zcG,zcH,zcI,zcJ,zcK,zcL,zcM,zcN,zcO,zcP,zcQ,zcR,zcS,zcT,zcU,zcV,zcW,zcX,zcY,zcZ,zc0,zc1,zc2,zc3,zc4,zc5,zc6,zc7,zc8,zc9,zda,zdb,zdc,Bool.true_or,Bool.or_true,Bool.false_or,Bool.or_false,Bool.and_true,Bool.true_and,Bool.and_false,Bool.false_and,Int.cast_ofNat_Int,Int.natCast_zero,Int.natCast_one,beq_self_eq_true,zdd,zde,zdf,zdg,zdh,wipeR,c]
    refine wpick_ok v1 (by omega) (by simp) (by simp) fun p hp S2 l2 v2 => ?_
    obtain ⟨p1, p2, q, r, rfl, h1, h2, r0⟩ : ∃ p1 p2 q r, p = .tup [p1, p2] ∧ Sf p1 q ∧ Sf p2 r ∧ 0 < r := by
      simp only [List.mem_cons, List.not_mem_nil, or_false] at hp
      rcases hp with rfl | rfl | rfl | rfl | rfl
      all_goals exact ⟨_, _, _, _, rfl, .mk' (by decide +kernel) (by decide +kernel) (by decide) (by decide) (by decide), .mk' (by decide +kernel) (by decide +kernel) (by decide) (by decide) (by decide), by decide +kernel⟩
    obtain ⟨rfl, z1⟩ := h1
    obtain ⟨rfl, z2⟩ := h2
    try simp -dsimp (disch := first | assumption | omega) only [zaa,zab,zac,zad,zae,zaf,zag,zah,zai,zaj,zak,zal,zam,zan,zao,zap,zaq,zar,zas,zat,zau,zav,zaw,zax,zay,zaz,zaA,zaB,zaC,zaD,zaE,zaF,zaG,zaH,zaI,zaJ,zaK,zaL,zaM,zaN,zaO,zaP,zaQ,zaR,zaS,zaT,zaU,zaV,zaW,zaX,zaY,zaZ,za0,za1,za2,za3,za4,za5,za6,za7,za8,za9,zba,zbb,zbc,zbd,zbe,zbf,zbg,zbh,zbi,zbj,zbk,zbl,zbm,zbn,zbo,zbp,zbq,zbr,zbs,zbt,zbu,zbv,zbw,zbx,zby,zbz,zbA,zbB,zbC,zbD,zbE,zbF,zbG,zbH,zbI,zbJ,zbK,zbL,zbM,zbN,zbO,zbP,zbQ,zbR,zbS,zbT,zbU,zbV,zbW,zbX,zbY,zbZ,zb0,zb1,zb2,zb3,zb4,zb5,zb6,zb7,zb8,zb9,zca,zcb,eq_self,zcc,zcd,zce,zcf,zcg,zch,zci,zcj,zck,zcl,zcm,List.getElem?_cons_succ,List.getElem?_cons_zero,List.set_cons_succ,List.set_cons_zero,List.map_cons,List.map_nil,List.length_cons,List.length_nil,List.cons_append,List.nil_append,List.append_nil,List.isEmpty_cons,List.isEmpty_nil,if_true,if_false,ite_true,ite_false,Bool.not_true,Bool.not_false,Bool.not_not,decide_true,true_and,and_true,false_and,and_false,Bool.false_eq_true,reduceCtorEq,decide_true,decide_false,ite_self,forall_const,Nat.zero_add,Nat.reduceAdd,Nat.reduceLeDiff,Nat.reduceLT,Nat.reduceEqDiff,Nat.reduceSub,Nat.reduceMul,Nat.reduceBEq,Int.reduceLT,Int.reduceLE,Int.reduceEq,Int.reduceNe,Int.reduceAdd,Int.reduceMul,Int.reduceSub,Int.reduceNeg,Int.reducePow,Int.reduceBEq,Int.reduceToNat,Int.reduceGT,Int.reduceGE,String.reduceBEq,zcn,zco,List.replicate_succ,List.replicate_zero,zcp,zcq,zcr,zcs,zct,zcu,zcv,zcw,zcx,zcy,zcz,zcA,zcB,zcC,zcD,zcE,zcF,zcG,zcH,zcI,zcJ,zcK,zcL,zcM,zcN,zcO,zcP,zcQ,zcR,zcS,zcT,zcU,zcV,zcW,zcX,zcY,zcZ,zc0,zc1,zc2,zc3,zc4,zc5,zc6,zc7,zc8,zc9,zda,zdb,zdc,Bool.true_or,Bool.or_true,Bool.false_or,Bool.or_false,Bool.and_true,Bool.true_and,Bool.and_false,Bool.false_and,Int.cast_ofNat_Int,Int.natCast_zero,Int.natCast_one,beq_self_eq_true,zdd,zde,zdf,zdg,zdh,wipeR]
    exact ⟨by omega, hq _ _ _ z1 z2 r0 (by omega) (v2.le (by omega))⟩
  · simp -dsimp (disch := first | assumption | omega) only [zaa,zab,zac,zad,zae,zaf,zag,zah,zai,zaj,zak,zal,zam,zan,zao,zap,zaq,zar,zas,zat,zau,zav,zaw,zax,zay,zaz,zaA,zaB,zaC,zaD,zaE,zaF,zaG,zaH,zaI,zaJ,zaK,zaL,zaM,zaN,zaO,zaP,zaQ,zaR,zaS,zaT,zaU,zaV,zaW,zaX,zaY,zaZ,za0,za1,za2,za3,za4,za5,za6,za7,za8,za9,zba,zbb,zbc,zbd,zbe,zbf,zbg,zbh,zbi,zbj,zbk,zbl,zbm,zbn,zbo,zbp,zbq,zbr,zbs,zbt,zbu,zbv,zbw,zbx,zby,zbz,zbA,zbB,zbC,zbD,zbE,zbF,zbG,zbH,zbI,zbJ,zbK,zbL,zbM,zbN,zbO,zbP,zbQ,zbR,zbS,zbT,zbU,zbV,zbW,zbX,zbY,zbZ,zb0,zb1,zb2,zb3,zb4,zb5,zb6,zb7,zb8,zb9,zca,zcb,eq_self,zcc,zcd,zce,zcf,zcg,zch,zci,zcj,zck,zcl,zcm,List.getElem?_cons_succ,List.getElem?_cons_zero,List.set_cons_succ,List.set_cons_zero,List.map_cons,List.map_nil,List.length_cons,List.length_nil,List.cons_append,List.nil_append,List.append_nil,List.isEmpty_cons,List.isEmpty_nil,if_true,if_false,ite_true,ite_false,Bool.not_true,Bool.not_false,Bool.not_not,decide_true,true_and,and_true,false_and,and_false,Bool.false_eq_true,reduceCtorEq,decide_true,decide_false,ite_self,forall_const,Nat.zero_add,Nat.reduceAdd,Nat.reduceLeDiff,Nat.reduceLT,Nat.reduceEqDiff,Nat.reduceSub,Nat.reduceMul,Nat.reduceBEq,Int.reduceLT,Int.reduceLE,Int.reduceEq,Int.reduceNe,Int.reduceAdd,Int.reduceMul,Int.reduceSub,Int.reduceNeg,Int.reducePow,Int.reduceBEq,Int.reduceToNat,Int.reduceGT,Int.reduceGE,String.reduceBEq,zcn,zco,List.replicate_succ,List.replicate_zero,zcp,zcq,zcr,zcs,zct,zcu,zcv,zcw,zcx,zcy,zcz,zcA,zcB,zcC,zcD,zcE,zcF,zcG,zcH,zcI,zcJ,zcK,zcL,zcM,zcN,zcO,zcP,zcQ,zcR,zcS,zcT,zcU,zcV,zcW,zcX,zcY,zcZ,zc0,zc1,zc2,zc3,zc4,zc5,zc6,zc7,zc8,zc9,zda,zdb,zdc,Bool.true_or,Bool.or_true,Bool.false_or,Bool.or_false,Bool.and_true,Bool.true_and,Bool.and_false,Bool.false_and,Int.cast_ofNat_Int,Int.natCast_zero,Int.natCast_one,beq_self_eq_true,zdd,zde,zdf,zdg,zdh,wipeR,c]
    refine wpart_ok v1 (by omega) fun s S2 z1 l2 v2 => ?_
    try simp -dsimp (disch := first | assumption | omega) only [zaa,zab,zac,zad,zae,zaf,zag,zah,zai,zaj,zak,zal,zam,zan,zao,zap,zaq,zar,zas,zat,zau,zav,zaw,zax,zay,zaz,zaA,zaB,zaC,zaD,zaE,zaF,zaG,zaH,zaI,zaJ,zaK,zaL,zaM,zaN,zaO,zaP,zaQ,zaR,zaS,zaT,zaU,zaV,zaW,zaX,zaY,zaZ,za0,za1,za2,za3,za4,za5,za6,za7,za8,za9,zba,zbb,zbc,zbd,zbe,zbf,zbg,zbh,zbi,zbj,zbk,zbl,zbm,zbn,zbo,zbp,zbq,zbr,zbs,zbt,zbu,zbv,zbw,zbx,zby,zbz,zbA,zbB,zbC,zbD,zbE,zbF,zbG,zbH,zbI,zbJ,zbK,zbL,zbM,zbN,zbO,zbP,zbQ,zbR,zbS,zbT,zbU,zbV,zbW,zbX,zbY,zbZ,zb0,zb1,zb2,zb3,zb4,zb5,zb6,zb7,zb8,zb9,zca,zcb,eq_self,zcc,zcd,zce,zcf,zcg,zch,zci,zcj,zck,zcl,zcm,List.getElem?_cons_succ,List.getElem?_cons_zero,List.set_cons_succ,List.set_cons_zero,List.map_cons,List.map_nil,List.length_cons,List.length_nil,List.cons_append,List.nil_append,List.append_nil,List.isEmpty_cons,List.isEmpty_nil,if_true,if_false,ite_true,ite_false,Bool.not_true,Bool.not_false,Bool.not_not,decide_true,true_and,and_true,false_and,and_false,Bool.false_eq_true,reduceCtorEq,decide_true,decide_false,ite_self,forall_const,Nat.zero_add,Nat.reduceAdd,Nat.reduceLeDiff,Nat.reduceLT,Nat.reduceEqDiff,Nat.reduceSub,Nat.reduceMul,Nat.reduceBEq,Int.reduceLT,Int.reduceLE,Int.reduceEq,Int.reduceNe,Int.reduceAdd,Int.reduceMul,Int.reduceSub,Int.reduceNeg,Int.reducePow,Int.reduceBEq,Int.reduceToNat,Int.reduceGT,Int.reduceGE,String.reduceBEq,zcn,zco,List.replicate_succ,List.replicate_zero,zcp,zcq,zcr,zcs,zct,zcu,zcv,zcw,zcx,zcy,zcz,zcA,zcB,zcC,zcD,zcE,zcF,zcG,zcH,zcI,zcJ,zcK,zcL,zcM,zcN,zcO,zcP,zcQ,zcR,zcS,zcT,zcU,zcV,zcW,zcX,zcY,zcZ,zc0,zc1,zc2,zc3,zc4,zc5,zc6,zc7,zc8,zc9,zda,zdb,zdc,Bool.true_or,Bool.or_true,Bool.false_or,Bool.or_false,Bool.and_true,Bool.true_and,Bool.and_false,Bool.false_and,Int.cast_ofNat_Int,Int.natCast_zero,Int.natCast_one,beq_self_eq_true,zdd,zde,zdf,zdg,zdh,wipeR]
    refine wsize_ok v2 (by omega) fun b S3 b0 z2 l3 v3 => ?_
    try simp -dsimp (disch := first | assumption | omega) only [zaa,zab,zac,zad,zae,zaf,zag,zah,zai,zaj,zak,zal,zam,zan,zao,zap,zaq,zar,zas,zat,zau,zav,zaw,zax,zay,zaz,zaA,zaB,zaC,zaD,zaE,zaF,zaG,zaH,zaI,zaJ,zaK,zaL,zaM,zaN,zaO,zaP,zaQ,zaR,zaS,zaT,zaU,zaV,zaW,zaX,zaY,zaZ,za0,za1,za2,za3,za4,za5,za6,za7,za8,za9,zba,zbb,zbc,zbd,zbe,zbf,zbg,zbh,zbi,zbj,zbk,zbl,zbm,zbn,zbo,zbp,zbq,zbr,zbs,zbt,zbu,zbv,zbw,zbx,zby,zbz,zbA,zbB,zbC,zbD,zbE,zbF,zbG,zbH,zbI,zbJ,zbK,zbL,zbM,zbN,zbO,zbP,zbQ,zbR,zbS,zbT,zbU,zbV,zbW,zbX,zbY,zbZ,zb0,zb1,zb2,zb3,zb4,zb5,zb6,zb7,zb8,zb9,zca,zcb,eq_self,zcc,zcd,zce,zcf,zcg,zch,zci,zcj,zck,zcl,zcm,List.getElem?_cons_succ,List.getElem?_cons_zero,List.set_cons_succ,List.set_cons_zero,List.map_cons,List.map_nil,List.length_cons,List.length_nil,List.cons_append,List.nil_append,List.append_nil,List.isEmpty_cons,List.isEmpty_nil,if_true,if_false,ite_true,ite_false,Bool.not_true,Bool.not_false,Bool.not_not,decide_true,true_and,and_true,false_and,and_false,Bool.false_eq_true,reduceCtorEq,decide_true,decide_false,ite_self,forall_const,Nat.zero_add,Nat.reduceAdd,Nat.reduceLeDiff,Nat.reduceLT,Nat.reduceEqDiff,Nat.reduceSub,Nat.reduceMul,Nat.reduceBEq,Int.reduceLT,Int.reduceLE,Int.reduceEq,Int.reduceNe,Int.reduceAdd,Int.reduceMul,Int.reduceSub,Int.reduceNeg,Int.reducePow,Int.reduceBEq,Int.reduceToNat,Int.reduceGT,Int.reduceGE,String.reduceBEq,zcn,zco,List.replicate_succ,List.replicate_zero,zcp,zcq,zcr,zcs,zct,zcu,zcv,zcw,zcx,zcy,zcz,zcA,zcB,zcC,zcD,zcE,zcF,zcG,zcH,zcI,zcJ,zcK,zcL,zcM,zcN,zcO,zcP,zcQ,zcR,zcS,zcT,zcU,zcV,zcW,zcX,zcY,zcZ,zc0,zc1,zc2,zc3,zc4,zc5,zc6,zc7,zc8,zc9,zda,zdb,zdc,Bool.true_or,Bool.or_true,Bool.false_or,Bool.or_false,Bool.and_true,Bool.true_and,Bool.and_false,Bool.false_and,Int.cast_ofNat_Int,Int.natCast_zero,Int.natCast_one,beq_self_eq_true,zdd,zde,zdf,zdg,zdh,wipeR]
    exact ⟨by omega, hq _ _ _ z1 z2 b0 (by omega) (v3.le (by omega))⟩
theorem wtwo_ok {n m : Nat} (h : Vat m S n) (hm : m ≤ 999996000) (hq : ∀ s b s2 b2 S', Sz s 5 → Sz b 5 → 0 < b → Sz s2 5 → Sz b2 5 → 0 < b2 → S'.length = S.length → Vat (m + 30) S' n → Q (.tup [jv s b, jv s2 b2]) S') : Ok (m__law_two_jets [.loc n] S) Q := by
  refine Ok_defM rfl ?_
  simp -dsimp (disch := first | assumption | omega) only [zaa,zab,zac,zad,zae,zaf,zag,zah,zai,zaj,zak,zal,zam,zan,zao,zap,zaq,zar,zas,zat,zau,zav,zaw,zax,zay,zaz,zaA,zaB,zaC,zaD,zaE,zaF,zaG,zaH,zaI,zaJ,zaK,zaL,zaM,zaN,zaO,zaP,zaQ,zaR,zaS,zaT,zaU,zaV,zaW,zaX,zaY,zaZ,za0,za1,za2,za3,za4,za5,za6,za7,za8,za9,zba,zbb,zbc,zbd,zbe,zbf,zbg,zbh,zbi,zbj,zbk,zbl,zbm,zbn,zbp,zbq,zbr,zbs,zbt,zbu,zbv,zbw,zbx,zby,zbz,zbA,zbB,zbC,zbD,zbE,zbF,zbG,zbH,zbI,zbJ,zbK,zbL,zbM,zbN,zbO,zbP,zbQ,zbR,zbS,zbT,zbU,zbV,zbW,zbX,zbY,zbZ,zb0,zb1,zb2,zb3,zb4,zb5,zb6,zb7,zb8,zb9,zca,zcb,eq_self,zcc,zcd,zce,zcf,zcg,zch,zci,zcj,zck,zcl,zcm,List.getElem?_cons_succ,List.getElem?_cons_zero,List.set_cons_succ,List.set_cons_zero,List.map_cons,List.map_nil,List.length_cons,List.length_nil,List.cons_append,List.nil_append,List.append_nil,List.isEmpty_cons,List.isEmpty_nil,if_true,if_false,ite_true,ite_false,Bool.not_true,Bool.not_false,Bool.not_not,decide_true,true_and,and_true,false_and,and_false,Bool.false_eq_true,reduceCtorEq,decide_true,decide_false,ite_self,forall_const,Nat.zero_add,Nat.reduceAdd,Nat.reduceLeDiff,Nat.reduceLT,Nat.reduceEqDiff,Nat.reduceSub,Nat.reduceMul,Nat.reduceBEq,Int.reduceLT,Int.reduceLE,Int.reduceEq,Int.reduceNe,Int.reduceAdd,Int.reduceMul,Int.reduceSub,Int.reduceNeg,Int.reducePow,Int.reduceBEq,Int.reduceToNat,Int.reduceGT,Int.reduceGE,String.reduceBEq,zcn,zco,List.replicate_succ,List.replicate_zero,zcp,zcq,zcr,zcs,zct,zcu,zcv,zcw,zcx,zcy,zcz,zcA,zcB,zcC,zcD,zcE,zcF,zcG,zcH,zcI,zcJ,zcK,zcL,zcM,zcN,zcO,zcP,zcQ,zcR,zcS,zcT,zcU,zcV,zcW,zcX,zcY,zcZ,zc0,zc1,zc2,zc3,zc4,zc5,zc6,zc7,zc8,zc9,zda,zdb,zdc,Bool.true_or,Bool.or_true,Bool.false_or,Bool.or_false,Bool.and_true,Bool.true_and,Bool.and_false,Bool.false_and,Int.cast_ofNat_Int,Int.natCast_zero,Int.natCast_one,beq_self_eq_true,zdd,wipeR]
  refine wjet_ok h (by omega) fun s b S1 z1 z2 b0 l1 v1 => ?_
  simp -dsimp (disch := first | assumption | omega) only [zaa,zab,zac,zad,zae,zaf,zag,zah,zai,zaj,zak,zal,zam,zan,zao,zap,zaq,zar,zas,zat,zau,zav,zaw,zax,zay,zaz,zaA,zaB,zaC,zaD,zaE,zaF,zaG,zaH,zaI,zaJ,zaK,zaL,zaM,zaN,zaO,zaP,zaQ,zaR,zaS,zaT,zaU,zaV,zaW,zaX,zaY,zaZ,za0,za1,za2,za3,za4,za5,za6,za7,za8,za9,zba,zbb,zbc,zbd,zbe,zbf,zbg,zbh,zbi,zbj,zbk,zbl,zbm,zbn,zbp,zbq,zbr,zbs,zbt,zbu,zbv,zbw,zbx,zby,zbz,zbA,zbB,zbC,zbD,zbE,zbF,zbG,zbH,zbI,zbJ,zbK,zbL,zbM,zbN,zbO,zbP,zbQ,zbR,zbS,zbT,zbU,zbV,zbW,zbX,zbY,zbZ,zb0,zb1,zb2,zb3,zb4,zb5,zb6,zb7,zb8,zb9,zca,zcb,eq_self,zcc,zcd,zce,zcf,zcg,zch,zci,zcj,zck,zcl,zcm,List.getElem?_cons_succ,List.getElem?_cons_zero,List.set_cons_succ,List.set_cons_zero,List.map_cons,List.map_nil,List.length_cons,List.length_nil,List.cons_append,List.nil_append,List.append_nil,List.isEmpty_cons,List.isEmpty_nil,if_true,if_false,ite_true,ite_false,Bool.not_true,Bool.not_false,Bool.not_not,decide_true,true_and,and_true,false_and,and_false,Bool.false_eq_true,reduceCtorEq,decide_true,decide_false,ite_self,forall_const,Nat.zero_add,Nat.reduceAdd,Nat.reduceLeDiff,Nat.reduceLT,Nat.reduceEqDiff,Nat.reduceSub,Nat.reduceMul,Nat.reduceBEq,Int.reduceLT,Int.reduceLE,Int.reduceEq,Int.reduceNe,Int.reduceAdd,Int.reduceMul,Int.reduceSub,Int.reduceNeg,Int.reducePow,Int.reduceBEq,Int.reduceToNat,Int.reduceGT,Int.reduceGE,String.reduceBEq,zcn,zco,List.replicate_succ,List.replicate_zero,zcp,zcq,zcr,zcs,zct,zcu,zcv,zcw,zcx,zcy,zcz,zcA,zcB,zcC,zcD,zcE,zcF,zcG,zcH,zcI,zcJ,zcK,zcL,zcM,zcN,zcO,zcP,zcQ,zcR,zcS,zcT,zcU,zcV,zcW,zcX,zcY,zcZ,zc0,zc1,zc2,zc3,zc4,zc5,zc6,zc7,zc8,zc9,zda,zdb,zdc,Bool.true_or,Bool.or_true,Bool.false_or,Bool.or_false,Bool.and_true,Bool.true_and,Bool.and_false,Bool.false_and,Int.cast_ofNat_Int,Int.natCast_zero,Int.natCast_one,beq_self_eq_true,zdd,wipeR]
  refine wjet_ok v1 (by omega) fun s2 b2 S2 y1 y2 c0 l2 v2 => ?_
  simp -dsimp (disch := first | assumption | omega) only [zaa,zab,zac,zad,zae,zaf,zag,zah,zai,zaj,zak,zal,zam,zan,zao,zap,zaq,zar,zas,zat,zau,zav,zaw,zax,zay,zaz,zaA,zaB,zaC,zaD,zaE,zaF,zaG,zaH,zaI,zaJ,zaK,zaL,zaM,zaN,zaO,zaP,zaQ,zaR,zaS,zaT,zaU,zaV,zaW,zaX,zaY,zaZ,za0,za1,za2,za3,za4,za5,za6,za7,za8,za9,zba,zbb,zbc,zbd,zbe,zbf,zbg,zbh,zbi,zbj,zbk,zbl,zbm,zbn,zbp,zbq,zbr,zbs,zbt,zbu,zbv,zbw,zbx,zby,zbz,zbA,zbB,zbC,zbD,zbE,zbF,zbG,zbH,zbI,zbJ,zbK,zbL,zbM,zbN,zbO,zbP,zbQ,zbR,zbS,zbT,zbU,zbV,zbW,zbX,zbY,zbZ,zb0,zb1,zb2,zb3,zb4,zb5,zb6,zb7,zb8,zb9,zca,zcb,eq_self,zcc,zcd,zce,zcf,zcg,zch,zci,zcj,zck,zcl,zcm,List.getElem?_cons_succ,List.getElem?_cons_zero,List.set_cons_succ,List.set_cons_zero,List.map_cons,List.map_nil,List.length_cons,List.length_nil,List.cons_append,List.nil_append,List.append_nil,List.isEmpty_cons,List.isEmpty_nil,if_true,if_false,ite_true,ite_false,Bool.not_true,Bool.not_false,Bool.not_not,decide_true,true_and,and_true,false_and,and_false,Bool.false_eq_true,reduceCtorEq,decide_true,decide_false,ite_self,forall_const,Nat.zero_add,Nat.reduceAdd,Nat.reduceLeDiff,Nat.reduceLT,Nat.reduceEqDiff,Nat.reduceSub,Nat.reduceMul,Nat.reduceBEq,Int.reduceLT,Int.reduceLE,Int.reduceEq,Int.reduceNe,Int.reduceAdd,Int.reduceMul,Int.reduceSub,Int.reduceNeg,Int.reducePow,Int.reduceBEq,Int.reduceToNat,Int.reduceGT,Int.reduceGE,String.reduceBEq,zcn,zco,List.replicate_succ,List.replicate_zero,zcp,zcq,zcr,zcs,zct,zcu,zcv,zcw,zcx,zcy,zcz,zcA,zcB,zcC,zcD,zcE,zcF,zcG,zcH,zcI,zcJ,zcK,zcL,zcM,zcN,zcO,zcP,zcQ,zcR,zcS,zcT,zcU,zcV,zcW,zcX,zcY,zcZ,zc0,zc1,zc2,zc3,zc4,zc5,zc6,zc7,zc8,zc9,zda,zdb,zdc,Bool.true_or,Bool.or_true,Bool.false_or,Bool.or_false,Bool.and_true,Bool.true_and,Bool.and_false,Bool.false_and,Int.cast_ofNat_Int,Int.natCast_zero,Int.natCast_one,beq_self_eq_true,zdd,wipeR]
  refine wdraw_ok v2 (by omega) (by omega) (by omega) fun d S3 d0 d1 l3 v3 => ?_
  by_cases e0 : d = 0
  · have c : (d == 0) = true := by simpa using e0
    simp -dsimp (disch := first | assumption | omega) only [zaa,zab,zac,zad,zae,zaf,zag,zah,zai,zaj,zak,zal,zam,zan,zao,zap,zaq,zar,zas,zat,zau,zav,zaw,zax,zay,zaz,zaA,zaB,zaC,zaD,zaE,zaF,zaG,zaH,zaI,zaJ,zaK,zaL,zaM,zaN,zaO,zaP,zaQ,zaR,zaS,zaT,zaU,zaV,zaW,zaX,zaY,zaZ,za0,za1,za2,za3,za4,za5,za6,za7,za8,za9,zba,zbb,zbc,zbd,zbe,zbf,zbg,zbh,zbi,zbj,zbk,zbl,zbm,zbn,zbo,zbp,zbq,zbr,zbs,zbt,zbu,zbv,zbw,zbx,zby,zbz,zbA,zbB,zbC,zbD,zbE,zbF,zbG,zbH,zbI,zbJ,zbK,zbL,zbM,zbN,zbO,zbP,zbQ,zbR,zbS,zbT,zbU,zbV,zbW,zbX,zbY,zbZ,zb0,zb1,zb2,zb3,zb4,zb5,zb6,zb7,zb8,zb9,zca,zcb,eq_self,zcc,zcd,zce,zcf,zcg,zch,zci,zcj,zck,zcl,zcm,List.getElem?_cons_succ,List.getElem?_cons_zero,List.set_cons_succ,List.set_cons_zero,List.map_cons,List.map_nil,List.length_cons,List.length_nil,List.cons_append,List.nil_append,List.append_nil,List.isEmpty_cons,List.isEmpty_nil,if_true,if_false,ite_true,ite_false,Bool.not_true,Bool.not_false,Bool.not_not,decide_true,true_and,and_true,false_and,and_false,Bool.false_eq_true,reduceCtorEq,decide_true,decide_false,ite_self,forall_const,Nat.zero_add,Nat.reduceAdd,Nat.reduceLeDiff,Nat.reduceLT,Nat.reduceEqDiff,Nat.reduceSub,Nat.reduceMul,Nat.reduceBEq,Int.reduceLT,Int.reduceLE,Int.reduceEq,Int.reduceNe,Int.reduceAdd,Int.reduceMul,Int.reduceSub,Int.reduceNeg,Int.reducePow,Int.reduceBEq,Int.reduceToNat,Int.reduceGT,Int.reduceGE,String.reduceBEq,zcn,zco,List.replicate_succ,List.replicate_zero,zcp,zcq,zcr,zcs,zct,zcu,zcv,zcw,zcx,zcy,zcz,zcA,zcB,zcC,zcD,zcE,zcF,zcG,zcH,zcI,zcJ,zcK,zcL,zcM,zcN,zcO,zcP,zcQ,zcR,zcS,zcT,zcU,zcV,zcW,zcX,zcY,zcZ,zc0,zc1,zc2,zc3,zc4,zc5,zc6,zc7,zc8,zc9,zda,zdb,zdc,Bool.true_or,Bool.or_true,Bool.false_or,Bool.or_false,Bool.and_true,Bool.true_and,Bool.and_false,Bool.false_and,Int.cast_ofNat_Int,Int.natCast_zero,Int.natCast_one,beq_self_eq_true,zdd,zde,zdf,zdg,zdh,wipeR,c]
    exact ⟨by omega, hq _ _ _ _ _ z1 z2 b0 z1 y2 c0 (by omega) (v3.le (by omega))⟩
  have c : (d == 0) = false := by simpa using e0
  by_cases e1 : d = 1
  · have c1 : (d == 1) = true := by simpa using e1
    simp -dsimp (disch := first | assumption | omega) only [zaa,zab,zac,zad,zae,zaf,zag,zah,zai,zaj,zak,zal,zam,zan,zao,zap,zaq,zar,zas,zat,zau,zav,zaw,zax,zay,zaz,zaA,zaB,zaC,zaD,zaE,zaF,zaG,zaH,zaI,zaJ,zaK,zaL,zaM,zaN,zaO,zaP,zaQ,zaR,zaS,zaT,zaU,zaV,zaW,zaX,zaY,zaZ,za0,za1,za2,za3,za4,za5,za6,za7,za8,za9,zba,zbb,zbc,zbd,zbe,zbf,zbg,zbh,zbi,zbj,zbk,zbl,zbm,zbn,zbo,zbp,zbq,zbr,zbs,zbt,zbu,zbv,zbw,zbx,zby,zbz,zbA,zbB,zbC,zbD,zbE,zbF,zbG,zbH,zbI,zbJ,zbK,zbL,zbM,zbN,zbO,zbP,zbQ,zbR,zbS,zbT,zbU,zbV,zbW,zbX,zbY,zbZ,zb0,zb1,zb2,zb3,zb4,zb5,zb6,zb7,zb8,zb9,zca,zcb,eq_self,zcc,zcd,zce,zcf,zcg,zch,zci,zcj,zck,zcl,zcm,List.getElem?_cons_succ,List.getElem?_cons_zero,List.set_cons_succ,List.set_cons_zero,List.map_cons,List.map_nil,List.length_cons,List.length_nil,List.cons_append,List.nil_append,List.append_nil,List.isEmpty_cons,List.isEmpty_nil,if_true,if_false,ite_true,ite_false,Bool.not_true,Bool.not_false,Bool.not_not,decide_true,true_and,and_true,false_and,and_false,Bool.false_eq_true,reduceCtorEq,decide_true,decide_false,ite_self,forall_const,Nat.zero_add,Nat.reduceAdd,Nat.reduceLeDiff,Nat.reduceLT,Nat.reduceEqDiff,Nat.reduceSub,Nat.reduceMul,Nat.reduceBEq,Int.reduceLT,Int.reduceLE,Int.reduceEq,Int.reduceNe,Int.reduceAdd,Int.reduceMul,Int.reduceSub,Int.reduceNeg,Int.reducePow,Int.reduceBEq,Int.reduceToNat,Int.reduceGT,Int.reduceGE,String.reduceBEq,zcn,zco,List.replicate_succ,List.replicate_zero,zcp,zcq,zcr,zcs,zct,zcu,zcv,zcw,zcx,zcy,zcz,zcA,zcB,zcC,zcD,zcE,zcF,zcG,zcH,zcI,zcJ,zcK,zcL,zcM,zcN,zcO,zcP,zcQ,zcR,zcS,zcT,zcU,zcV,zcW,zcX,zcY,zcZ,zc0,zc1,zc2,zc3,zc4,zc5,zc6,zc7,zc8,zc9,zda,zdb,zdc,Bool.true_or,Bool.or_true,Bool.false_or,Bool.or_false,Bool.and_true,Bool.true_and,Bool.and_false,Bool.false_and,Int.cast_ofNat_Int,Int.natCast_zero,Int.natCast_one,beq_self_eq_true,zdd,zde,zdf,zdg,zdh,wipeR,c,c1]
    exact ⟨by omega, hq _ _ _ _ _ z1 z2 b0 y1 z2 b0 (by omega) (v3.le (by omega))⟩
  have c1 : (d == 1) = false := by simpa using e1
  by_cases e2 : d = 2
  · have c2 : (d == 2) = true := by simpa using e2
    simp -dsimp (disch := first | assumption | omega) only [zaa,zab,zac,zad,zae,zaf,zag,zah,zai,zaj,zak,zal,zam,zan,zao,zap,zaq,zar,zas,zat,zau,zav,zaw,zax,zay,zaz,zaA,zaB,zaC,zaD,zaE,zaF,zaG,zaH,zaI,zaJ,zaK,zaL,zaM,zaN,zaO,zaP,zaQ,zaR,zaS,zaT,zaU,zaV,zaW,zaX,zaY,zaZ,za0,za1,za2,za3,za4,za5,za6,za7,za8,za9,zba,zbb,zbc,zbd,zbe,zbf,zbg,zbh,zbi,zbj,zbk,zbl,zbm,zbn,zbo,zbp,zbq,zbr,zbs,zbt,zbu,zbv,zbw,zbx,zby,zbz,zbA,zbB,zbC,zbD,zbE,zbF,zbG,zbH,zbI,zbJ,zbK,zbL,zbM,zbN,zbO,zbP,zbQ,zbR,zbS,zbT,zbU,zbV,zbW,zbX,zbY,zbZ,zb0,zb1,zb2,zb3,zb4,zb5,zb6,zb7,zb8,zb9,zca,zcb,eq_self,zcc,zcd,zce,zcf,zcg,zch,zci,zcj,zck,zcl,zcm,List.getElem?_cons_succ,List.getElem?_cons_zero,List.set_cons_succ,List.set_cons_zero,List.map_cons,List.map_nil,List.length_cons,List.length_nil,List.cons_append,List.nil_append,List.append_nil,List.isEmpty_cons,List.isEmpty_nil,if_true,if_false,ite_true,ite_false,Bool.not_true,Bool.not_false,Bool.not_not,decide_true,true_and,and_true,false_and,and_false,Bool.false_eq_true,reduceCtorEq,decide_true,decide_false,ite_self,forall_const,Nat.zero_add,Nat.reduceAdd,Nat.reduceLeDiff,Nat.reduceLT,Nat.reduceEqDiff,Nat.reduceSub,Nat.reduceMul,Nat.reduceBEq,Int.reduceLT,Int.reduceLE,Int.reduceEq,Int.reduceNe,Int.reduceAdd,Int.reduceMul,Int.reduceSub,Int.reduceNeg,Int.reducePow,Int.reduceBEq,Int.reduceToNat,Int.reduceGT,Int.reduceGE,String.reduceBEq,zcn,zco,List.replicate_succ,List.replicate_zero,zcp,zcq,zcr,zcs,zct,zcu,zcv,zcw,zcx,zcy,zcz,zcA,zcB,zcC,zcD,zcE,zcF,zcG,zcH,zcI,zcJ,zcK,zcL,zcM,zcN,zcO,zcP,zcQ,zcR,zcS,zcT,zcU,zcV,zcW,zcX,zcY,zcZ,zc0,zc1,zc2,zc3,zc4,zc5,zc6,zc7,zc8,zc9,zda,zdb,zdc,Bool.true_or,Bool.or_true,Bool.false_or,Bool.or_false,Bool.and_true,Bool.true_and,Bool.and_false,Bool.false_and,Int.cast_ofNat_Int,Int.natCast_zero,Int.natCast_one,beq_self_eq_true,zdd,zde,zdf,zdg,zdh,wipeR,c,c1,c2]
    exact ⟨by omega, hq _ _ _ _ _ z1 z2 b0 z1 z2 b0 (by omega) (v3.le (by omega))⟩
  have c2 : (d == 2) = false := by simpa using e2
  simp -dsimp (disch := first | assumption | omega) only [zaa,zab,zac,zad,zae,zaf,zag,zah,zai,zaj,zak,zal,zam,zan,zao,zap,zaq,zar,zas,zat,zau,zav,zaw,zax,zay,zaz,zaA,zaB,zaC,zaD,zaE,zaF,zaG,zaH,zaI,zaJ,zaK,zaL,zaM,zaN,zaO,zaP,zaQ,zaR,zaS,zaT,zaU,zaV,zaW,zaX,zaY,zaZ,za0,za1,za2,za3,za4,za5,za6,za7,za8,za9,zba,zbb,zbc,zbd,zbe,zbf,zbg,zbh,zbi,zbj,zbk,zbl,zbm,zbn,zbo,zbp,zbq,zbr,zbs,zbt,zbu,zbv,zbw,zbx,zby,zbz,zbA,zbB,zbC,zbD,zbE,zbF,zbG,zbH,zbI,zbJ,zbK,zbL,zbM,zbN,zbO,zbP,zbQ,zbR,zbS,zbT,zbU,zbV,zbW,zbX,zbY,zbZ,zb0,zb1,zb2,zb3,zb4,zb5,zb6,zb7,zb8,zb9,zca,zcb,eq_self,zcc,zcd,zce,zcf,zcg,zch,zci,zcj,zck,zcl,zcm,List.getElem?_cons_succ,List.getElem?_cons_zero,List.set_cons_succ,List.set_cons_zero,List.map_cons,List.map_nil,List.length_cons,List.length_nil,List.cons_append,List.nil_append,List.append_nil,List.isEmpty_cons,List.isEmpty_nil,if_true,if_false,ite_true,ite_false,Bool.not_true,Bool.not_false,Bool.not_not,decide_true,true_and,and_true,false_and,and_false,Bool.false_eq_true,reduceCtorEq,decide_true,decide_false,ite_self,forall_const,Nat.zero_add,Nat.reduceAdd,Nat.reduceLeDiff,Nat.reduceLT,Nat.reduceEqDiff,Nat.reduceSub,Nat.reduceMul,Nat.reduceBEq,Int.reduceLT,Int.reduceLE,Int.reduceEq,Int.reduceNe,Int.reduceAdd,Int.reduceMul,Int.reduceSub,Int.reduceNeg,Int.reducePow,Int.reduceBEq,Int.reduceToNat,Int.reduceGT,Int.reduceGE,String.reduceBEq,zcn,zco,List.replicate_succ,List.replicate_zero,zcp,zcq,zcr,zcs,zct,zcu,zcv,zcw,zcx,zcy,zcz,zcA,zcB,zcC,zcD,zcE,zcF,zcG,zcH,zcI,zcJ,zcK,zcL,zcM,zcN,zcO,zcP,zcQ,zcR,zcS,zcT,zcU,zcV,zcW,zcX,zcY,zcZ,zc0,zc1,zc2,zc3,zc4,zc5,zc6,zc7,zc8,zc9,zda,zdb,zdc,Bool.true_or,Bool.or_true,Bool.false_or,Bool.or_false,Bool.and_true,Bool.true_and,Bool.and_false,Bool.false_and,Int.cast_ofNat_Int,Int.natCast_zero,Int.natCast_one,beq_self_eq_true,zdd,zde,zdf,zdg,zdh,wipeR,c,c1,c2]
  exact ⟨by omega, hq _ _ _ _ _ z1 z2 b0 y1 y2 c0 (by omega) (v3.le (by omega))⟩
theorem well_ok {ns : List Int} {lap : Nat} (hn : ns.length ≤ 63) (hl : lap < 1000) (hI : ∀ (i : Nat) e, S[i]? = some e → IntE e) (hq : ∀ S', S'.length = S.length + 1 → Vat 0 S' S.length → Q (.loc S.length) S') : Ok (m__law_well [.frz (ns.map PV.int), .int lap] S) Q := by
  have mkI : ∀ a b c : Int, IntS (S ++ [.lst [.int a, .int b, .int c]]) S.length := by
    intro a b c i e hi he
    by_cases h : i < S.length
    · rw [List.getElem?_append_left h] at he
      exact hI i e he
    · have : i = S.length := by omega
      subst this
      simp at he
      exact ⟨[a, b, c], he.symm⟩
  refine Ok_defK rfl ?_
  have l1 : (9241 : Int).natAbs.log2 + (lap : Int).natAbs.log2 < 1000000 := lg (k := 14) (l := 14) (by omega) (by omega) (by omega)
  obtain ⟨z63, e63, _⟩ := cut_ints ns none (some 63)
  have f2 : ∀ z : Int, z.fmod 1000000123 = z % 1000000123 := fun z => Int.fmod_eq_emod_of_nonneg _ (by omega)
  have f1 : ∀ z : Int, z.fmod 536870909 = z % 536870909 := fun z => Int.fmod_eq_emod_of_nonneg _ (by omega)
  have f3 : ∀ z : Int, z.fmod 59999999 = z % 59999999 := fun z => Int.fmod_eq_emod_of_nonneg _ (by omega)
  have p1 : (0 : Int) ≤ 18 ∧ (18 : Int) ≤ 1000000 ∧ (10 : Int).natAbs < 2 ^ 64 := by decide
  simp -dsimp (disch := first | assumption | omega) only [zaa,zab,zac,zad,zae,zaf,zag,zah,zai,zaj,zak,zal,zam,zan,zao,zap,zaq,zar,zas,zat,zau,zav,zaw,zax,zay,zaz,zaA,zaB,zaC,zaD,zaE,zaF,zaG,zaH,zaI,zaJ,zaK,zaL,zaM,zaN,zaO,zaP,zaQ,zaR,zaS,zaT,zaU,zaV,zaW,zaX,zaY,zaZ,za0,za1,za2,za3,za4,za5,za6,za7,za8,za9,zba,zbb,zbc,zbd,zbe,zbf,zbg,zbh,zbi,zbj,zbk,zbl,zbm,zbn,zbo,zbp,zbq,zbr,zbs,zbt,zbu,zbv,zbw,zbx,zby,zbz,zbA,zbB,zbC,zbD,zbE,zbF,zbG,zbH,zbI,zbJ,zbK,zbL,zbM,zbN,zbO,zbP,zbQ,zbR,zbS,zbT,zbU,zbV,zbW,zbX,zbY,zbZ,zb0,zb1,zb2,zb3,zb4,zb5,zb6,zb7,zb8,zb9,zca,zcb,eq_self,zcc,zcd,zce,zcf,zcg,zch,zci,zcj,zck,zcl,zcm,List.getElem?_cons_succ,List.getElem?_cons_zero,List.set_cons_succ,List.set_cons_zero,List.map_cons,List.map_nil,List.length_cons,List.length_nil,List.cons_append,List.nil_append,List.append_nil,List.isEmpty_cons,List.isEmpty_nil,if_true,if_false,ite_true,ite_false,Bool.not_true,Bool.not_false,Bool.not_not,decide_true,true_and,and_true,false_and,and_false,Bool.false_eq_true,reduceCtorEq,decide_true,decide_false,ite_self,forall_const,Nat.zero_add,Nat.reduceAdd,Nat.reduceLeDiff,Nat.reduceLT,Nat.reduceEqDiff,Nat.reduceSub,Nat.reduceMul,Nat.reduceBEq,Int.reduceLT,Int.reduceLE,Int.reduceEq,Int.reduceNe,Int.reduceAdd,Int.reduceMul,Int.reduceSub,Int.reduceNeg,Int.reducePow,Int.reduceBEq,Int.reduceToNat,Int.reduceGT,Int.reduceGE,String.reduceBEq,zcn,zco,List.replicate_succ,List.replicate_zero,zcp,zcq,zcr,zcs,zct,zcu,zcv,zcw,zcx,zcy,zcz,zcA,zcB,zcC,zcD,zcE,zcF,zcG,zcH,zcI,zcJ,zcK,zcL,zcM,zcN,zcO,zcP,zcQ,zcR,zcS,zcT,zcU,zcV,zcW,zcX,zcY,zcZ,zc0,zc1,zc2,zc3,zc4,zc5,zc6,zc7,zc8,zc9,zda,zdb,zdc,Bool.true_or,Bool.or_true,Bool.false_or,Bool.or_false,Bool.and_true,Bool.true_and,Bool.and_false,Bool.false_and,Int.cast_ofNat_Int,Int.natCast_zero,Int.natCast_one,beq_self_eq_true,zdd,wipeR,l1,e63]
  refine Ok_for (fun i ρ S' => S = S' ∧ ∃ (ch : Int) (x : Option PV), ρ = [some (.frz (ns.map PV.int)), some (.int lap), some (.int ch), x, none, none] ∧ 0 ≤ ch ∧ ch < 2147483489) ⟨rfl, 700001 + 9241 * lap, none, rfl, by omega, by omega⟩ ?_ ?_
  · rintro i p ρ S' hp ⟨rfl, ch, x, rfl, c0, c1⟩
    obtain ⟨z, rfl⟩ : ∃ z, p = .int z := by
      have := List.mem_of_getElem? hp
      simp at this
      obtain ⟨z, _, rfl⟩ := this
      exact ⟨z, rfl⟩
    have l3 : ch.natAbs.log2 + (44497 : Int).natAbs.log2 < 1000000 := lg (k := 31) (l := 31) (by omega) (by omega) (by omega)
    simp -dsimp (disch := first | assumption | omega) only [zaa,zab,zac,zad,zae,zaf,zag,zah,zai,zaj,zak,zal,zam,zan,zao,zap,zaq,zar,zas,zat,zau,zav,zaw,zax,zay,zaz,zaA,zaB,zaC,zaD,zaE,zaF,zaG,zaH,zaI,zaJ,zaK,zaL,zaM,zaN,zaO,zaP,zaQ,zaR,zaS,zaT,zaU,zaV,zaW,zaX,zaY,zaZ,za0,za1,za2,za3,za4,za5,za6,za7,za8,za9,zba,zbb,zbc,zbd,zbe,zbf,zbg,zbh,zbi,zbj,zbk,zbl,zbm,zbn,zbo,zbp,zbq,zbr,zbs,zbt,zbu,zbv,zbw,zbx,zby,zbz,zbA,zbB,zbC,zbD,zbE,zbF,zbG,zbH,zbI,zbJ,zbK,zbL,zbM,zbN,zbO,zbP,zbQ,zbR,zbS,zbT,zbU,zbV,zbW,zbX,zbY,zbZ,zb0,zb1,zb2,zb3,zb4,zb5,zb6,zb7,zb8,zb9,zca,zcb,eq_self,zcc,zcd,zce,zcf,zcg,zch,zci,zcj,zck,zcl,zcm,List.getElem?_cons_succ,List.getElem?_cons_zero,List.set_cons_succ,List.set_cons_zero,List.map_cons,List.map_nil,List.length_cons,List.length_nil,List.cons_append,List.nil_append,List.append_nil,List.isEmpty_cons,List.isEmpty_nil,if_true,if_false,ite_true,ite_false,Bool.not_true,Bool.not_false,Bool.not_not,decide_true,true_and,and_true,false_and,and_false,Bool.false_eq_true,reduceCtorEq,decide_true,decide_false,ite_self,forall_const,Nat.zero_add,Nat.reduceAdd,Nat.reduceLeDiff,Nat.reduceLT,Nat.reduceEqDiff,Nat.reduceSub,Nat.reduceMul,Nat.reduceBEq,Int.reduceLT,Int.reduceLE,Int.reduceEq,Int.reduceNe,Int.reduceAdd,Int.reduceMul,Int.reduceSub,Int.reduceNeg,Int.reducePow,Int.reduceBEq,Int.reduceToNat,Int.reduceGT,Int.reduceGE,String.reduceBEq,zcn,zco,List.replicate_succ,List.replicate_zero,zcp,zcq,zcr,zcs,zct,zcu,zcv,zcw,zcx,zcy,zcz,zcA,zcB,zcC,zcD,zcE,zcF,zcG,zcH,zcI,zcJ,zcK,zcL,zcM,zcN,zcO,zcP,zcQ,zcR,zcS,zcT,zcU,zcV,zcW,zcX,zcY,zcZ,zc0,zc1,zc2,zc3,zc4,zc5,zc6,zc7,zc8,zc9,zda,zdb,zdc,Bool.true_or,Bool.or_true,Bool.false_or,Bool.or_false,Bool.and_true,Bool.true_and,Bool.and_false,Bool.false_and,Int.cast_ofNat_Int,Int.natCast_zero,Int.natCast_one,beq_self_eq_true,zdd,zde,zdf,zdg,zdh,wipeR,f1,f2,l3,ne_eq,not_false_eq_true]
    refine ⟨_, _, rfl, Int.emod_nonneg _ (by omega), ?_⟩
    have := Int.emod_lt_of_pos (ch * 44497 + z % 536870909 + 61) (show (0 : Int) < 1000000123 by omega)
    omega
  · rintro ρ S' ⟨rfl, ch, x, rfl, c0, c1⟩
    have rest : ∀ own : Int, Ok (sSeq (sAsg (dIf (bCmp (dOp geM (dAp absM (dCons (dVar 4) dNil)) (dOp powM (dC (.int 10)) (dC (.int 18))))) (dAp absM (dCons (dVar 4) dNil)) (dC (.int 0))) (gName 5))
    (sRet (dAp mkLoc (dCons (dVar 5) (dCons (dOp modM (dAp intM (dCons (dOp addM (dVar 2) (dOp mulM (dC (.int 13)) (dOp modM (dAp intM (dCons (dVar 4) dNil)) (dC (.int 59999999))))) dNil)) (dC (.int 1000000123))) (dCons (dC (.int 0)) dNil))))) [some (.frz (ns.map PV.int)), some (.int lap), some (.int ch), x, some (.int own), none] S) fun r S1 => match r with
      | .nx _ => Q .non S1
      | .rt p => Q p S1
      | _ => False := by
      intro own
      have y0 := Int.emod_nonneg own (show (59999999 : Int) ≠ 0 by omega)
      have y1 := Int.emod_lt_of_pos own (show (0 : Int) < 59999999 by omega)
      generalize hy : own % 59999999 = y at y0 y1
      have l5 : (13 : Int).natAbs.log2 + y.natAbs.log2 < 1000000 := lg (k := 31) (l := 31) (by omega) (by omega) (by omega)
      have x0 := Int.emod_nonneg (ch + 13 * y) (show (1000000123 : Int) ≠ 0 by omega)
      have x1 := Int.emod_lt_of_pos (ch + 13 * y) (show (0 : Int) < 1000000123 by omega)
      by_cases h2 : (1000000000000000000 : Int) ≤ own.natAbs
      · simp -dsimp (disch := first | assumption | omega) only [zaa,zab,zac,zad,zae,zaf,zag,zah,zai,zaj,zak,zal,zam,zan,zao,zap,zaq,zar,zas,zat,zau,zav,zaw,zax,zay,zaz,zaA,zaB,zaC,zaD,zaE,zaF,zaG,zaH,zaI,zaJ,zaK,zaL,zaM,zaN,zaO,zaP,zaQ,zaR,zaS,zaT,zaU,zaV,zaW,zaX,zaY,zaZ,za0,za1,za2,za3,za4,za5,za6,za7,za8,za9,zba,zbb,zbc,zbd,zbe,zbf,zbg,zbh,zbi,zbj,zbk,zbl,zbm,zbn,zbo,zbp,zbq,zbr,zbs,zbt,zbu,zbv,zbw,zbx,zby,zbz,zbA,zbB,zbC,zbD,zbE,zbF,zbG,zbH,zbI,zbJ,zbK,zbL,zbM,zbN,zbO,zbP,zbQ,zbR,zbS,zbT,zbU,zbV,zbW,zbX,zbY,zbZ,zb0,zb1,zb2,zb3,zb4,zb5,zb6,zb7,zb8,zb9,zca,zcb,eq_self,zcc,zcd,zce,zcf,zcg,zch,zci,zcj,zck,zcl,zcm,List.getElem?_cons_succ,List.getElem?_cons_zero,List.set_cons_succ,List.set_cons_zero,List.map_cons,List.map_nil,List.length_cons,List.length_nil,List.cons_append,List.nil_append,List.append_nil,List.isEmpty_cons,List.isEmpty_nil,if_true,if_false,ite_true,ite_false,Bool.not_true,Bool.not_false,Bool.not_not,decide_true,true_and,and_true,false_and,and_false,Bool.false_eq_true,reduceCtorEq,decide_true,decide_false,ite_self,forall_const,Nat.zero_add,Nat.reduceAdd,Nat.reduceLeDiff,Nat.reduceLT,Nat.reduceEqDiff,Nat.reduceSub,Nat.reduceMul,Nat.reduceBEq,Int.reduceLT,Int.reduceLE,Int.reduceEq,Int.reduceNe,Int.reduceAdd,Int.reduceMul,Int.reduceSub,Int.reduceNeg,Int.reducePow,Int.reduceBEq,Int.reduceToNat,Int.reduceGT,Int.reduceGE,String.reduceBEq,zcn,zco,List.replicate_succ,List.replicate_zero,zcp,zcq,zcr,zcs,zct,zcu,zcv,zcw,zcx,zcy,zcz,zcA,zcB,zcC,zcD,zcE,zcF,zcG,zcH,zcI,zcJ,zcK,zcL,zcM,zcN,zcO,zcP,zcQ,zcR,zcS,zcT,zcU,zcV,zcW,zcX,zcY,zcZ,zc0,zc1,zc2,zc3,zc4,zc5,zc6,zc7,zc8,zc9,zda,zdb,zdc,Bool.true_or,Bool.or_true,Bool.false_or,Bool.or_false,Bool.and_true,Bool.true_and,Bool.and_false,Bool.false_and,Int.cast_ofNat_Int,Int.natCast_zero,Int.natCast_one,beq_self_eq_true,zdd,zde,zdf,zdg,zdh,wipeR,abs_nat,h2,p1,f2,f3,hy,l5,ne_eq,not_false_eq_true]
        exact hq _ (by simp) ⟨⟨own.natAbs, _, 0, by simp, by omega, x0, by omega, by omega, by omega⟩, mkI _ _ _⟩
      · simp -dsimp (disch := first | assumption | omega) only [zaa,zab,zac,zad,zae,zaf,zag,zah,zai,zaj,zak,zal,zam,zan,zao,zap,zaq,zar,zas,zat,zau,zav,zaw,zax,zay,zaz,zaA,zaB,zaC,zaD,zaE,zaF,zaG,zaH,zaI,zaJ,zaK,zaL,zaM,zaN,zaO,zaP,zaQ,zaR,zaS,zaT,zaU,zaV,zaW,zaX,zaY,zaZ,za0,za1,za2,za3,za4,za5,za6,za7,za8,za9,zba,zbb,zbc,zbd,zbe,zbf,zbg,zbh,zbi,zbj,zbk,zbl,zbm,zbn,zbo,zbp,zbq,zbr,zbs,zbt,zbu,zbv,zbw,zbx,zby,zbz,zbA,zbB,zbC,zbD,zbE,zbF,zbG,zbH,zbI,zbJ,zbK,zbL,zbM,zbN,zbO,zbP,zbQ,zbR,zbS,zbT,zbU,zbV,zbW,zbX,zbY,zbZ,zb0,zb1,zb2,zb3,zb4,zb5,zb6,zb7,zb8,zb9,zca,zcb,eq_self,zcc,zcd,zce,zcf,zcg,zch,zci,zcj,zck,zcl,zcm,List.getElem?_cons_succ,List.getElem?_cons_zero,List.set_cons_succ,List.set_cons_zero,List.map_cons,List.map_nil,List.length_cons,List.length_nil,List.cons_append,List.nil_append,List.append_nil,List.isEmpty_cons,List.isEmpty_nil,if_true,if_false,ite_true,ite_false,Bool.not_true,Bool.not_false,Bool.not_not,decide_true,true_and,and_true,false_and,and_false,Bool.false_eq_true,reduceCtorEq,decide_true,decide_false,ite_self,forall_const,Nat.zero_add,Nat.reduceAdd,Nat.reduceLeDiff,Nat.reduceLT,Nat.reduceEqDiff,Nat.reduceSub,Nat.reduceMul,Nat.reduceBEq,Int.reduceLT,Int.reduceLE,Int.reduceEq,Int.reduceNe,Int.reduceAdd,Int.reduceMul,Int.reduceSub,Int.reduceNeg,Int.reducePow,Int.reduceBEq,Int.reduceToNat,Int.reduceGT,Int.reduceGE,String.reduceBEq,zcn,zco,List.replicate_succ,List.replicate_zero,zcp,zcq,zcr,zcs,zct,zcu,zcv,zcw,zcx,zcy,zcz,zcA,zcB,zcC,zcD,zcE,zcF,zcG,zcH,zcI,zcJ,zcK,zcL,zcM,zcN,zcO,zcP,zcQ,zcR,zcS,zcT,zcU,zcV,zcW,zcX,zcY,zcZ,zc0,zc1,zc2,zc3,zc4,zc5,zc6,zc7,zc8,zc9,zda,zdb,zdc,Bool.true_or,Bool.or_true,Bool.false_or,Bool.or_false,Bool.and_true,Bool.true_and,Bool.and_false,Bool.false_and,Int.cast_ofNat_Int,Int.natCast_zero,Int.natCast_one,beq_self_eq_true,zdd,zde,zdf,zdg,zdh,wipeR,abs_nat,h2,p1,f2,f3,hy,l5,ne_eq,not_false_eq_true]
        exact hq _ (by simp) ⟨⟨0, _, 0, by simp, by omega, x0, by omega, by omega, by omega⟩, mkI _ _ _⟩
    show Ok (sSeq _ _ _ _) _
    rw [zbk]
    refine Ok.mono (Q := fun r S1 => S = S1 ∧ ∃ own, r = .nx [some (.frz (ns.map PV.int)), some (.int lap), some (.int ch), x, some (.int own), none]) ?_ ?_
    · by_cases hlt : (lap : Int) < ns.length
      · have hd : lap < ns.length := by omega
        have ea : atI (ns.map PV.int) (lap : Int) = some (.int ns[lap]) := by
          unfold atI ixN
          rw [if_pos (by omega), if_pos (by simpa using hlt)]
          simp [hd]
        simp -dsimp (disch := first | assumption | omega) only [zaa,zab,zac,zad,zae,zaf,zag,zah,zai,zaj,zak,zal,zam,zan,zao,zap,zaq,zar,zas,zat,zau,zav,zaw,zax,zay,zaz,zaA,zaB,zaC,zaD,zaE,zaF,zaG,zaH,zaI,zaJ,zaK,zaL,zaM,zaN,zaO,zaP,zaQ,zaR,zaS,zaT,zaU,zaV,zaW,zaX,zaY,zaZ,za0,za1,za2,za3,za4,za5,za6,za7,za8,za9,zba,zbb,zbc,zbd,zbe,zbf,zbg,zbh,zbi,zbj,zbk,zbl,zbm,zbn,zbo,zbp,zbq,zbr,zbs,zbt,zbu,zbv,zbw,zbx,zby,zbz,zbA,zbB,zbC,zbD,zbE,zbF,zbG,zbH,zbI,zbJ,zbK,zbL,zbM,zbN,zbO,zbP,zbQ,zbR,zbS,zbT,zbU,zbV,zbW,zbX,zbY,zbZ,zb0,zb1,zb2,zb3,zb4,zb5,zb6,zb7,zb8,zb9,zca,zcb,eq_self,zcc,zcd,zce,zcf,zcg,zch,zci,zcj,zck,zcl,zcm,List.getElem?_cons_succ,List.getElem?_cons_zero,List.set_cons_succ,List.set_cons_zero,List.map_cons,List.map_nil,List.length_cons,List.length_nil,List.cons_append,List.nil_append,List.append_nil,List.isEmpty_cons,List.isEmpty_nil,if_true,if_false,ite_true,ite_false,Bool.not_true,Bool.not_false,Bool.not_not,decide_true,true_and,and_true,false_and,and_false,Bool.false_eq_true,reduceCtorEq,decide_true,decide_false,ite_self,forall_const,Nat.zero_add,Nat.reduceAdd,Nat.reduceLeDiff,Nat.reduceLT,Nat.reduceEqDiff,Nat.reduceSub,Nat.reduceMul,Nat.reduceBEq,Int.reduceLT,Int.reduceLE,Int.reduceEq,Int.reduceNe,Int.reduceAdd,Int.reduceMul,Int.reduceSub,Int.reduceNeg,Int.reducePow,Int.reduceBEq,Int.reduceToNat,Int.reduceGT,Int.reduceGE,String.reduceBEq,zcn,zco,List.replicate_succ,List.replicate_zero,zcp,zcq,zcr,zcs,zct,zcu,zcv,zcw,zcx,zcy,zcz,zcA,zcB,zcC,zcD,zcE,zcF,zcG,zcH,zcI,zcJ,zcK,zcL,zcM,zcN,zcO,zcP,zcQ,zcR,zcS,zcT,zcU,zcV,zcW,zcX,zcY,zcZ,zc0,zc1,zc2,zc3,zc4,zc5,zc6,zc7,zc8,zc9,zda,zdb,zdc,Bool.true_or,Bool.or_true,Bool.false_or,Bool.or_false,Bool.and_true,Bool.true_and,Bool.and_false,Bool.false_and,Int.cast_ofNat_Int,Int.natCast_zero,Int.natCast_one,beq_self_eq_true,zdd,zde,zdf,zdg,zdh,wipeR,hlt,List.length_map,ea]
        exact ⟨_, rfl⟩
      · simp -dsimp (disch := first | assumption | omega) only [zaa,zab,zac,zad,zae,zaf,zag,zah,zai,zaj,zak,zal,zam,zan,zao,zap,zaq,zar,zas,zat,zau,zav,zaw,zax,zay,zaz,zaA,zaB,zaC,zaD,zaE,zaF,zaG,zaH,zaI,zaJ,zaK,zaL,zaM,zaN,zaO,zaP,zaQ,zaR,zaS,zaT,zaU,zaV,zaW,zaX,zaY,zaZ,za0,za1,za2,za3,za4,za5,za6,za7,za8,za9,zba,zbb,zbc,zbd,zbe,zbf,zbg,zbh,zbi,zbj,zbk,zbl,zbm,zbn,zbo,zbp,zbq,zbr,zbs,zbt,zbu,zbv,zbw,zbx,zby,zbz,zbA,zbB,zbC,zbD,zbE,zbF,zbG,zbH,zbI,zbJ,zbK,zbL,zbM,zbN,zbO,zbP,zbQ,zbR,zbS,zbT,zbU,zbV,zbW,zbX,zbY,zbZ,zb0,zb1,zb2,zb3,zb4,zb5,zb6,zb7,zb8,zb9,zca,zcb,eq_self,zcc,zcd,zce,zcf,zcg,zch,zci,zcj,zck,zcl,zcm,List.getElem?_cons_succ,List.getElem?_cons_zero,List.set_cons_succ,List.set_cons_zero,List.map_cons,List.map_nil,List.length_cons,List.length_nil,List.cons_append,List.nil_append,List.append_nil,List.isEmpty_cons,List.isEmpty_nil,if_true,if_false,ite_true,ite_false,Bool.not_true,Bool.not_false,Bool.not_not,decide_true,true_and,and_true,false_and,and_false,Bool.false_eq_true,reduceCtorEq,decide_true,decide_false,ite_self,forall_const,Nat.zero_add,Nat.reduceAdd,Nat.reduceLeDiff,Nat.reduceLT,Nat.reduceEqDiff,Nat.reduceSub,Nat.reduceMul,Nat.reduceBEq,Int.reduceLT,Int.reduceLE,Int.reduceEq,Int.reduceNe,Int.reduceAdd,Int.reduceMul,Int.reduceSub,Int.reduceNeg,Int.reducePow,Int.reduceBEq,Int.reduceToNat,Int.reduceGT,Int.reduceGE,String.reduceBEq,zcn,zco,List.replicate_succ,List.replicate_zero,zcp,zcq,zcr,zcs,zct,zcu,zcv,zcw,zcx,zcy,zcz,zcA,zcB,zcC,zcD,zcE,zcF,zcG,zcH,zcI,zcJ,zcK,zcL,zcM,zcN,zcO,zcP,zcQ,zcR,zcS,zcT,zcU,zcV,zcW,zcX,zcY,zcZ,zc0,zc1,zc2,zc3,zc4,zc5,zc6,zc7,zc8,zc9,zda,zdb,zdc,Bool.true_or,Bool.or_true,Bool.false_or,Bool.or_false,Bool.and_true,Bool.true_and,Bool.and_false,Bool.false_and,Int.cast_ofNat_Int,Int.natCast_zero,Int.natCast_one,beq_self_eq_true,zdd,zde,zdf,zdg,zdh,wipeR,hlt,List.length_map]
        exact ⟨_, rfl⟩
    · rintro r S1 ⟨rfl, own, rfl⟩
      exact rest own
end
end Pm.L


namespace Pm.L
open PySem PySem.Spec L2 Pm
/-- all places but one are as they were -/
abbrev FrS (n : Nat) (S S' : Sto) : Prop := ∀ i, i ≠ n → S'[i]? = S[i]?
section
variable {S : Sto} {Q : PV → Sto → Prop}
theorem wdraw_fr {n m : Nat} {many : Int} (h : Vat m S n) (hm : m ≤ 1000000000) (h0 : 0 < many) (h1 : many < 1073741824)
    (hq : ∀ (d : Int) S', 0 ≤ d → d < many → S'.length = S.length → Vat (m + 1) S' n → FrS n S S' → Q (.int d) S') : Ok (m__law_draw [.loc n, .int many] S) Q := by
  have hn := h.lt
  obtain ⟨⟨c, ch, k, hS, c0, ch0, ch1, k0, k1⟩, hI⟩ := h
  refine Ok_defM rfl ?_
  have i0 : ixN 3 0 = some 0 := rfl
  have i1 : ixN 3 1 = some 1 := rfl
  have i2 : ixN 3 2 = some 2 := rfl
  by_cases hc : 0 < c
  · simp -dsimp (disch := first | assumption | omega) only [zaa,zab,zac,zad,zae,zaf,zag,zah,zai,zaj,zak,zal,zam,zan,zao,zap,zaq,zar,zas,zat,zau,zav,zaw,zax,zay,zaz,zaA,zaB,zaC,zaD,zaE,zaF,zaG,zaH,zaI,zaJ,zaK,zaL,zaM,zaN,zaO,zaP,zaQ,zaR,zaS,zaT,zaU,zaV,zaW,zaX,zaY,zaZ,za0,za1,za2,za3,za4,za5,za6,za7,za8,za9,zba,zbb,zbc,zbd,zbe,zbf,zbg,zbh,zbi,zbj,zbk,zbl,zbm,zbn,zbo,zbp,zbq,zbr,zbs,zbt,zbu,zbv,zbw,zbx,zby,zbz,zbA,zbB,zbC,zbD,zbE,zbF,zbG,zbH,zbI,zbJ,zbK,zbL,zbM,zbN,zbO,zbP,zbQ,zbR,zbS,zbT,zbU,zbV,zbW,zbX,zbY,zbZ,zb0,zb1,zb2,zb3,zb4,zb5,zb6,zb7,zb8,zb9,zca,zcb,eq_self,zcc,zcd,zce,zcf,zcg,zch,zci,zcj,zck,zcl,zcm,List.getElem?_cons_succ,List.getElem?_cons_zero,List.set_cons_succ,List.set_cons_zero,List.map_cons,List.map_nil,List.length_cons,List.length_nil,List.cons_append,List.nil_append,List.append_nil,List.isEmpty_cons,List.isEmpty_nil,if_true,if_false,ite_true,ite_false,Bool.not_true,Bool.not_false,Bool.not_not,decide_true,true_and,and_true,false_and,and_false,Bool.false_eq_true,reduceCtorEq,decide_true,decide_false,ite_self,forall_const,Nat.zero_add,Nat.reduceAdd,Nat.reduceLeDiff,Nat.reduceLT,Nat.reduceEqDiff,Nat.reduceSub,Nat.reduceMul,Nat.reduceBEq,Int.reduceLT,Int.reduceLE,Int.reduceEq,Int.reduceNe,Int.reduceAdd,Int.reduceMul,Int.reduceSub,Int.reduceNeg,Int.reducePow,Int.reduceBEq,Int.reduceToNat,Int.reduceGT,Int.reduceGE,String.reduceBEq,zcn,zco,List.replicate_succ,List.replicate_zero,zcp,zcq,zcr,zcs,zct,zcu,zcv,zcw,zcx,zcy,zcz,zcA,zcB,zcC,zcD,zcE,zcF,zcG,zcH,zcI,zcJ,zcK,zcL,zcM,zcN,zcO,zcP,zcQ,zcR,zcS,zcT,zcU,zcV,zcW,zcX,zcY,zcZ,zc0,zc1,zc2,zc3,zc4,zc5,zc6,zc7,zc8,zc9,zda,zdb,zdc,Bool.true_or,Bool.or_true,Bool.false_or,Bool.or_false,Bool.and_true,Bool.true_and,Bool.and_false,Bool.false_and,Int.cast_ofNat_Int,Int.natCast_zero,Int.natCast_one,beq_self_eq_true,zdd,zde,zdf,zdg,zdh,wipeR,hS,hc,Ok_divmod,h0,h1,i0,List.length_set]
    exact hq _ _ (Int.emod_nonneg _ (by omega)) (Int.emod_lt_of_pos _ h0) (by simp) ⟨⟨c / many, ch, k, by simp [hn], Int.ediv_nonneg c0 (by omega), ch0, ch1, k0, by omega⟩, hI.set _ _ _⟩ (fun i hi => by first | exact (f3 i hi).trans ((f2 i hi).trans (f1 i hi)) | exact (f2 i hi).trans (f1 i hi) | exact f1 i hi | exact hf i hi | rw [List.getElem?_set_ne (fun z => hi z.symm)])
  · have f2 : ∀ z : Int, z.fmod 1000000123 = z % 1000000123 := fun z => Int.fmod_eq_emod_of_nonneg _ (by omega)
    have f1 : ∀ z : Int, z.fmod 6961 = z % 6961 := fun z => Int.fmod_eq_emod_of_nonneg _ (by omega)
    have f3 : ∀ z : Int, z.fmod many = z % many := fun z => Int.fmod_eq_emod_of_nonneg _ (by omega)
    have l1 : ch.natAbs.log2 + (37 : Int).natAbs.log2 < 1000000 := lg (k := 31) (l := 17) (by omega) (by omega) (by omega)
    have l2 : (80021 : Int).natAbs.log2 + (k + 1).natAbs.log2 < 1000000 := lg (k := 17) (l := 62) (by omega) (by omega) (by omega)
    have l4 : (29 : Int).natAbs.log2 + (k + 1).natAbs.log2 < 1000000 := lg (k := 17) (l := 62) (by omega) (by omega) (by omega)
    have x0 := Int.emod_nonneg (ch * 37 + 80021 * (k + 1) + 11) (show (1000000123 : Int) ≠ 0 by omega)
    have x1 := Int.emod_lt_of_pos (ch * 37 + 80021 * (k + 1) + 11) (show (0 : Int) < 1000000123 by omega)
    generalize hx : (ch * 37 + 80021 * (k + 1) + 11) % 1000000123 = x at x0 x1
    have l5 : x.natAbs.log2 + (x % 6961 + 21001).natAbs.log2 < 1000000 := lg (k := 31) (l := 17) (by omega) (by omega) (by omega)
    have l3 : (191 : Int).natAbs.log2 < 9000 := by decide
    have hm0 : many ≠ 0 := by omega
    simp -dsimp (disch := first | assumption | omega) only [zaa,zab,zac,zad,zae,zaf,zag,zah,zai,zaj,zak,zal,zam,zan,zao,zap,zaq,zar,zas,zat,zau,zav,zaw,zax,zay,zaz,zaA,zaB,zaC,zaD,zaE,zaF,zaG,zaH,zaI,zaJ,zaK,zaL,zaM,zaN,zaO,zaP,zaQ,zaR,zaS,zaT,zaU,zaV,zaW,zaX,zaY,zaZ,za0,za1,za2,za3,za4,za5,za6,za7,za8,za9,zba,zbb,zbc,zbd,zbe,zbf,zbg,zbh,zbi,zbj,zbk,zbl,zbm,zbn,zbo,zbp,zbq,zbr,zbs,zbt,zbu,zbv,zbw,zbx,zby,zbz,zbA,zbB,zbC,zbD,zbE,zbF,zbG,zbH,zbI,zbJ,zbK,zbL,zbM,zbN,zbO,zbP,zbQ,zbR,zbS,zbT,zbU,zbV,zbW,zbX,zbY,zbZ,zb0,zb1,zb2,zb3,zb4,zb5,zb6,zb7,zb8,zb9,zca,zcb,eq_self,zcc,zcd,zce,zcf,zcg,zch,zci,zcj,zck,zcl,zcm,List.getElem?_cons_succ,List.getElem?_cons_zero,List.set_cons_succ,List.set_cons_zero,List.map_cons,List.map_nil,List.length_cons,List.length_nil,List.cons_append,List.nil_append,List.append_nil,List.isEmpty_cons,List.isEmpty_nil,if_true,if_false,ite_true,ite_false,Bool.not_true,Bool.not_false,Bool.not_not,decide_true,true_and,and_true,false_and,and_false,Bool.false_eq_true,reduceCtorEq,decide_true,decide_false,ite_self,forall_const,Nat.zero_add,Nat.reduceAdd,Nat.reduceLeDiff,Nat.reduceLT,Nat.reduceEqDiff,Nat.reduceSub,Nat.reduceMul,Nat.reduceBEq,Int.reduceLT,Int.reduceLE,Int.reduceEq,Int.reduceNe,Int.reduceAdd,Int.reduceMul,Int.reduceSub,Int.reduceNeg,Int.reducePow,Int.reduceBEq,Int.reduceToNat,Int.reduceGT,Int.reduceGE,String.reduceBEq,zcn,zco,List.replicate_succ,List.replicate_zero,zcp,zcq,zcr,zcs,zct,zcu,zcv,zcw,zcx,zcy,zcz,zcA,zcB,zcC,zcD,zcE,zcF,zcG,zcH,zcI,zcJ,zcK,zcL,zcM,zcN,zcO,zcP,zcQ,zcR,zcS,zcT,zcU,zcV,zcW,zcX,zcY,zcZ,zc0,zc1,zc2,zc3,zc4,zc5,zc6,zc7,zc8,zc9,zda,zdb,zdc,Bool.true_or,Bool.or_true,Bool.false_or,Bool.or_false,Bool.and_true,Bool.true_and,Bool.and_false,Bool.false_and,Int.cast_ofNat_Int,Int.natCast_zero,Int.natCast_one,beq_self_eq_true,zdd,zde,zdf,zdg,zdh,wipeR,hS,hc,i0,i1,i2,List.length_set,f1,f2,f3,l1,l2,hx,l4,l5,l3,hm0,List.getElem?_set_self,hn,List.set_set,ne_eq,not_false_eq_true]
    exact hq _ _ (Int.emod_nonneg _ (by omega)) (Int.emod_lt_of_pos _ h0) (by simp) ⟨⟨c, (x * (x % 6961 + 21001) + 29 * (k + 1)) % 1000000123, k + 1, by simp [hn], c0, Int.emod_nonneg _ (by omega), by have := Int.emod_lt_of_pos (x * (x % 6961 + 21001) + 29 * (k + 1)) (show (0 : Int) < 1000000123 by omega); omega, by omega, by omega⟩, hI.set _ _ _⟩ (fun i hi => by first | exact (f3 i hi).trans ((f2 i hi).trans (f1 i hi)) | exact (f2 i hi).trans (f1 i hi) | exact f1 i hi | exact hf i hi | rw [List.getElem?_set_ne (fun z => hi z.symm)])
theorem wpick_fr {n m : Nat} {xs : List PV} (h : Vat m S n) (hm : m ≤ 1000000000) (h0 : 0 < xs.length) (h1 : xs.length < 1000)
    (hq : ∀ p ∈ xs, ∀ S', S'.length = S.length → Vat (m + 1) S' n → FrS n S S' → Q p S') : Ok (m__law_pick [.loc n, .tup xs] S) Q := by
  refine Ok_defM rfl ?_
  simp -dsimp (disch := first | assumption | omega) only [zaa,zab,zac,zad,zae,zaf,zag,zah,zai,zaj,zak,zal,zam,zan,zao,zap,zaq,zar,zas,zat,zau,zav,zaw,zax,zay,zaz,zaA,zaB,zaC,zaD,zaE,zaF,zaG,zaH,zaI,zaJ,zaK,zaL,zaM,zaN,zaO,zaP,zaQ,zaR,zaS,zaT,zaU,zaV,zaW,zaX,zaY,zaZ,za0,za1,za2,za3,za4,za5,za6,za7,za8,za9,zba,zbb,zbc,zbd,zbe,zbf,zbg,zbh,zbi,zbj,zbk,zbl,zbm,zbn,zbo,zbp,zbq,zbr,zbs,zbt,zbu,zbv,zbw,zbx,zby,zbz,zbA,zbB,zbC,zbD,zbE,zbF,zbG,zbH,zbI,zbJ,zbK,zbL,zbM,zbN,zbO,zbP,zbQ,zbR,zbS,zbT,zbU,zbV,zbW,zbX,zbY,zbZ,zb0,zb1,zb2,zb3,zb4,zb5,zb6,zb7,zb8,zb9,zca,zcb,eq_self,zcc,zcd,zce,zcf,zcg,zch,zci,zcj,zck,zcl,zcm,List.getElem?_cons_succ,List.getElem?_cons_zero,List.set_cons_succ,List.set_cons_zero,List.map_cons,List.map_nil,List.length_cons,List.length_nil,List.cons_append,List.nil_append,List.append_nil,List.isEmpty_cons,List.isEmpty_nil,if_true,if_false,ite_true,ite_false,Bool.not_true,Bool.not_false,Bool.not_not,decide_true,true_and,and_true,false_and,and_false,Bool.false_eq_true,reduceCtorEq,decide_true,decide_false,ite_self,forall_const,Nat.zero_add,Nat.reduceAdd,Nat.reduceLeDiff,Nat.reduceLT,Nat.reduceEqDiff,Nat.reduceSub,Nat.reduceMul,Nat.reduceBEq,Int.reduceLT,Int.reduceLE,Int.reduceEq,Int.reduceNe,Int.reduceAdd,Int.reduceMul,Int.reduceSub,Int.reduceNeg,Int.reducePow,Int.reduceBEq,Int.reduceToNat,Int.reduceGT,Int.reduceGE,String.reduceBEq,zcn,zco,List.replicate_succ,List.replicate_zero,zcp,zcq,zcr,zcs,zct,zcu,zcv,zcw,zcx,zcy,zcz,zcA,zcB,zcC,zcD,zcE,zcF,zcG,zcH,zcI,zcJ,zcK,zcL,zcM,zcN,zcO,zcP,zcQ,zcR,zcS,zcT,zcU,zcV,zcW,zcX,zcY,zcZ,zc0,zc1,zc2,zc3,zc4,zc5,zc6,zc7,zc8,zc9,zda,zdb,zdc,Bool.true_or,Bool.or_true,Bool.false_or,Bool.or_false,Bool.and_true,Bool.true_and,Bool.and_false,Bool.false_and,Int.cast_ofNat_Int,Int.natCast_zero,Int.natCast_one,beq_self_eq_true,zdd,zde,zdf,zdg,zdh,wipeR]
  refine wdraw_fr h hm (by omega) (by omega) fun d S' d0 d1 hl hv hf => ?_
  have hd : d.toNat < xs.length := by omega
  have e : atI xs d = some xs[d.toNat] := by
    unfold atI ixN
    rw [if_pos d0, if_pos d1]
    simp [hd]
  simp -dsimp (disch := first | assumption | omega) only [zaa,zab,zac,zad,zae,zaf,zag,zah,zai,zaj,zak,zal,zam,zan,zao,zap,zaq,zar,zas,zat,zau,zav,zaw,zax,zay,zaz,zaA,zaB,zaC,zaD,zaE,zaF,zaG,zaH,zaI,zaJ,zaK,zaL,zaM,zaN,zaO,zaP,zaQ,zaR,zaS,zaT,zaU,zaV,zaW,zaX,zaY,zaZ,za0,za1,za2,za3,za4,za5,za6,za7,za8,za9,zba,zbb,zbc,zbd,zbe,zbf,zbg,zbh,zbi,zbj,zbk,zbl,zbm,zbn,zbo,zbp,zbq,zbr,zbs,zbt,zbu,zbv,zbw,zbx,zby,zbz,zbA,zbB,zbC,zbD,zbE,zbF,zbG,zbH,zbI,zbJ,zbK,zbL,zbM,zbN,zbO,zbP,zbQ,zbR,zbS,zbT,zbU,zbV,zbW,zbX,zbY,zbZ,zb0,zb1,zb2,zb3,zb4,zb5,zb6,zb7,zb8,zb9,zca,zcb,eq_self,zcc,zcd,zce,zcf,zcg,zch,zci,zcj,zck,zcl,zcm,List.getElem?_cons_succ,List.getElem?_cons_zero,List.set_cons_succ,List.set_cons_zero,List.map_cons,List.map_nil,List.length_cons,List.length_nil,List.cons_append,List.nil_append,List.append_nil,List.isEmpty_cons,List.isEmpty_nil,if_true,if_false,ite_true,ite_false,Bool.not_true,Bool.not_false,Bool.not_not,decide_true,true_and,and_true,false_and,and_false,Bool.false_eq_true,reduceCtorEq,decide_true,decide_false,ite_self,forall_const,Nat.zero_add,Nat.reduceAdd,Nat.reduceLeDiff,Nat.reduceLT,Nat.reduceEqDiff,Nat.reduceSub,Nat.reduceMul,Nat.reduceBEq,Int.reduceLT,Int.reduceLE,Int.reduceEq,Int.reduceNe,Int.reduceAdd,Int.reduceMul,Int.reduceSub,Int.reduceNeg,Int.reducePow,Int.reduceBEq,Int.reduceToNat,Int.reduceGT,Int.reduceGE,String.reduceBEq,zcn,zco,List.replicate_succ,List.replicate_zero,zcp,zcq,zcr,zcs,zct,zcu,zcv,zcw,zcx,zcy,zcz,zcA,zcB,zcC,zcD,zcE,zcF,zcG,zcH,zcI,zcJ,zcK,zcL,zcM,zcN,zcO,zcP,zcQ,zcR,zcS,zcT,zcU,zcV,zcW,zcX,zcY,zcZ,zc0,zc1,zc2,zc3,zc4,zc5,zc6,zc7,zc8,zc9,zda,zdb,zdc,Bool.true_or,Bool.or_true,Bool.false_or,Bool.or_false,Bool.and_true,Bool.true_and,Bool.and_false,Bool.false_and,Int.cast_ofNat_Int,Int.natCast_zero,Int.natCast_one,beq_self_eq_true,zdd,zde,zdf,zdg,zdh,wipeR,e]
  exact ⟨hl, hq _ (List.getElem_mem hd) _ hl hv (fun i hi => by first | exact (f3 i hi).trans ((f2 i hi).trans (f1 i hi)) | exact (f2 i hi).trans (f1 i hi) | exact f1 i hi | exact hf i hi | rw [List.getElem?_set_ne (fun z => hi z.symm)])⟩
theorem wsize_fr {n m : Nat} (h : Vat m S n) (hm : m ≤ 999999000) (hq : ∀ q S', 0 < q → Sz q 5 → S'.length = S.length → Vat (m + 3) S' n → FrS n S S' → Q (rv q) S') : Ok (m__law_size [.loc n] S) Q := by
  refine Ok_defM rfl ?_
  simp -dsimp (disch := first | assumption | omega) only [zaa,zab,zac,zad,zae,zaf,zag,zah,zai,zaj,zak,zal,zam,zan,zao,zap,zaq,zar,zas,zat,zau,zav,zaw,zax,zay,zaz,zaA,zaB,zaC,zaD,zaE,zaF,zaG,zaH,zaI,zaJ,zaK,zaL,zaM,zaN,zaO,zaP,zaQ,zaR,zaS,zaT,zaU,zaV,zaW,zaX,zaY,zaZ,za0,za1,za2,za3,za4,za5,za6,za7,za8,za9,zba,zbb,zbc,zbd,zbe,zbf,zbg,zbh,zbi,zbj,zbk,zbl,zbm,zbn,zbp,zbq,zbr,zbs,zbt,zbu,zbv,zbw,zbx,zby,zbz,zbA,zbB,zbC,zbD,zbE,zbF,zbG,zbH,zbI,zbJ,zbK,zbL,zbM,zbN,zbO,zbP,zbQ,zbR,zbS,zbT,zbU,zbV,zbW,zbX,zbY,zbZ,zb0,zb1,zb2,zb3,zb4,zb5,zb6,zb7,zb8,zb9,zca,zcb,eq_self,zcc,zcd,zce,zcf,zcg,zch,zci,zcj,zck,zcl,zcm,List.getElem?_cons_succ,List.getElem?_cons_zero,List.set_cons_succ,List.set_cons_zero,List.map_cons,List.map_nil,List.length_cons,List.length_nil,List.cons_append,List.nil_append,List.append_nil,List.isEmpty_cons,List.isEmpty_nil,if_true,if_false,ite_true,ite_false,Bool.not_true,Bool.not_false,Bool.not_not,decide_true,true_and,and_true,false_and,and_false,Bool.false_eq_true,reduceCtorEq,decide_true,decide_false,ite_self,forall_const,Nat.zero_add,Nat.reduceAdd,Nat.reduceLeDiff,Nat.reduceLT,Nat.reduceEqDiff,Nat.reduceSub,Nat.reduceMul,Nat.reduceBEq,Int.reduceLT,Int.reduceLE,Int.reduceEq,Int.reduceNe,Int.reduceAdd,Int.reduceMul,Int.reduceSub,Int.reduceNeg,Int.reducePow,Int.reduceBEq,Int.reduceToNat,Int.reduceGT,Int.reduceGE,String.reduceBEq,zcn,zco,List.replicate_succ,List.replicate_zero,zcp,zcq,zcr,zcs,zct,zcu,zcv,zcw,zcx,zcy,zcz,zcA,zcB,zcC,zcD,zcE,zcF,zcG,zcH,zcI,zcJ,zcK,zcL,zcM,zcN,zcO,zcP,zcQ,zcR,zcS,zcT,zcU,zcV,zcW,zcX,zcY,zcZ,zc0,zc1,zc2,zc3,zc4,zc5,zc6,zc7,zc8,zc9,zda,zdb,zdc,Bool.true_or,Bool.or_true,Bool.false_or,Bool.or_false,Bool.and_true,Bool.true_and,Bool.and_false,Bool.false_and,Int.cast_ofNat_Int,Int.natCast_zero,Int.natCast_one,beq_self_eq_true,zdd,wipeR]
  refine wdraw_fr h (by omega) (by omega) (by omega) fun d S1 d0 d1 l1 v1 f1 => ?_
  by_cases c : d < 3
  · simp -dsimp (disch := first | assumption | omega) only [zaa,zab,zac,zad,zae,zaf,zag,zah,zai,zaj,zak,zal,zam,zan,zao,zap,zaq,zar,zas,zat,zau,zav,zaw,zax,zay,zaz,zaA,zaB,zaC,zaD,zaE,zaF,zaG,zaH,zaI,zaJ,zaK,zaL,zaM,zaN,zaO,zaP,zaQ,zaR,zaS,zaT,zaU,zaV,zaW,zaX,zaY,zaZ,za0,za1,za2,za3,za4,za5,za6,za7,za8,za9,zba,zbb,zbc,zbd,zbe,zbf,zbg,zbh,zbi,zbj,zbk,zbl,zbm,zbn,zbo,zbp,zbq,zbr,zbs,zbt,zbu,zbv,zbw,zbx,zby,zbz,zbA,zbB,zbC,zbD,zbE,zbF,zbG,zbH,zbI,zbJ,zbK,zbL,zbM,zbN,zbO,zbP,zbQ,zbR,zbS,zbT,zbU,zbV,zbW,zbX,zbY,zbZ,zb0,zb1,zb2,zb3,zb4,zb5,zb6,zb7,zb8,zb9,zca,zcb,eq_self,zcc,zcd,zce,zcf,zcg,zch,zci,zcj,zck,zcl,zcm,List.getElem?_cons_succ,List.getElem?_cons_zero,List.set_cons_succ,List.set_cons_zero,List.map_cons,List.map_nil,List.length_cons,List.length_nil,List.cons_append,List.nil_append,List.append_nil,List.isEmpty_cons,List.isEmpty_nil,if_true,if_false,ite_true,ite_false,Bool.not_true,Bool.not_false,Bool.not_not,decide_true,true_and,and_true,false_and,and_false,Bool.false_eq_true,reduceCtorEq,decide_true,decide_false,ite_self,forall_const,Nat.zero_add,Nat.reduceAdd,Nat.reduceLeDiff,Nat.reduceLT,Nat.reduceEqDiff,Nat.reduceSub,Nat.reduceMul,Nat.reduceBEq,Int.reduceLT,Int.reduceLE,Int.reduceEq,Int.reduceNe,Int.reduceAdd,Int.reduceMul,Int.reduceSub,Int.reduceNeg,Int.reducePow,Int.reduceBEq,Int.reduceToNat,Int.reduceGT,Int.reduceGE,String.reduceBEq,zcn,zco,List.replicate_succ,List.replicate_zero,zcp,zcq,zcr,zcs,zct,zcu,zcv,zcw,zcx,zcy,zcz,zcA,zcB,zcC,zcD,zcE,zcF,zcG,zcH,zcI,zcJ,zcK,zcL,zcM,zcN,zcO,zcP,zcQ,zcR,zcS,zcT,zcU,zcV,zcW,zcX,zcY,zcZ,zc0,zc1,zc2,zc3,zc4,zc5,zc6,zc7,zc8,zc9,zda,zdb,zdc,Bool.true_or,Bool.or_true,Bool.false_or,Bool.or_false,Bool.and_true,Bool.true_and,Bool.and_false,Bool.false_and,Int.cast_ofNat_Int,Int.natCast_zero,Int.natCast_one,beq_self_eq_true,zdd,zde,zdf,zdg,zdh,wipeR,c]
    refine wpick_fr v1 (by omega) (by simp) (by simp) fun p hp S2 l2 v2 f2 => ?_
    obtain ⟨q, hs, q0⟩ : ∃ q, Sf p q ∧ 0 < q := by
      simp only [List.mem_cons, List.not_mem_nil, or_false] at hp
      rcases hp with rfl | rfl | rfl | rfl | rfl | rfl | rfl | rfl
      all_goals exact ⟨_, .mk' (by decide +kernel) (by decide +kernel) (by decide) (by decide) (by decide), by decide +kernel⟩
    obtain ⟨rfl, hz⟩ := hs
    try simp -dsimp (disch := first | assumption | omega) only [zaa,zab,zac,zad,zae,zaf,zag,zah,zai,zaj,zak,zal,zam,zan,zao,zap,zaq,zar,zas,zat,zau,zav,zaw,zax,zay,zaz,zaA,zaB,zaC,zaD,zaE,zaF,zaG,zaH,zaI,zaJ,zaK,zaL,zaM,zaN,zaO,zaP,zaQ,zaR,zaS,zaT,zaU,zaV,zaW,zaX,zaY,zaZ,za0,za1,za2,za3,za4,za5,za6,za7,za8,za9,zba,zbb,zbc,zbd,zbe,zbf,zbg,zbh,zbi,zbj,zbk,zbl,zbm,zbn,zbo,zbp,zbq,zbr,zbs,zbt,zbu,zbv,zbw,zbx,zby,zbz,zbA,zbB,zbC,zbD,zbE,zbF,zbG,zbH,zbI,zbJ,zbK,zbL,zbM,zbN,zbO,zbP,zbQ,zbR,zbS,zbT,zbU,zbV,zbW,zbX,zbY,zbZ,zb0,zb1,zb2,zb3,zb4,zb5,zb6,zb7,zb8,zb9,zca,zcb,eq_self,zcc,zcd,zce,zcf,zcg,zch,zci,zcj,zck,zcl,zcm,List.getElem?_cons_succ,List.getElem?_cons_zero,List.set_cons_succ,List.set_cons_zero,List.map_cons,List.map_nil,List.length_cons,List.length_nil,List.cons_append,List.nil_append,List.append_nil,List.isEmpty_cons,List.isEmpty_nil,if_true,if_false,ite_true,ite_false,Bool.not_true,Bool.not_false,Bool.not_not,decide_true,true_and,and_true,false_and,and_false,Bool.false_eq_true,reduceCtorEq,decide_true,decide_false,ite_self,forall_const,Nat.zero_add,Nat.reduceAdd,Nat.reduceLeDiff,Nat.reduceLT,Nat.reduceEqDiff,Nat.reduceSub,Nat.reduceMul,Nat.reduceBEq,Int.reduceLT,Int.reduceLE,Int.reduceEq,Int.reduceNe,Int.reduceAdd,Int.reduceMul,Int.reduceSub,Int.reduceNeg,Int.reducePow,Int.reduceBEq,Int.reduceToNat,Int.reduceGT,Int.reduceGE,String.reduceBEq,zcn,zco,List.replicate_succ,List.replicate_zero,zcp,zcq,zcr,zcs,zct,zcu,zcv,zcw,zcx,zcy,zcz,zcA,zcB,zcC,zcD,zcE,zcF,zcG,zcH,zcI,zcJ,zcK,zcL,zcM,zcN,zcO,zcP,zcQ,zcR,zcS,zcT,zcU,zcV,zcW,zcX,zcY,zcZ,zc0,zc1,zc2,zc3,zc4,zc5,zc6,zc7,zc8,zc9,zda,zdb,zdc,Bool.true_or,Bool.or_true,Bool.false_or,Bool.or_false,Bool.and_true,Bool.true_and,Bool.and_false,Bool.false_and,Int.cast_ofNat_Int,Int.natCast_zero,Int.natCast_one,beq_self_eq_true,zdd,zde,zdf,zdg,zdh,wipeR]
    exact ⟨by omega, hq _ _ q0 hz (by omega) (v2.le (by omega)) (fun i hi => by first | exact (f3 i hi).trans ((f2 i hi).trans (f1 i hi)) | exact (f2 i hi).trans (f1 i hi) | exact f1 i hi | exact hf i hi | rw [List.getElem?_set_ne (fun z => hi z.symm)])⟩
  · simp -dsimp (disch := first | assumption | omega) only [zaa,zab,zac,zad,zae,zaf,zag,zah,zai,zaj,zak,zal,zam,zan,zao,zap,zaq,zar,zas,zat,zau,zav,zaw,zax,zay,zaz,zaA,zaB,zaC,zaD,zaE,zaF,zaG,zaH,zaI,zaJ,zaK,zaL,zaM,zaN,zaO,zaP,zaQ,zaR,zaS,zaT,zaU,zaV,zaW,zaX,zaY,zaZ,za0,za1,za2,za3,za4,za5,za6,za7,za8,za9,zba,zbb,zbc,zbd,zbe,zbf,zbg,zbh,zbi,zbj,zbk,zbl,zbm,zbn,zbo,zbp,zbq,zbr,zbs,zbt,zbu,zbv,zbw,zbx,zby,zbz,zbA,zbB,zbC,zbD,zbE,zbF,zbG,zbH,zbI,zbJ,zbK,zbL,zbM,zbN,zbO,zbP,zbQ,zbR,zbS,zbT,zbU,zbV,zbW,zbX,zbY,zbZ,zb0,zb1,zb2,zb3,zb4,zb5,zb6,zb7,zb8,zb9,zca,zcb,eq_self,zcc,zcd,zce,zcf,zcg,zch,zci,zcj,zck,zcl,zcm,List.getElem?_cons_succ,List.getElem?_cons_zero,List.set_cons_succ,List.set_cons_zero,List.map_cons,List.map_nil,List.length_cons,List.length_nil,List.cons_append,List.nil_append,List.append_nil,List.isEmpty_cons,List.isEmpty_nil,if_true,if_false,ite_true,ite_false,Bool.not_true,Bool.not_false,Bool.not_not,decide_true,true_and,and_true,false_and,and_false,Bool.false_eq_true,reduceCtorEq,decide_true,decide_false,ite_self,forall_const,Nat.zero_add,Nat.reduceAdd,Nat.reduceLeDiff,Nat.reduceLT,Nat.reduceEqDiff,Nat.reduceSub,Nat.reduceMul,Nat.reduceBEq,Int.reduceLT,Int.reduceLE,Int.reduceEq,Int.reduceNe,Int.reduceAdd,Int.reduceMul,Int.reduceSub,Int.reduceNeg,Int.reducePow,Int.reduceBEq,Int.reduceToNat,Int.reduceGT,Int.reduceGE,String.reduceBEq,zcn,zco,List.replicate_succ,List.replicate_zero,zcp,zcq,zcr,zcs,zct,zcu,zcv,zcw,zcx,zcy,zcz,zcA,zcB,zcC,zcD,zcE,zcF,zcG,zcH,zcI,zcJ,zcK,zcL,zcM,zcN,zcO,zcP,zcQ,zcR,zcS,zcT,zcU,zcV,zcW,zcX,zcY,zcZ,zc0,zc1,zc2,zc3,zc4,zc5,zc6,zc7,zc8,zc9,zda,zdb,zdc,Bool.true_or,Bool.or_true,Bool.false_or,Bool.or_false,Bool.and_true,Bool.true_and,Bool.and_false,Bool.false_and,Int.cast_ofNat_Int,Int.natCast_zero,Int.natCast_one,beq_self_eq_true,zdd,zde,zdf,zdg,zdh,wipeR,c]
    refine wdraw_fr v1 (by omega) (by omega) (by omega) fun a S2 a0 a1 l2 v2 f2 => ?_
    try simp -dsimp (disch := first | assumption | omega) only [zaa,zab,zac,zad,zae,zaf,zag,zah,zai,zaj,zak,zal,zam,zan,zao,zap,zaq,zar,zas,zat,zau,zav,zaw,zax,zay,zaz,zaA,zaB,zaC,zaD,zaE,zaF,zaG,zaH,zaI,zaJ,zaK,zaL,zaM,zaN,zaO,zaP,zaQ,zaR,zaS,zaT,zaU,zaV,zaW,zaX,zaY,zaZ,za0,za1,za2,za3,za4,za5,za6,za7,za8,za9,zba,zbb,zbc,zbd,zbe,zbf,zbg,zbh,zbi,zbj,zbk,zbl,zbm,zbn,zbo,zbp,zbq,zbr,zbs,zbt,zbu,zbv,zbw,zbx,zby,zbz,zbA,zbB,zbC,zbD,zbE,zbF,zbG,zbH,zbI,zbJ,zbK,zbL,zbM,zbN,zbO,zbP,zbQ,zbR,zbS,zbT,zbU,zbV,zbW,zbX,zbY,zbZ,zb0,zb1,zb2,zb3,zb4,zb5,zb6,zb7,zb8,zb9,zca,zcb,eq_self,zcc,zcd,zce,zcf,zcg,zch,zci,zcj,zck,zcl,zcm,List.getElem?_cons_succ,List.getElem?_cons_zero,List.set_cons_succ,List.set_cons_zero,List.map_cons,List.map_nil,List.length_cons,List.length_nil,List.cons_append,List.nil_append,List.append_nil,List.isEmpty_cons,List.isEmpty_nil,if_true,if_false,ite_true,ite_false,Bool.not_true,Bool.not_false,Bool.not_not,decide_true,true_and,and_true,false_and,and_false,Bool.false_eq_true,reduceCtorEq,decide_true,decide_false,ite_self,forall_const,Nat.zero_add,Nat.reduceAdd,Nat.reduceLeDiff,Nat.reduceLT,Nat.reduceEqDiff,Nat.reduceSub,Nat.reduceMul,Nat.reduceBEq,Int.reduceLT,Int.reduceLE,Int.reduceEq,Int.reduceNe,Int.reduceAdd,Int.reduceMul,Int.reduceSub,Int.reduceNeg,Int.reducePow,Int.reduceBEq,Int.reduceToNat,Int.reduceGT,Int.reduceGE,String.reduceBEq,zcn,zco,List.replicate_succ,List.replicate_zero,zcp,zcq,zcr,zcs,zct,zcu,zcv,zcw,zcx,zcy,zcz,zcA,zcB,zcC,zcD,zcE,zcF,zcG,zcH,zcI,zcJ,zcK,zcL,zcM,zcN,zcO,zcP,zcQ,zcR,zcS,zcT,zcU,zcV,zcW,zcX,zcY,zcZ,zc0,zc1,zc2,zc3,zc4,zc5,zc6,zc7,zc8,zc9,zda,zdb,zdc,Bool.true_or,Bool.or_true,Bool.false_or,Bool.or_false,Bool.and_true,Bool.true_and,Bool.and_false,Bool.false_and,Int.cast_ofNat_Int,Int.natCast_zero,Int.natCast_one,beq_self_eq_true,zdd,zde,zdf,zdg,zdh,wipeR]
    refine wdraw_fr v2 (by omega) (by omega) (by omega) fun b S3 b0 b1 l3 v3 f3 => ?_
    have hb : 1 + b ≠ 0 := by omega
    have z1 : (1 + a).natAbs < 2 ^ 5 := by omega
    have z2 : (1 + b).natAbs < 2 ^ 5 := by omega
    simp -dsimp (disch := first | assumption | omega) only [zaa,zab,zac,zad,zae,zaf,zag,zah,zai,zaj,zak,zal,zam,zan,zao,zap,zaq,zar,zas,zat,zau,zav,zaw,zax,zay,zaz,zaA,zaB,zaC,zaD,zaE,zaF,zaG,zaH,zaI,zaJ,zaK,zaL,zaM,zaN,zaO,zaP,zaQ,zaR,zaS,zaT,zaU,zaV,zaW,zaX,zaY,zaZ,za0,za1,za2,za3,za4,za5,za6,za7,za8,za9,zba,zbb,zbc,zbd,zbe,zbf,zbg,zbh,zbi,zbj,zbk,zbl,zbm,zbn,zbo,zbp,zbq,zbr,zbs,zbt,zbu,zbv,zbw,zbx,zby,zbz,zbA,zbB,zbC,zbD,zbE,zbF,zbG,zbH,zbI,zbJ,zbK,zbL,zbM,zbN,zbO,zbP,zbQ,zbR,zbS,zbT,zbU,zbV,zbW,zbX,zbY,zbZ,zb0,zb1,zb2,zb3,zb4,zb5,zb6,zb7,zb8,zb9,zca,zcb,eq_self,zcc,zcd,zce,zcf,zcg,zch,zci,zcj,zck,zcl,zcm,List.getElem?_cons_succ,List.getElem?_cons_zero,List.set_cons_succ,List.set_cons_zero,List.map_cons,List.map_nil,List.length_cons,List.length_nil,List.cons_append,List.nil_append,List.append_nil,List.isEmpty_cons,List.isEmpty_nil,if_true,if_false,ite_true,ite_false,Bool.not_true,Bool.not_false,Bool.not_not,decide_true,true_and,and_true,false_and,and_false,Bool.false_eq_true,reduceCtorEq,decide_true,decide_false,ite_self,forall_const,Nat.zero_add,Nat.reduceAdd,Nat.reduceLeDiff,Nat.reduceLT,Nat.reduceEqDiff,Nat.reduceSub,Nat.reduceMul,Nat.reduceBEq,Int.reduceLT,Int.reduceLE,Int.reduceEq,Int.reduceNe,Int.reduceAdd,Int.reduceMul,Int.reduceSub,Int.reduceNeg,Int.reducePow,Int.reduceBEq,Int.reduceToNat,Int.reduceGT,Int.reduceGE,String.reduceBEq,zcn,zco,List.replicate_succ,List.replicate_zero,zcp,zcq,zcr,zcs,zct,zcu,zcv,zcw,zcx,zcy,zcz,zcA,zcB,zcC,zcD,zcE,zcF,zcG,zcH,zcI,zcJ,zcK,zcL,zcM,zcN,zcO,zcP,zcQ,zcR,zcS,zcT,zcU,zcV,zcW,zcX,zcY,zcZ,zc0,zc1,zc2,zc3,zc4,zc5,zc6,zc7,zc8,zc9,zda,zdb,zdc,Bool.true_or,Bool.or_true,Bool.false_or,Bool.or_false,Bool.and_true,Bool.true_and,Bool.and_false,Bool.false_and,Int.cast_ofNat_Int,Int.natCast_zero,Int.natCast_one,beq_self_eq_true,zdd,zde,zdf,zdg,zdh,wipeR,w_ratio hb (up8 z1 (by omega)) (up8 z2 (by omega))]
    exact ⟨by omega, hq _ _ (wfrac_pos (by omega) (by omega)) (wfrac_sz hb z1 z2) (by omega) (v3.le (by omega)) (fun i hi => by first | exact (f3 i hi).trans ((f2 i hi).trans (f1 i hi)) | exact (f2 i hi).trans (f1 i hi) | exact f1 i hi | exact hf i hi | rw [List.getElem?_set_ne (fun z => hi z.symm)])⟩
theorem wpart_fr {n m : Nat} (h : Vat m S n) (hm : m ≤ 999998000) (hq : ∀ q S', Sz q 5 → S'.length = S.length → Vat (m + 5) S' n → FrS n S S' → Q (rv q) S') : Ok (m__law_part [.loc n] S) Q := by
  refine Ok_defM rfl ?_
  have fin : ∀ (q : Rat) (S1 : Sto), Sz q 5 → S1.length = S.length → Vat (m + 4) S1 n → FrS n S S1 → Ok (sRet (dIf (bCmp (dOp ltM (dAp m__law_draw (dCons (dVar 0) (dCons (dC (.int 5)) dNil))) (dC (.int 3)))) (dVar 1) (dAp mkTup (dCons (dOp subM (dC (.int 0)) (dOp ixM (dVar 1) (dC (.int 0)))) (dCons (dOp ixM (dVar 1) (dC (.int 1))) dNil)))) [some (.loc n), some (rv q)] S1) fun r S1 => match r with
      | .nx _ => S1.length = S.length ∧ Q .non S1
      | .rt p => S1.length = S.length ∧ Q p S1
      | _ => False := by
    intro q S1 hz l1 v1 f1
    simp -dsimp (disch := first | assumption | omega) only [zaa,zab,zac,zad,zae,zaf,zag,zah,zai,zaj,zak,zal,zam,zan,zao,zap,zaq,zar,zas,zat,zau,zav,zaw,zax,zay,zaz,zaA,zaB,zaC,zaD,zaE,zaF,zaG,zaH,zaI,zaJ,zaK,zaL,zaM,zaN,zaO,zaP,zaQ,zaR,zaS,zaT,zaU,zaV,zaW,zaX,zaY,zaZ,za0,za1,za2,za3,za4,za5,za6,za7,za8,za9,zba,zbb,zbc,zbd,zbe,zbf,zbg,zbh,zbi,zbj,zbk,zbl,zbm,zbn,zbo,zbp,zbq,zbr,zbs,zbt,zbu,zbv,zbw,zbx,zby,zbz,zbA,zbB,zbC,zbD,zbE,zbF,zbG,zbH,zbI,zbJ,zbK,zbL,zbM,zbN,zbO,zbP,zbQ,zbR,zbS,zbT,zbU,zbV,zbW,zbX,zbY,zbZ,zb0,zb1,zb2,zb3,zb4,zb5,zb6,zb7,zb8,zb9,zca,zcb,eq_self,zcc,zcd,zce,zcf,zcg,zch,zci,zcj,zck,zcl,zcm,List.getElem?_cons_succ,List.getElem?_cons_zero,List.set_cons_succ,List.set_cons_zero,List.map_cons,List.map_nil,List.length_cons,List.length_nil,List.cons_append,List.nil_append,List.append_nil,List.isEmpty_cons,List.isEmpty_nil,if_true,if_false,ite_true,ite_false,Bool.not_true,Bool.not_false,Bool.not_not,decide_true,true_and,and_true,false_and,and_false,Bool.false_eq_true,reduceCtorEq,decide_true,decide_false,ite_self,forall_const,Nat.zero_add,Nat.reduceAdd,Nat.reduceLeDiff,Nat.reduceLT,Nat.reduceEqDiff,Nat.reduceSub,Nat.reduceMul,Nat.reduceBEq,Int.reduceLT,Int.reduceLE,Int.reduceEq,Int.reduceNe,Int.reduceAdd,Int.reduceMul,Int.reduceSub,Int.reduceNeg,Int.reducePow,Int.reduceBEq,Int.reduceToNat,Int.reduceGT,Int.reduceGE,String.reduceBEq,zcn,zco,List.replicate_succ,List.replicate_zero,zcp,zcq,zcr,zcs,zct,zcu,zcv,zcw,zcx,zcy,zcz,zcA,zcB,zcC,zcD,zcE,zcF,zcG,zcH,zcI,zcJ,zcK,zcL,zcM,zcN,zcO,zcP,zcQ,zcR,zcS,zcT,zcU,zcV,zcW,zcX,zcY,zcZ,zc0,zc1,zc2,zc3,zc4,zc5,zc6,zc7,zc8,zc9,zda,zdb,zdc,Bool.true_or,Bool.or_true,Bool.false_or,Bool.or_false,Bool.and_true,Bool.true_and,Bool.and_false,Bool.false_and,Int.cast_ofNat_Int,Int.natCast_zero,Int.natCast_one,beq_self_eq_true,zdd,zde,zdf,zdg,zdh,wipeR]
    refine wdraw_fr v1 (by omega) (by omega) (by omega) fun d S2 d0 d1 l2 v2 f2 => ?_
    by_cases c : d < 3
    · simp -dsimp (disch := first | assumption | omega) only [zaa,zab,zac,zad,zae,zaf,zag,zah,zai,zaj,zak,zal,zam,zan,zao,zap,zaq,zar,zas,zat,zau,zav,zaw,zax,zay,zaz,zaA,zaB,zaC,zaD,zaE,zaF,zaG,zaH,zaI,zaJ,zaK,zaL,zaM,zaN,zaO,zaP,zaQ,zaR,zaS,zaT,zaU,zaV,zaW,zaX,zaY,zaZ,za0,za1,za2,za3,za4,za5,za6,za7,za8,za9,zba,zbb,zbc,zbd,zbe,zbf,zbg,zbh,zbi,zbj,zbk,zbl,zbm,zbn,zbo,zbp,zbq,zbr,zbs,zbt,zbu,zbv,zbw,zbx,zby,zbz,zbA,zbB,zbC,zbD,zbE,zbF,zbG,zbH,zbI,zbJ,zbK,zbL,zbM,zbN,zbO,zbP,zbQ,zbR,zbS,zbT,zbU,zbV,zbW,zbX,zbY,zbZ,zb0,zb1,zb2,zb3,zb4,zb5,zb6,zb7,zb8,zb9,zca,zcb,eq_self,zcc,zcd,zce,zcf,zcg,zch,zci,zcj,zck,zcl,zcm,List.getElem?_cons_succ,List.getElem?_cons_zero,List.set_cons_succ,List.set_cons_zero,List.map_cons,List.map_nil,List.length_cons,List.length_nil,List.cons_append,List.nil_append,List.append_nil,List.isEmpty_cons,List.isEmpty_nil,if_true,if_false,ite_true,ite_false,Bool.not_true,Bool.not_false,Bool.not_not,decide_true,true_and,and_true,false_and,and_false,Bool.false_eq_true,reduceCtorEq,decide_true,decide_false,ite_self,forall_const,Nat.zero_add,Nat.reduceAdd,Nat.reduceLeDiff,Nat.reduceLT,Nat.reduceEqDiff,Nat.reduceSub,Nat.reduceMul,Nat.reduceBEq,Int.reduceLT,Int.reduceLE,Int.reduceEq,Int.reduceNe,Int.reduceAdd,Int.reduceMul,Int.reduceSub,Int.reduceNeg,Int.reducePow,Int.reduceBEq,Int.reduceToNat,Int.reduceGT,Int.reduceGE,String.reduceBEq,zcn,zco,List.replicate_succ,List.replicate_zero,zcp,zcq,zcr,zcs,zct,zcu,zcv,zcw,zcx,zcy,zcz,zcA,zcB,zcC,zcD,zcE,zcF,zcG,zcH,zcI,zcJ,zcK,zcL,zcM,zcN,zcO,zcP,zcQ,zcR,zcS,zcT,zcU,zcV,zcW,zcX,zcY,zcZ,zc0,zc1,zc2,zc3,zc4,zc5,zc6,zc7,zc8,zc9,zda,zdb,zdc,Bool.true_or,Bool.or_true,Bool.false_or,Bool.or_false,Bool.and_true,Bool.true_and,Bool.and_false,Bool.false_and,Int.cast_ofNat_Int,Int.natCast_zero,Int.natCast_one,beq_self_eq_true,zdd,zde,zdf,zdg,zdh,wipeR,c]
      exact ⟨by omega, hq _ _ hz (by omega) (v2.le (by omega)) (fun i hi => by first | exact (f3 i hi).trans ((f2 i hi).trans (f1 i hi)) | exact (f2 i hi).trans (f1 i hi) | exact f1 i hi | exact hf i hi | rw [List.getElem?_set_ne (fun z => hi z.symm)])⟩
    · simp -dsimp (disch := first | assumption | omega) only [zaa,zab,zac,zad,zae,zaf,zag,zah,zai,zaj,zak,zal,zam,zan,zao,zap,zaq,zar,zas,zat,zau,zav,zaw,zax,zay,zaz,zaA,zaB,zaC,zaD,zaE,zaF,zaG,zaH,zaI,zaJ,zaK,zaL,zaM,zaN,zaO,zaP,zaQ,zaR,zaS,zaT,zaU,zaV,zaW,zaX,zaY,zaZ,za0,za1,za2,za3,za4,za5,za6,za7,za8,za9,zba,zbb,zbc,zbd,zbe,zbf,zbg,zbh,zbi,zbj,zbk,zbl,zbm,zbn,zbo,zbp,zbq,zbr,zbs,zbt,zbu,zbv,zbw,zbx,zby,zbz,zbA,zbB,zbC,zbD,zbE,zbF,zbG,zbH,zbI,zbJ,zbK,zbL,zbM,zbN,zbO,zbP,zbQ,zbR,zbS,zbT,zbU,zbV,zbW,zbX,zbY,zbZ,zb0,zb1,zb2,zb3,zb4,zb5,zb6,zb7,zb8,zb9,zca,zcb,eq_self,zcc,zcd,zce,zcf,zcg,zch,zci,zcj,zck,zcl,zcm,List.getElem?_cons_succ,List.getElem?_cons_zero,List.set_cons_succ,List.set_cons_zero,List.map_cons,List.map_nil,List.length_cons,List.length_nil,List.cons_append,List.nil_append,List.append_nil,List.isEmpty_cons,List.isEmpty_nil,if_true,if_false,ite_true,ite_false,Bool.not_true,Bool.not_false,Bool.not_not,decide_true,true_and,and_true,false_and,and_false,Bool.false_eq_true,reduceCtorEq,decide_true,decide_false,ite_self,forall_const,Nat.zero_add,Nat.reduceAdd,Nat.reduceLeDiff,Nat.reduceLT,Nat.reduceEqDiff,Nat.reduceSub,Nat.reduceMul,Nat.reduceBEq,Int.reduceLT,Int.reduceLE,Int.reduceEq,Int.reduceNe,Int.reduceAdd,Int.reduceMul,Int.reduceSub,Int.reduceNeg,Int.reducePow,Int.reduceBEq,Int.reduceToNat,Int.reduceGT,Int.reduceGE,String.reduceBEq,zcn,zco,List.replicate_succ,List.replicate_zero,zcp,zcq,zcr,zcs,zct,zcu,zcv,zcw,zcx,zcy,zcz,zcA,zcB,zcC,zcD,zcE,zcF,zcG,zcH,zcI,zcJ,zcK,zcL,zcM,zcN,zcO,zcP,zcQ,zcR,zcS,zcT,zcU,zcV,zcW,zcX,zcY,zcZ,zc0,zc1,zc2,zc3,zc4,zc5,zc6,zc7,zc8,zc9,zda,zdb,zdc,Bool.true_or,Bool.or_true,Bool.false_or,Bool.or_false,Bool.and_true,Bool.true_and,Bool.and_false,Bool.false_and,Int.cast_ofNat_Int,Int.natCast_zero,Int.natCast_one,beq_self_eq_true,zdd,zde,zdf,zdg,zdh,wipeR,c,t_neg]
      exact ⟨by omega, hq _ _ inferInstance (by omega) (v2.le (by omega)) (fun i hi => by first | exact (f3 i hi).trans ((f2 i hi).trans (f1 i hi)) | exact (f2 i hi).trans (f1 i hi) | exact f1 i hi | exact hf i hi | rw [List.getElem?_set_ne (fun z => hi z.symm)])⟩
  simp -dsimp (disch := first | assumption | omega) only [zaa,zab,zac,zad,zae,zaf,zag,zah,zai,zaj,zak,zal,zam,zan,zao,zap,zaq,zar,zas,zat,zau,zav,zaw,zax,zay,zaz,zaA,zaB,zaC,zaD,zaE,zaF,zaG,zaH,zaI,zaJ,zaK,zaL,zaM,zaN,zaO,zaP,zaQ,zaR,zaS,zaT,zaU,zaV,zaW,zaX,zaY,zaZ,za0,za1,za2,za3,za4,za5,za6,za7,za8,za9,zba,zbb,zbc,zbd,zbe,zbf,zbg,zbh,zbi,zbj,zbk,zbl,zbm,zbn,zbp,zbq,zbr,zbs,zbt,zbu,zbv,zbw,zbx,zby,zbz,zbA,zbB,zbC,zbD,zbE,zbF,zbG,zbH,zbI,zbJ,zbK,zbL,zbM,zbN,zbO,zbP,zbQ,zbR,zbS,zbT,zbU,zbV,zbW,zbX,zbY,zbZ,zb0,zb1,zb2,zb3,zb4,zb5,zb6,zb7,zb8,zb9,zca,zcb,eq_self,zcc,zcd,zce,zcf,zcg,zch,zci,zcj,zck,zcl,zcm,List.getElem?_cons_succ,List.getElem?_cons_zero,List.set_cons_succ,List.set_cons_zero,List.map_cons,List.map_nil,List.length_cons,List.length_nil,List.cons_append,List.nil_append,List.append_nil,List.isEmpty_cons,List.isEmpty_nil,if_true,if_false,ite_true,ite_false,Bool.not_true,Bool.not_false,Bool.not_not,decide_true,true_and,and_true,false_and,and_false,Bool.false_eq_true,reduceCtorEq,decide_true,decide_false,ite_self,forall_const,Nat.zero_add,Nat.reduceAdd,Nat.reduceLeDiff,Nat.reduceLT,Nat.reduceEqDiff,Nat.reduceSub,Nat.reduceMul,Nat.reduceBEq,Int.reduceLT,Int.reduceLE,Int.reduceEq,Int.reduceNe,Int.reduceAdd,Int.reduceMul,Int.reduceSub,Int.reduceNeg,Int.reducePow,Int.reduceBEq,Int.reduceToNat,Int.reduceGT,Int.reduceGE,String.reduceBEq,zcn,zco,List.replicate_succ,List.replicate_zero,zcp,zcq,zcr,zcs,zct,zcu,zcv,zcw,zcx,zcy,zcz,zcA,zcB,zcC,zcD,zcE,zcF,zcG,zcH,zcI,zcJ,zcK,zcL,zcM,zcN,zcO,zcP,zcQ,zcR,zcS,zcT,zcU,zcV,zcW,zcX,zcY,zcZ,zc0,zc1,zc2,zc3,zc4,zc5,zc6,zc7,zc8,zc9,zda,zdb,zdc,Bool.true_or,Bool.or_true,Bool.false_or,Bool.or_false,Bool.and_true,Bool.true_and,Bool.and_false,Bool.false_and,Int.cast_ofNat_Int,Int.natCast_zero,Int.natCast_one,beq_self_eq_true,zdd,wipeR]
  refine wpick_fr h (by omega) (by simp) (by simp) fun p hp S1 l1 v1 f1 => ?_
  have hp2 : (∃ q, Sf p q) ∨ p = .non := by
    simp only [List.mem_cons, List.not_mem_nil, or_false] at hp
    rcases hp with rfl | rfl | rfl | rfl | rfl | rfl | rfl
    · exact .inl ⟨_, .mk' (by decide +kernel) (by decide +kernel) (by decide) (by decide) (by decide)⟩
    · exact .inl ⟨_, .mk' (by decide +kernel) (by decide +kernel) (by decide) (by decide) (by decide)⟩
    · exact .inl ⟨_, .mk' (by decide +kernel) (by decide +kernel) (by decide) (by decide) (by decide)⟩
    · exact .inl ⟨_, .mk' (by decide +kernel) (by decide +kernel) (by decide) (by decide) (by decide)⟩
    · exact .inr rfl
    · exact .inr rfl
    · exact .inr rfl
  rcases hp2 with ⟨q, rfl, hz⟩ | rfl
  · simp -dsimp only [zbs, zbk, List.set_cons_succ, List.set_cons_zero, zbt, zan, zav, zal, zad, zae, List.getElem?_cons_succ, List.getElem?_cons_zero, zaS, zaW, zao, Bool.false_eq_true, if_false, ite_false, reduceCtorEq]
    exact fin q S1 hz l1 (v1.le (by omega)) f1
  · simp -dsimp only [zbs, zbk, List.set_cons_succ, List.set_cons_zero, zbt, zan, zav, zal, zad, zae, List.getElem?_cons_succ, List.getElem?_cons_zero, zaS, zaU, zao, if_true, ite_true, zaj, zag, zaf]
    refine wsize_fr v1 (by omega) fun q S2 q0 hz l2 v2 f2 => ?_
    simp -dsimp only [zbs, List.set_cons_succ, List.set_cons_zero]
    exact fin q S2 hz (by omega) (v2.le (by omega)) (fun i hi => (f2 i hi).trans (f1 i hi))
theorem wslack_fr {n m : Nat} (h : Vat m S n) (hm : m ≤ 999999000) (hq : ∀ q S', 0 ≤ q → Sz q 5 → S'.length = S.length → Vat (m + 1) S' n → FrS n S S' → Q (rv q) S') : Ok (m__law_slack [.loc n] S) Q := by
  refine Ok_defM rfl ?_
  simp -dsimp (disch := first | assumption | omega) only [zaa,zab,zac,zad,zae,zaf,zag,zah,zai,zaj,zak,zal,zam,zan,zao,zap,zaq,zar,zas,zat,zau,zav,zaw,zax,zay,zaz,zaA,zaB,zaC,zaD,zaE,zaF,zaG,zaH,zaI,zaJ,zaK,zaL,zaM,zaN,zaO,zaP,zaQ,zaR,zaS,zaT,zaU,zaV,zaW,zaX,zaY,zaZ,za0,za1,za2,za3,za4,za5,za6,za7,za8,za9,zba,zbb,zbc,zbd,zbe,zbf,zbg,zbh,zbi,zbj,zbk,zbl,zbm,zbn,zbp,zbq,zbr,zbs,zbt,zbu,zbv,zbw,zbx,zby,zbz,zbA,zbB,zbC,zbD,zbE,zbF,zbG,zbH,zbI,zbJ,zbK,zbL,zbM,zbN,zbO,zbP,zbQ,zbR,zbS,zbT,zbU,zbV,zbW,zbX,zbY,zbZ,zb0,zb1,zb2,zb3,zb4,zb5,zb6,zb7,zb8,zb9,zca,zcb,eq_self,zcc,zcd,zce,zcf,zcg,zch,zci,zcj,zck,zcl,zcm,List.getElem?_cons_succ,List.getElem?_cons_zero,List.set_cons_succ,List.set_cons_zero,List.map_cons,List.map_nil,List.length_cons,List.length_nil,List.cons_append,List.nil_append,List.append_nil,List.isEmpty_cons,List.isEmpty_nil,if_true,if_false,ite_true,ite_false,Bool.not_true,Bool.not_false,Bool.not_not,decide_true,true_and,and_true,false_and,and_false,Bool.false_eq_true,reduceCtorEq,decide_true,decide_false,ite_self,forall_const,Nat.zero_add,Nat.reduceAdd,Nat.reduceLeDiff,Nat.reduceLT,Nat.reduceEqDiff,Nat.reduceSub,Nat.reduceMul,Nat.reduceBEq,Int.reduceLT,Int.reduceLE,Int.reduceEq,Int.reduceNe,Int.reduceAdd,Int.reduceMul,Int.reduceSub,Int.reduceNeg,Int.reducePow,Int.reduceBEq,Int.reduceToNat,Int.reduceGT,Int.reduceGE,String.reduceBEq,zcn,zco,List.replicate_succ,List.replicate_zero,zcp,zcq,zcr,zcs,zct,zcu,zcv,zcw,zcx,zcy,zcz,zcA,zcB,zcC,zcD,zcE,zcF,zcG,zcH,zcI,zcJ,zcK,zcL,zcM,zcN,zcO,zcP,zcQ,zcR,zcS,zcT,zcU,zcV,zcW,zcX,zcY,zcZ,zc0,zc1,zc2,zc3,zc4,zc5,zc6,zc7,zc8,zc9,zda,zdb,zdc,Bool.true_or,Bool.or_true,Bool.false_or,Bool.or_false,Bool.and_true,Bool.true_and,Bool.and_false,Bool.false_and,Int.cast_ofNat_Int,Int.natCast_zero,Int.natCast_one,beq_self_eq_true,zdd,wipeR]
  refine wpick_fr h (by omega) (by simp) (by simp) fun p hp S1 l1 v1 f1 => ?_
  obtain ⟨q, hs, q0⟩ : ∃ q, Sf p q ∧ 0 ≤ q := by
    simp only [List.mem_cons, List.not_mem_nil, or_false] at hp
    rcases hp with rfl | rfl | rfl | rfl | rfl | rfl | rfl
    all_goals exact ⟨_, .mk' (by decide +kernel) (by decide +kernel) (by decide) (by decide) (by decide), by decide +kernel⟩
  obtain ⟨rfl, hz⟩ := hs
  try simp -dsimp (disch := first | assumption | omega) only [zaa,zab,zac,zad,zae,zaf,zag,zah,zai,zaj,zak,zal,zam,zan,zao,zap,zaq,zar,zas,zat,zau,zav,zaw,zax,zay,zaz,zaA,zaB,zaC,zaD,zaE,zaF,zaG,zaH,zaI,zaJ,zaK,zaL,zaM,zaN,zaO,zaP,zaQ,zaR,zaS,zaT,zaU,zaV,zaW,zaX,zaY,zaZ,za0,za1,za2,za3,za4,za5,za6,za7,za8,za9,zba,zbb,zbc,zbd,zbe,zbf,zbg,zbh,zbi,zbj,zbk,zbl,zbm,zbn,zbo,zbp,zbq,zbr,zbs,zbt,zbu,zbv,zbw,zbx,zby,zbz,zbA,zbB,zbC,zbD,zbE,zbF,zbG,zbH,zbI,zbJ,zbK,zbL,zbM,zbN,zbO,zbP,zbQ,zbR,zbS,zbT,zbU,zbV,zbW,zbX,zbY,zbZ,zb0,zb1,zb2,zb3,zb4,zb5,zb6,zb7,zb8,zb9,zca,zcb,eq_self,zcc,zcd,zce,zcf,zcg,zch,zci,zcj,zck,zcl,zcm,List.getElem?_cons_succ,List.getElem?_cons_zero,List.set_cons_succ,List.set_cons_zero,List.map_cons,List.map_nil,List.length_cons,List.length_nil,List.cons_append,List.nil_append,List.append_nil,List.isEmpty_cons,List.isEmpty_nil,if_true,if_false,ite_true,ite_false,Bool.not_true,Bool.not_false,Bool.not_not,decide_true,true_and,and_true,false_and,and_false,Bool.false_eq_true,reduceCtorEq,decide_true,decide_false,ite_self,forall_const,Nat.zero_add,Nat.reduceAdd,Nat.reduceLeDiff,Nat.reduceLT,Nat.reduceEqDiff,Nat.reduceSub,Nat.reduceMul,Nat.reduceBEq,Int.reduceLT,Int.reduceLE,Int.reduceEq,Int.reduceNe,Int.reduceAdd,Int.reduceMul,Int.reduceSub,Int.reduceNeg,Int.reducePow,Int.reduceBEq,Int.reduceToNat,Int.reduceGT,Int.reduceGE,String.reduceBEq,zcn,zco,List.replicate_succ,List.replicate_zero,zcp,zcq,zcr,zcs,zct,zcu,zcv,zcw,zcx,zcy,zcz,zcA,zcB,zcC,zcD,zcE,zcF,zcG,zcH,zcI,zcJ,zcK,zcL,zcM,zcN,zcO,zcP,zcQ,zcR,zcS,zcT,zcU,zcV,zcW,zcX,zcY,zcZ,zc0,zc1,zc2,zc3,zc4,zc5,zc6,zc7,zc8,zc9,zda,zdb,zdc,Bool.true_or,Bool.or_true,Bool.false_or,Bool.or_false,Bool.and_true,Bool.true_and,Bool.and_false,Bool.false_and,Int.cast_ofNat_Int,Int.natCast_zero,Int.natCast_one,beq_self_eq_true,zdd,zde,zdf,zdg,zdh,wipeR]
  exact ⟨by omega, hq _ _ q0 hz (by omega) v1 f1⟩
end
end Pm.L


namespace Pm.L
open PySem PySem.Spec L2 Pm
theorem Ok_defM_w {a k : Nat} {d : SD} {ps : List PV} {S : Sto} {Q : PV → Sto → Prop} (hl : ps.length = a) (h : Ok (d (rho0 k ps) S) fun r S1 => match r with
  | .rt p => p.pln = true ∧ p.dep < 20 ∧ S.length < S1.length ∧ InS (S1.take S.length) ∧ Q p (S1.take S.length)
  | _ => False) : Ok (defM a k d ps S) Q := by
  unfold defM
  rw [if_pos hl]
  obtain ⟨r, S1, e, q⟩ := h.ex
  cases r with
  | nx _ => exact q.elim
  | bk _ => exact q.elim
  | ct _ => exact q.elim
  | rt p =>
    obtain ⟨h1, h2, h3, h4, h5⟩ := q
    have e2 : bodyR d (rho0 k ps) S = .ok p S1 := by
      unfold bodyR bnd
      rw [e]
      rfl
    have ne : ¬ S1.length = S.length := by omega
    have e3 := fzV_pln S1 S.length 20 p h1 h2
    have e4 : (S1.take S.length).length = S.length := by rw [List.length_take]; omega
    have h4' : (S1.take S.length).all (Ent.inn S.length) = true := by
      unfold InS at h4
      rwa [e4] at h4
    have : fin S.length (.ok p S1) = .ok p (S1.take S.length) := by
      simp only [fin, if_neg ne, e3]
      rw [if_pos ⟨h4', by omega⟩]
    rw [e2, this]
    exact h5
theorem vat_same {m n : Nat} {S S' : Sto} (h : Vat m S n) (e : ∀ i, i ≤ n → S'[i]? = S[i]?) : Vat m S' n := by
  obtain ⟨⟨c, ch, k, e1, a⟩, hi⟩ := h
  exact ⟨⟨c, ch, k, by rw [e n (Nat.le_refl _)]; exact e1, a⟩, fun i en hin he => hi i en hin (by rw [← e i hin]; exact he)⟩
/-- corners of a ground: their distances and heights -/
abbrev plP (c : Rat × Rat) : PV := pl c.1 c.2
structure Cor (C : List (Rat × Rat)) : Prop where
  pos : ∀ c ∈ C, 0 < c.1 ∧ Sz c.1 40 ∧ Sz c.2 100
  asc : ∀ (i : Nat) c e, C[i]? = some c → C[i + 1]? = some e → c.1 < e.1
theorem cor_pln : ∀ C : List (Rat × Rat), plnL (C.map plP) = true ∧ depL (C.map plP) ≤ 1
  | [] => by simp [plnL, depL]
  | c :: C => by
    have ih := cor_pln C
    simp only [List.map_cons, plnL, depL, ih.1, Bool.and_true]
    refine ⟨?_, ?_⟩
    · show (pl c.1 c.2).pln = true
      rw [pl_eq]; simp [t3, PV.pln, plnL]
    · show max (pl c.1 c.2).dep _ ≤ 1
      rw [pl_eq]; simp [t3, PV.dep, depL]; omega
theorem Cor.snoc {C : List (Rat × Rat)} (h : Cor C) {x y : Rat} (x0 : 0 < x) (zx : Sz x 40) (zy : Sz y 100) (hx : ∀ c ∈ C, c.1 < x) : Cor (C ++ [(x, y)]) := by
  refine ⟨fun c hc => ?_, fun i c e h1 h2 => ?_⟩
  · rcases List.mem_append.mp hc with q | q
    · exact h.pos c q
    · rw [List.mem_singleton.mp q]; exact ⟨x0, zx, zy⟩
  · by_cases hi : i + 1 < C.length
    · rw [List.getElem?_append_left (by omega)] at h1
      rw [List.getElem?_append_left hi] at h2
      exact h.asc i c e h1 h2
    · have hl := (List.getElem?_eq_some_iff.mp h2).1
      simp only [List.length_append, List.length_cons, List.length_nil] at hl
      have hi2 : i + 1 = C.length := by omega
      rw [hi2, List.getElem?_append_right (Nat.le_refl _)] at h2
      simp at h2
      rw [List.getElem?_append_left (by omega)] at h1
      rw [← h2]
      exact hx c (List.mem_of_getElem? h1)
section
variable {S : Sto} {Q : PV → Sto → Prop}
theorem ground_ok {n m : Nat} {s b : Rat} [hs : Sz s 5] [hb : Sz b 5] (h : Vat m S n) (hS : S.length = n + 1) (hm : m < 999990000) (hq : ∀ C S', 2 ≤ C.length → C.length ≤ 5 → Cor C → S'.length = n + 1 → Vat (m + 300) S' n → Q (.tup (C.map plP)) S') : Ok (m__law_ground [.loc n, jv s b] S) Q := by
  refine Ok_defM_w rfl ?_
  simp -dsimp (disch := first | assumption | omega) only [zaa,zab,zac,zad,zae,zaf,zag,zah,zai,zaj,zak,zal,zam,zan,zao,zap,zaq,zar,zas,zat,zau,zav,zaw,zax,zay,zaz,zaA,zaB,zaC,zaD,zaE,zaF,zaG,zaH,zaI,zaJ,zaK,zaL,zaM,zaN,zaO,zaP,zaQ,zaR,zaS,zaT,zaU,zaV,zaW,zaX,zaY,zaZ,za0,za1,za2,za3,za4,za5,za6,za7,za8,za9,zba,zbb,zbc,zbd,zbe,zbf,zbg,zbh,zbi,zbj,zbk,zbl,zbm,zbn,zbp,zbq,zbr,zbs,zbt,zbu,zbv,zbw,zbx,zby,zbz,zbA,zbB,zbC,zbD,zbE,zbF,zbG,zbH,zbI,zbJ,zbK,zbL,zbM,zbN,zbO,zbP,zbQ,zbR,zbS,zbT,zbU,zbV,zbW,zbX,zbY,zbZ,zb0,zb1,zb2,zb3,zb4,zb5,zb6,zb7,zb8,zb9,zca,zcb,eq_self,zcc,zcd,zce,zcf,zcg,zch,zci,zcj,zck,zcl,zcm,List.getElem?_cons_succ,List.getElem?_cons_zero,List.set_cons_succ,List.set_cons_zero,List.map_cons,List.map_nil,List.length_cons,List.length_nil,List.cons_append,List.nil_append,List.append_nil,List.isEmpty_cons,List.isEmpty_nil,if_true,if_false,ite_true,ite_false,Bool.not_true,Bool.not_false,Bool.not_not,decide_true,true_and,and_true,false_and,and_false,Bool.false_eq_true,reduceCtorEq,decide_true,decide_false,ite_self,forall_const,Nat.zero_add,Nat.reduceAdd,Nat.reduceLeDiff,Nat.reduceLT,Nat.reduceEqDiff,Nat.reduceSub,Nat.reduceMul,Nat.reduceBEq,Int.reduceLT,Int.reduceLE,Int.reduceEq,Int.reduceNe,Int.reduceAdd,Int.reduceMul,Int.reduceSub,Int.reduceNeg,Int.reducePow,Int.reduceBEq,Int.reduceToNat,Int.reduceGT,Int.reduceGE,String.reduceBEq,zcn,zco,List.replicate_succ,List.replicate_zero,zcp,zcq,zcr,zcs,zct,zcu,zcv,zcw,zcx,zcy,zcz,zcA,zcB,zcC,zcD,zcE,zcF,zcG,zcH,zcI,zcJ,zcK,zcL,zcM,zcN,zcO,zcP,zcQ,zcR,zcS,zcT,zcU,zcV,zcW,zcX,zcY,zcZ,zc0,zc1,zc2,zc3,zc4,zc5,zc6,zc7,zc8,zc9,zda,zdb,zdc,Bool.true_or,Bool.or_true,Bool.false_or,Bool.or_false,Bool.and_true,Bool.true_and,Bool.and_false,Bool.false_and,Int.cast_ofNat_Int,Int.natCast_zero,Int.natCast_one,beq_self_eq_true,zdd,wipeR,hS]
  have va : Vat m (S ++ [Ent.lst []]) n := h.app
  have la : (S ++ [Ent.lst []]).length = n + 2 := by simp; omega
  have g0 : (S ++ [Ent.lst []])[n + 1]? = some (.lst []) := by rw [← hS]; exact zb4
  refine wsize_fr va (by omega) fun x S1 x0 zx l1 v1 f1 => ?_
  simp -dsimp (disch := first | assumption | omega) only [zaa,zab,zac,zad,zae,zaf,zag,zah,zai,zaj,zak,zal,zam,zan,zao,zap,zaq,zar,zas,zat,zau,zav,zaw,zax,zay,zaz,zaA,zaB,zaC,zaD,zaE,zaF,zaG,zaH,zaI,zaJ,zaK,zaL,zaM,zaN,zaO,zaP,zaQ,zaR,zaS,zaT,zaU,zaV,zaW,zaX,zaY,zaZ,za0,za1,za2,za3,za4,za5,za6,za7,za8,za9,zba,zbb,zbc,zbd,zbe,zbf,zbg,zbh,zbi,zbj,zbk,zbl,zbm,zbn,zbp,zbq,zbr,zbs,zbt,zbu,zbv,zbw,zbx,zby,zbz,zbA,zbB,zbC,zbD,zbE,zbF,zbG,zbH,zbI,zbJ,zbK,zbL,zbM,zbN,zbO,zbP,zbQ,zbR,zbS,zbT,zbU,zbV,zbW,zbX,zbY,zbZ,zb0,zb1,zb2,zb3,zb4,zb5,zb6,zb7,zb8,zb9,zca,zcb,eq_self,zcc,zcd,zce,zcf,zcg,zch,zci,zcj,zck,zcl,zcm,List.getElem?_cons_succ,List.getElem?_cons_zero,List.set_cons_succ,List.set_cons_zero,List.map_cons,List.map_nil,List.length_cons,List.length_nil,List.cons_append,List.nil_append,List.append_nil,List.isEmpty_cons,List.isEmpty_nil,if_true,if_false,ite_true,ite_false,Bool.not_true,Bool.not_false,Bool.not_not,decide_true,true_and,and_true,false_and,and_false,Bool.false_eq_true,reduceCtorEq,decide_true,decide_false,ite_self,forall_const,Nat.zero_add,Nat.reduceAdd,Nat.reduceLeDiff,Nat.reduceLT,Nat.reduceEqDiff,Nat.reduceSub,Nat.reduceMul,Nat.reduceBEq,Int.reduceLT,Int.reduceLE,Int.reduceEq,Int.reduceNe,Int.reduceAdd,Int.reduceMul,Int.reduceSub,Int.reduceNeg,Int.reducePow,Int.reduceBEq,Int.reduceToNat,Int.reduceGT,Int.reduceGE,String.reduceBEq,zcn,zco,List.replicate_succ,List.replicate_zero,zcp,zcq,zcr,zcs,zct,zcu,zcv,zcw,zcx,zcy,zcz,zcA,zcB,zcC,zcD,zcE,zcF,zcG,zcH,zcI,zcJ,zcK,zcL,zcM,zcN,zcO,zcP,zcQ,zcR,zcS,zcT,zcU,zcV,zcW,zcX,zcY,zcZ,zc0,zc1,zc2,zc3,zc4,zc5,zc6,zc7,zc8,zc9,zda,zdb,zdc,Bool.true_or,Bool.or_true,Bool.false_or,Bool.or_false,Bool.and_true,Bool.true_and,Bool.and_false,Bool.false_and,Int.cast_ofNat_Int,Int.natCast_zero,Int.natCast_one,beq_self_eq_true,zdd,wipeR,hS]
  refine wdraw_fr v1 (by omega) (by omega) (by omega) fun d S2 d0 d1 l2 v2 f2 => ?_
  have g2 : S2[n + 1]? = some (.lst []) := by rw [f2 _ (by omega), f1 _ (by omega)]; exact g0
  simp -dsimp (disch := first | assumption | omega) only [zaa,zab,zac,zad,zae,zaf,zag,zah,zai,zaj,zak,zal,zam,zan,zao,zap,zaq,zar,zas,zat,zau,zav,zaw,zax,zay,zaz,zaA,zaB,zaC,zaD,zaE,zaF,zaG,zaH,zaI,zaJ,zaK,zaL,zaM,zaN,zaO,zaP,zaQ,zaR,zaS,zaT,zaU,zaV,zaW,zaX,zaY,zaZ,za0,za1,za2,za3,za4,za5,za6,za7,za8,za9,zba,zbb,zbc,zbd,zbe,zbf,zbg,zbh,zbi,zbj,zbk,zbl,zbm,zbn,zbp,zbq,zbr,zbs,zbt,zbu,zbv,zbw,zbx,zby,zbz,zbA,zbB,zbC,zbD,zbE,zbF,zbG,zbH,zbI,zbJ,zbK,zbL,zbM,zbN,zbO,zbP,zbQ,zbR,zbS,zbT,zbU,zbV,zbW,zbX,zbY,zbZ,zb0,zb1,zb2,zb3,zb4,zb5,zb6,zb7,zb8,zb9,zca,zcb,eq_self,zcc,zcd,zce,zcf,zcg,zch,zci,zcj,zck,zcl,zcm,List.getElem?_cons_succ,List.getElem?_cons_zero,List.set_cons_succ,List.set_cons_zero,List.map_cons,List.map_nil,List.length_cons,List.length_nil,List.cons_append,List.nil_append,List.append_nil,List.isEmpty_cons,List.isEmpty_nil,if_true,if_false,ite_true,ite_false,Bool.not_true,Bool.not_false,Bool.not_not,decide_true,true_and,and_true,false_and,and_false,Bool.false_eq_true,reduceCtorEq,decide_true,decide_false,ite_self,forall_const,Nat.zero_add,Nat.reduceAdd,Nat.reduceLeDiff,Nat.reduceLT,Nat.reduceEqDiff,Nat.reduceSub,Nat.reduceMul,Nat.reduceBEq,Int.reduceLT,Int.reduceLE,Int.reduceEq,Int.reduceNe,Int.reduceAdd,Int.reduceMul,Int.reduceSub,Int.reduceNeg,Int.reducePow,Int.reduceBEq,Int.reduceToNat,Int.reduceGT,Int.reduceGE,String.reduceBEq,zcn,zco,List.replicate_succ,List.replicate_zero,zcp,zcq,zcr,zcs,zct,zcu,zcv,zcw,zcx,zcy,zcz,zcA,zcB,zcC,zcD,zcE,zcF,zcG,zcH,zcI,zcJ,zcK,zcL,zcM,zcN,zcO,zcP,zcQ,zcR,zcS,zcT,zcU,zcV,zcW,zcX,zcY,zcZ,zc0,zc1,zc2,zc3,zc4,zc5,zc6,zc7,zc8,zc9,zda,zdb,zdc,Bool.true_or,Bool.or_true,Bool.false_or,Bool.or_false,Bool.and_true,Bool.true_and,Bool.and_false,Bool.false_and,Int.cast_ofNat_Int,Int.natCast_zero,Int.natCast_one,beq_self_eq_true,zdd,wipeR,hS]
  refine ⟨by omega, ?_⟩
  have dl : (rngL 0 (2 + d).toNat).length = (2 + d).toNat := by simp [rngL]
  refine Ok_for (fun k ρ S1 => S1.length = n + 2 ∧ Vat (m + 5 + 20 * k) S1 n ∧ (∃ C : List (Rat × Rat), C.length = k ∧ Cor C ∧ S1[n + 1]? = some (.lst (C.map plP)) ∧ ∃ x : Rat, 0 < x ∧ Sz x (5 + 6 * k) ∧ (∀ c ∈ C, c.1 < x) ∧ ∃ z5 z6 z7 z8, ρ = [some (.loc n), some (jv s b), some (.loc (n + 1)), some (rv x), some (.int (2 + d)), z5, z6, z7, z8])) ⟨by omega, v2.le (by omega), [], rfl, ⟨by simp, by simp⟩, g2, x, x0, zx.le (by omega), by simp, _, _, _, _, rfl⟩ ?_ ?_
  · rintro k p ρ S3 hp ⟨l3, v3, C, cl, hC, g3, x, x0, zx, cx, z5, z6, z7, z8, rfl⟩
    have hk : k < 5 := by have := (List.getElem?_eq_some_iff.mp hp).1; omega
    have zxk : Sz x (5 + 6 * k) := zx
    clear zx
    have zx30 : Sz x 30 := zxk.le (by omega)
    simp -dsimp (disch := first | assumption | omega) only [zaa,zab,zac,zad,zae,zaf,zag,zah,zai,zaj,zak,zal,zam,zan,zao,zap,zaq,zar,zas,zat,zau,zav,zaw,zax,zay,zaz,zaA,zaB,zaC,zaD,zaE,zaF,zaG,zaH,zaI,zaJ,zaK,zaL,zaM,zaN,zaO,zaP,zaQ,zaR,zaS,zaT,zaU,zaV,zaW,zaX,zaY,zaZ,za0,za1,za2,za3,za4,za5,za6,za7,za8,za9,zba,zbb,zbc,zbd,zbe,zbf,zbg,zbh,zbi,zbj,zbk,zbl,zbm,zbn,zbp,zbq,zbr,zbs,zbt,zbu,zbv,zbw,zbx,zby,zbz,zbA,zbB,zbC,zbD,zbE,zbF,zbG,zbH,zbI,zbJ,zbK,zbL,zbM,zbN,zbO,zbP,zbQ,zbR,zbS,zbT,zbU,zbV,zbW,zbX,zbY,zbZ,zb0,zb1,zb2,zb3,zb4,zb5,zb6,zb7,zb8,zb9,zca,zcb,eq_self,zcc,zcd,zce,zcf,zcg,zch,zci,zcj,zck,zcl,zcm,List.getElem?_cons_succ,List.getElem?_cons_zero,List.set_cons_succ,List.set_cons_zero,List.map_cons,List.map_nil,List.length_cons,List.length_nil,List.cons_append,List.nil_append,List.append_nil,List.isEmpty_cons,List.isEmpty_nil,if_true,if_false,ite_true,ite_false,Bool.not_true,Bool.not_false,Bool.not_not,decide_true,true_and,and_true,false_and,and_false,Bool.false_eq_true,reduceCtorEq,decide_true,decide_false,ite_self,forall_const,Nat.zero_add,Nat.reduceAdd,Nat.reduceLeDiff,Nat.reduceLT,Nat.reduceEqDiff,Nat.reduceSub,Nat.reduceMul,Nat.reduceBEq,Int.reduceLT,Int.reduceLE,Int.reduceEq,Int.reduceNe,Int.reduceAdd,Int.reduceMul,Int.reduceSub,Int.reduceNeg,Int.reducePow,Int.reduceBEq,Int.reduceToNat,Int.reduceGT,Int.reduceGE,String.reduceBEq,zcn,zco,List.replicate_succ,List.replicate_zero,zcp,zcq,zcr,zcs,zct,zcu,zcv,zcw,zcx,zcy,zcz,zcA,zcB,zcC,zcD,zcE,zcF,zcG,zcH,zcI,zcJ,zcK,zcL,zcM,zcN,zcO,zcP,zcQ,zcR,zcS,zcT,zcU,zcV,zcW,zcX,zcY,zcZ,zc0,zc1,zc2,zc3,zc4,zc5,zc6,zc7,zc8,zc9,zda,zdb,zdc,Bool.true_or,Bool.or_true,Bool.false_or,Bool.or_false,Bool.and_true,Bool.true_and,Bool.and_false,Bool.false_and,Int.cast_ofNat_Int,Int.natCast_zero,Int.natCast_one,beq_self_eq_true,zdd,wipeR,w_high]
    refine wdraw_fr v3 (by omega) (by omega) (by omega) fun w S4 w0 w1 l4 v4 f4 => ?_
    have hl : (C.map plP).length < LIM := Nat.lt_of_le_of_lt (show (C.map plP).length ≤ 8 by simp; omega) (by decide)
    have rest : ∀ (y : Rat) (S5 : Sto), Sz y 100 → S5.length = n + 2 → Vat (m + 5 + 20 * k + 10) S5 n → S5[n + 1]? = some (.lst (C.map plP)) → Ok (sSeq (sExpr (dApp (dVar 2) (dAp m__law_place (dCons (dVar 3) (dCons (dVar 8) dNil)))))
    (sAsg (dAp m__law_plus (dCons (dVar 3) (dCons (dAp m__law_size (dCons (dVar 0) dNil)) dNil))) (gName 3)) [some (.loc n), some (jv s b), some (.loc (n + 1)), some (rv x), some (.int (2 + d)), some p, some (rv (x * (s - b * x))), some (.int w), some (rv y)] S5) fun r S6 => ∃ x', 0 < x' ∧ Sz x' (5 + 6 * (k + 1)) ∧ S6.length = n + 2 ∧ Vat (m + 5 + 20 * (k + 1)) S6 n ∧ S6[n + 1]? = some (.lst ((C ++ [(x, y)]).map plP)) ∧ x < x' ∧ r = .nx [some (.loc n), some (jv s b), some (.loc (n + 1)), some (rv x'), some (.int (2 + d)), some p, some (rv (x * (s - b * x))), some (.int w), some (rv y)] := by
      intro y S5 zy l5 v5 g5
      simp -dsimp (disch := first | assumption | omega) only [zaa,zab,zac,zad,zae,zaf,zag,zah,zai,zaj,zak,zal,zam,zan,zao,zap,zaq,zar,zas,zat,zau,zav,zaw,zax,zay,zaz,zaA,zaB,zaC,zaD,zaE,zaF,zaG,zaH,zaI,zaJ,zaK,zaL,zaM,zaN,zaO,zaP,zaQ,zaR,zaS,zaT,zaU,zaV,zaW,zaX,zaY,zaZ,za0,za1,za2,za3,za4,za5,za6,za7,za8,za9,zba,zbb,zbc,zbd,zbe,zbf,zbg,zbh,zbi,zbj,zbk,zbl,zbm,zbn,zbp,zbq,zbr,zbs,zbt,zbu,zbv,zbw,zbx,zby,zbz,zbA,zbB,zbC,zbD,zbE,zbF,zbG,zbH,zbI,zbJ,zbK,zbL,zbM,zbN,zbO,zbP,zbQ,zbR,zbS,zbT,zbU,zbV,zbW,zbX,zbY,zbZ,zb0,zb1,zb2,zb3,zb4,zb5,zb6,zb7,zb8,zb9,zca,zcb,eq_self,zcc,zcd,zce,zcf,zcg,zch,zci,zcj,zck,zcl,zcm,List.getElem?_cons_succ,List.getElem?_cons_zero,List.set_cons_succ,List.set_cons_zero,List.map_cons,List.map_nil,List.length_cons,List.length_nil,List.cons_append,List.nil_append,List.append_nil,List.isEmpty_cons,List.isEmpty_nil,if_true,if_false,ite_true,ite_false,Bool.not_true,Bool.not_false,Bool.not_not,decide_true,true_and,and_true,false_and,and_false,Bool.false_eq_true,reduceCtorEq,decide_true,decide_false,ite_self,forall_const,Nat.zero_add,Nat.reduceAdd,Nat.reduceLeDiff,Nat.reduceLT,Nat.reduceEqDiff,Nat.reduceSub,Nat.reduceMul,Nat.reduceBEq,Int.reduceLT,Int.reduceLE,Int.reduceEq,Int.reduceNe,Int.reduceAdd,Int.reduceMul,Int.reduceSub,Int.reduceNeg,Int.reducePow,Int.reduceBEq,Int.reduceToNat,Int.reduceGT,Int.reduceGE,String.reduceBEq,zcn,zco,List.replicate_succ,List.replicate_zero,zcp,zcq,zcr,zcs,zct,zcu,zcv,zcw,zcx,zcy,zcz,zcA,zcB,zcC,zcD,zcE,zcF,zcG,zcH,zcI,zcJ,zcK,zcL,zcM,zcN,zcO,zcP,zcQ,zcR,zcS,zcT,zcU,zcV,zcW,zcX,zcY,zcZ,zc0,zc1,zc2,zc3,zc4,zc5,zc6,zc7,zc8,zc9,zda,zdb,zdc,Bool.true_or,Bool.or_true,Bool.false_or,Bool.or_false,Bool.and_true,Bool.true_and,Bool.and_false,Bool.false_and,Int.cast_ofNat_Int,Int.natCast_zero,Int.natCast_one,beq_self_eq_true,zdd,wipeR,w_place,zb1,zb2,g5,hl]
      have v5' : Vat (m + 5 + 20 * k + 10) (S5.set (n + 1) (.lst (C.map plP ++ [pl x y]))) n := vat_same v5 (fun i hi => by rw [List.getElem?_set_ne (by omega)])
      have g5' : (S5.set (n + 1) (.lst (C.map plP ++ [pl x y])))[n + 1]? = some (.lst (C.map plP ++ [pl x y])) := by rw [List.getElem?_set_self (by omega)]
      refine wsize_fr v5' (by omega) fun e S6 e0 ze l6 v6 f6 => ?_
      simp -dsimp (disch := first | assumption | omega) only [zaa,zab,zac,zad,zae,zaf,zag,zah,zai,zaj,zak,zal,zam,zan,zao,zap,zaq,zar,zas,zat,zau,zav,zaw,zax,zay,zaz,zaA,zaB,zaC,zaD,zaE,zaF,zaG,zaH,zaI,zaJ,zaK,zaL,zaM,zaN,zaO,zaP,zaQ,zaR,zaS,zaT,zaU,zaV,zaW,zaX,zaY,zaZ,za0,za1,za2,za3,za4,za5,za6,za7,za8,za9,zba,zbb,zbc,zbd,zbe,zbf,zbg,zbh,zbi,zbj,zbk,zbl,zbm,zbn,zbp,zbq,zbr,zbs,zbt,zbu,zbv,zbw,zbx,zby,zbz,zbA,zbB,zbC,zbD,zbE,zbF,zbG,zbH,zbI,zbJ,zbK,zbL,zbM,zbN,zbO,zbP,zbQ,zbR,zbS,zbT,zbU,zbV,zbW,zbX,zbY,zbZ,zb0,zb1,zb2,zb3,zb4,zb5,zb6,zb7,zb8,zb9,zca,zcb,eq_self,zcc,zcd,zce,zcf,zcg,zch,zci,zcj,zck,zcl,zcm,List.getElem?_cons_succ,List.getElem?_cons_zero,List.set_cons_succ,List.set_cons_zero,List.map_cons,List.map_nil,List.length_cons,List.length_nil,List.cons_append,List.nil_append,List.append_nil,List.isEmpty_cons,List.isEmpty_nil,if_true,if_false,ite_true,ite_false,Bool.not_true,Bool.not_false,Bool.not_not,decide_true,true_and,and_true,false_and,and_false,Bool.false_eq_true,reduceCtorEq,decide_true,decide_false,ite_self,forall_const,Nat.zero_add,Nat.reduceAdd,Nat.reduceLeDiff,Nat.reduceLT,Nat.reduceEqDiff,Nat.reduceSub,Nat.reduceMul,Nat.reduceBEq,Int.reduceLT,Int.reduceLE,Int.reduceEq,Int.reduceNe,Int.reduceAdd,Int.reduceMul,Int.reduceSub,Int.reduceNeg,Int.reducePow,Int.reduceBEq,Int.reduceToNat,Int.reduceGT,Int.reduceGE,String.reduceBEq,zcn,zco,List.replicate_succ,List.replicate_zero,zcp,zcq,zcr,zcs,zct,zcu,zcv,zcw,zcx,zcy,zcz,zcA,zcB,zcC,zcD,zcE,zcF,zcG,zcH,zcI,zcJ,zcK,zcL,zcM,zcN,zcO,zcP,zcQ,zcR,zcS,zcT,zcU,zcV,zcW,zcX,zcY,zcZ,zc0,zc1,zc2,zc3,zc4,zc5,zc6,zc7,zc8,zc9,zda,zdb,zdc,Bool.true_or,Bool.or_true,Bool.false_or,Bool.or_false,Bool.and_true,Bool.true_and,Bool.and_false,Bool.false_and,Int.cast_ofNat_Int,Int.natCast_zero,Int.natCast_one,beq_self_eq_true,zdd,wipeR,w_plus]
      refine ⟨x + e, by grind, ?_, ?_, v6.le (by omega), ?_, by grind, rfl⟩
      · have : Sz (x + e) (5 + 6 * k + 5 + 1) := @Sz.add _ _ _ _ zxk ze
        exact this.le (by omega)
      · rw [l6, List.length_set]; exact l5
      · rw [f6 _ (by omega), g5']
        simp [plP]
    have g4 : S4[n + 1]? = some (.lst (C.map plP)) := by rw [f4 _ (by omega)]; exact g3
    have zH : Sz (x * (s - b * x)) 90 := (inferInstance : Sz (x * (s - b * x)) _).le (by decide)
    generalize x * (s - b * x) = H at *
    simp -dsimp only [zaf, List.set_cons_succ, List.set_cons_zero, zbk]
    refine Ok.mono (Q := fun r S5 => ∃ y, Sz y 100 ∧ S5.length = n + 2 ∧ Vat (m + 5 + 20 * k + 10) S5 n ∧ S5[n + 1]? = some (.lst (C.map plP)) ∧ r = .nx [some (.loc n), some (jv s b), some (.loc (n + 1)), some (rv x), some (.int (2 + d)), some p, some (rv H), some (.int w), some (rv y)]) ?_ ?_
    · by_cases w2 : w < 2
      · simp -dsimp (disch := first | assumption | omega) only [zaa,zab,zac,zad,zae,zaf,zag,zah,zai,zaj,zak,zal,zam,zan,zao,zap,zaq,zar,zas,zat,zau,zav,zaw,zax,zay,zaz,zaA,zaB,zaC,zaD,zaE,zaF,zaG,zaH,zaI,zaJ,zaK,zaL,zaM,zaN,zaO,zaP,zaQ,zaR,zaS,zaT,zaU,zaV,zaW,zaX,zaY,zaZ,za0,za1,za2,za3,za4,za5,za6,za7,za8,za9,zba,zbb,zbc,zbd,zbe,zbf,zbg,zbh,zbi,zbj,zbk,zbl,zbm,zbn,zbo,zbp,zbq,zbr,zbs,zbt,zbu,zbv,zbw,zbx,zby,zbz,zbA,zbB,zbC,zbD,zbE,zbF,zbG,zbH,zbI,zbJ,zbK,zbL,zbM,zbN,zbO,zbP,zbQ,zbR,zbS,zbT,zbU,zbV,zbW,zbX,zbY,zbZ,zb0,zb1,zb2,zb3,zb4,zb5,zb6,zb7,zb8,zb9,zca,zcb,eq_self,zcc,zcd,zce,zcf,zcg,zch,zci,zcj,zck,zcl,zcm,List.getElem?_cons_succ,List.getElem?_cons_zero,List.set_cons_succ,List.set_cons_zero,List.map_cons,List.map_nil,List.length_cons,List.length_nil,List.cons_append,List.nil_append,List.append_nil,List.isEmpty_cons,List.isEmpty_nil,if_true,if_false,ite_true,ite_false,Bool.not_true,Bool.not_false,Bool.not_not,decide_true,true_and,and_true,false_and,and_false,Bool.false_eq_true,reduceCtorEq,decide_true,decide_false,ite_self,forall_const,Nat.zero_add,Nat.reduceAdd,Nat.reduceLeDiff,Nat.reduceLT,Nat.reduceEqDiff,Nat.reduceSub,Nat.reduceMul,Nat.reduceBEq,Int.reduceLT,Int.reduceLE,Int.reduceEq,Int.reduceNe,Int.reduceAdd,Int.reduceMul,Int.reduceSub,Int.reduceNeg,Int.reducePow,Int.reduceBEq,Int.reduceToNat,Int.reduceGT,Int.reduceGE,String.reduceBEq,zcn,zco,List.replicate_succ,List.replicate_zero,zcp,zcq,zcr,zcs,zct,zcu,zcv,zcw,zcx,zcy,zcz,zcA,zcB,zcC,zcD,zcE,zcF,zcG,zcH,zcI,zcJ,zcK,zcL,zcM,zcN,zcO,zcP,zcQ,zcR,zcS,zcT,zcU,zcV,zcW,zcX,zcY,zcZ,zc0,zc1,zc2,zc3,zc4,zc5,zc6,zc7,zc8,zc9,zda,zdb,zdc,Bool.true_or,Bool.or_true,Bool.false_or,Bool.or_false,Bool.and_true,Bool.true_and,Bool.and_false,Bool.false_and,Int.cast_ofNat_Int,Int.natCast_zero,Int.natCast_one,beq_self_eq_true,zdd,zde,zdf,zdg,zdh,wipeR,w2,t01]
        exact ⟨_, Sz.zero.le (by decide), by omega, v4.le (by omega), g4, rfl⟩
      · by_cases w3 : w = 2
        · have w3' : (w == 2) = true := by simpa using w3
          simp -dsimp (disch := first | assumption | omega) only [zaa,zab,zac,zad,zae,zaf,zag,zah,zai,zaj,zak,zal,zam,zan,zao,zap,zaq,zar,zas,zat,zau,zav,zaw,zax,zay,zaz,zaA,zaB,zaC,zaD,zaE,zaF,zaG,zaH,zaI,zaJ,zaK,zaL,zaM,zaN,zaO,zaP,zaQ,zaR,zaS,zaT,zaU,zaV,zaW,zaX,zaY,zaZ,za0,za1,za2,za3,za4,za5,za6,za7,za8,za9,zba,zbb,zbc,zbd,zbe,zbf,zbg,zbh,zbi,zbj,zbk,zbl,zbm,zbn,zbo,zbp,zbq,zbr,zbs,zbt,zbu,zbv,zbw,zbx,zby,zbz,zbA,zbB,zbC,zbD,zbE,zbF,zbG,zbH,zbI,zbJ,zbK,zbL,zbM,zbN,zbO,zbP,zbQ,zbR,zbS,zbT,zbU,zbV,zbW,zbX,zbY,zbZ,zb0,zb1,zb2,zb3,zb4,zb5,zb6,zb7,zb8,zb9,zca,zcb,eq_self,zcc,zcd,zce,zcf,zcg,zch,zci,zcj,zck,zcl,zcm,List.getElem?_cons_succ,List.getElem?_cons_zero,List.set_cons_succ,List.set_cons_zero,List.map_cons,List.map_nil,List.length_cons,List.length_nil,List.cons_append,List.nil_append,List.append_nil,List.isEmpty_cons,List.isEmpty_nil,if_true,if_false,ite_true,ite_false,Bool.not_true,Bool.not_false,Bool.not_not,decide_true,true_and,and_true,false_and,and_false,Bool.false_eq_true,reduceCtorEq,decide_true,decide_false,ite_self,forall_const,Nat.zero_add,Nat.reduceAdd,Nat.reduceLeDiff,Nat.reduceLT,Nat.reduceEqDiff,Nat.reduceSub,Nat.reduceMul,Nat.reduceBEq,Int.reduceLT,Int.reduceLE,Int.reduceEq,Int.reduceNe,Int.reduceAdd,Int.reduceMul,Int.reduceSub,Int.reduceNeg,Int.reducePow,Int.reduceBEq,Int.reduceToNat,Int.reduceGT,Int.reduceGE,String.reduceBEq,zcn,zco,List.replicate_succ,List.replicate_zero,zcp,zcq,zcr,zcs,zct,zcu,zcv,zcw,zcx,zcy,zcz,zcA,zcB,zcC,zcD,zcE,zcF,zcG,zcH,zcI,zcJ,zcK,zcL,zcM,zcN,zcO,zcP,zcQ,zcR,zcS,zcT,zcU,zcV,zcW,zcX,zcY,zcZ,zc0,zc1,zc2,zc3,zc4,zc5,zc6,zc7,zc8,zc9,zda,zdb,zdc,Bool.true_or,Bool.or_true,Bool.false_or,Bool.or_false,Bool.and_true,Bool.true_and,Bool.and_false,Bool.false_and,Int.cast_ofNat_Int,Int.natCast_zero,Int.natCast_one,beq_self_eq_true,zdd,zde,zdf,zdg,zdh,wipeR,w2,w3']
          refine wpart_fr v4 (by omega) fun y S5 zy l5 v5 f5 => ?_
          simp -dsimp (disch := first | assumption | omega) only [zaa,zab,zac,zad,zae,zaf,zag,zah,zai,zaj,zak,zal,zam,zan,zao,zap,zaq,zar,zas,zat,zau,zav,zaw,zax,zay,zaz,zaA,zaB,zaC,zaD,zaE,zaF,zaG,zaH,zaI,zaJ,zaK,zaL,zaM,zaN,zaO,zaP,zaQ,zaR,zaS,zaT,zaU,zaV,zaW,zaX,zaY,zaZ,za0,za1,za2,za3,za4,za5,za6,za7,za8,za9,zba,zbb,zbc,zbd,zbe,zbf,zbg,zbh,zbi,zbj,zbk,zbl,zbm,zbn,zbo,zbp,zbq,zbr,zbs,zbt,zbu,zbv,zbw,zbx,zby,zbz,zbA,zbB,zbC,zbD,zbE,zbF,zbG,zbH,zbI,zbJ,zbK,zbL,zbM,zbN,zbO,zbP,zbQ,zbR,zbS,zbT,zbU,zbV,zbW,zbX,zbY,zbZ,zb0,zb1,zb2,zb3,zb4,zb5,zb6,zb7,zb8,zb9,zca,zcb,eq_self,zcc,zcd,zce,zcf,zcg,zch,zci,zcj,zck,zcl,zcm,List.getElem?_cons_succ,List.getElem?_cons_zero,List.set_cons_succ,List.set_cons_zero,List.map_cons,List.map_nil,List.length_cons,List.length_nil,List.cons_append,List.nil_append,List.append_nil,List.isEmpty_cons,List.isEmpty_nil,if_true,if_false,ite_true,ite_false,Bool.not_true,Bool.not_false,Bool.not_not,decide_true,true_and,and_true,false_and,and_false,Bool.false_eq_true,reduceCtorEq,decide_true,decide_false,ite_self,forall_const,Nat.zero_add,Nat.reduceAdd,Nat.reduceLeDiff,Nat.reduceLT,Nat.reduceEqDiff,Nat.reduceSub,Nat.reduceMul,Nat.reduceBEq,Int.reduceLT,Int.reduceLE,Int.reduceEq,Int.reduceNe,Int.reduceAdd,Int.reduceMul,Int.reduceSub,Int.reduceNeg,Int.reducePow,Int.reduceBEq,Int.reduceToNat,Int.reduceGT,Int.reduceGE,String.reduceBEq,zcn,zco,List.replicate_succ,List.replicate_zero,zcp,zcq,zcr,zcs,zct,zcu,zcv,zcw,zcx,zcy,zcz,zcA,zcB,zcC,zcD,zcE,zcF,zcG,zcH,zcI,zcJ,zcK,zcL,zcM,zcN,zcO,zcP,zcQ,zcR,zcS,zcT,zcU,zcV,zcW,zcX,zcY,zcZ,zc0,zc1,zc2,zc3,zc4,zc5,zc6,zc7,zc8,zc9,zda,zdb,zdc,Bool.true_or,Bool.or_true,Bool.false_or,Bool.or_false,Bool.and_true,Bool.true_and,Bool.and_false,Bool.false_and,Int.cast_ofNat_Int,Int.natCast_zero,Int.natCast_one,beq_self_eq_true,zdd,zde,zdf,zdg,zdh,wipeR]
          exact ⟨_, zy.le (by decide), by omega, v5.le (by omega), by rw [f5 _ (by omega)]; exact g4, rfl⟩
        · have w3' : (w == 2) = false := by simpa using w3
          simp -dsimp (disch := first | assumption | omega) only [zaa,zab,zac,zad,zae,zaf,zag,zah,zai,zaj,zak,zal,zam,zan,zao,zap,zaq,zar,zas,zat,zau,zav,zaw,zax,zay,zaz,zaA,zaB,zaC,zaD,zaE,zaF,zaG,zaH,zaI,zaJ,zaK,zaL,zaM,zaN,zaO,zaP,zaQ,zaR,zaS,zaT,zaU,zaV,zaW,zaX,zaY,zaZ,za0,za1,za2,za3,za4,za5,za6,za7,za8,za9,zba,zbb,zbc,zbd,zbe,zbf,zbg,zbh,zbi,zbj,zbk,zbl,zbm,zbn,zbo,zbp,zbq,zbr,zbs,zbt,zbu,zbv,zbw,zbx,zby,zbz,zbA,zbB,zbC,zbD,zbE,zbF,zbG,zbH,zbI,zbJ,zbK,zbL,zbM,zbN,zbO,zbP,zbQ,zbR,zbS,zbT,zbU,zbV,zbW,zbX,zbY,zbZ,zb0,zb1,zb2,zb3,zb4,zb5,zb6,zb7,zb8,zb9,zca,zcb,eq_self,zcc,zcd,zce,zcf,zcg,zch,zci,zcj,zck,zcl,zcm,List.getElem?_cons_succ,List.getElem?_cons_zero,List.set_cons_succ,List.set_cons_zero,List.map_cons,List.map_nil,List.length_cons,List.length_nil,List.cons_append,List.nil_append,List.append_nil,List.isEmpty_cons,List.isEmpty_nil,if_true,if_false,ite_true,ite_false,Bool.not_true,Bool.not_false,Bool.not_not,decide_true,true_and,and_true,false_and,and_false,Bool.false_eq_true,reduceCtorEq,decide_true,decide_false,ite_self,forall_const,Nat.zero_add,Nat.reduceAdd,Nat.reduceLeDiff,Nat.reduceLT,Nat.reduceEqDiff,Nat.reduceSub,Nat.reduceMul,Nat.reduceBEq,Int.reduceLT,Int.reduceLE,Int.reduceEq,Int.reduceNe,Int.reduceAdd,Int.reduceMul,Int.reduceSub,Int.reduceNeg,Int.reducePow,Int.reduceBEq,Int.reduceToNat,Int.reduceGT,Int.reduceGE,String.reduceBEq,zcn,zco,List.replicate_succ,List.replicate_zero,zcp,zcq,zcr,zcs,zct,zcu,zcv,zcw,zcx,zcy,zcz,zcA,zcB,zcC,zcD,zcE,zcF,zcG,zcH,zcI,zcJ,zcK,zcL,zcM,zcN,zcO,zcP,zcQ,zcR,zcS,zcT,zcU,zcV,zcW,zcX,zcY,zcZ,zc0,zc1,zc2,zc3,zc4,zc5,zc6,zc7,zc8,zc9,zda,zdb,zdc,Bool.true_or,Bool.or_true,Bool.false_or,Bool.or_false,Bool.and_true,Bool.true_and,Bool.and_false,Bool.false_and,Int.cast_ofNat_Int,Int.natCast_zero,Int.natCast_one,beq_self_eq_true,zdd,zde,zdf,zdg,zdh,wipeR,w2,w3']
          refine wslack_fr v4 (by omega) fun y S5 y0 zy l5 v5 f5 => ?_
          simp -dsimp (disch := first | assumption | omega) only [zaa,zab,zac,zad,zae,zaf,zag,zah,zai,zaj,zak,zal,zam,zan,zao,zap,zaq,zar,zas,zat,zau,zav,zaw,zax,zay,zaz,zaA,zaB,zaC,zaD,zaE,zaF,zaG,zaH,zaI,zaJ,zaK,zaL,zaM,zaN,zaO,zaP,zaQ,zaR,zaS,zaT,zaU,zaV,zaW,zaX,zaY,zaZ,za0,za1,za2,za3,za4,za5,za6,za7,za8,za9,zba,zbb,zbc,zbd,zbe,zbf,zbg,zbh,zbi,zbj,zbk,zbl,zbm,zbn,zbo,zbp,zbq,zbr,zbs,zbt,zbu,zbv,zbw,zbx,zby,zbz,zbA,zbB,zbC,zbD,zbE,zbF,zbG,zbH,zbI,zbJ,zbK,zbL,zbM,zbN,zbO,zbP,zbQ,zbR,zbS,zbT,zbU,zbV,zbW,zbX,zbY,zbZ,zb0,zb1,zb2,zb3,zb4,zb5,zb6,zb7,zb8,zb9,zca,zcb,eq_self,zcc,zcd,zce,zcf,zcg,zch,zci,zcj,zck,zcl,zcm,List.getElem?_cons_succ,List.getElem?_cons_zero,List.set_cons_succ,List.set_cons_zero,List.map_cons,List.map_nil,List.length_cons,List.length_nil,List.cons_append,List.nil_append,List.append_nil,List.isEmpty_cons,List.isEmpty_nil,if_true,if_false,ite_true,ite_false,Bool.not_true,Bool.not_false,Bool.not_not,decide_true,true_and,and_true,false_and,and_false,Bool.false_eq_true,reduceCtorEq,decide_true,decide_false,ite_self,forall_const,Nat.zero_add,Nat.reduceAdd,Nat.reduceLeDiff,Nat.reduceLT,Nat.reduceEqDiff,Nat.reduceSub,Nat.reduceMul,Nat.reduceBEq,Int.reduceLT,Int.reduceLE,Int.reduceEq,Int.reduceNe,Int.reduceAdd,Int.reduceMul,Int.reduceSub,Int.reduceNeg,Int.reducePow,Int.reduceBEq,Int.reduceToNat,Int.reduceGT,Int.reduceGE,String.reduceBEq,zcn,zco,List.replicate_succ,List.replicate_zero,zcp,zcq,zcr,zcs,zct,zcu,zcv,zcw,zcx,zcy,zcz,zcA,zcB,zcC,zcD,zcE,zcF,zcG,zcH,zcI,zcJ,zcK,zcL,zcM,zcN,zcO,zcP,zcQ,zcR,zcS,zcT,zcU,zcV,zcW,zcX,zcY,zcZ,zc0,zc1,zc2,zc3,zc4,zc5,zc6,zc7,zc8,zc9,zda,zdb,zdc,Bool.true_or,Bool.or_true,Bool.false_or,Bool.or_false,Bool.and_true,Bool.true_and,Bool.and_false,Bool.false_and,Int.cast_ofNat_Int,Int.natCast_zero,Int.natCast_one,beq_self_eq_true,zdd,zde,zdf,zdg,zdh,wipeR,w_less]
          exact ⟨_, (inferInstance : Sz (H - y) _).le (by decide), by omega, v5.le (by omega), by rw [f5 _ (by omega)]; exact g4, rfl⟩
    · rintro r S5 ⟨y, zy, l5, v5, g5, rfl⟩
      show Ok (sSeq _ _ _ _) _
      refine (rest y S5 zy l5 v5 g5).mono ?_
      rintro r S6 ⟨x', x0', zx', l6, v6, g6, hx', rfl⟩
      exact ⟨l6, v6, C ++ [(x, y)], by simp [cl], hC.snoc x0 (zx30.le (by decide)) zy cx, g6, x', x0', zx', fun c hc => by
        rcases List.mem_append.mp hc with q | q
        · have := cx c q; grind
        · rw [List.mem_singleton.mp q]; exact hx', _, _, _, _, rfl⟩
  · rintro ρ S1 ⟨l1, v1, C, cl, hC, g, x, x0, zx, cx, z5, z6, z7, z8, rfl⟩
    have px := cor_pln C
    have lt : (S1.take (n + 1)).length = n + 1 := by rw [List.length_take]; omega
    have vt : Vat (m + 300) (S1.take (n + 1)) n := vat_same (v1.le (by omega)) fun i hi => by rw [List.getElem?_take]; simp; omega
    have r0 : S1.take S.length = S1.take (n + 1) := by rw [hS]
    simp -dsimp (disch := first | assumption | omega) only [zaa,zab,zac,zad,zae,zaf,zag,zah,zai,zaj,zak,zal,zam,zan,zao,zap,zaq,zar,zas,zat,zau,zav,zaw,zax,zay,zaz,zaA,zaB,zaC,zaD,zaE,zaF,zaG,zaH,zaI,zaJ,zaK,zaL,zaM,zaN,zaO,zaP,zaQ,zaR,zaS,zaT,zaU,zaV,zaW,zaX,zaY,zaZ,za0,za1,za2,za3,za4,za5,za6,za7,za8,za9,zba,zbb,zbc,zbd,zbe,zbf,zbg,zbh,zbi,zbj,zbk,zbl,zbm,zbn,zbo,zbp,zbq,zbr,zbs,zbt,zbu,zbv,zbw,zbx,zby,zbz,zbA,zbB,zbC,zbD,zbE,zbF,zbG,zbH,zbI,zbJ,zbK,zbL,zbM,zbN,zbO,zbP,zbQ,zbR,zbS,zbT,zbU,zbV,zbW,zbX,zbY,zbZ,zb0,zb1,zb2,zb3,zb4,zb5,zb6,zb7,zb8,zb9,zca,zcb,eq_self,zcc,zcd,zce,zcf,zcg,zch,zci,zcj,zck,zcl,zcm,List.getElem?_cons_succ,List.getElem?_cons_zero,List.set_cons_succ,List.set_cons_zero,List.map_cons,List.map_nil,List.length_cons,List.length_nil,List.cons_append,List.nil_append,List.append_nil,List.isEmpty_cons,List.isEmpty_nil,if_true,if_false,ite_true,ite_false,Bool.not_true,Bool.not_false,Bool.not_not,decide_true,true_and,and_true,false_and,and_false,Bool.false_eq_true,reduceCtorEq,decide_true,decide_false,ite_self,forall_const,Nat.zero_add,Nat.reduceAdd,Nat.reduceLeDiff,Nat.reduceLT,Nat.reduceEqDiff,Nat.reduceSub,Nat.reduceMul,Nat.reduceBEq,Int.reduceLT,Int.reduceLE,Int.reduceEq,Int.reduceNe,Int.reduceAdd,Int.reduceMul,Int.reduceSub,Int.reduceNeg,Int.reducePow,Int.reduceBEq,Int.reduceToNat,Int.reduceGT,Int.reduceGE,String.reduceBEq,zcn,zco,List.replicate_succ,List.replicate_zero,zcp,zcq,zcr,zcs,zct,zcu,zcv,zcw,zcx,zcy,zcz,zcA,zcB,zcC,zcD,zcE,zcF,zcG,zcH,zcI,zcJ,zcK,zcL,zcM,zcN,zcO,zcP,zcQ,zcR,zcS,zcT,zcU,zcV,zcW,zcX,zcY,zcZ,zc0,zc1,zc2,zc3,zc4,zc5,zc6,zc7,zc8,zc9,zda,zdb,zdc,Bool.true_or,Bool.or_true,Bool.false_or,Bool.or_false,Bool.and_true,Bool.true_and,Bool.and_false,Bool.false_and,Int.cast_ofNat_Int,Int.natCast_zero,Int.natCast_one,beq_self_eq_true,zdd,zde,zdf,zdg,zdh,wipeR,Ok_tuple_loc,g,hS]
    refine ⟨by simpa [PV.pln] using px.1, by have := px.2; simp [PV.dep]; omega, by omega, IntS.inS vt.2 lt, hq C _ (by omega) (by omega) hC lt vt⟩
end
end Pm.L


namespace Pm.L
open PySem PySem.Spec L2 Pm
/-! shares between two jets -/
def SH (f l lo hi : Rat) : Option (Rat × Rat) :=
  if 0 ≤ f ∧ 0 ≤ l then some (lo, hi) else if f < 0 ∧ l < 0 then none
  else if f < 0 then (if hi < (if lo < f / (f - l) then f / (f - l) else lo) then none else some (if lo < f / (f - l) then f / (f - l) else lo, hi))
  else (if (if f / (f - l) < hi then f / (f - l) else hi) < lo then none else some (lo, if f / (f - l) < hi then f / (f - l) else hi))
def shV : Option (Rat × Rat) → PV
  | none => .non
  | some (a, b) => .tup [rv a, rv b]
def WT (f l : Rat) : Option (Rat × Rat) := if f = l then (if f = 0 then some (0, 1) else none) else if f / (f - l) < 0 ∨ 1 < f / (f - l) then none else some (f / (f - l), f / (f - l))
section
variable {f l t d : Rat}
theorem rtri (a b : Rat) : a < b ∨ a = b ∨ b < a := by grind
theorem q_lt0 (hd : d ≠ 0) : (f / d < 0) ↔ (0 < f ∧ d < 0) ∨ (f < 0 ∧ 0 < d) := by
  rcases rtri d 0 with h | h | h
  · have e : f / d = -(f * (-d)⁻¹) := by grind
    have hi : 0 < (-d)⁻¹ := Rat.inv_pos.mpr (by grind)
    rw [e]
    constructor
    · intro z
      have : 0 < f * (-d)⁻¹ := by grind
      exact .inl ⟨(Rat.mul_pos_iff_of_pos_right hi).mp this, h⟩
    · rintro (⟨a, b⟩ | ⟨a, b⟩)
      · have := Rat.mul_pos a hi
        grind
      · grind
  · exact absurd h hd
  · have hi : 0 < d⁻¹ := Rat.inv_pos.mpr h
    rw [Rat.div_def]
    constructor
    · intro z
      refine .inr ⟨?_, h⟩
      have : 0 < -f * d⁻¹ := by grind
      have := (Rat.mul_pos_iff_of_pos_right hi).mp this
      grind
    · rintro (⟨a, b⟩ | ⟨a, b⟩)
      · grind
      · have := Rat.mul_pos (show 0 < -f by grind) hi
        grind
theorem q_gt1 (hd : d ≠ 0) : (1 < f / d) ↔ (d < f ∧ 0 < d) ∨ (f < d ∧ d < 0) := by
  have e : 1 < f / d ↔ (d - f) / d < 0 := by
    have : (d - f) / d = 1 - f / d := by grind
    rw [this]
    constructor <;> intro z <;> grind
  rw [e, q_lt0 hd]
  constructor
  · rintro (⟨a, b⟩ | ⟨a, b⟩)
    · exact .inr ⟨by grind, b⟩
    · exact .inl ⟨by grind, b⟩
  · rintro (⟨a, b⟩ | ⟨a, b⟩)
    · exact .inr ⟨by grind, b⟩
    · exact .inl ⟨by grind, b⟩
theorem wt_back : WT l f = (WT f l).map fun p => (1 - p.2, 1 - p.1) := by
  unfold WT
  by_cases h : f = l
  · subst h
    by_cases h0 : f = 0
    · simp only [h0, if_true, Option.map_some]
      rw [show (1 : Rat) - 1 = 0 by grind, show (1 : Rat) - 0 = 1 by grind]
    · simp only [h0, if_true, if_false, Option.map_none]
  · have hd : f - l ≠ 0 := by grind
    have e : l / (l - f) = 1 - f / (f - l) := by grind
    rw [if_neg h, if_neg (fun z => h z.symm), e]
    by_cases c : f / (f - l) < 0 ∨ 1 < f / (f - l)
    · have c2 : 1 - f / (f - l) < 0 ∨ 1 < 1 - f / (f - l) := by
        rcases c with c | c
        · exact .inr (by grind)
        · exact .inl (by grind)
      rw [if_pos c, if_pos c2]
      rfl
    · have c2 : ¬ (1 - f / (f - l) < 0 ∨ 1 < 1 - f / (f - l)) := by
        intro z
        apply c
        rcases z with z | z
        · exact .inr (by grind)
        · exact .inl (by grind)
      rw [if_neg c, if_neg c2]
      rfl
theorem sh_wt : ((SH f l 0 1).bind fun p => SH (-f) (-l) p.1 p.2) = WT f l := by
  unfold WT
  by_cases h : f = l
  · subst h
    rcases rtri f 0 with c | c | c
    · rw [if_pos rfl, if_neg (by grind)]
      unfold SH
      rw [if_neg (by grind), if_pos (by grind)]
      rfl
    · subst c
      rfl
    · rw [if_pos rfl, if_neg (by grind)]
      have : SH f f 0 1 = some (0, 1) := by unfold SH; rw [if_pos (by grind)]
      rw [this, Option.bind_some]
      unfold SH
      rw [if_neg (by grind), if_pos (by grind)]
  · have hd : f - l ≠ 0 := by grind
    have g0 := q_lt0 (f := f) hd
    have g1 := q_gt1 (f := f) hd
    have e2 : -f / (-f - -l) = f / (f - l) := by grind
    rw [if_neg h]
    by_cases cf : f < 0
    · by_cases cl : l < 0
      · have : SH f l 0 1 = none := by unfold SH; rw [if_neg (by grind), if_pos (by grind)]
        rw [this, Option.bind_none]
        rw [if_pos]
        by_cases z : l < f
        · exact .inl (g0.mpr (.inr ⟨cf, by grind⟩))
        · exact .inr (g1.mpr (.inr ⟨by grind, by grind⟩))
      · have z0 : ¬ f / (f - l) < 0 := fun z => by rcases g0.mp z with ⟨a, b⟩ | ⟨a, b⟩ <;> grind
        have z1 : ¬ 1 < f / (f - l) := fun z => by rcases g1.mp z with ⟨a, b⟩ | ⟨a, b⟩ <;> grind
        have nz : f / (f - l) ≠ 0 := by
          intro z
          have : f = 0 := by grind
          grind
        generalize hr : f / (f - l) = r at *
        have z2 : 0 < r := by grind
        have a1 : SH f l 0 1 = some (r, 1) := by
          unfold SH
          rw [if_neg (by grind), if_neg (by grind), if_pos cf, hr, if_pos z2, if_neg z1]
        rw [a1, Option.bind_some, if_neg (by grind)]
        unfold SH
        simp only [e2]
        by_cases c0 : l = 0
        · have : r = 1 := by rw [← hr, c0]; grind
          rw [if_pos (by grind), this]
        · have r1 : r < 1 := by
            have : r ≠ 1 := by intro z; rw [z] at hr; grind
            grind
          rw [if_neg (by grind), if_neg (by grind), if_neg (by grind), if_pos r1, if_neg (by grind)]
    · by_cases cl : l < 0
      · have z0 : ¬ f / (f - l) < 0 := fun z => by rcases g0.mp z with ⟨a, b⟩ | ⟨a, b⟩ <;> grind
        have z1 : ¬ 1 < f / (f - l) := fun z => by rcases g1.mp z with ⟨a, b⟩ | ⟨a, b⟩ <;> grind
        have n1 : f / (f - l) ≠ 1 := by
          intro z
          have : l = 0 := by grind
          grind
        generalize hr : f / (f - l) = r at *
        have r1 : r < 1 := by grind
        have a1 : SH f l 0 1 = some (0, r) := by
          unfold SH
          rw [if_neg (by grind), if_neg (by grind), if_neg cf, hr, if_pos r1, if_neg z0]
        rw [a1, Option.bind_some, if_neg (by grind)]
        unfold SH
        simp only [e2]
        by_cases c0 : f = 0
        · have : r = 0 := by rw [← hr, c0]; grind
          rw [if_pos (by grind), this]
        · have r0 : 0 < r := by
            have : r ≠ 0 := by intro z; rw [z] at hr; grind
            grind
          rw [if_neg (by grind), if_neg (by grind), if_pos (by grind), if_pos r0, if_neg (by grind)]
      · have a1 : SH f l 0 1 = some (0, 1) := by unfold SH; rw [if_pos (by grind)]
        rw [a1, Option.bind_some]
        unfold SH
        simp only [e2]
        by_cases c0 : f = 0
        · subst c0
          have : (0 : Rat) / (0 - l) = 0 := by grind
          rw [this, if_neg (by grind), if_neg (by grind), if_neg (by grind), if_neg (by grind), if_pos (by decide), if_neg (by decide)]
        · by_cases c1 : l = 0
          · subst c1
            have : f / (f - 0) = 1 := by grind
            rw [this, if_neg (by grind), if_neg (by grind), if_pos (by grind), if_neg (by grind), if_pos (by decide), if_neg (by decide)]
          · rw [if_neg (by grind), if_pos (by grind), if_pos]
            by_cases z : l < f
            · exact .inr (g1.mpr (.inl ⟨by grind, by grind⟩))
            · exact .inl (g0.mpr (.inl ⟨by grind, by grind⟩))
end
end Pm.L


namespace Pm.L
open PySem PySem.Spec L2 Pm
section
variable {S : Sto} {Q : PV → Sto → Prop}
theorem Ok_zip_tup {xs ys : List PV} {S : Sto} {Q : Src → Sto → Prop} : Ok (zipA [.tup xs, .tup ys] S) Q = Q ⟨zipF xs ys, fun _ => True⟩ S := rfl
theorem p_is_lower {a b : Rat} {k l : Nat} [hs : Sz a k] [hz : Sz b l] (hk : k + l ≤ 8000) : Ok (m_is_lower [rv a, rv b] S) Q = Q (.bl (decide (a < b))) S := by
  have e : m_is_lower [rv a, rv b] S = .ok (.bl (decide (a < b))) S := by
    refine Ok.eq (Ok_defM rfl ?_)
    have n1 : a.num.natAbs.log2 + (b.den : Int).natAbs.log2 < 1000000 := lg hs.n hz.d (by omega)
    have n2 : b.num.natAbs.log2 + (a.den : Int).natAbs.log2 < 1000000 := lg hz.n hs.d (by omega)
    simp -dsimp (disch := first | assumption | omega) only [zaa,zab,zac,zad,zae,zaf,zag,zah,zai,zaj,zak,zal,zam,zan,zao,zap,zaq,zar,zas,zat,zau,zav,zaw,zax,zay,zaz,zaA,zaB,zaC,zaD,zaE,zaF,zaG,zaH,zaI,zaJ,zaK,zaL,zaM,zaN,zaO,zaP,zaQ,zaR,zaS,zaT,zaU,zaV,zaW,zaX,zaY,zaZ,za0,za1,za2,za3,za4,za5,za6,za7,za8,za9,zba,zbb,zbc,zbd,zbe,zbf,zbg,zbh,zbi,zbj,zbk,zbl,zbm,zbn,zbo,zbp,zbq,zbr,zbs,zbt,zbu,zbv,zbw,zbx,zby,zbz,zbA,zbB,zbC,zbD,zbE,zbF,zbG,zbH,zbI,zbJ,zbK,zbL,zbM,zbN,zbO,zbP,zbQ,zbR,zbS,zbT,zbU,zbV,zbW,zbX,zbY,zbZ,zb0,zb1,zb2,zb3,zb4,zb5,zb6,zb7,zb8,zb9,zca,zcb,eq_self,zcc,zcd,zce,zcf,zcg,zch,zci,zcj,zck,zcl,zcm,List.getElem?_cons_succ,List.getElem?_cons_zero,List.set_cons_succ,List.set_cons_zero,List.map_cons,List.map_nil,List.length_cons,List.length_nil,List.cons_append,List.nil_append,List.append_nil,List.isEmpty_cons,List.isEmpty_nil,if_true,if_false,ite_true,ite_false,Bool.not_true,Bool.not_false,Bool.not_not,decide_true,true_and,and_true,false_and,and_false,Bool.false_eq_true,reduceCtorEq,decide_true,decide_false,ite_self,forall_const,Nat.zero_add,Nat.reduceAdd,Nat.reduceLeDiff,Nat.reduceLT,Nat.reduceEqDiff,Nat.reduceSub,Nat.reduceMul,Nat.reduceBEq,Int.reduceLT,Int.reduceLE,Int.reduceEq,Int.reduceNe,Int.reduceAdd,Int.reduceMul,Int.reduceSub,Int.reduceNeg,Int.reducePow,Int.reduceBEq,Int.reduceToNat,Int.reduceGT,Int.reduceGE,String.reduceBEq,zcn,zco,List.replicate_succ,List.replicate_zero,zcp,zcq,zcr,zcs,zct,zcu,zcv,zcw,zcx,zcy,zcz,zcA,zcB,zcC,zcD,zcE,zcF,zcG,zcH,zcI,zcJ,zcK,zcL,zcM,zcN,zcO,zcP,zcQ,zcR,zcS,zcT,zcU,zcV,zcW,zcX,zcY,zcZ,zc0,zc1,zc2,zc3,zc4,zc5,zc6,zc7,zc8,zc9,zda,zdb,zdc,Bool.true_or,Bool.or_true,Bool.false_or,Bool.or_false,Bool.and_true,Bool.true_and,Bool.and_false,Bool.false_and,Int.cast_ofNat_Int,Int.natCast_zero,Int.natCast_one,beq_self_eq_true,zdd,zde,zdf,zdg,zdh,wipeR,n1,n2]
    simp only [Rat.lt_iff]
  rw [e, zaa]
theorem p_back {a : Rat} : Ok (m_ratio_back [rv a] S) Q = Q (rv (-a)) S := by
  have e : m_ratio_back [rv a] S = .ok (rv (-a)) S := by
    refine Ok.eq (Ok_defM rfl ?_)
    simp -dsimp (disch := first | assumption | omega) only [zaa,zab,zac,zad,zae,zaf,zag,zah,zai,zaj,zak,zal,zam,zan,zao,zap,zaq,zar,zas,zat,zau,zav,zaw,zax,zay,zaz,zaA,zaB,zaC,zaD,zaE,zaF,zaG,zaH,zaI,zaJ,zaK,zaL,zaM,zaN,zaO,zaP,zaQ,zaR,zaS,zaT,zaU,zaV,zaW,zaX,zaY,zaZ,za0,za1,za2,za3,za4,za5,za6,za7,za8,za9,zba,zbb,zbc,zbd,zbe,zbf,zbg,zbh,zbi,zbj,zbk,zbl,zbm,zbn,zbo,zbp,zbq,zbr,zbs,zbt,zbu,zbv,zbw,zbx,zby,zbz,zbA,zbB,zbC,zbD,zbE,zbF,zbG,zbH,zbI,zbJ,zbK,zbL,zbM,zbN,zbO,zbP,zbQ,zbR,zbS,zbT,zbU,zbV,zbW,zbX,zbY,zbZ,zb0,zb1,zb2,zb3,zb4,zb5,zb6,zb7,zb8,zb9,zca,zcb,eq_self,zcc,zcd,zce,zcf,zcg,zch,zci,zcj,zck,zcl,zcm,List.getElem?_cons_succ,List.getElem?_cons_zero,List.set_cons_succ,List.set_cons_zero,List.map_cons,List.map_nil,List.length_cons,List.length_nil,List.cons_append,List.nil_append,List.append_nil,List.isEmpty_cons,List.isEmpty_nil,if_true,if_false,ite_true,ite_false,Bool.not_true,Bool.not_false,Bool.not_not,decide_true,true_and,and_true,false_and,and_false,Bool.false_eq_true,reduceCtorEq,decide_true,decide_false,ite_self,forall_const,Nat.zero_add,Nat.reduceAdd,Nat.reduceLeDiff,Nat.reduceLT,Nat.reduceEqDiff,Nat.reduceSub,Nat.reduceMul,Nat.reduceBEq,Int.reduceLT,Int.reduceLE,Int.reduceEq,Int.reduceNe,Int.reduceAdd,Int.reduceMul,Int.reduceSub,Int.reduceNeg,Int.reducePow,Int.reduceBEq,Int.reduceToNat,Int.reduceGT,Int.reduceGE,String.reduceBEq,zcn,zco,List.replicate_succ,List.replicate_zero,zcp,zcq,zcr,zcs,zct,zcu,zcv,zcw,zcx,zcy,zcz,zcA,zcB,zcC,zcD,zcE,zcF,zcG,zcH,zcI,zcJ,zcK,zcL,zcM,zcN,zcO,zcP,zcQ,zcR,zcS,zcT,zcU,zcV,zcW,zcX,zcY,zcZ,zc0,zc1,zc2,zc3,zc4,zc5,zc6,zc7,zc8,zc9,zda,zdb,zdc,Bool.true_or,Bool.or_true,Bool.false_or,Bool.or_false,Bool.and_true,Bool.true_and,Bool.and_false,Bool.false_and,Int.cast_ofNat_Int,Int.natCast_zero,Int.natCast_one,beq_self_eq_true,zdd,zde,zdf,zdg,zdh,wipeR]
    unfold rv
    rw [Rat.neg_num, Rat.neg_den]
  rw [e, zaa]
theorem p_check_turn {s b s2 b2 : Rat} (b0 : 0 < b) (c0 : 0 < b2) : Ok (m_check_turn [jv s b, jv s2 b2] S) Q = Q .non S := by
  have e : m_check_turn [jv s b, jv s2 b2] S = .ok .non S := by
    refine Ok.eq (Ok_defM rfl ?_)
    simp -dsimp (disch := first | assumption | omega) only [zaa,zab,zac,zad,zae,zaf,zag,zah,zai,zaj,zak,zal,zam,zan,zao,zap,zaq,zar,zas,zat,zau,zav,zaw,zax,zay,zaz,zaA,zaB,zaC,zaD,zaE,zaF,zaG,zaH,zaI,zaJ,zaK,zaL,zaM,zaN,zaO,zaP,zaQ,zaR,zaS,zaT,zaU,zaV,zaW,zaX,zaY,zaZ,za0,za1,za2,za3,za4,za5,za6,za7,za8,za9,zba,zbb,zbc,zbd,zbe,zbf,zbg,zbh,zbi,zbj,zbk,zbl,zbm,zbn,zbo,zbp,zbq,zbr,zbs,zbt,zbu,zbv,zbw,zbx,zby,zbz,zbA,zbB,zbC,zbD,zbE,zbF,zbG,zbH,zbI,zbJ,zbK,zbL,zbM,zbN,zbO,zbP,zbQ,zbR,zbS,zbT,zbU,zbV,zbW,zbX,zbY,zbZ,zb0,zb1,zb2,zb3,zb4,zb5,zb6,zb7,zb8,zb9,zca,zcb,eq_self,zcc,zcd,zce,zcf,zcg,zch,zci,zcj,zck,zcl,zcm,List.getElem?_cons_succ,List.getElem?_cons_zero,List.set_cons_succ,List.set_cons_zero,List.map_cons,List.map_nil,List.length_cons,List.length_nil,List.cons_append,List.nil_append,List.append_nil,List.isEmpty_cons,List.isEmpty_nil,if_true,if_false,ite_true,ite_false,Bool.not_true,Bool.not_false,Bool.not_not,decide_true,true_and,and_true,false_and,and_false,Bool.false_eq_true,reduceCtorEq,decide_true,decide_false,ite_self,forall_const,Nat.zero_add,Nat.reduceAdd,Nat.reduceLeDiff,Nat.reduceLT,Nat.reduceEqDiff,Nat.reduceSub,Nat.reduceMul,Nat.reduceBEq,Int.reduceLT,Int.reduceLE,Int.reduceEq,Int.reduceNe,Int.reduceAdd,Int.reduceMul,Int.reduceSub,Int.reduceNeg,Int.reducePow,Int.reduceBEq,Int.reduceToNat,Int.reduceGT,Int.reduceGE,String.reduceBEq,zcn,zco,List.replicate_succ,List.replicate_zero,zcp,zcq,zcr,zcs,zct,zcu,zcv,zcw,zcx,zcy,zcz,zcA,zcB,zcC,zcD,zcE,zcF,zcG,zcH,zcI,zcJ,zcK,zcL,zcM,zcN,zcO,zcP,zcQ,zcR,zcS,zcT,zcU,zcV,zcW,zcX,zcY,zcZ,zc0,zc1,zc2,zc3,zc4,zc5,zc6,zc7,zc8,zc9,zda,zdb,zdc,Bool.true_or,Bool.or_true,Bool.false_or,Bool.or_false,Bool.and_true,Bool.true_and,Bool.and_false,Bool.false_and,Int.cast_ofNat_Int,Int.natCast_zero,Int.natCast_one,beq_self_eq_true,zdd,zde,zdf,zdg,zdh,wipeR,o_check_jet]
  rw [e, zaa]
/-- the jet at a share of the way -/
abbrev bt (s b s2 b2 r : Rat) : PV := jv (s + r * (s2 - s)) (b + r * (b2 - b))
section
variable {s b s2 b2 r : Rat} {i : Nat} [h1 : Sz s 5] [h2 : Sz b 5] [h3 : Sz s2 5] [h4 : Sz b2 5] [h5 : Sz r i]
theorem p_between (hi : i ≤ 1000) : Ok (m_between_jets [jv s b, jv s2 b2, rv r] S) Q = Q (bt s b s2 b2 r) S := by
  have e : m_between_jets [jv s b, jv s2 b2, rv r] S = .ok (bt s b s2 b2 r) S := by
    refine Ok.eq (Ok_defM rfl ?_)
    simp -dsimp (disch := first | assumption | omega) only [zaa,zab,zac,zad,zae,zaf,zag,zah,zai,zaj,zak,zal,zam,zan,zao,zap,zaq,zar,zas,zat,zau,zav,zaw,zax,zay,zaz,zaA,zaB,zaC,zaD,zaE,zaF,zaG,zaH,zaI,zaJ,zaK,zaL,zaM,zaN,zaO,zaP,zaQ,zaR,zaS,zaT,zaU,zaV,zaW,zaX,zaY,zaZ,za0,za1,za2,za3,za4,za5,za6,za7,za8,za9,zba,zbb,zbc,zbd,zbe,zbf,zbg,zbh,zbi,zbj,zbk,zbl,zbm,zbn,zbo,zbp,zbq,zbr,zbs,zbt,zbu,zbv,zbw,zbx,zby,zbz,zbA,zbB,zbC,zbD,zbE,zbF,zbG,zbH,zbI,zbJ,zbK,zbL,zbM,zbN,zbO,zbP,zbQ,zbR,zbS,zbT,zbU,zbV,zbW,zbX,zbY,zbZ,zb0,zb1,zb2,zb3,zb4,zb5,zb6,zb7,zb8,zb9,zca,zcb,eq_self,zcc,zcd,zce,zcf,zcg,zch,zci,zcj,zck,zcl,zcm,List.getElem?_cons_succ,List.getElem?_cons_zero,List.set_cons_succ,List.set_cons_zero,List.map_cons,List.map_nil,List.length_cons,List.length_nil,List.cons_append,List.nil_append,List.append_nil,List.isEmpty_cons,List.isEmpty_nil,if_true,if_false,ite_true,ite_false,Bool.not_true,Bool.not_false,Bool.not_not,decide_true,true_and,and_true,false_and,and_false,Bool.false_eq_true,reduceCtorEq,decide_true,decide_false,ite_self,forall_const,Nat.zero_add,Nat.reduceAdd,Nat.reduceLeDiff,Nat.reduceLT,Nat.reduceEqDiff,Nat.reduceSub,Nat.reduceMul,Nat.reduceBEq,Int.reduceLT,Int.reduceLE,Int.reduceEq,Int.reduceNe,Int.reduceAdd,Int.reduceMul,Int.reduceSub,Int.reduceNeg,Int.reducePow,Int.reduceBEq,Int.reduceToNat,Int.reduceGT,Int.reduceGE,String.reduceBEq,zcn,zco,List.replicate_succ,List.replicate_zero,zcp,zcq,zcr,zcs,zct,zcu,zcv,zcw,zcx,zcy,zcz,zcA,zcB,zcC,zcD,zcE,zcF,zcG,zcH,zcI,zcJ,zcK,zcL,zcM,zcN,zcO,zcP,zcQ,zcR,zcS,zcT,zcU,zcV,zcW,zcX,zcY,zcZ,zc0,zc1,zc2,zc3,zc4,zc5,zc6,zc7,zc8,zc9,zda,zdb,zdc,Bool.true_or,Bool.or_true,Bool.false_or,Bool.or_false,Bool.and_true,Bool.true_and,Bool.and_false,Bool.false_and,Int.cast_ofNat_Int,Int.natCast_zero,Int.natCast_one,beq_self_eq_true,zdd,zde,zdf,zdg,zdh,wipeR,o_ratio_sum,o_ratio_product,o_ratio_less,Ok_zip_tup,zipF]
  rw [e, zaa]
theorem p_jet_between (hi : i ≤ 1000) (b0 : 0 < b) (c0 : 0 < b2) (r0 : 0 ≤ r) (r1 : r ≤ 1) : Ok (m_jet_between [jv s b, jv s2 b2, rv r] S) Q = Q (bt s b s2 b2 r) S := by
  have e : m_jet_between [jv s b, jv s2 b2, rv r] S = .ok (bt s b s2 b2 r) S := by
    refine Ok.eq (Ok_defM rfl ?_)
    have c1 : ¬ r < 0 := by grind
    have c2 : ¬ 1 < r := by grind
    simp -dsimp (disch := first | assumption | omega) only [zaa,zab,zac,zad,zae,zaf,zag,zah,zai,zaj,zak,zal,zam,zan,zao,zap,zaq,zar,zas,zat,zau,zav,zaw,zax,zay,zaz,zaA,zaB,zaC,zaD,zaE,zaF,zaG,zaH,zaI,zaJ,zaK,zaL,zaM,zaN,zaO,zaP,zaQ,zaR,zaS,zaT,zaU,zaV,zaW,zaX,zaY,zaZ,za0,za1,za2,za3,za4,za5,za6,za7,za8,za9,zba,zbb,zbc,zbd,zbe,zbf,zbg,zbh,zbi,zbj,zbk,zbl,zbm,zbn,zbo,zbp,zbq,zbr,zbs,zbt,zbu,zbv,zbw,zbx,zby,zbz,zbA,zbB,zbC,zbD,zbE,zbF,zbG,zbH,zbI,zbJ,zbK,zbL,zbM,zbN,zbO,zbP,zbQ,zbR,zbS,zbT,zbU,zbV,zbW,zbX,zbY,zbZ,zb0,zb1,zb2,zb3,zb4,zb5,zb6,zb7,zb8,zb9,zca,zcb,eq_self,zcc,zcd,zce,zcf,zcg,zch,zci,zcj,zck,zcl,zcm,List.getElem?_cons_succ,List.getElem?_cons_zero,List.set_cons_succ,List.set_cons_zero,List.map_cons,List.map_nil,List.length_cons,List.length_nil,List.cons_append,List.nil_append,List.append_nil,List.isEmpty_cons,List.isEmpty_nil,if_true,if_false,ite_true,ite_false,Bool.not_true,Bool.not_false,Bool.not_not,decide_true,true_and,and_true,false_and,and_false,Bool.false_eq_true,reduceCtorEq,decide_true,decide_false,ite_self,forall_const,Nat.zero_add,Nat.reduceAdd,Nat.reduceLeDiff,Nat.reduceLT,Nat.reduceEqDiff,Nat.reduceSub,Nat.reduceMul,Nat.reduceBEq,Int.reduceLT,Int.reduceLE,Int.reduceEq,Int.reduceNe,Int.reduceAdd,Int.reduceMul,Int.reduceSub,Int.reduceNeg,Int.reducePow,Int.reduceBEq,Int.reduceToNat,Int.reduceGT,Int.reduceGE,String.reduceBEq,zcn,zco,List.replicate_succ,List.replicate_zero,zcp,zcq,zcr,zcs,zct,zcu,zcv,zcw,zcx,zcy,zcz,zcA,zcB,zcC,zcD,zcE,zcF,zcG,zcH,zcI,zcJ,zcK,zcL,zcM,zcN,zcO,zcP,zcQ,zcR,zcS,zcT,zcU,zcV,zcW,zcX,zcY,zcZ,zc0,zc1,zc2,zc3,zc4,zc5,zc6,zc7,zc8,zc9,zda,zdb,zdc,Bool.true_or,Bool.or_true,Bool.false_or,Bool.or_false,Bool.and_true,Bool.true_and,Bool.and_false,Bool.false_and,Int.cast_ofNat_Int,Int.natCast_zero,Int.natCast_one,beq_self_eq_true,zdd,zde,zdf,zdg,zdh,wipeR,p_check_turn,o_check_fraction,v_ZERO_rv,v_ONE_rv,p_is_lower,c1,c2,p_between]
  rw [e, zaa]
end
theorem nneg {q : Rat} (h : 0 ≤ q) : 0 ≤ q.num ∧ ¬ q.num < 0 := by
  have := Rat.num_nonneg.mpr h
  exact ⟨this, by omega⟩
theorem nlt {q : Rat} (h : q < 0) : ¬ 0 ≤ q.num ∧ q.num < 0 := by
  have : ¬ 0 ≤ q.num := fun z => by have := Rat.num_nonneg.mp z; grind
  exact ⟨this, by omega⟩
theorem p_shares_over {f l lo hi : Rat} {i j a c : Nat} [h1 : Sz f i] [h2 : Sz l j] [h3 : Sz lo a] [h4 : Sz hi c] (hk : i + j + a + c ≤ 2000) :
    Ok (m_shares_over [.lst [rv f, rv l], rv lo, rv hi] S) Q = Q (shV (SH f l lo hi)) S := by
  have e : m_shares_over [.lst [rv f, rv l], rv lo, rv hi] S = .ok (shV (SH f l lo hi)) S := by
    refine Ok.eq (Ok_defM rfl ?_)
    have fin : ∀ x y : Rat, shV (if y < x then none else some (x, y)) = if y < x then .non else .tup [rv x, rv y] := fun x y => by split <;> rfl
    by_cases cf : 0 ≤ f
    · obtain ⟨f1, f2⟩ := nneg cf
      have cf' : ¬ f < 0 := by grind
      by_cases cl : 0 ≤ l
      · obtain ⟨l1, l2⟩ := nneg cl
        have e : SH f l lo hi = some (lo, hi) := by unfold SH; rw [if_pos ⟨cf, cl⟩]
        rw [e]
        simp -dsimp (disch := first | assumption | omega) only [zaa,zab,zac,zad,zae,zaf,zag,zah,zai,zaj,zak,zal,zam,zan,zao,zap,zaq,zar,zas,zat,zau,zav,zaw,zax,zay,zaz,zaA,zaB,zaC,zaD,zaE,zaF,zaG,zaH,zaI,zaJ,zaK,zaL,zaM,zaN,zaO,zaP,zaQ,zaR,zaS,zaT,zaU,zaV,zaW,zaX,zaY,zaZ,za0,za1,za2,za3,za4,za5,za6,za7,za8,za9,zba,zbb,zbc,zbd,zbe,zbf,zbg,zbh,zbi,zbj,zbk,zbl,zbm,zbn,zbo,zbp,zbq,zbr,zbs,zbt,zbu,zbv,zbw,zbx,zby,zbz,zbA,zbB,zbC,zbD,zbE,zbF,zbG,zbH,zbI,zbJ,zbK,zbL,zbM,zbN,zbO,zbP,zbQ,zbR,zbS,zbT,zbU,zbV,zbW,zbX,zbY,zbZ,zb0,zb1,zb2,zb3,zb4,zb5,zb6,zb7,zb8,zb9,zca,zcb,eq_self,zcc,zcd,zce,zcf,zcg,zch,zci,zcj,zck,zcl,zcm,List.getElem?_cons_succ,List.getElem?_cons_zero,List.set_cons_succ,List.set_cons_zero,List.map_cons,List.map_nil,List.length_cons,List.length_nil,List.cons_append,List.nil_append,List.append_nil,List.isEmpty_cons,List.isEmpty_nil,if_true,if_false,ite_true,ite_false,Bool.not_true,Bool.not_false,Bool.not_not,decide_true,true_and,and_true,false_and,and_false,Bool.false_eq_true,reduceCtorEq,decide_true,decide_false,ite_self,forall_const,Nat.zero_add,Nat.reduceAdd,Nat.reduceLeDiff,Nat.reduceLT,Nat.reduceEqDiff,Nat.reduceSub,Nat.reduceMul,Nat.reduceBEq,Int.reduceLT,Int.reduceLE,Int.reduceEq,Int.reduceNe,Int.reduceAdd,Int.reduceMul,Int.reduceSub,Int.reduceNeg,Int.reducePow,Int.reduceBEq,Int.reduceToNat,Int.reduceGT,Int.reduceGE,String.reduceBEq,zcn,zco,List.replicate_succ,List.replicate_zero,zcp,zcq,zcr,zcs,zct,zcu,zcv,zcw,zcx,zcy,zcz,zcA,zcB,zcC,zcD,zcE,zcF,zcG,zcH,zcI,zcJ,zcK,zcL,zcM,zcN,zcO,zcP,zcQ,zcR,zcS,zcT,zcU,zcV,zcW,zcX,zcY,zcZ,zc0,zc1,zc2,zc3,zc4,zc5,zc6,zc7,zc8,zc9,zda,zdb,zdc,Bool.true_or,Bool.or_true,Bool.false_or,Bool.or_false,Bool.and_true,Bool.true_and,Bool.and_false,Bool.false_and,Int.cast_ofNat_Int,Int.natCast_zero,Int.natCast_one,beq_self_eq_true,zdd,zde,zdf,zdg,zdh,wipeR,f1,f2,l1,l2]
        rfl
      · obtain ⟨l1, l2⟩ := nlt (q := l) (by grind)
        have hd : f - l ≠ 0 := by grind
        have e : SH f l lo hi = if (if f / (f - l) < hi then f / (f - l) else hi) < lo then none else some (lo, if f / (f - l) < hi then f / (f - l) else hi) := by
          unfold SH
          rw [if_neg (fun z => cl z.2), if_neg (fun z => cf' z.1), if_neg cf']
        rw [e, fin]
        by_cases c1 : f / (f - l) < hi
        · rw [if_pos c1]
          by_cases c2 : f / (f - l) < lo
          · rw [if_pos c2]
            simp -dsimp (disch := first | assumption | omega) only [zaa,zab,zac,zad,zae,zaf,zag,zah,zai,zaj,zak,zal,zam,zan,zao,zap,zaq,zar,zas,zat,zau,zav,zaw,zax,zay,zaz,zaA,zaB,zaC,zaD,zaE,zaF,zaG,zaH,zaI,zaJ,zaK,zaL,zaM,zaN,zaO,zaP,zaQ,zaR,zaS,zaT,zaU,zaV,zaW,zaX,zaY,zaZ,za0,za1,za2,za3,za4,za5,za6,za7,za8,za9,zba,zbb,zbc,zbd,zbe,zbf,zbg,zbh,zbi,zbj,zbk,zbl,zbm,zbn,zbo,zbp,zbq,zbr,zbs,zbt,zbu,zbv,zbw,zbx,zby,zbz,zbA,zbB,zbC,zbD,zbE,zbF,zbG,zbH,zbI,zbJ,zbK,zbL,zbM,zbN,zbO,zbP,zbQ,zbR,zbS,zbT,zbU,zbV,zbW,zbX,zbY,zbZ,zb0,zb1,zb2,zb3,zb4,zb5,zb6,zb7,zb8,zb9,zca,zcb,eq_self,zcc,zcd,zce,zcf,zcg,zch,zci,zcj,zck,zcl,zcm,List.getElem?_cons_succ,List.getElem?_cons_zero,List.set_cons_succ,List.set_cons_zero,List.map_cons,List.map_nil,List.length_cons,List.length_nil,List.cons_append,List.nil_append,List.append_nil,List.isEmpty_cons,List.isEmpty_nil,if_true,if_false,ite_true,ite_false,Bool.not_true,Bool.not_false,Bool.not_not,decide_true,true_and,and_true,false_and,and_false,Bool.false_eq_true,reduceCtorEq,decide_true,decide_false,ite_self,forall_const,Nat.zero_add,Nat.reduceAdd,Nat.reduceLeDiff,Nat.reduceLT,Nat.reduceEqDiff,Nat.reduceSub,Nat.reduceMul,Nat.reduceBEq,Int.reduceLT,Int.reduceLE,Int.reduceEq,Int.reduceNe,Int.reduceAdd,Int.reduceMul,Int.reduceSub,Int.reduceNeg,Int.reducePow,Int.reduceBEq,Int.reduceToNat,Int.reduceGT,Int.reduceGE,String.reduceBEq,zcn,zco,List.replicate_succ,List.replicate_zero,zcp,zcq,zcr,zcs,zct,zcu,zcv,zcw,zcx,zcy,zcz,zcA,zcB,zcC,zcD,zcE,zcF,zcG,zcH,zcI,zcJ,zcK,zcL,zcM,zcN,zcO,zcP,zcQ,zcR,zcS,zcT,zcU,zcV,zcW,zcX,zcY,zcZ,zc0,zc1,zc2,zc3,zc4,zc5,zc6,zc7,zc8,zc9,zda,zdb,zdc,Bool.true_or,Bool.or_true,Bool.false_or,Bool.or_false,Bool.and_true,Bool.true_and,Bool.and_false,Bool.false_and,Int.cast_ofNat_Int,Int.natCast_zero,Int.natCast_one,beq_self_eq_true,zdd,zde,zdf,zdg,zdh,wipeR,f1,f2,l1,l2,o_ratio_less,o_ratio_over,p_is_lower,c1,c2]
          · rw [if_neg c2]
            simp -dsimp (disch := first | assumption | omega) only [zaa,zab,zac,zad,zae,zaf,zag,zah,zai,zaj,zak,zal,zam,zan,zao,zap,zaq,zar,zas,zat,zau,zav,zaw,zax,zay,zaz,zaA,zaB,zaC,zaD,zaE,zaF,zaG,zaH,zaI,zaJ,zaK,zaL,zaM,zaN,zaO,zaP,zaQ,zaR,zaS,zaT,zaU,zaV,zaW,zaX,zaY,zaZ,za0,za1,za2,za3,za4,za5,za6,za7,za8,za9,zba,zbb,zbc,zbd,zbe,zbf,zbg,zbh,zbi,zbj,zbk,zbl,zbm,zbn,zbo,zbp,zbq,zbr,zbs,zbt,zbu,zbv,zbw,zbx,zby,zbz,zbA,zbB,zbC,zbD,zbE,zbF,zbG,zbH,zbI,zbJ,zbK,zbL,zbM,zbN,zbO,zbP,zbQ,zbR,zbS,zbT,zbU,zbV,zbW,zbX,zbY,zbZ,zb0,zb1,zb2,zb3,zb4,zb5,zb6,zb7,zb8,zb9,zca,zcb,eq_self,zcc,zcd,zce,zcf,zcg,zch,zci,zcj,zck,zcl,zcm,List.getElem?_cons_succ,List.getElem?_cons_zero,List.set_cons_succ,List.set_cons_zero,List.map_cons,List.map_nil,List.length_cons,List.length_nil,List.cons_append,List.nil_append,List.append_nil,List.isEmpty_cons,List.isEmpty_nil,if_true,if_false,ite_true,ite_false,Bool.not_true,Bool.not_false,Bool.not_not,decide_true,true_and,and_true,false_and,and_false,Bool.false_eq_true,reduceCtorEq,decide_true,decide_false,ite_self,forall_const,Nat.zero_add,Nat.reduceAdd,Nat.reduceLeDiff,Nat.reduceLT,Nat.reduceEqDiff,Nat.reduceSub,Nat.reduceMul,Nat.reduceBEq,Int.reduceLT,Int.reduceLE,Int.reduceEq,Int.reduceNe,Int.reduceAdd,Int.reduceMul,Int.reduceSub,Int.reduceNeg,Int.reducePow,Int.reduceBEq,Int.reduceToNat,Int.reduceGT,Int.reduceGE,String.reduceBEq,zcn,zco,List.replicate_succ,List.replicate_zero,zcp,zcq,zcr,zcs,zct,zcu,zcv,zcw,zcx,zcy,zcz,zcA,zcB,zcC,zcD,zcE,zcF,zcG,zcH,zcI,zcJ,zcK,zcL,zcM,zcN,zcO,zcP,zcQ,zcR,zcS,zcT,zcU,zcV,zcW,zcX,zcY,zcZ,zc0,zc1,zc2,zc3,zc4,zc5,zc6,zc7,zc8,zc9,zda,zdb,zdc,Bool.true_or,Bool.or_true,Bool.false_or,Bool.or_false,Bool.and_true,Bool.true_and,Bool.and_false,Bool.false_and,Int.cast_ofNat_Int,Int.natCast_zero,Int.natCast_one,beq_self_eq_true,zdd,zde,zdf,zdg,zdh,wipeR,f1,f2,l1,l2,o_ratio_less,o_ratio_over,p_is_lower,c1,c2]
        · rw [if_neg c1]
          by_cases c2 : hi < lo
          · rw [if_pos c2]
            simp -dsimp (disch := first | assumption | omega) only [zaa,zab,zac,zad,zae,zaf,zag,zah,zai,zaj,zak,zal,zam,zan,zao,zap,zaq,zar,zas,zat,zau,zav,zaw,zax,zay,zaz,zaA,zaB,zaC,zaD,zaE,zaF,zaG,zaH,zaI,zaJ,zaK,zaL,zaM,zaN,zaO,zaP,zaQ,zaR,zaS,zaT,zaU,zaV,zaW,zaX,zaY,zaZ,za0,za1,za2,za3,za4,za5,za6,za7,za8,za9,zba,zbb,zbc,zbd,zbe,zbf,zbg,zbh,zbi,zbj,zbk,zbl,zbm,zbn,zbo,zbp,zbq,zbr,zbs,zbt,zbu,zbv,zbw,zbx,zby,zbz,zbA,zbB,zbC,zbD,zbE,zbF,zbG,zbH,zbI,zbJ,zbK,zbL,zbM,zbN,zbO,zbP,zbQ,zbR,zbS,zbT,zbU,zbV,zbW,zbX,zbY,zbZ,zb0,zb1,zb2,zb3,zb4,zb5,zb6,zb7,zb8,zb9,zca,zcb,eq_self,zcc,zcd,zce,zcf,zcg,zch,zci,zcj,zck,zcl,zcm,List.getElem?_cons_succ,List.getElem?_cons_zero,List.set_cons_succ,List.set_cons_zero,List.map_cons,List.map_nil,List.length_cons,List.length_nil,List.cons_append,List.nil_append,List.append_nil,List.isEmpty_cons,List.isEmpty_nil,if_true,if_false,ite_true,ite_false,Bool.not_true,Bool.not_false,Bool.not_not,decide_true,true_and,and_true,false_and,and_false,Bool.false_eq_true,reduceCtorEq,decide_true,decide_false,ite_self,forall_const,Nat.zero_add,Nat.reduceAdd,Nat.reduceLeDiff,Nat.reduceLT,Nat.reduceEqDiff,Nat.reduceSub,Nat.reduceMul,Nat.reduceBEq,Int.reduceLT,Int.reduceLE,Int.reduceEq,Int.reduceNe,Int.reduceAdd,Int.reduceMul,Int.reduceSub,Int.reduceNeg,Int.reducePow,Int.reduceBEq,Int.reduceToNat,Int.reduceGT,Int.reduceGE,String.reduceBEq,zcn,zco,List.replicate_succ,List.replicate_zero,zcp,zcq,zcr,zcs,zct,zcu,zcv,zcw,zcx,zcy,zcz,zcA,zcB,zcC,zcD,zcE,zcF,zcG,zcH,zcI,zcJ,zcK,zcL,zcM,zcN,zcO,zcP,zcQ,zcR,zcS,zcT,zcU,zcV,zcW,zcX,zcY,zcZ,zc0,zc1,zc2,zc3,zc4,zc5,zc6,zc7,zc8,zc9,zda,zdb,zdc,Bool.true_or,Bool.or_true,Bool.false_or,Bool.or_false,Bool.and_true,Bool.true_and,Bool.and_false,Bool.false_and,Int.cast_ofNat_Int,Int.natCast_zero,Int.natCast_one,beq_self_eq_true,zdd,zde,zdf,zdg,zdh,wipeR,f1,f2,l1,l2,o_ratio_less,o_ratio_over,p_is_lower,c1,c2]
          · rw [if_neg c2]
            simp -dsimp (disch := first | assumption | omega) only [zaa,zab,zac,zad,zae,zaf,zag,zah,zai,zaj,zak,zal,zam,zan,zao,zap,zaq,zar,zas,zat,zau,zav,zaw,zax,zay,zaz,zaA,zaB,zaC,zaD,zaE,zaF,zaG,zaH,zaI,zaJ,zaK,zaL,zaM,zaN,zaO,zaP,zaQ,zaR,zaS,zaT,zaU,zaV,zaW,zaX,zaY,zaZ,za0,za1,za2,za3,za4,za5,za6,za7,za8,za9,zba,zbb,zbc,zbd,zbe,zbf,zbg,zbh,zbi,zbj,zbk,zbl,zbm,zbn,zbo,zbp,zbq,zbr,zbs,zbt,zbu,zbv,zbw,zbx,zby,zbz,zbA,zbB,zbC,zbD,zbE,zbF,zbG,zbH,zbI,zbJ,zbK,zbL,zbM,zbN,zbO,zbP,zbQ,zbR,zbS,zbT,zbU,zbV,zbW,zbX,zbY,zbZ,zb0,zb1,zb2,zb3,zb4,zb5,zb6,zb7,zb8,zb9,zca,zcb,eq_self,zcc,zcd,zce,zcf,zcg,zch,zci,zcj,zck,zcl,zcm,List.getElem?_cons_succ,List.getElem?_cons_zero,List.set_cons_succ,List.set_cons_zero,List.map_cons,List.map_nil,List.length_cons,List.length_nil,List.cons_append,List.nil_append,List.append_nil,List.isEmpty_cons,List.isEmpty_nil,if_true,if_false,ite_true,ite_false,Bool.not_true,Bool.not_false,Bool.not_not,decide_true,true_and,and_true,false_and,and_false,Bool.false_eq_true,reduceCtorEq,decide_true,decide_false,ite_self,forall_const,Nat.zero_add,Nat.reduceAdd,Nat.reduceLeDiff,Nat.reduceLT,Nat.reduceEqDiff,Nat.reduceSub,Nat.reduceMul,Nat.reduceBEq,Int.reduceLT,Int.reduceLE,Int.reduceEq,Int.reduceNe,Int.reduceAdd,Int.reduceMul,Int.reduceSub,Int.reduceNeg,Int.reducePow,Int.reduceBEq,Int.reduceToNat,Int.reduceGT,Int.reduceGE,String.reduceBEq,zcn,zco,List.replicate_succ,List.replicate_zero,zcp,zcq,zcr,zcs,zct,zcu,zcv,zcw,zcx,zcy,zcz,zcA,zcB,zcC,zcD,zcE,zcF,zcG,zcH,zcI,zcJ,zcK,zcL,zcM,zcN,zcO,zcP,zcQ,zcR,zcS,zcT,zcU,zcV,zcW,zcX,zcY,zcZ,zc0,zc1,zc2,zc3,zc4,zc5,zc6,zc7,zc8,zc9,zda,zdb,zdc,Bool.true_or,Bool.or_true,Bool.false_or,Bool.or_false,Bool.and_true,Bool.true_and,Bool.and_false,Bool.false_and,Int.cast_ofNat_Int,Int.natCast_zero,Int.natCast_one,beq_self_eq_true,zdd,zde,zdf,zdg,zdh,wipeR,f1,f2,l1,l2,o_ratio_less,o_ratio_over,p_is_lower,c1,c2]
    · have cf' : f < 0 := by grind
      obtain ⟨f1, f2⟩ := nlt cf'
      by_cases cl : l < 0
      · obtain ⟨l1, l2⟩ := nlt cl
        have e : SH f l lo hi = none := by unfold SH; rw [if_neg (fun z => cf z.1), if_pos ⟨cf', cl⟩]
        rw [e]
        simp -dsimp (disch := first | assumption | omega) only [zaa,zab,zac,zad,zae,zaf,zag,zah,zai,zaj,zak,zal,zam,zan,zao,zap,zaq,zar,zas,zat,zau,zav,zaw,zax,zay,zaz,zaA,zaB,zaC,zaD,zaE,zaF,zaG,zaH,zaI,zaJ,zaK,zaL,zaM,zaN,zaO,zaP,zaQ,zaR,zaS,zaT,zaU,zaV,zaW,zaX,zaY,zaZ,za0,za1,za2,za3,za4,za5,za6,za7,za8,za9,zba,zbb,zbc,zbd,zbe,zbf,zbg,zbh,zbi,zbj,zbk,zbl,zbm,zbn,zbo,zbp,zbq,zbr,zbs,zbt,zbu,zbv,zbw,zbx,zby,zbz,zbA,zbB,zbC,zbD,zbE,zbF,zbG,zbH,zbI,zbJ,zbK,zbL,zbM,zbN,zbO,zbP,zbQ,zbR,zbS,zbT,zbU,zbV,zbW,zbX,zbY,zbZ,zb0,zb1,zb2,zb3,zb4,zb5,zb6,zb7,zb8,zb9,zca,zcb,eq_self,zcc,zcd,zce,zcf,zcg,zch,zci,zcj,zck,zcl,zcm,List.getElem?_cons_succ,List.getElem?_cons_zero,List.set_cons_succ,List.set_cons_zero,List.map_cons,List.map_nil,List.length_cons,List.length_nil,List.cons_append,List.nil_append,List.append_nil,List.isEmpty_cons,List.isEmpty_nil,if_true,if_false,ite_true,ite_false,Bool.not_true,Bool.not_false,Bool.not_not,decide_true,true_and,and_true,false_and,and_false,Bool.false_eq_true,reduceCtorEq,decide_true,decide_false,ite_self,forall_const,Nat.zero_add,Nat.reduceAdd,Nat.reduceLeDiff,Nat.reduceLT,Nat.reduceEqDiff,Nat.reduceSub,Nat.reduceMul,Nat.reduceBEq,Int.reduceLT,Int.reduceLE,Int.reduceEq,Int.reduceNe,Int.reduceAdd,Int.reduceMul,Int.reduceSub,Int.reduceNeg,Int.reducePow,Int.reduceBEq,Int.reduceToNat,Int.reduceGT,Int.reduceGE,String.reduceBEq,zcn,zco,List.replicate_succ,List.replicate_zero,zcp,zcq,zcr,zcs,zct,zcu,zcv,zcw,zcx,zcy,zcz,zcA,zcB,zcC,zcD,zcE,zcF,zcG,zcH,zcI,zcJ,zcK,zcL,zcM,zcN,zcO,zcP,zcQ,zcR,zcS,zcT,zcU,zcV,zcW,zcX,zcY,zcZ,zc0,zc1,zc2,zc3,zc4,zc5,zc6,zc7,zc8,zc9,zda,zdb,zdc,Bool.true_or,Bool.or_true,Bool.false_or,Bool.or_false,Bool.and_true,Bool.true_and,Bool.and_false,Bool.false_and,Int.cast_ofNat_Int,Int.natCast_zero,Int.natCast_one,beq_self_eq_true,zdd,zde,zdf,zdg,zdh,wipeR,f1,f2,l1,l2]
        rfl
      · obtain ⟨l1, l2⟩ := nneg (q := l) (by grind)
        have hd : f - l ≠ 0 := by grind
        have e : SH f l lo hi = if hi < (if lo < f / (f - l) then f / (f - l) else lo) then none else some (if lo < f / (f - l) then f / (f - l) else lo, hi) := by
          unfold SH
          rw [if_neg (fun z => cf z.1), if_neg (fun z => cl z.2), if_pos cf']
        rw [e, fin]
        by_cases c1 : lo < f / (f - l)
        · rw [if_pos c1]
          by_cases c2 : hi < f / (f - l)
          · rw [if_pos c2]
            simp -dsimp (disch := first | assumption | omega) only [zaa,zab,zac,zad,zae,zaf,zag,zah,zai,zaj,zak,zal,zam,zan,zao,zap,zaq,zar,zas,zat,zau,zav,zaw,zax,zay,zaz,zaA,zaB,zaC,zaD,zaE,zaF,zaG,zaH,zaI,zaJ,zaK,zaL,zaM,zaN,zaO,zaP,zaQ,zaR,zaS,zaT,zaU,zaV,zaW,zaX,zaY,zaZ,za0,za1,za2,za3,za4,za5,za6,za7,za8,za9,zba,zbb,zbc,zbd,zbe,zbf,zbg,zbh,zbi,zbj,zbk,zbl,zbm,zbn,zbo,zbp,zbq,zbr,zbs,zbt,zbu,zbv,zbw,zbx,zby,zbz,zbA,zbB,zbC,zbD,zbE,zbF,zbG,zbH,zbI,zbJ,zbK,zbL,zbM,zbN,zbO,zbP,zbQ,zbR,zbS,zbT,zbU,zbV,zbW,zbX,zbY,zbZ,zb0,zb1,zb2,zb3,zb4,zb5,zb6,zb7,zb8,zb9,zca,zcb,eq_self,zcc,zcd,zce,zcf,zcg,zch,zci,zcj,zck,zcl,zcm,List.getElem?_cons_succ,List.getElem?_cons_zero,List.set_cons_succ,List.set_cons_zero,List.map_cons,List.map_nil,List.length_cons,List.length_nil,List.cons_append,List.nil_append,List.append_nil,List.isEmpty_cons,List.isEmpty_nil,if_true,if_false,ite_true,ite_false,Bool.not_true,Bool.not_false,Bool.not_not,decide_true,true_and,and_true,false_and,and_false,Bool.false_eq_true,reduceCtorEq,decide_true,decide_false,ite_self,forall_const,Nat.zero_add,Nat.reduceAdd,Nat.reduceLeDiff,Nat.reduceLT,Nat.reduceEqDiff,Nat.reduceSub,Nat.reduceMul,Nat.reduceBEq,Int.reduceLT,Int.reduceLE,Int.reduceEq,Int.reduceNe,Int.reduceAdd,Int.reduceMul,Int.reduceSub,Int.reduceNeg,Int.reducePow,Int.reduceBEq,Int.reduceToNat,Int.reduceGT,Int.reduceGE,String.reduceBEq,zcn,zco,List.replicate_succ,List.replicate_zero,zcp,zcq,zcr,zcs,zct,zcu,zcv,zcw,zcx,zcy,zcz,zcA,zcB,zcC,zcD,zcE,zcF,zcG,zcH,zcI,zcJ,zcK,zcL,zcM,zcN,zcO,zcP,zcQ,zcR,zcS,zcT,zcU,zcV,zcW,zcX,zcY,zcZ,zc0,zc1,zc2,zc3,zc4,zc5,zc6,zc7,zc8,zc9,zda,zdb,zdc,Bool.true_or,Bool.or_true,Bool.false_or,Bool.or_false,Bool.and_true,Bool.true_and,Bool.and_false,Bool.false_and,Int.cast_ofNat_Int,Int.natCast_zero,Int.natCast_one,beq_self_eq_true,zdd,zde,zdf,zdg,zdh,wipeR,f1,f2,l1,l2,o_ratio_less,o_ratio_over,p_is_lower,c1,c2]
          · rw [if_neg c2]
            simp -dsimp (disch := first | assumption | omega) only [zaa,zab,zac,zad,zae,zaf,zag,zah,zai,zaj,zak,zal,zam,zan,zao,zap,zaq,zar,zas,zat,zau,zav,zaw,zax,zay,zaz,zaA,zaB,zaC,zaD,zaE,zaF,zaG,zaH,zaI,zaJ,zaK,zaL,zaM,zaN,zaO,zaP,zaQ,zaR,zaS,zaT,zaU,zaV,zaW,zaX,zaY,zaZ,za0,za1,za2,za3,za4,za5,za6,za7,za8,za9,zba,zbb,zbc,zbd,zbe,zbf,zbg,zbh,zbi,zbj,zbk,zbl,zbm,zbn,zbo,zbp,zbq,zbr,zbs,zbt,zbu,zbv,zbw,zbx,zby,zbz,zbA,zbB,zbC,zbD,zbE,zbF,zbG,zbH,zbI,zbJ,zbK,zbL,zbM,zbN,zbO,zbP,zbQ,zbR,zbS,zbT,zbU,zbV,zbW,zbX,zbY,zbZ,zb0,zb1,zb2,zb3,zb4,zb5,zb6,zb7,zb8,zb9,zca,zcb,eq_self,zcc,zcd,zce,zcf,zcg,zch,zci,zcj,zck,zcl,zcm,List.getElem?_cons_succ,List.getElem?_cons_zero,List.set_cons_succ,List.set_cons_zero,List.map_cons,List.map_nil,List.length_cons,List.length_nil,List.cons_append,List.nil_append,List.append_nil,List.isEmpty_cons,List.isEmpty_nil,if_true,if_false,ite_true,ite_false,Bool.not_true,Bool.not_false,Bool.not_not,decide_true,true_and,and_true,false_and,and_false,Bool.false_eq_true,reduceCtorEq,decide_true,decide_false,ite_self,forall_const,Nat.zero_add,Nat.reduceAdd,Nat.reduceLeDiff,Nat.reduceLT,Nat.reduceEqDiff,Nat.reduceSub,Nat.reduceMul,Nat.reduceBEq,Int.reduceLT,Int.reduceLE,Int.reduceEq,Int.reduceNe,Int.reduceAdd,Int.reduceMul,Int.reduceSub,Int.reduceNeg,Int.reducePow,Int.reduceBEq,Int.reduceToNat,Int.reduceGT,Int.reduceGE,String.reduceBEq,zcn,zco,List.replicate_succ,List.replicate_zero,zcp,zcq,zcr,zcs,zct,zcu,zcv,zcw,zcx,zcy,zcz,zcA,zcB,zcC,zcD,zcE,zcF,zcG,zcH,zcI,zcJ,zcK,zcL,zcM,zcN,zcO,zcP,zcQ,zcR,zcS,zcT,zcU,zcV,zcW,zcX,zcY,zcZ,zc0,zc1,zc2,zc3,zc4,zc5,zc6,zc7,zc8,zc9,zda,zdb,zdc,Bool.true_or,Bool.or_true,Bool.false_or,Bool.or_false,Bool.and_true,Bool.true_and,Bool.and_false,Bool.false_and,Int.cast_ofNat_Int,Int.natCast_zero,Int.natCast_one,beq_self_eq_true,zdd,zde,zdf,zdg,zdh,wipeR,f1,f2,l1,l2,o_ratio_less,o_ratio_over,p_is_lower,c1,c2]
        · rw [if_neg c1]
          by_cases c2 : hi < lo
          · rw [if_pos c2]
            simp -dsimp (disch := first | assumption | omega) only [zaa,zab,zac,zad,zae,zaf,zag,zah,zai,zaj,zak,zal,zam,zan,zao,zap,zaq,zar,zas,zat,zau,zav,zaw,zax,zay,zaz,zaA,zaB,zaC,zaD,zaE,zaF,zaG,zaH,zaI,zaJ,zaK,zaL,zaM,zaN,zaO,zaP,zaQ,zaR,zaS,zaT,zaU,zaV,zaW,zaX,zaY,zaZ,za0,za1,za2,za3,za4,za5,za6,za7,za8,za9,zba,zbb,zbc,zbd,zbe,zbf,zbg,zbh,zbi,zbj,zbk,zbl,zbm,zbn,zbo,zbp,zbq,zbr,zbs,zbt,zbu,zbv,zbw,zbx,zby,zbz,zbA,zbB,zbC,zbD,zbE,zbF,zbG,zbH,zbI,zbJ,zbK,zbL,zbM,zbN,zbO,zbP,zbQ,zbR,zbS,zbT,zbU,zbV,zbW,zbX,zbY,zbZ,zb0,zb1,zb2,zb3,zb4,zb5,zb6,zb7,zb8,zb9,zca,zcb,eq_self,zcc,zcd,zce,zcf,zcg,zch,zci,zcj,zck,zcl,zcm,List.getElem?_cons_succ,List.getElem?_cons_zero,List.set_cons_succ,List.set_cons_zero,List.map_cons,List.map_nil,List.length_cons,List.length_nil,List.cons_append,List.nil_append,List.append_nil,List.isEmpty_cons,List.isEmpty_nil,if_true,if_false,ite_true,ite_false,Bool.not_true,Bool.not_false,Bool.not_not,decide_true,true_and,and_true,false_and,and_false,Bool.false_eq_true,reduceCtorEq,decide_true,decide_false,ite_self,forall_const,Nat.zero_add,Nat.reduceAdd,Nat.reduceLeDiff,Nat.reduceLT,Nat.reduceEqDiff,Nat.reduceSub,Nat.reduceMul,Nat.reduceBEq,Int.reduceLT,Int.reduceLE,Int.reduceEq,Int.reduceNe,Int.reduceAdd,Int.reduceMul,Int.reduceSub,Int.reduceNeg,Int.reducePow,Int.reduceBEq,Int.reduceToNat,Int.reduceGT,Int.reduceGE,String.reduceBEq,zcn,zco,List.replicate_succ,List.replicate_zero,zcp,zcq,zcr,zcs,zct,zcu,zcv,zcw,zcx,zcy,zcz,zcA,zcB,zcC,zcD,zcE,zcF,zcG,zcH,zcI,zcJ,zcK,zcL,zcM,zcN,zcO,zcP,zcQ,zcR,zcS,zcT,zcU,zcV,zcW,zcX,zcY,zcZ,zc0,zc1,zc2,zc3,zc4,zc5,zc6,zc7,zc8,zc9,zda,zdb,zdc,Bool.true_or,Bool.or_true,Bool.false_or,Bool.or_false,Bool.and_true,Bool.true_and,Bool.and_false,Bool.false_and,Int.cast_ofNat_Int,Int.natCast_zero,Int.natCast_one,beq_self_eq_true,zdd,zde,zdf,zdg,zdh,wipeR,f1,f2,l1,l2,o_ratio_less,o_ratio_over,p_is_lower,c1,c2]
          · rw [if_neg c2]
            simp -dsimp (disch := first | assumption | omega) only [zaa,zab,zac,zad,zae,zaf,zag,zah,zai,zaj,zak,zal,zam,zan,zao,zap,zaq,zar,zas,zat,zau,zav,zaw,zax,zay,zaz,zaA,zaB,zaC,zaD,zaE,zaF,zaG,zaH,zaI,zaJ,zaK,zaL,zaM,zaN,zaO,zaP,zaQ,zaR,zaS,zaT,zaU,zaV,zaW,zaX,zaY,zaZ,za0,za1,za2,za3,za4,za5,za6,za7,za8,za9,zba,zbb,zbc,zbd,zbe,zbf,zbg,zbh,zbi,zbj,zbk,zbl,zbm,zbn,zbo,zbp,zbq,zbr,zbs,zbt,zbu,zbv,zbw,zbx,zby,zbz,zbA,zbB,zbC,zbD,zbE,zbF,zbG,zbH,zbI,zbJ,zbK,zbL,zbM,zbN,zbO,zbP,zbQ,zbR,zbS,zbT,zbU,zbV,zbW,zbX,zbY,zbZ,zb0,zb1,zb2,zb3,zb4,zb5,zb6,zb7,zb8,zb9,zca,zcb,eq_self,zcc,zcd,zce,zcf,zcg,zch,zci,zcj,zck,zcl,zcm,List.getElem?_cons_succ,List.getElem?_cons_zero,List.set_cons_succ,List.set_cons_zero,List.map_cons,List.map_nil,List.length_cons,List.length_nil,List.cons_append,List.nil_append,List.append_nil,List.isEmpty_cons,List.isEmpty_nil,if_true,if_false,ite_true,ite_false,Bool.not_true,Bool.not_false,Bool.not_not,decide_true,true_and,and_true,false_and,and_false,Bool.false_eq_true,reduceCtorEq,decide_true,decide_false,ite_self,forall_const,Nat.zero_add,Nat.reduceAdd,Nat.reduceLeDiff,Nat.reduceLT,Nat.reduceEqDiff,Nat.reduceSub,Nat.reduceMul,Nat.reduceBEq,Int.reduceLT,Int.reduceLE,Int.reduceEq,Int.reduceNe,Int.reduceAdd,Int.reduceMul,Int.reduceSub,Int.reduceNeg,Int.reducePow,Int.reduceBEq,Int.reduceToNat,Int.reduceGT,Int.reduceGE,String.reduceBEq,zcn,zco,List.replicate_succ,List.replicate_zero,zcp,zcq,zcr,zcs,zct,zcu,zcv,zcw,zcx,zcy,zcz,zcA,zcB,zcC,zcD,zcE,zcF,zcG,zcH,zcI,zcJ,zcK,zcL,zcM,zcN,zcO,zcP,zcQ,zcR,zcS,zcT,zcU,zcV,zcW,zcX,zcY,zcZ,zc0,zc1,zc2,zc3,zc4,zc5,zc6,zc7,zc8,zc9,zda,zdb,zdc,Bool.true_or,Bool.or_true,Bool.false_or,Bool.or_false,Bool.and_true,Bool.true_and,Bool.and_false,Bool.false_and,Int.cast_ofNat_Int,Int.natCast_zero,Int.natCast_one,beq_self_eq_true,zdd,zde,zdf,zdg,zdh,wipeR,f1,f2,l1,l2,o_ratio_less,o_ratio_over,p_is_lower,c1,c2]
  rw [e, zaa]
end
end Pm.L


namespace Pm.L
open PySem PySem.Spec L2 Pm
/-! the ways that fall below a corner, between two jets -/
def gA (f l r : Rat) : Rat := f + r * (l - f)
def falls : List (Rat × Rat) → Nat → Rat → Rat → List Nat
  | [], k, _, _ => [k]
  | c :: r, k, lo, hi =>
    if gA c.1 c.2 lo < 0 ∧ gA c.1 c.2 hi < 0 then [k]
    else if gA c.1 c.2 lo < 0 then k :: falls r (k + 1) (c.1 / (c.1 - c.2)) hi
    else if gA c.1 c.2 hi < 0 then k :: falls r (k + 1) lo (c.1 / (c.1 - c.2))
    else falls r (k + 1) lo hi
/-- the first corner that the jet at a share is below -/
def firstB (r : Rat) : List (Rat × Rat) → Nat → Nat
  | [], k => k
  | c :: cs, k => if gA c.1 c.2 r < 0 then k else firstB r cs (k + 1)
section
variable {f l lo hi r : Rat}
theorem mn (a : Rat) {x y : Rat} (h : 0 ≤ a) (h2 : x ≤ y) : a * x ≤ a * y := Rat.mul_le_mul_of_nonneg_left h2 h
theorem gA_sw : gA l f (1 - r) = gA f l r := by unfold gA; grind
theorem gA_cut (h : f ≠ l) : gA f l (f / (f - l)) = 0 := by
  unfold gA
  have : f - l ≠ 0 := by grind
  grind
/-- where it lies by the ends -/
theorem gA_mono (h : lo ≤ hi) (h1 : gA f l lo < 0) (h2 : ¬ gA f l hi < 0) : f < l := by
  unfold gA at *
  by_cases c : f < l
  · exact c
  · have := mn (f - l) (by grind) h
    grind
theorem gA_anti (h : lo ≤ hi) (h1 : ¬ gA f l lo < 0) (h2 : gA f l hi < 0) : l < f := by
  unfold gA at *
  by_cases c : l < f
  · exact c
  · have := mn (l - f) (by grind) h
    grind
/-- below the cut it is below 0, if it rises -/
theorem gA_lt (h : f < l) : gA f l r < 0 ↔ r < f / (f - l) := by
  have hd : 0 < l - f := by grind
  have e : f / (f - l) = -f / (l - f) := by grind
  have e2 : gA f l r = (r - -f / (l - f)) * (l - f) := by unfold gA; grind
  rw [e, e2]
  constructor
  · intro z
    by_cases c : r < -f / (l - f)
    · exact c
    · have := Rat.mul_nonneg (show 0 ≤ r - -f / (l - f) by grind) (Rat.le_of_lt hd)
      grind
  · intro z
    have := Rat.mul_pos (show 0 < -f / (l - f) - r by grind) hd
    grind
theorem gA_gt (h : l < f) : gA f l r < 0 ↔ f / (f - l) < r := by
  rw [← gA_sw, gA_lt h]
  have e : l / (l - f) = 1 - f / (f - l) := by
    have : f - l ≠ 0 := by grind
    grind
  rw [e]
  constructor <;> intro z <;> grind
/-- what stands between is not below 0 if the ends are not, .. -/
theorem gA_between (h1 : lo ≤ r) (h2 : r ≤ hi) (a : ¬ gA f l lo < 0) (b : ¬ gA f l hi < 0) : ¬ gA f l r < 0 := by
  rcases rtri f l with c | c | c
  · rw [gA_lt c] at *
    grind
  · subst c
    unfold gA at *
    grind
  · rw [gA_gt c] at *
    grind
theorem gA_both (h1 : lo ≤ r) (h2 : r ≤ hi) (a : gA f l lo < 0) (b : gA f l hi < 0) : gA f l r < 0 := by
  rcases rtri f l with c | c | c
  · rw [gA_lt c] at *
    grind
  · subst c
    unfold gA at *
    grind
  · rw [gA_gt c] at *
    grind
end
theorem falls_first : ∀ (cs : List (Rat × Rat)) (k : Nat) (lo hi r : Rat), lo ≤ r → r ≤ hi → firstB r cs k ∈ falls cs k lo hi
  | [], k, lo, hi, r, _, _ => by simp [falls, firstB]
  | c :: cs, k, lo, hi, r, h1, h2 => by
    have hh : lo ≤ hi := by grind
    unfold falls firstB
    by_cases a : gA c.1 c.2 lo < 0
    · by_cases b : gA c.1 c.2 hi < 0
      · rw [if_pos ⟨a, b⟩, if_pos (gA_both h1 h2 a b)]
        simp
      · have hf := gA_mono hh a b
        rw [if_neg (fun z => b z.2), if_pos a]
        by_cases e : gA c.1 c.2 r < 0
        · rw [if_pos e]; simp
        · rw [if_neg e]
          exact List.mem_cons_of_mem _ (falls_first cs (k + 1) _ _ r (by rw [gA_lt hf] at e; grind) h2)
    · rw [if_neg (fun z => a z.1), if_neg a]
      by_cases b : gA c.1 c.2 hi < 0
      · have hf := gA_anti hh a b
        rw [if_pos b]
        by_cases e : gA c.1 c.2 r < 0
        · rw [if_pos e]; simp
        · rw [if_neg e]
          exact List.mem_cons_of_mem _ (falls_first cs (k + 1) _ _ r h1 (by rw [gA_gt hf] at e; grind))
      · rw [if_neg b, if_neg (gA_between h1 h2 a b)]
        exact falls_first cs (k + 1) _ _ r h1 h2
theorem falls_sw : ∀ (cs : List (Rat × Rat)) (k : Nat) (lo hi : Rat), lo ≤ hi → falls (cs.map fun c => (c.2, c.1)) k (1 - hi) (1 - lo) = falls cs k lo hi
  | [], k, lo, hi, _ => rfl
  | c :: cs, k, lo, hi, hh => by
    simp only [List.map_cons, falls, gA_sw]
    by_cases a : gA c.1 c.2 lo < 0
    · by_cases b : gA c.1 c.2 hi < 0
      · rw [if_pos ⟨b, a⟩, if_pos ⟨a, b⟩]
      · have hf := gA_mono hh a b
        have e : c.2 / (c.2 - c.1) = 1 - c.1 / (c.1 - c.2) := by
          have : c.1 - c.2 ≠ 0 := by grind
          grind
        rw [if_neg (fun z => b z.1), if_neg b, if_pos a, if_neg (fun z => b z.2), if_pos a, e]
        rw [falls_sw cs (k + 1) _ _ (by rw [gA_lt hf] at b; grind)]
    · by_cases b : gA c.1 c.2 hi < 0
      · have hf := gA_anti hh a b
        have e : c.2 / (c.2 - c.1) = 1 - c.1 / (c.1 - c.2) := by
          have : c.1 - c.2 ≠ 0 := by grind
          grind
        rw [if_neg (fun z => a z.2), if_pos b, if_neg (fun z => a z.1), if_neg a, if_pos b, e]
        rw [falls_sw cs (k + 1) _ _ (by rw [gA_gt hf] at a; grind)]
      · rw [if_neg (fun z => a z.2), if_neg b, if_neg a, if_neg (fun z => a z.1), if_neg a, if_neg b]
        exact falls_sw cs (k + 1) _ _ hh
theorem falls_same : ∀ (cs : List (Rat × Rat)) (k : Nat) (lo hi r : Rat), (∀ c ∈ cs, c.1 = c.2) → falls cs k lo hi = [firstB r cs k]
  | [], k, lo, hi, r, _ => rfl
  | c :: cs, k, lo, hi, r, h => by
    have hc := h c (by simp)
    have e : ∀ x, gA c.1 c.2 x = c.1 := fun x => by unfold gA; rw [hc]; grind
    unfold falls firstB
    rw [e, e, e]
    by_cases a : c.1 < 0
    · rw [if_pos ⟨a, a⟩, if_pos a]
    · rw [if_neg (fun z => a z.1), if_neg a, if_neg a, if_neg a]
      exact falls_same cs (k + 1) lo hi r fun d hd => h d (by simp [hd])
theorem falls_range : ∀ (cs : List (Rat × Rat)) (k : Nat) (lo hi : Rat), ∀ i ∈ falls cs k lo hi, k ≤ i ∧ i ≤ k + cs.length
  | [], k, lo, hi, i, h => by simp [falls] at h; simp [h]
  | c :: cs, k, lo, hi, i, h => by
    have ih := fun lo hi => falls_range cs (k + 1) lo hi i
    unfold falls at h
    simp only [List.length_cons]
    split at h
    · simp at h; omega
    · split at h
      · rcases List.mem_cons.mp h with e | e
        · omega
        · have := ih _ _ e; omega
      · split at h
        · rcases List.mem_cons.mp h with e | e
          · omega
          · have := ih _ _ e; omega
        · have := ih _ _ h; omega
/-- what the program's narrowing of shares does -/
theorem sh_step {f l lo hi : Rat} (h0 : 0 ≤ lo) (h1 : lo ≤ hi) (h2 : hi ≤ 1) : SH f l lo hi = if gA f l lo < 0 ∧ gA f l hi < 0 then none else if gA f l lo < 0 then some (f / (f - l), hi) else if gA f l hi < 0 then some (lo, f / (f - l)) else some (lo, hi) := by
  have g0 : gA f l 0 = f := by unfold gA; grind
  have g1 : gA f l 1 = l := by unfold gA; grind
  rcases rtri f l with c | c | c
  · have k := fun r => gA_lt (r := r) c
    by_cases cf : f < 0
    · by_cases cl : l < 0
      · have z : ∀ r, 0 ≤ r → r ≤ 1 → gA f l r < 0 := fun r a b => gA_both a b (by rw [g0]; exact cf) (by rw [g1]; exact cl)
        rw [if_pos ⟨z lo h0 (by grind), z hi (by grind) h2⟩]
        unfold SH
        rw [if_neg (by grind), if_pos ⟨cf, cl⟩]
      · unfold SH
        rw [if_neg (by grind), if_neg (by grind), if_pos cf]
        simp only [k]
        generalize f / (f - l) = t
        by_cases a : lo < t
        · by_cases b : hi < t
          · rw [if_pos a, if_pos b, if_pos ⟨a, b⟩]
          · rw [if_pos a, if_neg b, if_neg (fun z => b z.2), if_pos a]
        · have b : ¬ hi < t := by grind
          rw [if_neg a, if_neg (by grind), if_neg (fun z => a z.1), if_neg a, if_neg b]
    · have z : ∀ r, 0 ≤ r → r ≤ 1 → ¬ gA f l r < 0 := fun r a b => gA_between a b (by rw [g0]; exact cf) (by rw [g1]; grind)
      have a := z lo h0 (by grind)
      have b := z hi (by grind) h2
      rw [if_neg (fun z => a z.1), if_neg a, if_neg b]
      unfold SH
      rw [if_pos (by grind)]
  · subst c
    have e : ∀ r, gA f f r = f := fun r => by unfold gA; grind
    rw [e, e]
    unfold SH
    by_cases cf : f < 0
    · rw [if_neg (by grind), if_pos ⟨cf, cf⟩, if_pos ⟨cf, cf⟩]
    · rw [if_pos (by grind), if_neg (fun z => cf z.1), if_neg cf, if_neg cf]
  · have k := fun r => gA_gt (r := r) c
    by_cases cl : l < 0
    · by_cases cf : f < 0
      · have z : ∀ r, 0 ≤ r → r ≤ 1 → gA f l r < 0 := fun r a b => gA_both a b (by rw [g0]; exact cf) (by rw [g1]; exact cl)
        rw [if_pos ⟨z lo h0 (by grind), z hi (by grind) h2⟩]
        unfold SH
        rw [if_neg (by grind), if_pos ⟨cf, cl⟩]
      · unfold SH
        rw [if_neg (by grind), if_neg (by grind), if_neg cf]
        simp only [k]
        generalize f / (f - l) = t
        by_cases b : t < hi
        · by_cases a : t < lo
          · rw [if_pos b, if_pos a, if_pos ⟨a, b⟩]
          · rw [if_pos b, if_neg a, if_neg (fun z => a z.1), if_neg a, if_pos b]
        · have a : ¬ t < lo := by grind
          rw [if_neg b, if_neg (by grind), if_neg (fun z => a z.1), if_neg a, if_neg b]
    · have z : ∀ r, 0 ≤ r → r ≤ 1 → ¬ gA f l r < 0 := fun r a b => gA_between a b (by rw [g0]; grind) (by rw [g1]; exact cl)
      have a := z lo h0 (by grind)
      have b := z hi (by grind) h2
      rw [if_neg (fun z => a z.1), if_neg a, if_neg b]
      unfold SH
      rw [if_pos (by grind)]
end Pm.L


namespace Pm.L
open PySem PySem.Spec L2 Pm
abbrev hi (s b X Y : Rat) : Rat := X * (s - b * X) - Y
abbrev hiC (s b : Rat) (c : Rat × Rat) : Rat := hi s b c.1 c.2
def fbL : List Rat → Nat → Nat
  | [], k => k
  | q :: qs, k => if q < 0 then k else fbL qs (k + 1)
def wordS (i n : Nat) : Str := if i = 0 then "short" else if i = n then "past" else "strikes"
section
variable {S : Sto} {Q : PV → Sto → Prop}
theorem Ok_enum_tup {xs : List PV} {S : Sto} {Q : Src → Sto → Prop} : Ok (enumA [.tup xs] S) Q = Q ⟨enumF 0 xs, fun _ => True⟩ S := rfl
theorem enumF_get : ∀ (ps : List PV) (s : Int) (k : Nat), (enumF s ps)[k]? = ps[k]?.map fun p => PV.tup [.int (s + (k : Nat)), p]
  | [], _, _ => by simp [enumF]
  | p :: ps, s, 0 => by simp [enumF]
  | p :: ps, s, k + 1 => by
    simp only [enumF, List.getElem?_cons_succ]
    rw [enumF_get ps (s + 1) k]
    congr 2
    funext q
    congr 3
    omega
theorem enumF_len : ∀ (ps : List PV) (s : Int), (enumF s ps).length = ps.length
  | [], _ => rfl
  | p :: ps, s => by simp [enumF, enumF_len ps (s + 1)]
theorem p_is_below {s b : Rat} {k l : Nat} [hs : Sz s k] [hb : Sz b l] {c : Rat × Rat} (h1 : Sz c.1 40) (h2 : Sz c.2 100) (hk : k + l ≤ 500) : Ok (m_is_below [jv s b, plP c] S) Q = Q (.bl (decide (hiC s b c < 0))) S := by
  have e : m_is_below [jv s b, plP c] S = .ok (.bl (decide (hiC s b c < 0))) S := by
    refine Ok.eq (Ok_defM rfl ?_)
    have : (c.1 * (s - b * c.1) < c.2) = (hiC s b c < 0) := by
      unfold hiC hi
      apply propext
      constructor <;> intro z <;> grind
    simp -dsimp (disch := first | assumption | omega) only [zaa,zab,zac,zad,zae,zaf,zag,zah,zai,zaj,zak,zal,zam,zan,zao,zap,zaq,zar,zas,zat,zau,zav,zaw,zax,zay,zaz,zaA,zaB,zaC,zaD,zaE,zaF,zaG,zaH,zaI,zaJ,zaK,zaL,zaM,zaN,zaO,zaP,zaQ,zaR,zaS,zaT,zaU,zaV,zaW,zaX,zaY,zaZ,za0,za1,za2,za3,za4,za5,za6,za7,za8,za9,zba,zbb,zbc,zbd,zbe,zbf,zbg,zbh,zbi,zbj,zbk,zbl,zbm,zbn,zbo,zbp,zbq,zbr,zbs,zbt,zbu,zbv,zbw,zbx,zby,zbz,zbA,zbB,zbC,zbD,zbE,zbF,zbG,zbH,zbI,zbJ,zbK,zbL,zbM,zbN,zbO,zbP,zbQ,zbR,zbS,zbT,zbU,zbV,zbW,zbX,zbY,zbZ,zb0,zb1,zb2,zb3,zb4,zb5,zb6,zb7,zb8,zb9,zca,zcb,eq_self,zcc,zcd,zce,zcf,zcg,zch,zci,zcj,zck,zcl,zcm,List.getElem?_cons_succ,List.getElem?_cons_zero,List.set_cons_succ,List.set_cons_zero,List.map_cons,List.map_nil,List.length_cons,List.length_nil,List.cons_append,List.nil_append,List.append_nil,List.isEmpty_cons,List.isEmpty_nil,if_true,if_false,ite_true,ite_false,Bool.not_true,Bool.not_false,Bool.not_not,decide_true,true_and,and_true,false_and,and_false,Bool.false_eq_true,reduceCtorEq,decide_true,decide_false,ite_self,forall_const,Nat.zero_add,Nat.reduceAdd,Nat.reduceLeDiff,Nat.reduceLT,Nat.reduceEqDiff,Nat.reduceSub,Nat.reduceMul,Nat.reduceBEq,Int.reduceLT,Int.reduceLE,Int.reduceEq,Int.reduceNe,Int.reduceAdd,Int.reduceMul,Int.reduceSub,Int.reduceNeg,Int.reducePow,Int.reduceBEq,Int.reduceToNat,Int.reduceGT,Int.reduceGE,String.reduceBEq,zcn,zco,List.replicate_succ,List.replicate_zero,zcp,zcq,zcr,zcs,zct,zcu,zcv,zcw,zcx,zcy,zcz,zcA,zcB,zcC,zcD,zcE,zcF,zcG,zcH,zcI,zcJ,zcK,zcL,zcM,zcN,zcO,zcP,zcQ,zcR,zcS,zcT,zcU,zcV,zcW,zcX,zcY,zcZ,zc0,zc1,zc2,zc3,zc4,zc5,zc6,zc7,zc8,zc9,zda,zdb,zdc,Bool.true_or,Bool.or_true,Bool.false_or,Bool.or_false,Bool.and_true,Bool.true_and,Bool.and_false,Bool.false_and,Int.cast_ofNat_Int,Int.natCast_zero,Int.natCast_one,beq_self_eq_true,zdd,zde,zdf,zdg,zdh,wipeR,o_far_of,o_tall_of,o_height_of_jet,p_is_lower,this]
  rw [e, zaa]
/-- enumerated corners -/
theorem en_get {C : List (Rat × Rat)} {i : Nat} {p : PV} (h : (enumF 0 (C.map plP))[i]? = some p) : ∃ c, C[i]? = some c ∧ p = .tup [.int (i : Nat), plP c] := by
  rw [enumF_get, List.getElem?_map, Option.map_eq_some_iff] at h
  obtain ⟨q, h1, rfl⟩ := h
  rw [Option.map_eq_some_iff] at h1
  obtain ⟨c, h1, rfl⟩ := h1
  exact ⟨c, h1, by rw [Int.zero_add]⟩
theorem fbL_le : ∀ (L : List Rat) (k : Nat), k ≤ fbL L k ∧ fbL L k ≤ k + L.length
  | [], k => by simp [fbL]
  | q :: qs, k => by
    have := fbL_le qs (k + 1)
    unfold fbL
    split
    · simp
    · simp only [List.length_cons]; omega
theorem drop_at {α : Type} {C : List α} {i : Nat} {c : α} (h : C[i]? = some c) : C.drop i = c :: C.drop (i + 1) := by
  obtain ⟨hi, rfl⟩ := List.getElem?_eq_some_iff.mp h
  exact List.drop_eq_getElem_cons hi
section
variable {s b : Rat} {k l : Nat} [hs : Sz s k] [hb : Sz b l] {C : List (Rat × Rat)}
theorem p_first_below (hC : Cor C) (hk : k + l ≤ 500) : Ok (m_first_below [jv s b, .tup (C.map plP)] S) Q = Q (.int (fbL (C.map (hiC s b)) 0 : Nat)) S := by
  have e : m_first_below [jv s b, .tup (C.map plP)] S = .ok (.int (fbL (C.map (hiC s b)) 0 : Nat)) S := by
    refine Ok.eq (Ok_defM rfl ?_)
    simp -dsimp (disch := first | assumption | omega) only [zaa,zab,zac,zad,zae,zaf,zag,zah,zai,zaj,zak,zal,zam,zan,zao,zap,zaq,zar,zas,zat,zau,zav,zaw,zax,zay,zaz,zaA,zaB,zaC,zaD,zaE,zaF,zaG,zaH,zaI,zaJ,zaK,zaL,zaM,zaN,zaO,zaP,zaQ,zaR,zaS,zaT,zaU,zaV,zaW,zaX,zaY,zaZ,za0,za1,za2,za3,za4,za5,za6,za7,za8,za9,zba,zbb,zbc,zbd,zbe,zbf,zbg,zbh,zbi,zbj,zbk,zbl,zbm,zbn,zbo,zbp,zbq,zbr,zbs,zbt,zbu,zbv,zbw,zbx,zby,zbz,zbA,zbB,zbC,zbD,zbE,zbF,zbG,zbH,zbI,zbJ,zbK,zbL,zbM,zbN,zbO,zbP,zbQ,zbR,zbS,zbT,zbU,zbV,zbW,zbX,zbY,zbZ,zb0,zb1,zb2,zb3,zb4,zb5,zb6,zb7,zb8,zb9,zca,zcb,eq_self,zcc,zcd,zce,zcf,zcg,zch,zci,zcj,zck,zcl,zcm,List.getElem?_cons_succ,List.getElem?_cons_zero,List.set_cons_succ,List.set_cons_zero,List.map_cons,List.map_nil,List.length_cons,List.length_nil,List.cons_append,List.nil_append,List.append_nil,List.isEmpty_cons,List.isEmpty_nil,if_true,if_false,ite_true,ite_false,Bool.not_true,Bool.not_false,Bool.not_not,decide_true,true_and,and_true,false_and,and_false,Bool.false_eq_true,reduceCtorEq,decide_true,decide_false,ite_self,forall_const,Nat.zero_add,Nat.reduceAdd,Nat.reduceLeDiff,Nat.reduceLT,Nat.reduceEqDiff,Nat.reduceSub,Nat.reduceMul,Nat.reduceBEq,Int.reduceLT,Int.reduceLE,Int.reduceEq,Int.reduceNe,Int.reduceAdd,Int.reduceMul,Int.reduceSub,Int.reduceNeg,Int.reducePow,Int.reduceBEq,Int.reduceToNat,Int.reduceGT,Int.reduceGE,String.reduceBEq,zcn,zco,List.replicate_succ,List.replicate_zero,zcp,zcq,zcr,zcs,zct,zcu,zcv,zcw,zcx,zcy,zcz,zcA,zcB,zcC,zcD,zcE,zcF,zcG,zcH,zcI,zcJ,zcK,zcL,zcM,zcN,zcO,zcP,zcQ,zcR,zcS,zcT,zcU,zcV,zcW,zcX,zcY,zcZ,zc0,zc1,zc2,zc3,zc4,zc5,zc6,zc7,zc8,zc9,zda,zdb,zdc,Bool.true_or,Bool.or_true,Bool.false_or,Bool.or_false,Bool.and_true,Bool.true_and,Bool.and_false,Bool.false_and,Int.cast_ofNat_Int,Int.natCast_zero,Int.natCast_one,beq_self_eq_true,zdd,wipeR,Ok_enum_tup]
    refine Ok_for (fun i ρ S' => S = S' ∧ fbL ((C.drop i).map (hiC s b)) i = fbL (C.map (hiC s b)) 0 ∧ ∃ z2 z3, ρ = [some (jv s b), some (.tup (C.map plP)), z2, z3]) ⟨rfl, rfl, _, _, rfl⟩ ?_ ?_
    · rintro i p ρ S' hp ⟨rfl, hf, z2, z3, rfl⟩
      obtain ⟨c, hc, rfl⟩ := en_get hp
      obtain ⟨c0, c1, c2⟩ := hC.pos c (List.mem_of_getElem? hc)
      rw [drop_at hc, List.map_cons, fbL] at hf
      by_cases a : hiC s b c < 0
      · rw [if_pos a] at hf
        simp -dsimp (disch := first | assumption | omega) only [zaa,zab,zac,zad,zae,zaf,zag,zah,zai,zaj,zak,zal,zam,zan,zao,zap,zaq,zar,zas,zat,zau,zav,zaw,zax,zay,zaz,zaA,zaB,zaC,zaD,zaE,zaF,zaG,zaH,zaI,zaJ,zaK,zaL,zaM,zaN,zaO,zaP,zaQ,zaR,zaS,zaT,zaU,zaV,zaW,zaX,zaY,zaZ,za0,za1,za2,za3,za4,za5,za6,za7,za8,za9,zba,zbb,zbc,zbd,zbe,zbf,zbg,zbh,zbi,zbj,zbk,zbl,zbm,zbn,zbo,zbp,zbq,zbr,zbs,zbt,zbu,zbv,zbw,zbx,zby,zbz,zbA,zbB,zbC,zbD,zbE,zbF,zbG,zbH,zbI,zbJ,zbK,zbL,zbM,zbN,zbO,zbP,zbQ,zbR,zbS,zbT,zbU,zbV,zbW,zbX,zbY,zbZ,zb0,zb1,zb2,zb3,zb4,zb5,zb6,zb7,zb8,zb9,zca,zcb,eq_self,zcc,zcd,zce,zcf,zcg,zch,zci,zcj,zck,zcl,zcm,List.getElem?_cons_succ,List.getElem?_cons_zero,List.set_cons_succ,List.set_cons_zero,List.map_cons,List.map_nil,List.length_cons,List.length_nil,List.cons_append,List.nil_append,List.append_nil,List.isEmpty_cons,List.isEmpty_nil,if_true,if_false,ite_true,ite_false,Bool.not_true,Bool.not_false,Bool.not_not,decide_true,true_and,and_true,false_and,and_false,Bool.false_eq_true,reduceCtorEq,decide_true,decide_false,ite_self,forall_const,Nat.zero_add,Nat.reduceAdd,Nat.reduceLeDiff,Nat.reduceLT,Nat.reduceEqDiff,Nat.reduceSub,Nat.reduceMul,Nat.reduceBEq,Int.reduceLT,Int.reduceLE,Int.reduceEq,Int.reduceNe,Int.reduceAdd,Int.reduceMul,Int.reduceSub,Int.reduceNeg,Int.reducePow,Int.reduceBEq,Int.reduceToNat,Int.reduceGT,Int.reduceGE,String.reduceBEq,zcn,zco,List.replicate_succ,List.replicate_zero,zcp,zcq,zcr,zcs,zct,zcu,zcv,zcw,zcx,zcy,zcz,zcA,zcB,zcC,zcD,zcE,zcF,zcG,zcH,zcI,zcJ,zcK,zcL,zcM,zcN,zcO,zcP,zcQ,zcR,zcS,zcT,zcU,zcV,zcW,zcX,zcY,zcZ,zc0,zc1,zc2,zc3,zc4,zc5,zc6,zc7,zc8,zc9,zda,zdb,zdc,Bool.true_or,Bool.or_true,Bool.false_or,Bool.or_false,Bool.and_true,Bool.true_and,Bool.and_false,Bool.false_and,Int.cast_ofNat_Int,Int.natCast_zero,Int.natCast_one,beq_self_eq_true,zdd,zde,zdf,zdg,zdh,wipeR,p_is_below c1 c2 hk,a,hf]
      · rw [if_neg a] at hf
        simp -dsimp (disch := first | assumption | omega) only [zaa,zab,zac,zad,zae,zaf,zag,zah,zai,zaj,zak,zal,zam,zan,zao,zap,zaq,zar,zas,zat,zau,zav,zaw,zax,zay,zaz,zaA,zaB,zaC,zaD,zaE,zaF,zaG,zaH,zaI,zaJ,zaK,zaL,zaM,zaN,zaO,zaP,zaQ,zaR,zaS,zaT,zaU,zaV,zaW,zaX,zaY,zaZ,za0,za1,za2,za3,za4,za5,za6,za7,za8,za9,zba,zbb,zbc,zbd,zbe,zbf,zbg,zbh,zbi,zbj,zbk,zbl,zbm,zbn,zbo,zbp,zbq,zbr,zbs,zbt,zbu,zbv,zbw,zbx,zby,zbz,zbA,zbB,zbC,zbD,zbE,zbF,zbG,zbH,zbI,zbJ,zbK,zbL,zbM,zbN,zbO,zbP,zbQ,zbR,zbS,zbT,zbU,zbV,zbW,zbX,zbY,zbZ,zb0,zb1,zb2,zb3,zb4,zb5,zb6,zb7,zb8,zb9,zca,zcb,eq_self,zcc,zcd,zce,zcf,zcg,zch,zci,zcj,zck,zcl,zcm,List.getElem?_cons_succ,List.getElem?_cons_zero,List.set_cons_succ,List.set_cons_zero,List.map_cons,List.map_nil,List.length_cons,List.length_nil,List.cons_append,List.nil_append,List.append_nil,List.isEmpty_cons,List.isEmpty_nil,if_true,if_false,ite_true,ite_false,Bool.not_true,Bool.not_false,Bool.not_not,decide_true,true_and,and_true,false_and,and_false,Bool.false_eq_true,reduceCtorEq,decide_true,decide_false,ite_self,forall_const,Nat.zero_add,Nat.reduceAdd,Nat.reduceLeDiff,Nat.reduceLT,Nat.reduceEqDiff,Nat.reduceSub,Nat.reduceMul,Nat.reduceBEq,Int.reduceLT,Int.reduceLE,Int.reduceEq,Int.reduceNe,Int.reduceAdd,Int.reduceMul,Int.reduceSub,Int.reduceNeg,Int.reducePow,Int.reduceBEq,Int.reduceToNat,Int.reduceGT,Int.reduceGE,String.reduceBEq,zcn,zco,List.replicate_succ,List.replicate_zero,zcp,zcq,zcr,zcs,zct,zcu,zcv,zcw,zcx,zcy,zcz,zcA,zcB,zcC,zcD,zcE,zcF,zcG,zcH,zcI,zcJ,zcK,zcL,zcM,zcN,zcO,zcP,zcQ,zcR,zcS,zcT,zcU,zcV,zcW,zcX,zcY,zcZ,zc0,zc1,zc2,zc3,zc4,zc5,zc6,zc7,zc8,zc9,zda,zdb,zdc,Bool.true_or,Bool.or_true,Bool.false_or,Bool.or_false,Bool.and_true,Bool.true_and,Bool.and_false,Bool.false_and,Int.cast_ofNat_Int,Int.natCast_zero,Int.natCast_one,beq_self_eq_true,zdd,zde,zdf,zdg,zdh,wipeR,p_is_below c1 c2 hk,a]
        exact ⟨hf, _, _, rfl⟩
    · rintro ρ S' ⟨rfl, hf, z2, z3, rfl⟩
      have e2 : ((C.map plP).length : Int) = (fbL (C.map (hiC s b)) 0 : Nat) := by
        rw [enumF_len, List.length_map, List.drop_length, List.map_nil, fbL] at hf
        rw [List.length_map, ← hf]
      simp -dsimp (disch := first | assumption | omega) only [zaa,zab,zac,zad,zae,zaf,zag,zah,zai,zaj,zak,zal,zam,zan,zao,zap,zaq,zar,zas,zat,zau,zav,zaw,zax,zay,zaz,zaA,zaB,zaC,zaD,zaE,zaF,zaG,zaH,zaI,zaJ,zaK,zaL,zaM,zaN,zaO,zaP,zaQ,zaR,zaS,zaT,zaU,zaV,zaW,zaX,zaY,zaZ,za0,za1,za2,za3,za4,za5,za6,za7,za8,za9,zba,zbb,zbc,zbd,zbe,zbf,zbg,zbh,zbi,zbj,zbk,zbl,zbm,zbn,zbo,zbp,zbq,zbr,zbs,zbt,zbu,zbv,zbw,zbx,zby,zbz,zbA,zbB,zbC,zbD,zbE,zbF,zbG,zbH,zbI,zbJ,zbK,zbL,zbM,zbN,zbO,zbP,zbQ,zbR,zbS,zbT,zbU,zbV,zbW,zbX,zbY,zbZ,zb0,zb1,zb2,zb3,zb4,zb5,zb6,zb7,zb8,zb9,zca,zcb,eq_self,zcc,zcd,zce,zcf,zcg,zch,zci,zcj,zck,zcl,zcm,List.getElem?_cons_succ,List.getElem?_cons_zero,List.set_cons_succ,List.set_cons_zero,List.map_cons,List.map_nil,List.length_cons,List.length_nil,List.cons_append,List.nil_append,List.append_nil,List.isEmpty_cons,List.isEmpty_nil,if_true,if_false,ite_true,ite_false,Bool.not_true,Bool.not_false,Bool.not_not,decide_true,true_and,and_true,false_and,and_false,Bool.false_eq_true,reduceCtorEq,decide_true,decide_false,ite_self,forall_const,Nat.zero_add,Nat.reduceAdd,Nat.reduceLeDiff,Nat.reduceLT,Nat.reduceEqDiff,Nat.reduceSub,Nat.reduceMul,Nat.reduceBEq,Int.reduceLT,Int.reduceLE,Int.reduceEq,Int.reduceNe,Int.reduceAdd,Int.reduceMul,Int.reduceSub,Int.reduceNeg,Int.reducePow,Int.reduceBEq,Int.reduceToNat,Int.reduceGT,Int.reduceGE,String.reduceBEq,zcn,zco,List.replicate_succ,List.replicate_zero,zcp,zcq,zcr,zcs,zct,zcu,zcv,zcw,zcx,zcy,zcz,zcA,zcB,zcC,zcD,zcE,zcF,zcG,zcH,zcI,zcJ,zcK,zcL,zcM,zcN,zcO,zcP,zcQ,zcR,zcS,zcT,zcU,zcV,zcW,zcX,zcY,zcZ,zc0,zc1,zc2,zc3,zc4,zc5,zc6,zc7,zc8,zc9,zda,zdb,zdc,Bool.true_or,Bool.or_true,Bool.false_or,Bool.or_false,Bool.and_true,Bool.true_and,Bool.and_false,Bool.false_and,Int.cast_ofNat_Int,Int.natCast_zero,Int.natCast_one,beq_self_eq_true,zdd,zde,zdf,zdg,zdh,wipeR,e2]
  rw [e, zaa]
theorem p_check_ground (hC : Cor C) (h2 : 2 ≤ C.length) (h5 : C.length ≤ 5) : Ok (m_check_ground [.tup (C.map plP)] S) Q = Q .non S := by
  have e : m_check_ground [.tup (C.map plP)] S = .ok .non S := by
    refine Ok.eq (Ok_defM rfl ?_)
    have hl : ¬ (((C.map plP).length : Nat) : Int) < 2 := by rw [List.length_map]; omega
    simp -dsimp (disch := first | assumption | omega) only [zaa,zab,zac,zad,zae,zaf,zag,zah,zai,zaj,zak,zal,zam,zan,zao,zap,zaq,zar,zas,zat,zau,zav,zaw,zax,zay,zaz,zaA,zaB,zaC,zaD,zaE,zaF,zaG,zaH,zaI,zaJ,zaK,zaL,zaM,zaN,zaO,zaP,zaQ,zaR,zaS,zaT,zaU,zaV,zaW,zaX,zaY,zaZ,za0,za1,za2,za3,za4,za5,za6,za7,za8,za9,zba,zbb,zbc,zbd,zbe,zbf,zbg,zbh,zbi,zbj,zbk,zbl,zbm,zbn,zbo,zbp,zbq,zbr,zbs,zbt,zbu,zbv,zbw,zbx,zby,zbz,zbA,zbB,zbC,zbD,zbE,zbF,zbG,zbH,zbI,zbJ,zbK,zbL,zbM,zbN,zbO,zbP,zbQ,zbR,zbS,zbT,zbU,zbV,zbW,zbX,zbY,zbZ,zb0,zb1,zb2,zb3,zb4,zb5,zb6,zb7,zb8,zb9,zca,zcb,eq_self,zcc,zcd,zce,zcf,zcg,zch,zci,zcj,zck,zcl,zcm,List.getElem?_cons_succ,List.getElem?_cons_zero,List.set_cons_succ,List.set_cons_zero,List.map_cons,List.map_nil,List.length_cons,List.length_nil,List.cons_append,List.nil_append,List.append_nil,List.isEmpty_cons,List.isEmpty_nil,if_true,if_false,ite_true,ite_false,Bool.not_true,Bool.not_false,Bool.not_not,decide_true,true_and,and_true,false_and,and_false,Bool.false_eq_true,reduceCtorEq,decide_true,decide_false,ite_self,forall_const,Nat.zero_add,Nat.reduceAdd,Nat.reduceLeDiff,Nat.reduceLT,Nat.reduceEqDiff,Nat.reduceSub,Nat.reduceMul,Nat.reduceBEq,Int.reduceLT,Int.reduceLE,Int.reduceEq,Int.reduceNe,Int.reduceAdd,Int.reduceMul,Int.reduceSub,Int.reduceNeg,Int.reducePow,Int.reduceBEq,Int.reduceToNat,Int.reduceGT,Int.reduceGE,String.reduceBEq,zcn,zco,List.replicate_succ,List.replicate_zero,zcp,zcq,zcr,zcs,zct,zcu,zcv,zcw,zcx,zcy,zcz,zcA,zcB,zcC,zcD,zcE,zcF,zcG,zcH,zcI,zcJ,zcK,zcL,zcM,zcN,zcO,zcP,zcQ,zcR,zcS,zcT,zcU,zcV,zcW,zcX,zcY,zcZ,zc0,zc1,zc2,zc3,zc4,zc5,zc6,zc7,zc8,zc9,zda,zdb,zdc,Bool.true_or,Bool.or_true,Bool.false_or,Bool.or_false,Bool.and_true,Bool.true_and,Bool.and_false,Bool.false_and,Int.cast_ofNat_Int,Int.natCast_zero,Int.natCast_one,beq_self_eq_true,zdd,wipeR,hl,show v_LEAST_CORNERS = .int 2 from rfl,Ok_enum_tup]
    refine Ok_for (fun i ρ S' => S = S' ∧ ∃ z1 z2, ρ = [some (.tup (C.map plP)), z1, z2]) ⟨rfl, _, _, rfl⟩ ?_ ?_
    · rintro i p ρ S' hp ⟨rfl, z1, z2, rfl⟩
      obtain ⟨c, hc, rfl⟩ := en_get hp
      obtain ⟨c0, c1, c2⟩ := hC.pos c (List.mem_of_getElem? hc)
      have hi := (List.getElem?_eq_some_iff.mp hc).1
      have i8 : (((i : Nat) : Int) == 8) = false := by simp; omega
      by_cases i0 : (0 : Int) < (i : Nat)
      · obtain ⟨j, rfl⟩ : ∃ j, i = j + 1 := ⟨i - 1, by omega⟩
        obtain ⟨d, hd⟩ : ∃ d, C[j]? = some d := ⟨C[j], List.getElem?_eq_getElem (by omega)⟩
        obtain ⟨d0, d1, d2⟩ := hC.pos d (List.mem_of_getElem? hd)
        have lt := hC.asc j d c hd hc
        have ej : ((j + 1 : Nat) : Int) - 1 = (j : Nat) := by omega
        have ea : atI (C.map plP) ((j : Nat) : Int) = some (plP d) := by
          unfold atI ixN
          rw [if_pos (by omega), if_pos (by rw [List.length_map]; omega)]
          simp [hd]
        have ia := fun S Q => o_is_ahead (S := S) (Q := Q) (x := c.1) (y := c.2) c0
        have inr := fun S Q => o_is_nearer (S := S) (Q := Q) (x := d.1) (y := d.2) (x' := c.1) (y' := c.2) (by omega)
        simp -dsimp (disch := first | assumption | omega) only [zaa,zab,zac,zad,zae,zaf,zag,zah,zai,zaj,zak,zal,zam,zan,zao,zap,zaq,zar,zas,zat,zau,zav,zaw,zax,zay,zaz,zaA,zaB,zaC,zaD,zaE,zaF,zaG,zaH,zaI,zaJ,zaK,zaL,zaM,zaN,zaO,zaP,zaQ,zaR,zaS,zaT,zaU,zaV,zaW,zaX,zaY,zaZ,za0,za1,za2,za3,za4,za5,za6,za7,za8,za9,zba,zbb,zbc,zbd,zbe,zbf,zbg,zbh,zbi,zbj,zbk,zbl,zbm,zbn,zbo,zbp,zbq,zbr,zbs,zbt,zbu,zbv,zbw,zbx,zby,zbz,zbA,zbB,zbC,zbD,zbE,zbF,zbG,zbH,zbI,zbJ,zbK,zbL,zbM,zbN,zbO,zbP,zbQ,zbR,zbS,zbT,zbU,zbV,zbW,zbX,zbY,zbZ,zb0,zb1,zb2,zb3,zb4,zb5,zb6,zb7,zb8,zb9,zca,zcb,eq_self,zcc,zcd,zce,zcf,zcg,zch,zci,zcj,zck,zcl,zcm,List.getElem?_cons_succ,List.getElem?_cons_zero,List.set_cons_succ,List.set_cons_zero,List.map_cons,List.map_nil,List.length_cons,List.length_nil,List.cons_append,List.nil_append,List.append_nil,List.isEmpty_cons,List.isEmpty_nil,if_true,if_false,ite_true,ite_false,Bool.not_true,Bool.not_false,Bool.not_not,decide_true,true_and,and_true,false_and,and_false,Bool.false_eq_true,reduceCtorEq,decide_true,decide_false,ite_self,forall_const,Nat.zero_add,Nat.reduceAdd,Nat.reduceLeDiff,Nat.reduceLT,Nat.reduceEqDiff,Nat.reduceSub,Nat.reduceMul,Nat.reduceBEq,Int.reduceLT,Int.reduceLE,Int.reduceEq,Int.reduceNe,Int.reduceAdd,Int.reduceMul,Int.reduceSub,Int.reduceNeg,Int.reducePow,Int.reduceBEq,Int.reduceToNat,Int.reduceGT,Int.reduceGE,String.reduceBEq,zcn,zco,List.replicate_succ,List.replicate_zero,zcp,zcq,zcr,zcs,zct,zcu,zcv,zcw,zcx,zcy,zcz,zcA,zcB,zcC,zcD,zcE,zcF,zcG,zcH,zcI,zcJ,zcK,zcL,zcM,zcN,zcO,zcP,zcQ,zcR,zcS,zcT,zcU,zcV,zcW,zcX,zcY,zcZ,zc0,zc1,zc2,zc3,zc4,zc5,zc6,zc7,zc8,zc9,zda,zdb,zdc,Bool.true_or,Bool.or_true,Bool.false_or,Bool.or_false,Bool.and_true,Bool.true_and,Bool.and_false,Bool.false_and,Int.cast_ofNat_Int,Int.natCast_zero,Int.natCast_one,beq_self_eq_true,zdd,zde,zdf,zdg,zdh,wipeR,i8,show v_MOST_CORNERS = .int 8 from rfl,ia,i0,ej,ea,inr,lt]
        exact ⟨_, _, rfl⟩
      · have ia := fun S Q => o_is_ahead (S := S) (Q := Q) (x := c.1) (y := c.2) c0
        simp -dsimp (disch := first | assumption | omega) only [zaa,zab,zac,zad,zae,zaf,zag,zah,zai,zaj,zak,zal,zam,zan,zao,zap,zaq,zar,zas,zat,zau,zav,zaw,zax,zay,zaz,zaA,zaB,zaC,zaD,zaE,zaF,zaG,zaH,zaI,zaJ,zaK,zaL,zaM,zaN,zaO,zaP,zaQ,zaR,zaS,zaT,zaU,zaV,zaW,zaX,zaY,zaZ,za0,za1,za2,za3,za4,za5,za6,za7,za8,za9,zba,zbb,zbc,zbd,zbe,zbf,zbg,zbh,zbi,zbj,zbk,zbl,zbm,zbn,zbo,zbp,zbq,zbr,zbs,zbt,zbu,zbv,zbw,zbx,zby,zbz,zbA,zbB,zbC,zbD,zbE,zbF,zbG,zbH,zbI,zbJ,zbK,zbL,zbM,zbN,zbO,zbP,zbQ,zbR,zbS,zbT,zbU,zbV,zbW,zbX,zbY,zbZ,zb0,zb1,zb2,zb3,zb4,zb5,zb6,zb7,zb8,zb9,zca,zcb,eq_self,zcc,zcd,zce,zcf,zcg,zch,zci,zcj,zck,zcl,zcm,List.getElem?_cons_succ,List.getElem?_cons_zero,List.set_cons_succ,List.set_cons_zero,List.map_cons,List.map_nil,List.length_cons,List.length_nil,List.cons_append,List.nil_append,List.append_nil,List.isEmpty_cons,List.isEmpty_nil,if_true,if_false,ite_true,ite_false,Bool.not_true,Bool.not_false,Bool.not_not,decide_true,true_and,and_true,false_and,and_false,Bool.false_eq_true,reduceCtorEq,decide_true,decide_false,ite_self,forall_const,Nat.zero_add,Nat.reduceAdd,Nat.reduceLeDiff,Nat.reduceLT,Nat.reduceEqDiff,Nat.reduceSub,Nat.reduceMul,Nat.reduceBEq,Int.reduceLT,Int.reduceLE,Int.reduceEq,Int.reduceNe,Int.reduceAdd,Int.reduceMul,Int.reduceSub,Int.reduceNeg,Int.reducePow,Int.reduceBEq,Int.reduceToNat,Int.reduceGT,Int.reduceGE,String.reduceBEq,zcn,zco,List.replicate_succ,List.replicate_zero,zcp,zcq,zcr,zcs,zct,zcu,zcv,zcw,zcx,zcy,zcz,zcA,zcB,zcC,zcD,zcE,zcF,zcG,zcH,zcI,zcJ,zcK,zcL,zcM,zcN,zcO,zcP,zcQ,zcR,zcS,zcT,zcU,zcV,zcW,zcX,zcY,zcZ,zc0,zc1,zc2,zc3,zc4,zc5,zc6,zc7,zc8,zc9,zda,zdb,zdc,Bool.true_or,Bool.or_true,Bool.false_or,Bool.or_false,Bool.and_true,Bool.true_and,Bool.and_false,Bool.false_and,Int.cast_ofNat_Int,Int.natCast_zero,Int.natCast_one,beq_self_eq_true,zdd,zde,zdf,zdg,zdh,wipeR,i8,show v_MOST_CORNERS = .int 8 from rfl,ia,i0]
        exact ⟨_, _, rfl⟩
    · rintro ρ S' ⟨rfl, z1, z2, rfl⟩
      simp -dsimp (disch := first | assumption | omega) only [zaa,zab,zac,zad,zae,zaf,zag,zah,zai,zaj,zak,zal,zam,zan,zao,zap,zaq,zar,zas,zat,zau,zav,zaw,zax,zay,zaz,zaA,zaB,zaC,zaD,zaE,zaF,zaG,zaH,zaI,zaJ,zaK,zaL,zaM,zaN,zaO,zaP,zaQ,zaR,zaS,zaT,zaU,zaV,zaW,zaX,zaY,zaZ,za0,za1,za2,za3,za4,za5,za6,za7,za8,za9,zba,zbb,zbc,zbd,zbe,zbf,zbg,zbh,zbi,zbj,zbk,zbl,zbm,zbn,zbo,zbp,zbq,zbr,zbs,zbt,zbu,zbv,zbw,zbx,zby,zbz,zbA,zbB,zbC,zbD,zbE,zbF,zbG,zbH,zbI,zbJ,zbK,zbL,zbM,zbN,zbO,zbP,zbQ,zbR,zbS,zbT,zbU,zbV,zbW,zbX,zbY,zbZ,zb0,zb1,zb2,zb3,zb4,zb5,zb6,zb7,zb8,zb9,zca,zcb,eq_self,zcc,zcd,zce,zcf,zcg,zch,zci,zcj,zck,zcl,zcm,List.getElem?_cons_succ,List.getElem?_cons_zero,List.set_cons_succ,List.set_cons_zero,List.map_cons,List.map_nil,List.length_cons,List.length_nil,List.cons_append,List.nil_append,List.append_nil,List.isEmpty_cons,List.isEmpty_nil,if_true,if_false,ite_true,ite_false,Bool.not_true,Bool.not_false,Bool.not_not,decide_true,true_and,and_true,false_and,and_false,Bool.false_eq_true,reduceCtorEq,decide_true,decide_false,ite_self,forall_const,Nat.zero_add,Nat.reduceAdd,Nat.reduceLeDiff,Nat.reduceLT,Nat.reduceEqDiff,Nat.reduceSub,Nat.reduceMul,Nat.reduceBEq,Int.reduceLT,Int.reduceLE,Int.reduceEq,Int.reduceNe,Int.reduceAdd,Int.reduceMul,Int.reduceSub,Int.reduceNeg,Int.reducePow,Int.reduceBEq,Int.reduceToNat,Int.reduceGT,Int.reduceGE,String.reduceBEq,zcn,zco,List.replicate_succ,List.replicate_zero,zcp,zcq,zcr,zcs,zct,zcu,zcv,zcw,zcx,zcy,zcz,zcA,zcB,zcC,zcD,zcE,zcF,zcG,zcH,zcI,zcJ,zcK,zcL,zcM,zcN,zcO,zcP,zcQ,zcR,zcS,zcT,zcU,zcV,zcW,zcX,zcY,zcZ,zc0,zc1,zc2,zc3,zc4,zc5,zc6,zc7,zc8,zc9,zda,zdb,zdc,Bool.true_or,Bool.or_true,Bool.false_or,Bool.or_false,Bool.and_true,Bool.true_and,Bool.and_false,Bool.false_and,Int.cast_ofNat_Int,Int.natCast_zero,Int.natCast_one,beq_self_eq_true,zdd,zde,zdf,zdg,zdh,wipeR]
  rw [e, zaa]
theorem p_word_for {i : Nat} : Ok (m_word_for [.int (i : Nat), .tup (C.map plP)] S) Q = Q (.str (wordS i C.length)) S := by
  have e : m_word_for [.int (i : Nat), .tup (C.map plP)] S = .ok (.str (wordS i C.length)) S := by
    refine Ok.eq (Ok_defM rfl ?_)
    unfold wordS
    by_cases a : i = 0
    · have a1 : (((i : Nat) : Int) == 0) = true := by simpa using a
      rw [if_pos a]
      simp -dsimp (disch := first | assumption | omega) only [zaa,zab,zac,zad,zae,zaf,zag,zah,zai,zaj,zak,zal,zam,zan,zao,zap,zaq,zar,zas,zat,zau,zav,zaw,zax,zay,zaz,zaA,zaB,zaC,zaD,zaE,zaF,zaG,zaH,zaI,zaJ,zaK,zaL,zaM,zaN,zaO,zaP,zaQ,zaR,zaS,zaT,zaU,zaV,zaW,zaX,zaY,zaZ,za0,za1,za2,za3,za4,za5,za6,za7,za8,za9,zba,zbb,zbc,zbd,zbe,zbf,zbg,zbh,zbi,zbj,zbk,zbl,zbm,zbn,zbo,zbp,zbq,zbr,zbs,zbt,zbu,zbv,zbw,zbx,zby,zbz,zbA,zbB,zbC,zbD,zbE,zbF,zbG,zbH,zbI,zbJ,zbK,zbL,zbM,zbN,zbO,zbP,zbQ,zbR,zbS,zbT,zbU,zbV,zbW,zbX,zbY,zbZ,zb0,zb1,zb2,zb3,zb4,zb5,zb6,zb7,zb8,zb9,zca,zcb,eq_self,zcc,zcd,zce,zcf,zcg,zch,zci,zcj,zck,zcl,zcm,List.getElem?_cons_succ,List.getElem?_cons_zero,List.set_cons_succ,List.set_cons_zero,List.map_cons,List.map_nil,List.length_cons,List.length_nil,List.cons_append,List.nil_append,List.append_nil,List.isEmpty_cons,List.isEmpty_nil,if_true,if_false,ite_true,ite_false,Bool.not_true,Bool.not_false,Bool.not_not,decide_true,true_and,and_true,false_and,and_false,Bool.false_eq_true,reduceCtorEq,decide_true,decide_false,ite_self,forall_const,Nat.zero_add,Nat.reduceAdd,Nat.reduceLeDiff,Nat.reduceLT,Nat.reduceEqDiff,Nat.reduceSub,Nat.reduceMul,Nat.reduceBEq,Int.reduceLT,Int.reduceLE,Int.reduceEq,Int.reduceNe,Int.reduceAdd,Int.reduceMul,Int.reduceSub,Int.reduceNeg,Int.reducePow,Int.reduceBEq,Int.reduceToNat,Int.reduceGT,Int.reduceGE,String.reduceBEq,zcn,zco,List.replicate_succ,List.replicate_zero,zcp,zcq,zcr,zcs,zct,zcu,zcv,zcw,zcx,zcy,zcz,zcA,zcB,zcC,zcD,zcE,zcF,zcG,zcH,zcI,zcJ,zcK,zcL,zcM,zcN,zcO,zcP,zcQ,zcR,zcS,zcT,zcU,zcV,zcW,zcX,zcY,zcZ,zc0,zc1,zc2,zc3,zc4,zc5,zc6,zc7,zc8,zc9,zda,zdb,zdc,Bool.true_or,Bool.or_true,Bool.false_or,Bool.or_false,Bool.and_true,Bool.true_and,Bool.and_false,Bool.false_and,Int.cast_ofNat_Int,Int.natCast_zero,Int.natCast_one,beq_self_eq_true,zdd,zde,zdf,zdg,zdh,wipeR,a1]
    · have a1 : (((i : Nat) : Int) == 0) = false := by simpa using a
      rw [if_neg a]
      by_cases c : i = C.length
      · have c1 : (((i : Nat) : Int) == (((C.map plP).length : Nat) : Int)) = true := by rw [List.length_map, beq_iff_eq]; omega
        rw [if_pos c]
        simp -dsimp (disch := first | assumption | omega) only [zaa,zab,zac,zad,zae,zaf,zag,zah,zai,zaj,zak,zal,zam,zan,zao,zap,zaq,zar,zas,zat,zau,zav,zaw,zax,zay,zaz,zaA,zaB,zaC,zaD,zaE,zaF,zaG,zaH,zaI,zaJ,zaK,zaL,zaM,zaN,zaO,zaP,zaQ,zaR,zaS,zaT,zaU,zaV,zaW,zaX,zaY,zaZ,za0,za1,za2,za3,za4,za5,za6,za7,za8,za9,zba,zbb,zbc,zbd,zbe,zbf,zbg,zbh,zbi,zbj,zbk,zbl,zbm,zbn,zbo,zbp,zbq,zbr,zbs,zbt,zbu,zbv,zbw,zbx,zby,zbz,zbA,zbB,zbC,zbD,zbE,zbF,zbG,zbH,zbI,zbJ,zbK,zbL,zbM,zbN,zbO,zbP,zbQ,zbR,zbS,zbT,zbU,zbV,zbW,zbX,zbY,zbZ,zb0,zb1,zb2,zb3,zb4,zb5,zb6,zb7,zb8,zb9,zca,zcb,eq_self,zcc,zcd,zce,zcf,zcg,zch,zci,zcj,zck,zcl,zcm,List.getElem?_cons_succ,List.getElem?_cons_zero,List.set_cons_succ,List.set_cons_zero,List.map_cons,List.map_nil,List.length_cons,List.length_nil,List.cons_append,List.nil_append,List.append_nil,List.isEmpty_cons,List.isEmpty_nil,if_true,if_false,ite_true,ite_false,Bool.not_true,Bool.not_false,Bool.not_not,decide_true,true_and,and_true,false_and,and_false,Bool.false_eq_true,reduceCtorEq,decide_true,decide_false,ite_self,forall_const,Nat.zero_add,Nat.reduceAdd,Nat.reduceLeDiff,Nat.reduceLT,Nat.reduceEqDiff,Nat.reduceSub,Nat.reduceMul,Nat.reduceBEq,Int.reduceLT,Int.reduceLE,Int.reduceEq,Int.reduceNe,Int.reduceAdd,Int.reduceMul,Int.reduceSub,Int.reduceNeg,Int.reducePow,Int.reduceBEq,Int.reduceToNat,Int.reduceGT,Int.reduceGE,String.reduceBEq,zcn,zco,List.replicate_succ,List.replicate_zero,zcp,zcq,zcr,zcs,zct,zcu,zcv,zcw,zcx,zcy,zcz,zcA,zcB,zcC,zcD,zcE,zcF,zcG,zcH,zcI,zcJ,zcK,zcL,zcM,zcN,zcO,zcP,zcQ,zcR,zcS,zcT,zcU,zcV,zcW,zcX,zcY,zcZ,zc0,zc1,zc2,zc3,zc4,zc5,zc6,zc7,zc8,zc9,zda,zdb,zdc,Bool.true_or,Bool.or_true,Bool.false_or,Bool.or_false,Bool.and_true,Bool.true_and,Bool.and_false,Bool.false_and,Int.cast_ofNat_Int,Int.natCast_zero,Int.natCast_one,beq_self_eq_true,zdd,zde,zdf,zdg,zdh,wipeR,a1,c1]
      · have c1 : (((i : Nat) : Int) == (((C.map plP).length : Nat) : Int)) = false := by rw [List.length_map]; simp; omega
        rw [if_neg c]
        simp -dsimp (disch := first | assumption | omega) only [zaa,zab,zac,zad,zae,zaf,zag,zah,zai,zaj,zak,zal,zam,zan,zao,zap,zaq,zar,zas,zat,zau,zav,zaw,zax,zay,zaz,zaA,zaB,zaC,zaD,zaE,zaF,zaG,zaH,zaI,zaJ,zaK,zaL,zaM,zaN,zaO,zaP,zaQ,zaR,zaS,zaT,zaU,zaV,zaW,zaX,zaY,zaZ,za0,za1,za2,za3,za4,za5,za6,za7,za8,za9,zba,zbb,zbc,zbd,zbe,zbf,zbg,zbh,zbi,zbj,zbk,zbl,zbm,zbn,zbo,zbp,zbq,zbr,zbs,zbt,zbu,zbv,zbw,zbx,zby,zbz,zbA,zbB,zbC,zbD,zbE,zbF,zbG,zbH,zbI,zbJ,zbK,zbL,zbM,zbN,zbO,zbP,zbQ,zbR,zbS,zbT,zbU,zbV,zbW,zbX,zbY,zbZ,zb0,zb1,zb2,zb3,zb4,zb5,zb6,zb7,zb8,zb9,zca,zcb,eq_self,zcc,zcd,zce,zcf,zcg,zch,zci,zcj,zck,zcl,zcm,List.getElem?_cons_succ,List.getElem?_cons_zero,List.set_cons_succ,List.set_cons_zero,List.map_cons,List.map_nil,List.length_cons,List.length_nil,List.cons_append,List.nil_append,List.append_nil,List.isEmpty_cons,List.isEmpty_nil,if_true,if_false,ite_true,ite_false,Bool.not_true,Bool.not_false,Bool.not_not,decide_true,true_and,and_true,false_and,and_false,Bool.false_eq_true,reduceCtorEq,decide_true,decide_false,ite_self,forall_const,Nat.zero_add,Nat.reduceAdd,Nat.reduceLeDiff,Nat.reduceLT,Nat.reduceEqDiff,Nat.reduceSub,Nat.reduceMul,Nat.reduceBEq,Int.reduceLT,Int.reduceLE,Int.reduceEq,Int.reduceNe,Int.reduceAdd,Int.reduceMul,Int.reduceSub,Int.reduceNeg,Int.reducePow,Int.reduceBEq,Int.reduceToNat,Int.reduceGT,Int.reduceGE,String.reduceBEq,zcn,zco,List.replicate_succ,List.replicate_zero,zcp,zcq,zcr,zcs,zct,zcu,zcv,zcw,zcx,zcy,zcz,zcA,zcB,zcC,zcD,zcE,zcF,zcG,zcH,zcI,zcJ,zcK,zcL,zcM,zcN,zcO,zcP,zcQ,zcR,zcS,zcT,zcU,zcV,zcW,zcX,zcY,zcZ,zc0,zc1,zc2,zc3,zc4,zc5,zc6,zc7,zc8,zc9,zda,zdb,zdc,Bool.true_or,Bool.or_true,Bool.false_or,Bool.or_false,Bool.and_true,Bool.true_and,Bool.and_false,Bool.false_and,Int.cast_ofNat_Int,Int.natCast_zero,Int.natCast_one,beq_self_eq_true,zdd,zde,zdf,zdg,zdh,wipeR,a1,c1]
  rw [e, zaa]
theorem p_check_strike (b0 : 0 < b) (hC : Cor C) (h2 : 2 ≤ C.length) (h5 : C.length ≤ 5) : Ok (m_check_strike [jv s b, .tup (C.map plP)] S) Q = Q .non S := by
  have e : m_check_strike [jv s b, .tup (C.map plP)] S = .ok .non S := by
    refine Ok.eq (Ok_defM rfl ?_)
    have cg := fun S Q => p_check_ground (S := S) (Q := Q) hC h2 h5
    simp -dsimp (disch := first | assumption | omega) only [zaa,zab,zac,zad,zae,zaf,zag,zah,zai,zaj,zak,zal,zam,zan,zao,zap,zaq,zar,zas,zat,zau,zav,zaw,zax,zay,zaz,zaA,zaB,zaC,zaD,zaE,zaF,zaG,zaH,zaI,zaJ,zaK,zaL,zaM,zaN,zaO,zaP,zaQ,zaR,zaS,zaT,zaU,zaV,zaW,zaX,zaY,zaZ,za0,za1,za2,za3,za4,za5,za6,za7,za8,za9,zba,zbb,zbc,zbd,zbe,zbf,zbg,zbh,zbi,zbj,zbk,zbl,zbm,zbn,zbo,zbp,zbq,zbr,zbs,zbt,zbu,zbv,zbw,zbx,zby,zbz,zbA,zbB,zbC,zbD,zbE,zbF,zbG,zbH,zbI,zbJ,zbK,zbL,zbM,zbN,zbO,zbP,zbQ,zbR,zbS,zbT,zbU,zbV,zbW,zbX,zbY,zbZ,zb0,zb1,zb2,zb3,zb4,zb5,zb6,zb7,zb8,zb9,zca,zcb,eq_self,zcc,zcd,zce,zcf,zcg,zch,zci,zcj,zck,zcl,zcm,List.getElem?_cons_succ,List.getElem?_cons_zero,List.set_cons_succ,List.set_cons_zero,List.map_cons,List.map_nil,List.length_cons,List.length_nil,List.cons_append,List.nil_append,List.append_nil,List.isEmpty_cons,List.isEmpty_nil,if_true,if_false,ite_true,ite_false,Bool.not_true,Bool.not_false,Bool.not_not,decide_true,true_and,and_true,false_and,and_false,Bool.false_eq_true,reduceCtorEq,decide_true,decide_false,ite_self,forall_const,Nat.zero_add,Nat.reduceAdd,Nat.reduceLeDiff,Nat.reduceLT,Nat.reduceEqDiff,Nat.reduceSub,Nat.reduceMul,Nat.reduceBEq,Int.reduceLT,Int.reduceLE,Int.reduceEq,Int.reduceNe,Int.reduceAdd,Int.reduceMul,Int.reduceSub,Int.reduceNeg,Int.reducePow,Int.reduceBEq,Int.reduceToNat,Int.reduceGT,Int.reduceGE,String.reduceBEq,zcn,zco,List.replicate_succ,List.replicate_zero,zcp,zcq,zcr,zcs,zct,zcu,zcv,zcw,zcx,zcy,zcz,zcA,zcB,zcC,zcD,zcE,zcF,zcG,zcH,zcI,zcJ,zcK,zcL,zcM,zcN,zcO,zcP,zcQ,zcR,zcS,zcT,zcU,zcV,zcW,zcX,zcY,zcZ,zc0,zc1,zc2,zc3,zc4,zc5,zc6,zc7,zc8,zc9,zda,zdb,zdc,Bool.true_or,Bool.or_true,Bool.false_or,Bool.or_false,Bool.and_true,Bool.true_and,Bool.and_false,Bool.false_and,Int.cast_ofNat_Int,Int.natCast_zero,Int.natCast_one,beq_self_eq_true,zdd,zde,zdf,zdg,zdh,wipeR,o_check_jet,cg]
  rw [e, zaa]
theorem p_ground_word (b0 : 0 < b) (hC : Cor C) (h2 : 2 ≤ C.length) (h5 : C.length ≤ 5) (hk : k + l ≤ 500) : Ok (m_ground_word [jv s b, .tup (C.map plP)] S) Q = Q (.str (wordS (fbL (C.map (hiC s b)) 0) C.length)) S := by
  have e : m_ground_word [jv s b, .tup (C.map plP)] S = .ok (.str (wordS (fbL (C.map (hiC s b)) 0) C.length)) S := by
    refine Ok.eq (Ok_defM rfl ?_)
    have cg := fun S Q => p_check_strike (S := S) (Q := Q) (s := s) b0 hC h2 h5
    have fb := fun S Q => p_first_below (S := S) (Q := Q) (s := s) (b := b) hC hk
    simp -dsimp (disch := first | assumption | omega) only [zaa,zab,zac,zad,zae,zaf,zag,zah,zai,zaj,zak,zal,zam,zan,zao,zap,zaq,zar,zas,zat,zau,zav,zaw,zax,zay,zaz,zaA,zaB,zaC,zaD,zaE,zaF,zaG,zaH,zaI,zaJ,zaK,zaL,zaM,zaN,zaO,zaP,zaQ,zaR,zaS,zaT,zaU,zaV,zaW,zaX,zaY,zaZ,za0,za1,za2,za3,za4,za5,za6,za7,za8,za9,zba,zbb,zbc,zbd,zbe,zbf,zbg,zbh,zbi,zbj,zbk,zbl,zbm,zbn,zbo,zbp,zbq,zbr,zbs,zbt,zbu,zbv,zbw,zbx,zby,zbz,zbA,zbB,zbC,zbD,zbE,zbF,zbG,zbH,zbI,zbJ,zbK,zbL,zbM,zbN,zbO,zbP,zbQ,zbR,zbS,zbT,zbU,zbV,zbW,zbX,zbY,zbZ,zb0,zb1,zb2,zb3,zb4,zb5,zb6,zb7,zb8,zb9,zca,zcb,eq_self,zcc,zcd,zce,zcf,zcg,zch,zci,zcj,zck,zcl,zcm,List.getElem?_cons_succ,List.getElem?_cons_zero,List.set_cons_succ,List.set_cons_zero,List.map_cons,List.map_nil,List.length_cons,List.length_nil,List.cons_append,List.nil_append,List.append_nil,List.isEmpty_cons,List.isEmpty_nil,if_true,if_false,ite_true,ite_false,Bool.not_true,Bool.not_false,Bool.not_not,decide_true,true_and,and_true,false_and,and_false,Bool.false_eq_true,reduceCtorEq,decide_true,decide_false,ite_self,forall_const,Nat.zero_add,Nat.reduceAdd,Nat.reduceLeDiff,Nat.reduceLT,Nat.reduceEqDiff,Nat.reduceSub,Nat.reduceMul,Nat.reduceBEq,Int.reduceLT,Int.reduceLE,Int.reduceEq,Int.reduceNe,Int.reduceAdd,Int.reduceMul,Int.reduceSub,Int.reduceNeg,Int.reducePow,Int.reduceBEq,Int.reduceToNat,Int.reduceGT,Int.reduceGE,String.reduceBEq,zcn,zco,List.replicate_succ,List.replicate_zero,zcp,zcq,zcr,zcs,zct,zcu,zcv,zcw,zcx,zcy,zcz,zcA,zcB,zcC,zcD,zcE,zcF,zcG,zcH,zcI,zcJ,zcK,zcL,zcM,zcN,zcO,zcP,zcQ,zcR,zcS,zcT,zcU,zcV,zcW,zcX,zcY,zcZ,zc0,zc1,zc2,zc3,zc4,zc5,zc6,zc7,zc8,zc9,zda,zdb,zdc,Bool.true_or,Bool.or_true,Bool.false_or,Bool.or_false,Bool.and_true,Bool.true_and,Bool.and_false,Bool.false_and,Int.cast_ofNat_Int,Int.natCast_zero,Int.natCast_one,beq_self_eq_true,zdd,zde,zdf,zdg,zdh,wipeR,cg,fb,p_word_for]
  rw [e, zaa]
theorem ws_strikes {i n : Nat} : (wordS i n == "strikes") = decide (i ≠ 0 ∧ i ≠ n) := by
  unfold wordS
  by_cases a : i = 0
  · rw [if_pos a, decide_eq_false (by omega)]; decide +kernel
  · by_cases c : i = n
    · rw [if_neg a, if_pos c, decide_eq_false (by omega)]; decide +kernel
    · rw [if_neg a, if_neg c, decide_eq_true ⟨a, c⟩]; decide +kernel
theorem p_strike_edge (b0 : 0 < b) (hC : Cor C) (h2 : 2 ≤ C.length) (h5 : C.length ≤ 5) (hk : k + l ≤ 500) : Ok (m_strike_edge [jv s b, .tup (C.map plP)] S) Q = Q (if fbL (C.map (hiC s b)) 0 ≠ 0 ∧ fbL (C.map (hiC s b)) 0 ≠ C.length then .int ((fbL (C.map (hiC s b)) 0 : Nat) - 1) else .non) S := by
  have e : m_strike_edge [jv s b, .tup (C.map plP)] S = .ok (if fbL (C.map (hiC s b)) 0 ≠ 0 ∧ fbL (C.map (hiC s b)) 0 ≠ C.length then .int ((fbL (C.map (hiC s b)) 0 : Nat) - 1) else .non) S := by
    refine Ok.eq (Ok_defM rfl ?_)
    have cg := fun S Q => p_check_strike (S := S) (Q := Q) (s := s) b0 hC h2 h5
    have fb := fun S Q => p_first_below (S := S) (Q := Q) (s := s) (b := b) hC hk
    generalize fbL (C.map (hiC s b)) 0 = i at *
    by_cases a : i ≠ 0 ∧ i ≠ C.length
    · have w : (wordS i C.length == "strikes") = true := by rw [ws_strikes, decide_eq_true a]
      rw [if_pos a]
      simp -dsimp (disch := first | assumption | omega) only [zaa,zab,zac,zad,zae,zaf,zag,zah,zai,zaj,zak,zal,zam,zan,zao,zap,zaq,zar,zas,zat,zau,zav,zaw,zax,zay,zaz,zaA,zaB,zaC,zaD,zaE,zaF,zaG,zaH,zaI,zaJ,zaK,zaL,zaM,zaN,zaO,zaP,zaQ,zaR,zaS,zaT,zaU,zaV,zaW,zaX,zaY,zaZ,za0,za1,za2,za3,za4,za5,za6,za7,za8,za9,zba,zbb,zbc,zbd,zbe,zbf,zbg,zbh,zbi,zbj,zbk,zbl,zbm,zbn,zbo,zbp,zbq,zbr,zbs,zbt,zbu,zbv,zbw,zbx,zby,zbz,zbA,zbB,zbC,zbD,zbE,zbF,zbG,zbH,zbI,zbJ,zbK,zbL,zbM,zbN,zbO,zbP,zbQ,zbR,zbS,zbT,zbU,zbV,zbW,zbX,zbY,zbZ,zb0,zb1,zb2,zb3,zb4,zb5,zb6,zb7,zb8,zb9,zca,zcb,eq_self,zcc,zcd,zce,zcf,zcg,zch,zci,zcj,zck,zcl,zcm,List.getElem?_cons_succ,List.getElem?_cons_zero,List.set_cons_succ,List.set_cons_zero,List.map_cons,List.map_nil,List.length_cons,List.length_nil,List.cons_append,List.nil_append,List.append_nil,List.isEmpty_cons,List.isEmpty_nil,if_true,if_false,ite_true,ite_false,Bool.not_true,Bool.not_false,Bool.not_not,decide_true,true_and,and_true,false_and,and_false,Bool.false_eq_true,reduceCtorEq,decide_true,decide_false,ite_self,forall_const,Nat.zero_add,Nat.reduceAdd,Nat.reduceLeDiff,Nat.reduceLT,Nat.reduceEqDiff,Nat.reduceSub,Nat.reduceMul,Nat.reduceBEq,Int.reduceLT,Int.reduceLE,Int.reduceEq,Int.reduceNe,Int.reduceAdd,Int.reduceMul,Int.reduceSub,Int.reduceNeg,Int.reducePow,Int.reduceBEq,Int.reduceToNat,Int.reduceGT,Int.reduceGE,String.reduceBEq,zcn,zco,List.replicate_succ,List.replicate_zero,zcp,zcq,zcr,zcs,zct,zcu,zcv,zcw,zcx,zcy,zcz,zcA,zcB,zcC,zcD,zcE,zcF,zcG,zcH,zcI,zcJ,zcK,zcL,zcM,zcN,zcO,zcP,zcQ,zcR,zcS,zcT,zcU,zcV,zcW,zcX,zcY,zcZ,zc0,zc1,zc2,zc3,zc4,zc5,zc6,zc7,zc8,zc9,zda,zdb,zdc,Bool.true_or,Bool.or_true,Bool.false_or,Bool.or_false,Bool.and_true,Bool.true_and,Bool.and_false,Bool.false_and,Int.cast_ofNat_Int,Int.natCast_zero,Int.natCast_one,beq_self_eq_true,zdd,zde,zdf,zdg,zdh,wipeR,cg,fb,p_word_for,w]
    · have w : (wordS i C.length == "strikes") = false := by rw [ws_strikes, decide_eq_false a]
      rw [if_neg a]
      simp -dsimp (disch := first | assumption | omega) only [zaa,zab,zac,zad,zae,zaf,zag,zah,zai,zaj,zak,zal,zam,zan,zao,zap,zaq,zar,zas,zat,zau,zav,zaw,zax,zay,zaz,zaA,zaB,zaC,zaD,zaE,zaF,zaG,zaH,zaI,zaJ,zaK,zaL,zaM,zaN,zaO,zaP,zaQ,zaR,zaS,zaT,zaU,zaV,zaW,zaX,zaY,zaZ,za0,za1,za2,za3,za4,za5,za6,za7,za8,za9,zba,zbb,zbc,zbd,zbe,zbf,zbg,zbh,zbi,zbj,zbk,zbl,zbm,zbn,zbo,zbp,zbq,zbr,zbs,zbt,zbu,zbv,zbw,zbx,zby,zbz,zbA,zbB,zbC,zbD,zbE,zbF,zbG,zbH,zbI,zbJ,zbK,zbL,zbM,zbN,zbO,zbP,zbQ,zbR,zbS,zbT,zbU,zbV,zbW,zbX,zbY,zbZ,zb0,zb1,zb2,zb3,zb4,zb5,zb6,zb7,zb8,zb9,zca,zcb,eq_self,zcc,zcd,zce,zcf,zcg,zch,zci,zcj,zck,zcl,zcm,List.getElem?_cons_succ,List.getElem?_cons_zero,List.set_cons_succ,List.set_cons_zero,List.map_cons,List.map_nil,List.length_cons,List.length_nil,List.cons_append,List.nil_append,List.append_nil,List.isEmpty_cons,List.isEmpty_nil,if_true,if_false,ite_true,ite_false,Bool.not_true,Bool.not_false,Bool.not_not,decide_true,true_and,and_true,false_and,and_false,Bool.false_eq_true,reduceCtorEq,decide_true,decide_false,ite_self,forall_const,Nat.zero_add,Nat.reduceAdd,Nat.reduceLeDiff,Nat.reduceLT,Nat.reduceEqDiff,Nat.reduceSub,Nat.reduceMul,Nat.reduceBEq,Int.reduceLT,Int.reduceLE,Int.reduceEq,Int.reduceNe,Int.reduceAdd,Int.reduceMul,Int.reduceSub,Int.reduceNeg,Int.reducePow,Int.reduceBEq,Int.reduceToNat,Int.reduceGT,Int.reduceGE,String.reduceBEq,zcn,zco,List.replicate_succ,List.replicate_zero,zcp,zcq,zcr,zcs,zct,zcu,zcv,zcw,zcx,zcy,zcz,zcA,zcB,zcC,zcD,zcE,zcF,zcG,zcH,zcI,zcJ,zcK,zcL,zcM,zcN,zcO,zcP,zcQ,zcR,zcS,zcT,zcU,zcV,zcW,zcX,zcY,zcZ,zc0,zc1,zc2,zc3,zc4,zc5,zc6,zc7,zc8,zc9,zda,zdb,zdc,Bool.true_or,Bool.or_true,Bool.false_or,Bool.or_false,Bool.and_true,Bool.true_and,Bool.and_false,Bool.false_and,Int.cast_ofNat_Int,Int.natCast_zero,Int.natCast_one,beq_self_eq_true,zdd,zde,zdf,zdg,zdh,wipeR,cg,fb,p_word_for,w]
  rw [e, zaa]
end
end
end Pm.L


namespace Pm.L
open PySem PySem.Spec L2 Pm
instance wrd_short : Wrd "short" 5 := ⟨by decide +kernel⟩
instance wrd_strikes : Wrd "strikes" 7 := ⟨by decide +kernel⟩
instance wrd_past : Wrd "past" 4 := ⟨by decide +kernel⟩
abbrev nI (i : Nat) : PV := .int (i : Nat)
theorem ints_pln : ∀ T : List Nat, plnL (T.map nI) = true ∧ depL (T.map nI) = 0
  | [] => by simp [plnL, depL]
  | i :: T => by
    have ih := ints_pln T
    simp [plnL, depL, PV.pln, PV.dep, ih.1, ih.2]
theorem words_pln (n : Nat) : ∀ T : List Nat, plnL (T.map fun i => PV.str (wordS i n)) = true ∧ depL (T.map fun i => PV.str (wordS i n)) = 0
  | [] => by simp [plnL, depL]
  | i :: T => by
    have ih := words_pln n T
    have : (PV.str (wordS i n)).pln = true := by
      unfold wordS
      split
      · exact (inferInstance : Pln (.str "short") 0).ok.1
      · split
        · exact (inferInstance : Pln (.str "past") 0).ok.1
        · exact (inferInstance : Pln (.str "strikes") 0).ok.1
    simp [plnL, depL, PV.dep, this, ih.1, ih.2]
section
variable {S : Sto} {Q : PV → Sto → Prop}
theorem inB_lst {x : PV} {ps : List PV} {b : Bool} (hx : x.pln = true) (hxd : x.dep ≤ 60) (hp : plnL ps = true) (hpd : depL ps ≤ 60) (hb : x ∈ ps ↔ b = true) : inB x (.lst ps) S = some b := by
  obtain ⟨y, a1, a2, a3⟩ := pln_data x hx
  obtain ⟨ys, b1, b2, b3⟩ := pln_dataL ps hp
  have hv := any_eqv hx a1 ps ys hp b1
  have s1 : SeqAt.shaped y = true := by
    unfold SeqAt.shaped
    rw [a2, Bool.true_and]
    exact decide_eq_true (by omega)
  have s2 : SeqAt.shaped (.list ys) = true := by
    unfold SeqAt.shaped
    rw [show (PyData.list ys).canLay0 = true from by simpa [PyData.canLay0] using b2, Bool.true_and]
    exact decide_eq_true (by simp only [PyData.depth]; omega)
  have e1 : dataS x S = some y := dataS_of a1
  have e2 : dataS (.lst ps) S = some (.list ys) := dataS_of (by simp [PV.data, b1])
  unfold inB
  simp only [e1, e2]
  rw [if_pos ⟨s1, s2⟩]
  congr 1
  rw [Bool.eq_iff_iff, hv, hb]
theorem Ok_in_l {x : PV} {ps : List PV} {b : Bool} (hx : x.pln = true) (hxd : x.dep ≤ 60) (hp : plnL ps = true) (hpd : depL ps ≤ 60) (hb : x ∈ ps ↔ b = true) : Ok (inM x (.lst ps) S) Q = Q (.bl b) S := by
  unfold inM
  rw [inB_lst hx hxd hp hpd hb]
  rfl
theorem Ok_nin_l {x : PV} {ps : List PV} {b : Bool} (hx : x.pln = true) (hxd : x.dep ≤ 60) (hp : plnL ps = true) (hpd : depL ps ≤ 60) (hb : x ∈ ps ↔ b = true) : Ok (ninM x (.lst ps) S) Q = Q (.bl (!b)) S := by
  unfold ninM
  rw [inB_lst hx hxd hp hpd hb]
  rfl
theorem Ok_add_loc {k : Nat} {ys : List PV} : Ok (addM (.loc k) (.lst ys) S) Q = (match S[k]? with
  | some (.lst xs) => xs.length + ys.length ≤ LIM ∧ Q (.lst (xs ++ ys)) S
  | none => False) := by
  show Ok (catM (.loc k) (.lst ys) S) Q = _
  unfold catM asM
  cases h : S[k]? with
  | none => first | rfl | (simp only [h]; rfl)
  | some e => cases e with
    | lst xs =>
      simp only [h]
      split <;> rename_i c
      · rw [eq_iff_iff]; exact ⟨fun k => ⟨c, k⟩, fun k => k.2⟩
      · rw [eq_iff_iff]; exact ⟨fun k => k.elim, fun k => c k.1⟩
theorem Ok_any2 {a b : Bool} : Ok (anyM [.lst [.bl a, .bl b]] S) Q = Q (.bl (a || b)) S := by
  rw [Ok_any (xs := [.bl a, .bl b]) (bs := [a, b]) rfl]
  simp
theorem Ok_defM_u {a n : Nat} {d : SD} {ps : List PV} (hl : ps.length = a) (hI : InS S) (h : Ok (d (rho0 n ps) S) fun r S1 => match r with
  | .rt p => ∃ xs, plnL xs = true ∧ depL xs < 18 ∧ ((p = .loc S.length ∧ S1 = S ++ [.lst xs]) ∨ (p = .lst xs ∧ ∃ T, S1 = S ++ T)) ∧ Q (.lst xs) S
  | _ => False) : Ok (defM a n d ps S) Q := by
  obtain ⟨r, S1, e, q⟩ := h.ex
  cases r with
  | nx _ => exact q.elim
  | bk _ => exact q.elim
  | ct _ => exact q.elim
  | rt p =>
    obtain ⟨xs, h1, h2, h3, h4⟩ := q
    rcases h3 with ⟨rfl, rfl⟩ | ⟨rfl, T, rfl⟩
    · refine Ok_defM_l hl hI ?_
      rw [e, zaa]
      exact ⟨xs, rfl, rfl, h1, by omega, h4⟩
    · refine Ok_defM_v hl hI ?_
      rw [e, zaa]
      exact ⟨by simpa [PV.pln] using h1, by simp only [PV.dep]; omega, ⟨T, rfl⟩, h4⟩
theorem p_within {f l lo hi : Rat} {i j a c : Nat} [h1 : Sz f i] [h2 : Sz l j] [h3 : Sz lo a] [h4 : Sz hi c] (hk : i + j + a + c ≤ 2000) :
    Ok (m_is_below_within [.lst [rv f, rv l], rv lo, rv hi] S) Q = Q (.bl (decide (gA f l lo < 0) || decide (gA f l hi < 0))) S := by
  have e : m_is_below_within [.lst [rv f, rv l], rv lo, rv hi] S = .ok (.bl (decide (gA f l lo < 0) || decide (gA f l hi < 0))) S := by
    refine Ok.eq (Ok_defM rfl ?_)
    have e1 : ∀ r, (f < -((l - f) * r)) = (gA f l r < 0) := fun r => by
      unfold gA
      apply propext
      constructor <;> intro z <;> grind
    simp -dsimp (disch := first | assumption | omega) only [zaa,zab,zac,zad,zae,zaf,zag,zah,zai,zaj,zak,zal,zam,zan,zao,zap,zaq,zar,zas,zat,zau,zav,zaw,zax,zay,zaz,zaA,zaB,zaC,zaD,zaE,zaF,zaG,zaH,zaI,zaJ,zaK,zaL,zaM,zaN,zaO,zaP,zaQ,zaR,zaS,zaT,zaU,zaV,zaW,zaX,zaY,zaZ,za0,za1,za2,za3,za4,za5,za6,za7,za8,za9,zba,zbb,zbc,zbd,zbe,zbf,zbg,zbh,zbi,zbj,zbk,zbl,zbm,zbn,zbo,zbp,zbq,zbr,zbs,zbt,zbu,zbv,zbw,zbx,zby,zbz,zbA,zbB,zbC,zbD,zbE,zbF,zbG,zbH,zbI,zbJ,zbK,zbL,zbM,zbN,zbO,zbP,zbQ,zbR,zbS,zbT,zbU,zbV,zbW,zbX,zbY,zbZ,zb0,zb1,zb2,zb3,zb4,zb5,zb6,zb7,zb8,zb9,zca,zcb,eq_self,zcc,zcd,zce,zcf,zcg,zch,zci,zcj,zck,zcl,zcm,List.getElem?_cons_succ,List.getElem?_cons_zero,List.set_cons_succ,List.set_cons_zero,List.map_cons,List.map_nil,List.length_cons,List.length_nil,List.cons_append,List.nil_append,List.append_nil,List.isEmpty_cons,List.isEmpty_nil,if_true,if_false,ite_true,ite_false,Bool.not_true,Bool.not_false,Bool.not_not,decide_true,true_and,and_true,false_and,and_false,Bool.false_eq_true,reduceCtorEq,decide_true,decide_false,ite_self,forall_const,Nat.zero_add,Nat.reduceAdd,Nat.reduceLeDiff,Nat.reduceLT,Nat.reduceEqDiff,Nat.reduceSub,Nat.reduceMul,Nat.reduceBEq,Int.reduceLT,Int.reduceLE,Int.reduceEq,Int.reduceNe,Int.reduceAdd,Int.reduceMul,Int.reduceSub,Int.reduceNeg,Int.reducePow,Int.reduceBEq,Int.reduceToNat,Int.reduceGT,Int.reduceGE,String.reduceBEq,zcn,zco,List.replicate_succ,List.replicate_zero,zcp,zcq,zcr,zcs,zct,zcu,zcv,zcw,zcx,zcy,zcz,zcA,zcB,zcC,zcD,zcE,zcF,zcG,zcH,zcI,zcJ,zcK,zcL,zcM,zcN,zcO,zcP,zcQ,zcR,zcS,zcT,zcU,zcV,zcW,zcX,zcY,zcZ,zc0,zc1,zc2,zc3,zc4,zc5,zc6,zc7,zc8,zc9,zda,zdb,zdc,Bool.true_or,Bool.or_true,Bool.false_or,Bool.or_false,Bool.and_true,Bool.true_and,Bool.and_false,Bool.false_and,Int.cast_ofNat_Int,Int.natCast_zero,Int.natCast_one,beq_self_eq_true,zdd,zde,zdf,zdg,zdh,wipeR,o_ratio_less,o_ratio_product,p_back,p_is_lower,Ok_any2,e1]
  rw [e, zaa]
section
variable {s b s2 b2 : Rat} [z1 : Sz s 5] [z2 : Sz b 5] [z3 : Sz s2 5] [z4 : Sz b2 5] {C : List (Rat × Rat)}
theorem p_swept {c : Rat × Rat} (h1 : Sz c.1 40) (h2 : Sz c.2 100) : Ok (m_swept_heights [jv s b, jv s2 b2, plP c] S) Q = Q (.lst [rv (hiC s b c), rv (hiC s2 b2 c)]) S := by
  have e : m_swept_heights [jv s b, jv s2 b2, plP c] S = .ok (.lst [rv (hiC s b c), rv (hiC s2 b2 c)]) S := by
    refine Ok.eq (Ok_defM rfl ?_)
    simp -dsimp (disch := first | assumption | omega) only [zaa,zab,zac,zad,zae,zaf,zag,zah,zai,zaj,zak,zal,zam,zan,zao,zap,zaq,zar,zas,zat,zau,zav,zaw,zax,zay,zaz,zaA,zaB,zaC,zaD,zaE,zaF,zaG,zaH,zaI,zaJ,zaK,zaL,zaM,zaN,zaO,zaP,zaQ,zaR,zaS,zaT,zaU,zaV,zaW,zaX,zaY,zaZ,za0,za1,za2,za3,za4,za5,za6,za7,za8,za9,zba,zbb,zbc,zbd,zbe,zbf,zbg,zbh,zbi,zbj,zbk,zbl,zbm,zbn,zbo,zbp,zbq,zbr,zbs,zbt,zbu,zbv,zbw,zbx,zby,zbz,zbA,zbB,zbC,zbD,zbE,zbF,zbG,zbH,zbI,zbJ,zbK,zbL,zbM,zbN,zbO,zbP,zbQ,zbR,zbS,zbT,zbU,zbV,zbW,zbX,zbY,zbZ,zb0,zb1,zb2,zb3,zb4,zb5,zb6,zb7,zb8,zb9,zca,zcb,eq_self,zcc,zcd,zce,zcf,zcg,zch,zci,zcj,zck,zcl,zcm,List.getElem?_cons_succ,List.getElem?_cons_zero,List.set_cons_succ,List.set_cons_zero,List.map_cons,List.map_nil,List.length_cons,List.length_nil,List.cons_append,List.nil_append,List.append_nil,List.isEmpty_cons,List.isEmpty_nil,if_true,if_false,ite_true,ite_false,Bool.not_true,Bool.not_false,Bool.not_not,decide_true,true_and,and_true,false_and,and_false,Bool.false_eq_true,reduceCtorEq,decide_true,decide_false,ite_self,forall_const,Nat.zero_add,Nat.reduceAdd,Nat.reduceLeDiff,Nat.reduceLT,Nat.reduceEqDiff,Nat.reduceSub,Nat.reduceMul,Nat.reduceBEq,Int.reduceLT,Int.reduceLE,Int.reduceEq,Int.reduceNe,Int.reduceAdd,Int.reduceMul,Int.reduceSub,Int.reduceNeg,Int.reducePow,Int.reduceBEq,Int.reduceToNat,Int.reduceGT,Int.reduceGE,String.reduceBEq,zcn,zco,List.replicate_succ,List.replicate_zero,zcp,zcq,zcr,zcs,zct,zcu,zcv,zcw,zcx,zcy,zcz,zcA,zcB,zcC,zcD,zcE,zcF,zcG,zcH,zcI,zcJ,zcK,zcL,zcM,zcN,zcO,zcP,zcQ,zcR,zcS,zcT,zcU,zcV,zcW,zcX,zcY,zcZ,zc0,zc1,zc2,zc3,zc4,zc5,zc6,zc7,zc8,zc9,zda,zdb,zdc,Bool.true_or,Bool.or_true,Bool.false_or,Bool.or_false,Bool.and_true,Bool.true_and,Bool.and_false,Bool.false_and,Int.cast_ofNat_Int,Int.natCast_zero,Int.natCast_one,beq_self_eq_true,zdd,zde,zdf,zdg,zdh,wipeR,o_far_of,o_tall_of,o_height_of_jet,o_ratio_less]
  rw [e, zaa]
theorem hi_sz {c : Rat × Rat} (h1 : Sz c.1 40) (h2 : Sz c.2 100) : Sz (hiC s b c) 192 := (inferInstance : Sz (c.1 * (s - b * c.1) - c.2) _).le (by decide)
/-- the corners' heights over both jets -/
abbrev fl2 (s b s2 b2 : Rat) (C : List (Rat × Rat)) : List (Rat × Rat) := C.map fun c => (hiC s b c, hiC s2 b2 c)
theorem p_falls (hC : Cor C) (h5 : C.length ≤ 5) (hI : InS S) : Ok (m_swept_falls [jv s b, jv s2 b2, .tup (C.map plP)] S) Q = Q (.lst ((falls (fl2 s b s2 b2 C) 0 0 1).map nI)) S := by
  have e : m_swept_falls [jv s b, jv s2 b2, .tup (C.map plP)] S = .ok (.lst ((falls (fl2 s b s2 b2 C) 0 0 1).map nI)) S := by
    generalize hT : falls (fl2 s b s2 b2 C) 0 0 1 = T
    refine Ok.eq (Ok_defM_u rfl hI ?_)
    have L0 : (0 : Nat) ≤ LIM := by decide
    simp -dsimp (disch := first | assumption | omega) only [zaa,zab,zac,zad,zae,zaf,zag,zah,zai,zaj,zak,zal,zam,zan,zao,zap,zaq,zar,zas,zat,zau,zav,zaw,zax,zay,zaz,zaA,zaB,zaC,zaD,zaE,zaF,zaG,zaH,zaI,zaJ,zaK,zaL,zaM,zaN,zaO,zaP,zaQ,zaR,zaS,zaT,zaU,zaV,zaW,zaX,zaY,zaZ,za0,za1,za2,za3,za4,za5,za6,za7,za8,za9,zba,zbb,zbc,zbd,zbe,zbf,zbg,zbh,zbi,zbj,zbk,zbl,zbm,zbn,zbo,zbp,zbq,zbr,zbs,zbt,zbu,zbv,zbw,zbx,zby,zbz,zbA,zbB,zbC,zbD,zbE,zbF,zbG,zbH,zbI,zbJ,zbK,zbL,zbM,zbN,zbO,zbP,zbQ,zbR,zbS,zbT,zbU,zbV,zbW,zbX,zbY,zbZ,zb0,zb1,zb2,zb3,zb4,zb5,zb6,zb7,zb8,zb9,zca,zcb,eq_self,zcc,zcd,zce,zcf,zcg,zch,zci,zcj,zck,zcl,zcm,List.getElem?_cons_succ,List.getElem?_cons_zero,List.set_cons_succ,List.set_cons_zero,List.map_cons,List.map_nil,List.length_cons,List.length_nil,List.cons_append,List.nil_append,List.append_nil,List.isEmpty_cons,List.isEmpty_nil,if_true,if_false,ite_true,ite_false,Bool.not_true,Bool.not_false,Bool.not_not,decide_true,true_and,and_true,false_and,and_false,Bool.false_eq_true,reduceCtorEq,decide_true,decide_false,ite_self,forall_const,Nat.zero_add,Nat.reduceAdd,Nat.reduceLeDiff,Nat.reduceLT,Nat.reduceEqDiff,Nat.reduceSub,Nat.reduceMul,Nat.reduceBEq,Int.reduceLT,Int.reduceLE,Int.reduceEq,Int.reduceNe,Int.reduceAdd,Int.reduceMul,Int.reduceSub,Int.reduceNeg,Int.reducePow,Int.reduceBEq,Int.reduceToNat,Int.reduceGT,Int.reduceGE,String.reduceBEq,zcn,zco,List.replicate_succ,List.replicate_zero,zcp,zcq,zcr,zcs,zct,zcu,zcv,zcw,zcx,zcy,zcz,zcA,zcB,zcC,zcD,zcE,zcF,zcG,zcH,zcI,zcJ,zcK,zcL,zcM,zcN,zcO,zcP,zcQ,zcR,zcS,zcT,zcU,zcV,zcW,zcX,zcY,zcZ,zc0,zc1,zc2,zc3,zc4,zc5,zc6,zc7,zc8,zc9,zda,zdb,zdc,Bool.true_or,Bool.or_true,Bool.false_or,Bool.or_false,Bool.and_true,Bool.true_and,Bool.and_false,Bool.false_and,Int.cast_ofNat_Int,Int.natCast_zero,Int.natCast_one,beq_self_eq_true,zdd,wipeR,Ok_enum_tup,v_ZERO_rv,t11,L0]
    refine Ok_for (fun i ρ S' => ∃ acc lo hi z5 z6 z7, S' = S ++ [.lst (acc.map nI)] ∧ ρ = [some (jv s b), some (jv s2 b2), some (.tup (C.map plP)), some (.loc S.length), some (.tup [rv lo, rv hi]), z5, z6, z7] ∧ 0 ≤ lo ∧ lo ≤ hi ∧ hi ≤ 1 ∧ Sz lo 600 ∧ Sz hi 600 ∧ acc ++ falls (fl2 s b s2 b2 (C.drop i)) i lo hi = T ∧ acc.length ≤ i) ⟨[], 0, 1, none, none, none, rfl, rfl, by decide, by decide, by decide, Sz.zero.le (by decide), Sz.one.le (by decide), by simpa using hT, by simp⟩ ?_ ?_
    · rintro i p ρ S' hp ⟨acc, lo, hi, z5, z6, z7, rfl, rfl, q0, q1, q2, zl, zh, hf, al⟩
      obtain ⟨c, hc, rfl⟩ := en_get hp
      obtain ⟨c0, c1, c2⟩ := hC.pos c (List.mem_of_getElem? hc)
      have y1 : Sz (hiC s b c) 192 := hi_sz c1 c2
      have y2 : Sz (hiC s2 b2 c) 192 := hi_sz c1 c2
      have i5 := (List.getElem?_eq_some_iff.mp hc).1
      have sw := fun S Q => p_swept (S := S) (Q := Q) (s := s) (b := b) (s2 := s2) (b2 := b2) c1 c2
      have pw := fun S Q => p_within (S := S) (Q := Q) (f := hiC s b c) (l := hiC s2 b2 c) (lo := lo) (hi := hi) (by omega)
      have ps := fun S Q => p_shares_over (S := S) (Q := Q) (f := hiC s b c) (l := hiC s2 b2 c) (lo := lo) (hi := hi) (by omega)
      rw [sh_step q0 q1 q2] at ps
      have hl : (acc.map nI).length < LIM := Nat.lt_of_le_of_lt (show (acc.map nI).length ≤ 8 by simp; omega) (by decide)
      have zt : Sz (hiC s b c / (hiC s b c - hiC s2 b2 c)) 600 := (inferInstance : Sz (hiC s b c / (hiC s b c - hiC s2 b2 c)) _).le (by decide)
      rw [drop_at hc] at hf
      simp only [fl2, List.map_cons, falls] at hf
      have es : (acc.map nI ++ [PV.int (i : Nat)]) = (acc ++ [i]).map nI := by simp
      have gm := fun r => gA_mono (f := hiC s b c) (l := hiC s2 b2 c) (lo := lo) (hi := r)
      have ga := fun r => gA_anti (f := hiC s b c) (l := hiC s2 b2 c) (lo := lo) (hi := r)
      have kl := fun r => gA_lt (f := hiC s b c) (l := hiC s2 b2 c) (r := r)
      have kg := fun r => gA_gt (f := hiC s b c) (l := hiC s2 b2 c) (r := r)
      generalize hiC s b c = f at *
      generalize hiC s2 b2 c = l at *
      by_cases a : gA f l lo < 0
      · by_cases d : gA f l hi < 0
        · rw [if_pos ⟨a, d⟩] at ps
          rw [if_pos ⟨a, d⟩] at hf
          simp -dsimp (disch := first | assumption | omega) only [zaa,zab,zac,zad,zae,zaf,zag,zah,zai,zaj,zak,zal,zam,zan,zao,zap,zaq,zar,zas,zat,zau,zav,zaw,zax,zay,zaz,zaA,zaB,zaC,zaD,zaE,zaF,zaG,zaH,zaI,zaJ,zaK,zaL,zaM,zaN,zaO,zaP,zaQ,zaR,zaS,zaT,zaU,zaV,zaW,zaX,zaY,zaZ,za0,za1,za2,za3,za4,za5,za6,za7,za8,za9,zba,zbb,zbc,zbd,zbe,zbf,zbg,zbh,zbi,zbj,zbk,zbl,zbm,zbn,zbo,zbp,zbq,zbr,zbs,zbt,zbu,zbv,zbw,zbx,zby,zbz,zbA,zbB,zbC,zbD,zbE,zbF,zbG,zbH,zbI,zbJ,zbK,zbL,zbM,zbN,zbO,zbP,zbQ,zbR,zbS,zbT,zbU,zbV,zbW,zbX,zbY,zbZ,zb0,zb1,zb2,zb3,zb4,zb5,zb6,zb7,zb8,zb9,zca,zcb,eq_self,zcc,zcd,zce,zcf,zcg,zch,zci,zcj,zck,zcl,zcm,List.getElem?_cons_succ,List.getElem?_cons_zero,List.set_cons_succ,List.set_cons_zero,List.map_cons,List.map_nil,List.length_cons,List.length_nil,List.cons_append,List.nil_append,List.append_nil,List.isEmpty_cons,List.isEmpty_nil,if_true,if_false,ite_true,ite_false,Bool.not_true,Bool.not_false,Bool.not_not,decide_true,true_and,and_true,false_and,and_false,Bool.false_eq_true,reduceCtorEq,decide_true,decide_false,ite_self,forall_const,Nat.zero_add,Nat.reduceAdd,Nat.reduceLeDiff,Nat.reduceLT,Nat.reduceEqDiff,Nat.reduceSub,Nat.reduceMul,Nat.reduceBEq,Int.reduceLT,Int.reduceLE,Int.reduceEq,Int.reduceNe,Int.reduceAdd,Int.reduceMul,Int.reduceSub,Int.reduceNeg,Int.reducePow,Int.reduceBEq,Int.reduceToNat,Int.reduceGT,Int.reduceGE,String.reduceBEq,zcn,zco,List.replicate_succ,List.replicate_zero,zcp,zcq,zcr,zcs,zct,zcu,zcv,zcw,zcx,zcy,zcz,zcA,zcB,zcC,zcD,zcE,zcF,zcG,zcH,zcI,zcJ,zcK,zcL,zcM,zcN,zcO,zcP,zcQ,zcR,zcS,zcT,zcU,zcV,zcW,zcX,zcY,zcZ,zc0,zc1,zc2,zc3,zc4,zc5,zc6,zc7,zc8,zc9,zda,zdb,zdc,Bool.true_or,Bool.or_true,Bool.false_or,Bool.or_false,Bool.and_true,Bool.true_and,Bool.and_false,Bool.false_and,Int.cast_ofNat_Int,Int.natCast_zero,Int.natCast_one,beq_self_eq_true,zdd,zde,zdf,zdg,zdh,wipeR,sw,pw,a,d,ps,shV,hl,zb1,zb2,zb3,zb4,es]
          exact ⟨T.map nI, (ints_pln T).1, by rw [(ints_pln T).2]; decide, .inl (by rw [hf]), rfl⟩
        · rw [if_neg (fun z => d z.2), if_pos a] at ps
          rw [if_neg (fun z => d z.2), if_pos a] at hf
          have hfl := gm hi q1 a d
          have t1 : f / (f - l) ≤ hi := by have := mt (kl hi hfl).mpr d; grind
          have t0 : 0 ≤ f / (f - l) := by have := (kl lo hfl).mp a; grind
          simp -dsimp (disch := first | assumption | omega) only [zaa,zab,zac,zad,zae,zaf,zag,zah,zai,zaj,zak,zal,zam,zan,zao,zap,zaq,zar,zas,zat,zau,zav,zaw,zax,zay,zaz,zaA,zaB,zaC,zaD,zaE,zaF,zaG,zaH,zaI,zaJ,zaK,zaL,zaM,zaN,zaO,zaP,zaQ,zaR,zaS,zaT,zaU,zaV,zaW,zaX,zaY,zaZ,za0,za1,za2,za3,za4,za5,za6,za7,za8,za9,zba,zbb,zbc,zbd,zbe,zbf,zbg,zbh,zbi,zbj,zbk,zbl,zbm,zbn,zbo,zbp,zbq,zbr,zbs,zbt,zbu,zbv,zbw,zbx,zby,zbz,zbA,zbB,zbC,zbD,zbE,zbF,zbG,zbH,zbI,zbJ,zbK,zbL,zbM,zbN,zbO,zbP,zbQ,zbR,zbS,zbT,zbU,zbV,zbW,zbX,zbY,zbZ,zb0,zb1,zb2,zb3,zb4,zb5,zb6,zb7,zb8,zb9,zca,zcb,eq_self,zcc,zcd,zce,zcf,zcg,zch,zci,zcj,zck,zcl,zcm,List.getElem?_cons_succ,List.getElem?_cons_zero,List.set_cons_succ,List.set_cons_zero,List.map_cons,List.map_nil,List.length_cons,List.length_nil,List.cons_append,List.nil_append,List.append_nil,List.isEmpty_cons,List.isEmpty_nil,if_true,if_false,ite_true,ite_false,Bool.not_true,Bool.not_false,Bool.not_not,decide_true,true_and,and_true,false_and,and_false,Bool.false_eq_true,reduceCtorEq,decide_true,decide_false,ite_self,forall_const,Nat.zero_add,Nat.reduceAdd,Nat.reduceLeDiff,Nat.reduceLT,Nat.reduceEqDiff,Nat.reduceSub,Nat.reduceMul,Nat.reduceBEq,Int.reduceLT,Int.reduceLE,Int.reduceEq,Int.reduceNe,Int.reduceAdd,Int.reduceMul,Int.reduceSub,Int.reduceNeg,Int.reducePow,Int.reduceBEq,Int.reduceToNat,Int.reduceGT,Int.reduceGE,String.reduceBEq,zcn,zco,List.replicate_succ,List.replicate_zero,zcp,zcq,zcr,zcs,zct,zcu,zcv,zcw,zcx,zcy,zcz,zcA,zcB,zcC,zcD,zcE,zcF,zcG,zcH,zcI,zcJ,zcK,zcL,zcM,zcN,zcO,zcP,zcQ,zcR,zcS,zcT,zcU,zcV,zcW,zcX,zcY,zcZ,zc0,zc1,zc2,zc3,zc4,zc5,zc6,zc7,zc8,zc9,zda,zdb,zdc,Bool.true_or,Bool.or_true,Bool.false_or,Bool.or_false,Bool.and_true,Bool.true_and,Bool.and_false,Bool.false_and,Int.cast_ofNat_Int,Int.natCast_zero,Int.natCast_one,beq_self_eq_true,zdd,zde,zdf,zdg,zdh,wipeR,sw,pw,a,d,ps,shV,hl,zb1,zb2,zb3,zb4,es,zaV]
          exact ⟨acc ++ [i], _, _, _, _, _, rfl, rfl, t0, t1, q2, zt, zh, by rw [← hf]; simp [fl2], by simp; omega⟩
      · by_cases d : gA f l hi < 0
        · rw [if_neg (fun z => a z.1), if_neg a, if_pos d] at ps
          rw [if_neg (fun z => a z.1), if_neg a, if_pos d] at hf
          have hfl := ga hi q1 a d
          have t1 : lo ≤ f / (f - l) := by have := mt (kg lo hfl).mpr a; grind
          have t0 : f / (f - l) ≤ 1 := by have := (kg hi hfl).mp d; grind
          simp -dsimp (disch := first | assumption | omega) only [zaa,zab,zac,zad,zae,zaf,zag,zah,zai,zaj,zak,zal,zam,zan,zao,zap,zaq,zar,zas,zat,zau,zav,zaw,zax,zay,zaz,zaA,zaB,zaC,zaD,zaE,zaF,zaG,zaH,zaI,zaJ,zaK,zaL,zaM,zaN,zaO,zaP,zaQ,zaR,zaS,zaT,zaU,zaV,zaW,zaX,zaY,zaZ,za0,za1,za2,za3,za4,za5,za6,za7,za8,za9,zba,zbb,zbc,zbd,zbe,zbf,zbg,zbh,zbi,zbj,zbk,zbl,zbm,zbn,zbo,zbp,zbq,zbr,zbs,zbt,zbu,zbv,zbw,zbx,zby,zbz,zbA,zbB,zbC,zbD,zbE,zbF,zbG,zbH,zbI,zbJ,zbK,zbL,zbM,zbN,zbO,zbP,zbQ,zbR,zbS,zbT,zbU,zbV,zbW,zbX,zbY,zbZ,zb0,zb1,zb2,zb3,zb4,zb5,zb6,zb7,zb8,zb9,zca,zcb,eq_self,zcc,zcd,zce,zcf,zcg,zch,zci,zcj,zck,zcl,zcm,List.getElem?_cons_succ,List.getElem?_cons_zero,List.set_cons_succ,List.set_cons_zero,List.map_cons,List.map_nil,List.length_cons,List.length_nil,List.cons_append,List.nil_append,List.append_nil,List.isEmpty_cons,List.isEmpty_nil,if_true,if_false,ite_true,ite_false,Bool.not_true,Bool.not_false,Bool.not_not,decide_true,true_and,and_true,false_and,and_false,Bool.false_eq_true,reduceCtorEq,decide_true,decide_false,ite_self,forall_const,Nat.zero_add,Nat.reduceAdd,Nat.reduceLeDiff,Nat.reduceLT,Nat.reduceEqDiff,Nat.reduceSub,Nat.reduceMul,Nat.reduceBEq,Int.reduceLT,Int.reduceLE,Int.reduceEq,Int.reduceNe,Int.reduceAdd,Int.reduceMul,Int.reduceSub,Int.reduceNeg,Int.reducePow,Int.reduceBEq,Int.reduceToNat,Int.reduceGT,Int.reduceGE,String.reduceBEq,zcn,zco,List.replicate_succ,List.replicate_zero,zcp,zcq,zcr,zcs,zct,zcu,zcv,zcw,zcx,zcy,zcz,zcA,zcB,zcC,zcD,zcE,zcF,zcG,zcH,zcI,zcJ,zcK,zcL,zcM,zcN,zcO,zcP,zcQ,zcR,zcS,zcT,zcU,zcV,zcW,zcX,zcY,zcZ,zc0,zc1,zc2,zc3,zc4,zc5,zc6,zc7,zc8,zc9,zda,zdb,zdc,Bool.true_or,Bool.or_true,Bool.false_or,Bool.or_false,Bool.and_true,Bool.true_and,Bool.and_false,Bool.false_and,Int.cast_ofNat_Int,Int.natCast_zero,Int.natCast_one,beq_self_eq_true,zdd,zde,zdf,zdg,zdh,wipeR,sw,pw,a,d,ps,shV,hl,zb1,zb2,zb3,zb4,es,zaV]
          exact ⟨acc ++ [i], _, _, _, _, _, rfl, rfl, q0, t1, t0, zl, zt, by rw [← hf]; simp [fl2], by simp; omega⟩
        · rw [if_neg (fun z => a z.1), if_neg a, if_neg d] at ps
          rw [if_neg (fun z => a z.1), if_neg a, if_neg d] at hf
          simp -dsimp (disch := first | assumption | omega) only [zaa,zab,zac,zad,zae,zaf,zag,zah,zai,zaj,zak,zal,zam,zan,zao,zap,zaq,zar,zas,zat,zau,zav,zaw,zax,zay,zaz,zaA,zaB,zaC,zaD,zaE,zaF,zaG,zaH,zaI,zaJ,zaK,zaL,zaM,zaN,zaO,zaP,zaQ,zaR,zaS,zaT,zaU,zaV,zaW,zaX,zaY,zaZ,za0,za1,za2,za3,za4,za5,za6,za7,za8,za9,zba,zbb,zbc,zbd,zbe,zbf,zbg,zbh,zbi,zbj,zbk,zbl,zbm,zbn,zbo,zbp,zbq,zbr,zbs,zbt,zbu,zbv,zbw,zbx,zby,zbz,zbA,zbB,zbC,zbD,zbE,zbF,zbG,zbH,zbI,zbJ,zbK,zbL,zbM,zbN,zbO,zbP,zbQ,zbR,zbS,zbT,zbU,zbV,zbW,zbX,zbY,zbZ,zb0,zb1,zb2,zb3,zb4,zb5,zb6,zb7,zb8,zb9,zca,zcb,eq_self,zcc,zcd,zce,zcf,zcg,zch,zci,zcj,zck,zcl,zcm,List.getElem?_cons_succ,List.getElem?_cons_zero,List.set_cons_succ,List.set_cons_zero,List.map_cons,List.map_nil,List.length_cons,List.length_nil,List.cons_append,List.nil_append,List.append_nil,List.isEmpty_cons,List.isEmpty_nil,if_true,if_false,ite_true,ite_false,Bool.not_true,Bool.not_false,Bool.not_not,decide_true,true_and,and_true,false_and,and_false,Bool.false_eq_true,reduceCtorEq,decide_true,decide_false,ite_self,forall_const,Nat.zero_add,Nat.reduceAdd,Nat.reduceLeDiff,Nat.reduceLT,Nat.reduceEqDiff,Nat.reduceSub,Nat.reduceMul,Nat.reduceBEq,Int.reduceLT,Int.reduceLE,Int.reduceEq,Int.reduceNe,Int.reduceAdd,Int.reduceMul,Int.reduceSub,Int.reduceNeg,Int.reducePow,Int.reduceBEq,Int.reduceToNat,Int.reduceGT,Int.reduceGE,String.reduceBEq,zcn,zco,List.replicate_succ,List.replicate_zero,zcp,zcq,zcr,zcs,zct,zcu,zcv,zcw,zcx,zcy,zcz,zcA,zcB,zcC,zcD,zcE,zcF,zcG,zcH,zcI,zcJ,zcK,zcL,zcM,zcN,zcO,zcP,zcQ,zcR,zcS,zcT,zcU,zcV,zcW,zcX,zcY,zcZ,zc0,zc1,zc2,zc3,zc4,zc5,zc6,zc7,zc8,zc9,zda,zdb,zdc,Bool.true_or,Bool.or_true,Bool.false_or,Bool.or_false,Bool.and_true,Bool.true_and,Bool.and_false,Bool.false_and,Int.cast_ofNat_Int,Int.natCast_zero,Int.natCast_one,beq_self_eq_true,zdd,zde,zdf,zdg,zdh,wipeR,sw,pw,a,d,ps,shV,hl,zb1,zb2,zb3,zb4,zaV]
          exact ⟨acc, _, _, _, _, _, rfl, rfl, q0, q1, q2, zl, zh, hf, by omega⟩
    · rintro ρ S' ⟨acc, lo, hi, z5, z6, z7, rfl, rfl, q0, q1, q2, zl, zh, hf, al⟩
      rw [enumF_len, List.length_map] at hf al
      rw [List.drop_length] at hf
      simp only [fl2, List.map_nil, falls] at hf
      have hl2 : (acc.map nI).length + 1 ≤ LIM := Nat.le_trans (show (acc.map nI).length + 1 ≤ 8 by simp; omega) (by decide)
      have es : acc.map nI ++ [PV.int (C.length : Nat)] = T.map nI := by rw [← hf]; simp
      have L1 : (1 : Nat) ≤ LIM := by decide
      have cl : (((C.map plP).length : Nat) : Int) = (C.length : Nat) := by rw [List.length_map]
      simp -dsimp (disch := first | assumption | omega) only [zaa,zab,zac,zad,zae,zaf,zag,zah,zai,zaj,zak,zal,zam,zan,zao,zap,zaq,zar,zas,zat,zau,zav,zaw,zax,zay,zaz,zaA,zaB,zaC,zaD,zaE,zaF,zaG,zaH,zaI,zaJ,zaK,zaL,zaM,zaN,zaO,zaP,zaQ,zaR,zaS,zaT,zaU,zaV,zaW,zaX,zaY,zaZ,za0,za1,za2,za3,za4,za5,za6,za7,za8,za9,zba,zbb,zbc,zbd,zbe,zbf,zbg,zbh,zbi,zbj,zbk,zbl,zbm,zbn,zbo,zbp,zbq,zbr,zbs,zbt,zbu,zbv,zbw,zbx,zby,zbz,zbA,zbB,zbC,zbD,zbE,zbF,zbG,zbH,zbI,zbJ,zbK,zbL,zbM,zbN,zbO,zbP,zbQ,zbR,zbS,zbT,zbU,zbV,zbW,zbX,zbY,zbZ,zb0,zb1,zb2,zb3,zb4,zb5,zb6,zb7,zb8,zb9,zca,zcb,eq_self,zcc,zcd,zce,zcf,zcg,zch,zci,zcj,zck,zcl,zcm,List.getElem?_cons_succ,List.getElem?_cons_zero,List.set_cons_succ,List.set_cons_zero,List.map_cons,List.map_nil,List.length_cons,List.length_nil,List.cons_append,List.nil_append,List.append_nil,List.isEmpty_cons,List.isEmpty_nil,if_true,if_false,ite_true,ite_false,Bool.not_true,Bool.not_false,Bool.not_not,decide_true,true_and,and_true,false_and,and_false,Bool.false_eq_true,reduceCtorEq,decide_true,decide_false,ite_self,forall_const,Nat.zero_add,Nat.reduceAdd,Nat.reduceLeDiff,Nat.reduceLT,Nat.reduceEqDiff,Nat.reduceSub,Nat.reduceMul,Nat.reduceBEq,Int.reduceLT,Int.reduceLE,Int.reduceEq,Int.reduceNe,Int.reduceAdd,Int.reduceMul,Int.reduceSub,Int.reduceNeg,Int.reducePow,Int.reduceBEq,Int.reduceToNat,Int.reduceGT,Int.reduceGE,String.reduceBEq,zcn,zco,List.replicate_succ,List.replicate_zero,zcp,zcq,zcr,zcs,zct,zcu,zcv,zcw,zcx,zcy,zcz,zcA,zcB,zcC,zcD,zcE,zcF,zcG,zcH,zcI,zcJ,zcK,zcL,zcM,zcN,zcO,zcP,zcQ,zcR,zcS,zcT,zcU,zcV,zcW,zcX,zcY,zcZ,zc0,zc1,zc2,zc3,zc4,zc5,zc6,zc7,zc8,zc9,zda,zdb,zdc,Bool.true_or,Bool.or_true,Bool.false_or,Bool.or_false,Bool.and_true,Bool.true_and,Bool.and_false,Bool.false_and,Int.cast_ofNat_Int,Int.natCast_zero,Int.natCast_one,beq_self_eq_true,zdd,zde,zdf,zdg,zdh,wipeR,cl,L1,Ok_add_loc,zb4,hl2,es]
      exact ⟨T.map nI, (ints_pln T).1, by rw [(ints_pln T).2]; decide, .inr ⟨rfl, _, rfl⟩, rfl⟩
  rw [e, zaa]
end
end
end Pm.L


namespace Pm.L
open PySem PySem.Spec L2 Pm
/-- the words that are told -/
def wv (a b c : Bool) : List PV := (if a then [.str "short"] else []) ++ (if b then [.str "strikes"] else []) ++ (if c then [.str "past"] else [])
def isS (n i : Nat) : Bool := decide (i ≠ 0 ∧ i ≠ n)
def eL (n : Nat) (T : List Nat) : List PV := (T.filter (isS n)).map fun i => PV.int ((i : Nat) - 1)
abbrev wT (n : Nat) (T : List Nat) : List PV := wv (T.any fun i => i == 0) (T.any (isS n)) (T.any fun i => i == n)
theorem ws_short {i n : Nat} (hn : n ≠ 0) : (PV.str (wordS i n) = .str "short") ↔ i = 0 := by
  unfold wordS
  by_cases a : i = 0
  · simp [a]
  · rw [if_neg a]
    split
    · constructor
      · intro h; exact absurd (PV.str.inj h) (by decide +kernel)
      · intro h; exact absurd h a
    · constructor
      · intro h; exact absurd (PV.str.inj h) (by decide +kernel)
      · intro h; exact absurd h a
theorem ws_past {i n : Nat} (hn : n ≠ 0) : (PV.str (wordS i n) = .str "past") ↔ i = n := by
  unfold wordS
  by_cases a : i = 0
  · rw [if_pos a]
    constructor
    · intro h; exact absurd (PV.str.inj h) (by decide +kernel)
    · intro h; omega
  · rw [if_neg a]
    split
    · rename_i e; simp [e]
    · rename_i e
      constructor
      · intro h; exact absurd (PV.str.inj h) (by decide +kernel)
      · intro h; exact absurd h e
theorem ws_str {i n : Nat} : (PV.str (wordS i n) = .str "strikes") ↔ isS n i = true := by
  unfold isS wordS
  by_cases a : i = 0
  · rw [if_pos a, decide_eq_false (by omega)]
    constructor
    · intro h; exact absurd (PV.str.inj h) (by decide +kernel)
    · intro h; cases h
  · rw [if_neg a]
    split
    · rename_i e
      rw [decide_eq_false (by omega)]
      constructor
      · intro h; exact absurd (PV.str.inj h) (by decide +kernel)
      · intro h; cases h
    · rename_i e
      rw [decide_eq_true ⟨a, e⟩]
      exact ⟨fun _ => rfl, fun _ => rfl⟩
theorem mem_words {n : Nat} {w : PV} {f : Nat → Bool} {T : List Nat} (h : ∀ i, (PV.str (wordS i n) = w) ↔ f i = true) : w ∈ (T.map fun i => PV.str (wordS i n)) ↔ T.any f = true := by
  rw [List.mem_map, List.any_eq_true]
  constructor
  · rintro ⟨i, hi, e⟩; exact ⟨i, hi, (h i).mp e⟩
  · rintro ⟨i, hi, e⟩; exact ⟨i, hi, (h i).mpr e⟩
theorem wv_pln (a b c : Bool) : plnL (wv a b c) = true ∧ depL (wv a b c) = 0 := by
  have h1 := (inferInstance : Pln (.str "short") 0).ok.1
  have h2 := (inferInstance : Pln (.str "strikes") 0).ok.1
  have h3 := (inferInstance : Pln (.str "past") 0).ok.1
  cases a <;> cases b <;> cases c <;> simp [wv, plnL, depL, PV.dep, h1, h2, h3]
instance wv_shw {a b c : Bool} : ShwL (wv a b c) 25 0 := by
  have up : ∀ {ps : List PV} {w d : Nat}, ShwL ps w d → w ≤ 25 → d ≤ 0 → ShwL ps 25 0 := fun h hw hd => ⟨fun _ => by
    obtain ⟨ds, g1, g2, g3, g4, g5, g6⟩ := h.ex (by omega)
    exact ⟨ds, g1, g2, g3, g4, by omega, by omega⟩⟩
  cases a <;> cases b <;> cases c
  all_goals
    simp only [wv, if_true, Bool.false_eq_true, if_false, List.nil_append, List.append_nil, List.cons_append]
    exact up inferInstance (by decide) (by decide)
theorem eL_pln {n : Nat} : ∀ T : List Nat, plnL (eL n T) = true ∧ depL (eL n T) = 0 := fun T => by
  unfold eL
  induction T.filter (isS n) with
  | nil => simp [plnL, depL]
  | cons i T ih => simp [plnL, depL, PV.pln, PV.dep, ih.1, ih.2]
theorem ints_shw {k : Nat} : ∀ is : List Int, is.length ≤ k → (∀ i ∈ is, i.natAbs < 1000) → ShwL (is.map PV.int) k 0
  | [], _, _ => ⟨fun _ => ⟨[], by simp [dataL], by simp [PyData.showableAll], by simp [PyData.canLayAll0], by simp [PyData.leavesShortAll], by simp [PyData.depthAll], by simp [PyData.bulkAll]⟩⟩
  | i :: is, hl, hb => by
    have ih := ints_shw (k := k - 1) is (by simp at hl; omega) fun j hj => hb j (by simp [hj])
    have hi : Shw (.int i) 0 0 := Shw.int (by
      have := hb i (by simp)
      exact Nat.lt_of_le_of_lt (log_le (k := 10) (by omega)) (by decide))
    have hz : 1 ≤ k := by simp at hl; omega
    refine ⟨fun hw => ?_⟩
    obtain ⟨ds, g1, g2, g3, g4, g5, g6⟩ := (@ShwL.cons _ _ _ _ _ _ hi ih).ex (by omega)
    exact ⟨ds, g1, g2, g3, g4, by omega, by omega⟩
section
variable {S : Sto} {Q : PV → Sto → Prop} {C : List (Rat × Rat)}
theorem in_wT {n : Nat} {T : List Nat} (hn : n ≠ 0) : (Ok (inM (.str "short") (.lst (T.map fun i => PV.str (wordS i n))) S) Q = Q (.bl (T.any fun i => i == 0)) S) ∧
    (Ok (inM (.str "strikes") (.lst (T.map fun i => PV.str (wordS i n))) S) Q = Q (.bl (T.any (isS n))) S) ∧ (Ok (inM (.str "past") (.lst (T.map fun i => PV.str (wordS i n))) S) Q = Q (.bl (T.any fun i => i == n)) S) := by
  have hp := words_pln n T
  have h1 := (inferInstance : Pln (.str "short") 0).ok
  have h2 := (inferInstance : Pln (.str "strikes") 0).ok
  have h3 := (inferInstance : Pln (.str "past") 0).ok
  exact ⟨Ok_in_l h1.1 (by omega) hp.1 (by omega) (mem_words fun i => by rw [ws_short hn]; simp), Ok_in_l h2.1 (by omega) hp.1 (by omega) (mem_words fun i => ws_str), Ok_in_l h3.1 (by omega) hp.1 (by omega) (mem_words fun i => by rw [ws_past hn]; simp)⟩
section
variable {s b s2 b2 : Rat} [z1 : Sz s 5] [z2 : Sz b 5] [z3 : Sz s2 5] [z4 : Sz b2 5]
theorem falls_len {cs : List (Rat × Rat)} : ∀ (k : Nat) (lo hi : Rat), (falls cs k lo hi).length ≤ cs.length + 1 := by
  induction cs with
  | nil => intro k lo hi; simp [falls]
  | cons c cs ih =>
    intro k lo hi
    unfold falls
    simp only [List.length_cons]
    split
    · simp
    · split
      · have := ih (k + 1) (c.1 / (c.1 - c.2)) hi; simp only [List.length_cons]; omega
      · split
        · have := ih (k + 1) lo (c.1 / (c.1 - c.2)); simp only [List.length_cons]; omega
        · have := ih (k + 1) lo hi; omega
theorem p_swept_words (b0 : 0 < b) (c0 : 0 < b2) (hC : Cor C) (h2 : 2 ≤ C.length) (h5 : C.length ≤ 5) (hI : InS S) :
    Ok (m_swept_words [jv s b, jv s2 b2, .tup (C.map plP)] S) Q = Q (.tup (wT C.length (falls (fl2 s b s2 b2 C) 0 0 1))) S := by
  have e : m_swept_words [jv s b, jv s2 b2, .tup (C.map plP)] S = .ok (.tup (wT C.length (falls (fl2 s b s2 b2 C) 0 0 1))) S := by
    refine Ok.eq (Ok_defM rfl ?_)
    have cg := fun S Q => p_check_ground (S := S) (Q := Q) hC h2 h5
    have pf := fun Q => p_falls (S := S) (Q := Q) (s := s) (b := b) (s2 := s2) (b2 := b2) hC h5 hI
    have hlen := falls_len (cs := fl2 s b s2 b2 C) 0 0 1
    rw [show (fl2 s b s2 b2 C).length = C.length by simp [fl2]] at hlen
    generalize falls (fl2 s b s2 b2 C) 0 0 1 = T at *
    have hl : (T.map nI).length ≤ LIM := Nat.le_trans (show (T.map nI).length ≤ 8 by simp; omega) (by decide)
    have ct := fun S Q => p_check_turn (S := S) (Q := Q) (s := s) (s2 := s2) b0 c0
    simp -dsimp (disch := first | assumption | omega) only [zaa,zab,zac,zad,zae,zaf,zag,zah,zai,zaj,zak,zal,zam,zan,zao,zap,zaq,zar,zas,zat,zau,zav,zaw,zax,zay,zaz,zaA,zaB,zaC,zaD,zaE,zaF,zaG,zaH,zaI,zaJ,zaK,zaL,zaM,zaN,zaO,zaP,zaQ,zaR,zaS,zaT,zaU,zaV,zaW,zaX,zaY,zaZ,za0,za1,za2,za3,za4,za5,za6,za7,za8,za9,zba,zbb,zbc,zbd,zbe,zbf,zbg,zbh,zbi,zbj,zbk,zbl,zbm,zbn,zbo,zbp,zbq,zbr,zbs,zbt,zbu,zbv,zbw,zbx,zby,zbz,zbA,zbB,zbC,zbD,zbE,zbF,zbG,zbH,zbI,zbJ,zbK,zbL,zbM,zbN,zbO,zbP,zbQ,zbR,zbS,zbT,zbU,zbV,zbW,zbX,zbY,zbZ,zb0,zb1,zb2,zb3,zb4,zb5,zb6,zb7,zb8,zb9,zca,zcb,eq_self,zcc,zcd,zce,zcf,zcg,zch,zci,zcj,zck,zcl,zcm,List.getElem?_cons_succ,List.getElem?_cons_zero,List.set_cons_succ,List.set_cons_zero,List.map_cons,List.map_nil,List.length_cons,List.length_nil,List.cons_append,List.nil_append,List.append_nil,List.isEmpty_cons,List.isEmpty_nil,if_true,if_false,ite_true,ite_false,Bool.not_true,Bool.not_false,Bool.not_not,decide_true,true_and,and_true,false_and,and_false,Bool.false_eq_true,reduceCtorEq,decide_true,decide_false,ite_self,forall_const,Nat.zero_add,Nat.reduceAdd,Nat.reduceLeDiff,Nat.reduceLT,Nat.reduceEqDiff,Nat.reduceSub,Nat.reduceMul,Nat.reduceBEq,Int.reduceLT,Int.reduceLE,Int.reduceEq,Int.reduceNe,Int.reduceAdd,Int.reduceMul,Int.reduceSub,Int.reduceNeg,Int.reducePow,Int.reduceBEq,Int.reduceToNat,Int.reduceGT,Int.reduceGE,String.reduceBEq,zcn,zco,List.replicate_succ,List.replicate_zero,zcp,zcq,zcr,zcs,zct,zcu,zcv,zcw,zcx,zcy,zcz,zcA,zcB,zcC,zcD,zcE,zcF,zcG,zcH,zcI,zcJ,zcK,zcL,zcM,zcN,zcO,zcP,zcQ,zcR,zcS,zcT,zcU,zcV,zcW,zcX,zcY,zcZ,zc0,zc1,zc2,zc3,zc4,zc5,zc6,zc7,zc8,zc9,zda,zdb,zdc,Bool.true_or,Bool.or_true,Bool.false_or,Bool.or_false,Bool.and_true,Bool.true_and,Bool.and_false,Bool.false_and,Int.cast_ofNat_Int,Int.natCast_zero,Int.natCast_one,beq_self_eq_true,zdd,wipeR,ct,cg,pf,hl]
    refine Ok_lc (fun S' => S = S') (fun k q => ∃ i, T[k]? = some i ∧ q = .str (wordS i C.length)) rfl ?_ ?_
    · rintro k p S' hp rfl
      rw [List.getElem?_map, Option.map_eq_some_iff] at hp
      obtain ⟨i, hi, rfl⟩ := hp
      simp -dsimp (disch := first | assumption | omega) only [zaa,zab,zac,zad,zae,zaf,zag,zah,zai,zaj,zak,zal,zam,zan,zao,zap,zaq,zar,zas,zat,zau,zav,zaw,zax,zay,zaz,zaA,zaB,zaC,zaD,zaE,zaF,zaG,zaH,zaI,zaJ,zaK,zaL,zaM,zaN,zaO,zaP,zaQ,zaR,zaS,zaT,zaU,zaV,zaW,zaX,zaY,zaZ,za0,za1,za2,za3,za4,za5,za6,za7,za8,za9,zba,zbb,zbc,zbd,zbe,zbf,zbg,zbh,zbi,zbj,zbk,zbl,zbm,zbn,zbo,zbp,zbq,zbr,zbs,zbt,zbu,zbv,zbw,zbx,zby,zbz,zbA,zbB,zbC,zbD,zbE,zbF,zbG,zbH,zbI,zbJ,zbK,zbL,zbM,zbN,zbO,zbP,zbQ,zbR,zbS,zbT,zbU,zbV,zbW,zbX,zbY,zbZ,zb0,zb1,zb2,zb3,zb4,zb5,zb6,zb7,zb8,zb9,zca,zcb,eq_self,zcc,zcd,zce,zcf,zcg,zch,zci,zcj,zck,zcl,zcm,List.getElem?_cons_succ,List.getElem?_cons_zero,List.set_cons_succ,List.set_cons_zero,List.map_cons,List.map_nil,List.length_cons,List.length_nil,List.cons_append,List.nil_append,List.append_nil,List.isEmpty_cons,List.isEmpty_nil,if_true,if_false,ite_true,ite_false,Bool.not_true,Bool.not_false,Bool.not_not,decide_true,true_and,and_true,false_and,and_false,Bool.false_eq_true,reduceCtorEq,decide_true,decide_false,ite_self,forall_const,Nat.zero_add,Nat.reduceAdd,Nat.reduceLeDiff,Nat.reduceLT,Nat.reduceEqDiff,Nat.reduceSub,Nat.reduceMul,Nat.reduceBEq,Int.reduceLT,Int.reduceLE,Int.reduceEq,Int.reduceNe,Int.reduceAdd,Int.reduceMul,Int.reduceSub,Int.reduceNeg,Int.reducePow,Int.reduceBEq,Int.reduceToNat,Int.reduceGT,Int.reduceGE,String.reduceBEq,zcn,zco,List.replicate_succ,List.replicate_zero,zcp,zcq,zcr,zcs,zct,zcu,zcv,zcw,zcx,zcy,zcz,zcA,zcB,zcC,zcD,zcE,zcF,zcG,zcH,zcI,zcJ,zcK,zcL,zcM,zcN,zcO,zcP,zcQ,zcR,zcS,zcT,zcU,zcV,zcW,zcX,zcY,zcZ,zc0,zc1,zc2,zc3,zc4,zc5,zc6,zc7,zc8,zc9,zda,zdb,zdc,Bool.true_or,Bool.or_true,Bool.false_or,Bool.or_false,Bool.and_true,Bool.true_and,Bool.and_false,Bool.false_and,Int.cast_ofNat_Int,Int.natCast_zero,Int.natCast_one,beq_self_eq_true,zdd,wipeR,p_word_for]
      exact ⟨_, hi, rfl⟩
    · rintro qs S' hql hqs rfl
      have eq : qs = T.map fun i => PV.str (wordS i C.length) := by
        apply List.ext_getElem?
        intro k
        rw [List.getElem?_map]
        cases hk : qs[k]? with
        | none =>
          have : T[k]? = none := by
            rw [List.getElem?_eq_none_iff] at hk ⊢
            rw [List.length_map] at hql
            omega
          rw [this]; rfl
        | some q =>
          obtain ⟨i, h1, rfl⟩ := hqs k q hk
          rw [h1]; rfl
      subst eq
      have hn : C.length ≠ 0 := by omega
      have i1 := fun S Q => (in_wT (S := S) (Q := Q) (T := T) hn).1
      have i2 := fun S Q => (in_wT (S := S) (Q := Q) (T := T) hn).2.1
      have i3 := fun S Q => (in_wT (S := S) (Q := Q) (T := T) hn).2.2
      have L3 : (3 : Nat) ≤ LIM := by decide
      unfold wT
      generalize (T.any fun i => i == 0) = x1 at *
      generalize T.any (isS C.length) = x2 at *
      generalize (T.any fun i => i == C.length) = x3 at *
      cases x1 <;> cases x2 <;> cases x3 <;> simp -dsimp (disch := first | assumption | omega) only [zaa,zab,zac,zad,zae,zaf,zag,zah,zai,zaj,zak,zal,zam,zan,zao,zap,zaq,zar,zas,zat,zau,zav,zaw,zax,zay,zaz,zaA,zaB,zaC,zaD,zaE,zaF,zaG,zaH,zaI,zaJ,zaK,zaL,zaM,zaN,zaO,zaP,zaQ,zaR,zaS,zaT,zaU,zaV,zaW,zaX,zaY,zaZ,za0,za1,za2,za3,za4,za5,za6,za7,za8,za9,zba,zbb,zbc,zbd,zbe,zbf,zbg,zbh,zbi,zbj,zbk,zbl,zbm,zbn,zbo,zbp,zbq,zbr,zbs,zbt,zbu,zbv,zbw,zbx,zby,zbz,zbA,zbB,zbC,zbD,zbE,zbF,zbG,zbH,zbI,zbJ,zbK,zbL,zbM,zbN,zbO,zbP,zbQ,zbR,zbS,zbT,zbU,zbV,zbW,zbX,zbY,zbZ,zb0,zb1,zb2,zb3,zb4,zb5,zb6,zb7,zb8,zb9,zca,zcb,eq_self,zcc,zcd,zce,zcf,zcg,zch,zci,zcj,zck,zcl,zcm,List.getElem?_cons_succ,List.getElem?_cons_zero,List.set_cons_succ,List.set_cons_zero,List.map_cons,List.map_nil,List.length_cons,List.length_nil,List.cons_append,List.nil_append,List.append_nil,List.isEmpty_cons,List.isEmpty_nil,if_true,if_false,ite_true,ite_false,Bool.not_true,Bool.not_false,Bool.not_not,decide_true,true_and,and_true,false_and,and_false,Bool.false_eq_true,reduceCtorEq,decide_true,decide_false,ite_self,forall_const,Nat.zero_add,Nat.reduceAdd,Nat.reduceLeDiff,Nat.reduceLT,Nat.reduceEqDiff,Nat.reduceSub,Nat.reduceMul,Nat.reduceBEq,Int.reduceLT,Int.reduceLE,Int.reduceEq,Int.reduceNe,Int.reduceAdd,Int.reduceMul,Int.reduceSub,Int.reduceNeg,Int.reducePow,Int.reduceBEq,Int.reduceToNat,Int.reduceGT,Int.reduceGE,String.reduceBEq,zcn,zco,List.replicate_succ,List.replicate_zero,zcp,zcq,zcr,zcs,zct,zcu,zcv,zcw,zcx,zcy,zcz,zcA,zcB,zcC,zcD,zcE,zcF,zcG,zcH,zcI,zcJ,zcK,zcL,zcM,zcN,zcO,zcP,zcQ,zcR,zcS,zcT,zcU,zcV,zcW,zcX,zcY,zcZ,zc0,zc1,zc2,zc3,zc4,zc5,zc6,zc7,zc8,zc9,zda,zdb,zdc,Bool.true_or,Bool.or_true,Bool.false_or,Bool.or_false,Bool.and_true,Bool.true_and,Bool.and_false,Bool.false_and,Int.cast_ofNat_Int,Int.natCast_zero,Int.natCast_one,beq_self_eq_true,zdd,zde,zdf,zdg,zdh,wipeR,show v_WORDS = .tup [.str "short",.str "strikes",.str "past"] from rfl,i1,i2,i3,L3] <;> rfl
  rw [e, zaa]
theorem lc_edges {r0 r1 r3 r4 : Option PV} : ∀ (T : List Nat) (S : Sto) (Q : List PV → Sto → Prop), Ok (lcM (fun _ => True) (gName 4) (bCmp (dOp eqM (dAp m_word_for (dCons (dVar 4) (dCons (dVar 2) dNil))) (dC (.str "strikes")))) (dOp subM (dVar 4) (dC (.int 1))) [r0, r1, some (.tup (C.map plP)), r3, r4] (T.map nI) S) Q = Q (eL C.length T) S
  | [], S, Q => by rw [List.map_nil, zdf]; rfl
  | i :: T, S, Q => by
    rw [List.map_cons, zde]
    have hw : (wordS i C.length == "strikes") = isS C.length i := ws_strikes
    cases h : isS C.length i with
    | true =>
      have e : eL C.length (i :: T) = .int ((i : Nat) - 1) :: eL C.length T := by simp [eL, List.filter_cons, h]
      rw [h] at hw
      simp -dsimp (disch := first | assumption | omega) only [zaa,zab,zac,zad,zae,zaf,zag,zah,zai,zaj,zak,zal,zam,zan,zao,zap,zaq,zar,zas,zat,zau,zav,zaw,zax,zay,zaz,zaA,zaB,zaC,zaD,zaE,zaF,zaG,zaH,zaI,zaJ,zaK,zaL,zaM,zaN,zaO,zaP,zaQ,zaR,zaS,zaT,zaU,zaV,zaW,zaX,zaY,zaZ,za0,za1,za2,za3,za4,za5,za6,za7,za8,za9,zba,zbb,zbc,zbd,zbe,zbf,zbg,zbh,zbi,zbj,zbk,zbl,zbm,zbn,zbo,zbp,zbq,zbr,zbs,zbt,zbu,zbv,zbw,zbx,zby,zbz,zbA,zbB,zbC,zbD,zbE,zbF,zbG,zbH,zbI,zbJ,zbK,zbL,zbM,zbN,zbO,zbP,zbQ,zbR,zbS,zbT,zbU,zbV,zbW,zbX,zbY,zbZ,zb0,zb1,zb2,zb3,zb4,zb5,zb6,zb7,zb8,zb9,zca,zcb,eq_self,zcc,zcd,zce,zcf,zcg,zch,zci,zcj,zck,zcl,zcm,List.getElem?_cons_succ,List.getElem?_cons_zero,List.set_cons_succ,List.set_cons_zero,List.map_cons,List.map_nil,List.length_cons,List.length_nil,List.cons_append,List.nil_append,List.append_nil,List.isEmpty_cons,List.isEmpty_nil,if_true,if_false,ite_true,ite_false,Bool.not_true,Bool.not_false,Bool.not_not,decide_true,true_and,and_true,false_and,and_false,Bool.false_eq_true,reduceCtorEq,decide_true,decide_false,ite_self,forall_const,Nat.zero_add,Nat.reduceAdd,Nat.reduceLeDiff,Nat.reduceLT,Nat.reduceEqDiff,Nat.reduceSub,Nat.reduceMul,Nat.reduceBEq,Int.reduceLT,Int.reduceLE,Int.reduceEq,Int.reduceNe,Int.reduceAdd,Int.reduceMul,Int.reduceSub,Int.reduceNeg,Int.reducePow,Int.reduceBEq,Int.reduceToNat,Int.reduceGT,Int.reduceGE,String.reduceBEq,zcn,zco,List.replicate_succ,List.replicate_zero,zcp,zcq,zcr,zcs,zct,zcu,zcv,zcw,zcx,zcy,zcz,zcA,zcB,zcC,zcD,zcE,zcF,zcG,zcH,zcI,zcJ,zcK,zcL,zcM,zcN,zcO,zcP,zcQ,zcR,zcS,zcT,zcU,zcV,zcW,zcX,zcY,zcZ,zc0,zc1,zc2,zc3,zc4,zc5,zc6,zc7,zc8,zc9,zda,zdb,zdc,Bool.true_or,Bool.or_true,Bool.false_or,Bool.or_false,Bool.and_true,Bool.true_and,Bool.and_false,Bool.false_and,Int.cast_ofNat_Int,Int.natCast_zero,Int.natCast_one,beq_self_eq_true,zdd,wipeR,p_word_for,hw,lc_edges T,e]
    | false =>
      have e : eL C.length (i :: T) = eL C.length T := by simp [eL, List.filter_cons, h]
      rw [h] at hw
      simp -dsimp (disch := first | assumption | omega) only [zaa,zab,zac,zad,zae,zaf,zag,zah,zai,zaj,zak,zal,zam,zan,zao,zap,zaq,zar,zas,zat,zau,zav,zaw,zax,zay,zaz,zaA,zaB,zaC,zaD,zaE,zaF,zaG,zaH,zaI,zaJ,zaK,zaL,zaM,zaN,zaO,zaP,zaQ,zaR,zaS,zaT,zaU,zaV,zaW,zaX,zaY,zaZ,za0,za1,za2,za3,za4,za5,za6,za7,za8,za9,zba,zbb,zbc,zbd,zbe,zbf,zbg,zbh,zbi,zbj,zbk,zbl,zbm,zbn,zbo,zbp,zbq,zbr,zbs,zbt,zbu,zbv,zbw,zbx,zby,zbz,zbA,zbB,zbC,zbD,zbE,zbF,zbG,zbH,zbI,zbJ,zbK,zbL,zbM,zbN,zbO,zbP,zbQ,zbR,zbS,zbT,zbU,zbV,zbW,zbX,zbY,zbZ,zb0,zb1,zb2,zb3,zb4,zb5,zb6,zb7,zb8,zb9,zca,zcb,eq_self,zcc,zcd,zce,zcf,zcg,zch,zci,zcj,zck,zcl,zcm,List.getElem?_cons_succ,List.getElem?_cons_zero,List.set_cons_succ,List.set_cons_zero,List.map_cons,List.map_nil,List.length_cons,List.length_nil,List.cons_append,List.nil_append,List.append_nil,List.isEmpty_cons,List.isEmpty_nil,if_true,if_false,ite_true,ite_false,Bool.not_true,Bool.not_false,Bool.not_not,decide_true,true_and,and_true,false_and,and_false,Bool.false_eq_true,reduceCtorEq,decide_true,decide_false,ite_self,forall_const,Nat.zero_add,Nat.reduceAdd,Nat.reduceLeDiff,Nat.reduceLT,Nat.reduceEqDiff,Nat.reduceSub,Nat.reduceMul,Nat.reduceBEq,Int.reduceLT,Int.reduceLE,Int.reduceEq,Int.reduceNe,Int.reduceAdd,Int.reduceMul,Int.reduceSub,Int.reduceNeg,Int.reducePow,Int.reduceBEq,Int.reduceToNat,Int.reduceGT,Int.reduceGE,String.reduceBEq,zcn,zco,List.replicate_succ,List.replicate_zero,zcp,zcq,zcr,zcs,zct,zcu,zcv,zcw,zcx,zcy,zcz,zcA,zcB,zcC,zcD,zcE,zcF,zcG,zcH,zcI,zcJ,zcK,zcL,zcM,zcN,zcO,zcP,zcQ,zcR,zcS,zcT,zcU,zcV,zcW,zcX,zcY,zcZ,zc0,zc1,zc2,zc3,zc4,zc5,zc6,zc7,zc8,zc9,zda,zdb,zdc,Bool.true_or,Bool.or_true,Bool.false_or,Bool.or_false,Bool.and_true,Bool.true_and,Bool.and_false,Bool.false_and,Int.cast_ofNat_Int,Int.natCast_zero,Int.natCast_one,beq_self_eq_true,zdd,wipeR,p_word_for,hw,lc_edges T,e]
theorem p_swept_edges (b0 : 0 < b) (c0 : 0 < b2) (hC : Cor C) (h2 : 2 ≤ C.length) (h5 : C.length ≤ 5) (hI : InS S) :
    Ok (m_swept_edges [jv s b, jv s2 b2, .tup (C.map plP)] S) Q = Q (.tup (eL C.length (falls (fl2 s b s2 b2 C) 0 0 1))) S := by
  have e : m_swept_edges [jv s b, jv s2 b2, .tup (C.map plP)] S = .ok (.tup (eL C.length (falls (fl2 s b s2 b2 C) 0 0 1))) S := by
    refine Ok.eq (Ok_defM rfl ?_)
    have cg := fun S Q => p_check_ground (S := S) (Q := Q) hC h2 h5
    have pf := fun Q => p_falls (S := S) (Q := Q) (s := s) (b := b) (s2 := s2) (b2 := b2) hC h5 hI
    have hlen := falls_len (cs := fl2 s b s2 b2 C) 0 0 1
    rw [show (fl2 s b s2 b2 C).length = C.length by simp [fl2]] at hlen
    generalize falls (fl2 s b s2 b2 C) 0 0 1 = T at *
    have hl : (T.map nI).length ≤ LIM := Nat.le_trans (show (T.map nI).length ≤ 8 by simp; omega) (by decide)
    have ct := fun S Q => p_check_turn (S := S) (Q := Q) (s := s) (s2 := s2) b0 c0
    simp -dsimp (disch := first | assumption | omega) only [zaa,zab,zac,zad,zae,zaf,zag,zah,zai,zaj,zak,zal,zam,zan,zao,zap,zaq,zar,zas,zat,zau,zav,zaw,zax,zay,zaz,zaA,zaB,zaC,zaD,zaE,zaF,zaG,zaH,zaI,zaJ,zaK,zaL,zaM,zaN,zaO,zaP,zaQ,zaR,zaS,zaT,zaU,zaV,zaW,zaX,zaY,zaZ,za0,za1,za2,za3,za4,za5,za6,za7,za8,za9,zba,zbb,zbc,zbd,zbe,zbf,zbg,zbh,zbi,zbj,zbk,zbl,zbm,zbn,zbo,zbp,zbq,zbr,zbs,zbt,zbu,zbv,zbw,zbx,zby,zbz,zbA,zbB,zbC,zbD,zbE,zbF,zbG,zbH,zbI,zbJ,zbK,zbL,zbM,zbN,zbO,zbP,zbQ,zbR,zbS,zbT,zbU,zbV,zbW,zbX,zbY,zbZ,zb0,zb1,zb2,zb3,zb4,zb5,zb6,zb7,zb8,zb9,zca,zcb,eq_self,zcc,zcd,zce,zcf,zcg,zch,zci,zcj,zck,zcl,zcm,List.getElem?_cons_succ,List.getElem?_cons_zero,List.set_cons_succ,List.set_cons_zero,List.map_cons,List.map_nil,List.length_cons,List.length_nil,List.cons_append,List.nil_append,List.append_nil,List.isEmpty_cons,List.isEmpty_nil,if_true,if_false,ite_true,ite_false,Bool.not_true,Bool.not_false,Bool.not_not,decide_true,true_and,and_true,false_and,and_false,Bool.false_eq_true,reduceCtorEq,decide_true,decide_false,ite_self,forall_const,Nat.zero_add,Nat.reduceAdd,Nat.reduceLeDiff,Nat.reduceLT,Nat.reduceEqDiff,Nat.reduceSub,Nat.reduceMul,Nat.reduceBEq,Int.reduceLT,Int.reduceLE,Int.reduceEq,Int.reduceNe,Int.reduceAdd,Int.reduceMul,Int.reduceSub,Int.reduceNeg,Int.reducePow,Int.reduceBEq,Int.reduceToNat,Int.reduceGT,Int.reduceGE,String.reduceBEq,zcn,zco,List.replicate_succ,List.replicate_zero,zcp,zcq,zcr,zcs,zct,zcu,zcv,zcw,zcx,zcy,zcz,zcA,zcB,zcC,zcD,zcE,zcF,zcG,zcH,zcI,zcJ,zcK,zcL,zcM,zcN,zcO,zcP,zcQ,zcR,zcS,zcT,zcU,zcV,zcW,zcX,zcY,zcZ,zc0,zc1,zc2,zc3,zc4,zc5,zc6,zc7,zc8,zc9,zda,zdb,zdc,Bool.true_or,Bool.or_true,Bool.false_or,Bool.or_false,Bool.and_true,Bool.true_and,Bool.and_false,Bool.false_and,Int.cast_ofNat_Int,Int.natCast_zero,Int.natCast_one,beq_self_eq_true,zdd,wipeR,ct,cg,pf,hl,lc_edges]
  rw [e, zaa]
end
end
end Pm.L


namespace Pm.L
open PySem PySem.Spec L2 Pm
/-- the indices of the corners below which it is -/
def filt : List Rat → Nat → List Nat
  | [], _ => []
  | q :: qs, k => if q < 0 then k :: filt qs (k + 1) else filt qs (k + 1)
theorem filt_fb : ∀ (L : List Rat) (k : Nat), (filt L k).head?.getD (k + L.length) = fbL L k
  | [], k => rfl
  | q :: qs, k => by
    have ih := filt_fb qs (k + 1)
    unfold filt fbL
    split
    · rfl
    · rw [← ih]
      simp only [List.length_cons]
      congr 1
      omega
theorem filt_lt : ∀ (L : List Rat) (k : Nat), ∀ i ∈ filt L k, i < k + L.length
  | [], k, i, h => by simp [filt] at h
  | q :: qs, k, i, h => by
    unfold filt at h
    simp only [List.length_cons]
    split at h
    · rcases List.mem_cons.mp h with e | e
      · omega
      · have := filt_lt qs (k + 1) i e; omega
    · have := filt_lt qs (k + 1) i h; omega
section
variable {S : Sto} {Q : PV → Sto → Prop}
theorem w_sign {i : Int} : Ok (m__law_sign [.int i] S) Q = Q (.int ((if i > 0 then 1 else 0) - (if i < 0 then 1 else 0))) S := by
  have e : m__law_sign [.int i] S = .ok (.int ((if i > 0 then 1 else 0) - (if i < 0 then 1 else 0))) S := by
    refine Ok.eq (Ok_defM rfl ?_)
    simp -dsimp (disch := first | assumption | omega) only [zaa,zab,zac,zad,zae,zaf,zag,zah,zai,zaj,zak,zal,zam,zan,zao,zap,zaq,zar,zas,zat,zau,zav,zaw,zax,zay,zaz,zaA,zaB,zaC,zaD,zaE,zaF,zaG,zaH,zaI,zaJ,zaK,zaL,zaM,zaN,zaO,zaP,zaQ,zaR,zaS,zaT,zaU,zaV,zaW,zaX,zaY,zaZ,za0,za1,za2,za3,za4,za5,za6,za7,za8,za9,zba,zbb,zbc,zbd,zbe,zbf,zbg,zbh,zbi,zbj,zbk,zbl,zbm,zbn,zbo,zbp,zbq,zbr,zbs,zbt,zbu,zbv,zbw,zbx,zby,zbz,zbA,zbB,zbC,zbD,zbE,zbF,zbG,zbH,zbI,zbJ,zbK,zbL,zbM,zbN,zbO,zbP,zbQ,zbR,zbS,zbT,zbU,zbV,zbW,zbX,zbY,zbZ,zb0,zb1,zb2,zb3,zb4,zb5,zb6,zb7,zb8,zb9,zca,zcb,eq_self,zcc,zcd,zce,zcf,zcg,zch,zci,zcj,zck,zcl,zcm,List.getElem?_cons_succ,List.getElem?_cons_zero,List.set_cons_succ,List.set_cons_zero,List.map_cons,List.map_nil,List.length_cons,List.length_nil,List.cons_append,List.nil_append,List.append_nil,List.isEmpty_cons,List.isEmpty_nil,if_true,if_false,ite_true,ite_false,Bool.not_true,Bool.not_false,Bool.not_not,decide_true,true_and,and_true,false_and,and_false,Bool.false_eq_true,reduceCtorEq,decide_true,decide_false,ite_self,forall_const,Nat.zero_add,Nat.reduceAdd,Nat.reduceLeDiff,Nat.reduceLT,Nat.reduceEqDiff,Nat.reduceSub,Nat.reduceMul,Nat.reduceBEq,Int.reduceLT,Int.reduceLE,Int.reduceEq,Int.reduceNe,Int.reduceAdd,Int.reduceMul,Int.reduceSub,Int.reduceNeg,Int.reducePow,Int.reduceBEq,Int.reduceToNat,Int.reduceGT,Int.reduceGE,String.reduceBEq,zcn,zco,List.replicate_succ,List.replicate_zero,zcp,zcq,zcr,zcs,zct,zcu,zcv,zcw,zcx,zcy,zcz,zcA,zcB,zcC,zcD,zcE,zcF,zcG,zcH,zcI,zcJ,zcK,zcL,zcM,zcN,zcO,zcP,zcQ,zcR,zcS,zcT,zcU,zcV,zcW,zcX,zcY,zcZ,zc0,zc1,zc2,zc3,zc4,zc5,zc6,zc7,zc8,zc9,zda,zdb,zdc,Bool.true_or,Bool.or_true,Bool.false_or,Bool.or_false,Bool.and_true,Bool.true_and,Bool.and_false,Bool.false_and,Int.cast_ofNat_Int,Int.natCast_zero,Int.natCast_one,beq_self_eq_true,zdd,zde,zdf,zdg,zdh,wipeR,decide_eq_true_eq]
  rw [e, zaa]
theorem w_order_lt {q r : Rat} {k l : Nat} [hq : Sz q k] [hr : Sz r l] (hk : k + l ≤ 8000) : ∃ i : Int, m__law_order [rv q, rv r] S = .ok (.int i) S ∧ (i < 0 ↔ q < r) := by
  have n1 : q.num.natAbs.log2 + (r.den : Int).natAbs.log2 < 1000000 := lg hq.n hr.d (by omega)
  have n2 : r.num.natAbs.log2 + (q.den : Int).natAbs.log2 < 1000000 := lg hr.n hq.d (by omega)
  refine ⟨(if q.num * (r.den : Int) - r.num * (q.den : Int) > 0 then 1 else 0) - (if q.num * (r.den : Int) - r.num * (q.den : Int) < 0 then 1 else 0), ?_, ?_⟩
  · refine Ok.eq (Ok_defM rfl ?_)
    simp -dsimp (disch := first | assumption | omega) only [zaa,zab,zac,zad,zae,zaf,zag,zah,zai,zaj,zak,zal,zam,zan,zao,zap,zaq,zar,zas,zat,zau,zav,zaw,zax,zay,zaz,zaA,zaB,zaC,zaD,zaE,zaF,zaG,zaH,zaI,zaJ,zaK,zaL,zaM,zaN,zaO,zaP,zaQ,zaR,zaS,zaT,zaU,zaV,zaW,zaX,zaY,zaZ,za0,za1,za2,za3,za4,za5,za6,za7,za8,za9,zba,zbb,zbc,zbd,zbe,zbf,zbg,zbh,zbi,zbj,zbk,zbl,zbm,zbn,zbo,zbp,zbq,zbr,zbs,zbt,zbu,zbv,zbw,zbx,zby,zbz,zbA,zbB,zbC,zbD,zbE,zbF,zbG,zbH,zbI,zbJ,zbK,zbL,zbM,zbN,zbO,zbP,zbQ,zbR,zbS,zbT,zbU,zbV,zbW,zbX,zbY,zbZ,zb0,zb1,zb2,zb3,zb4,zb5,zb6,zb7,zb8,zb9,zca,zcb,eq_self,zcc,zcd,zce,zcf,zcg,zch,zci,zcj,zck,zcl,zcm,List.getElem?_cons_succ,List.getElem?_cons_zero,List.set_cons_succ,List.set_cons_zero,List.map_cons,List.map_nil,List.length_cons,List.length_nil,List.cons_append,List.nil_append,List.append_nil,List.isEmpty_cons,List.isEmpty_nil,if_true,if_false,ite_true,ite_false,Bool.not_true,Bool.not_false,Bool.not_not,decide_true,true_and,and_true,false_and,and_false,Bool.false_eq_true,reduceCtorEq,decide_true,decide_false,ite_self,forall_const,Nat.zero_add,Nat.reduceAdd,Nat.reduceLeDiff,Nat.reduceLT,Nat.reduceEqDiff,Nat.reduceSub,Nat.reduceMul,Nat.reduceBEq,Int.reduceLT,Int.reduceLE,Int.reduceEq,Int.reduceNe,Int.reduceAdd,Int.reduceMul,Int.reduceSub,Int.reduceNeg,Int.reducePow,Int.reduceBEq,Int.reduceToNat,Int.reduceGT,Int.reduceGE,String.reduceBEq,zcn,zco,List.replicate_succ,List.replicate_zero,zcp,zcq,zcr,zcs,zct,zcu,zcv,zcw,zcx,zcy,zcz,zcA,zcB,zcC,zcD,zcE,zcF,zcG,zcH,zcI,zcJ,zcK,zcL,zcM,zcN,zcO,zcP,zcQ,zcR,zcS,zcT,zcU,zcV,zcW,zcX,zcY,zcZ,zc0,zc1,zc2,zc3,zc4,zc5,zc6,zc7,zc8,zc9,zda,zdb,zdc,Bool.true_or,Bool.or_true,Bool.false_or,Bool.or_false,Bool.and_true,Bool.true_and,Bool.and_false,Bool.false_and,Int.cast_ofNat_Int,Int.natCast_zero,Int.natCast_one,beq_self_eq_true,zdd,zde,zdf,zdg,zdh,wipeR,n1,n2,w_sign]
  · rw [Rat.lt_iff]
    generalize q.num * (r.den : Int) = a
    generalize r.num * (q.den : Int) = b
    split <;> split <;> omega
section
variable {s b : Rat} {k l : Nat} [hs : Sz s k] [hb : Sz b l] {C : List (Rat × Rat)}
theorem w_is_below {c : Rat × Rat} (h1 : Sz c.1 40) (h2 : Sz c.2 100) (hk : k + l ≤ 500) : Ok (m__law_is_below [jv s b, plP c] S) Q = Q (.bl (decide (hiC s b c < 0))) S := by
  have e : m__law_is_below [jv s b, plP c] S = .ok (.bl (decide (hiC s b c < 0))) S := by
    refine Ok.eq (Ok_defM rfl ?_)
    have zh : Sz (c.1 * (s - b * c.1)) (2 * (k + l) + 200) := (inferInstance : Sz (c.1 * (s - b * c.1)) _).le (by omega)
    have wh := fun S Q => w_high (S := S) (Q := Q) (s := s) (b := b) (d := c.1) (by omega)
    have ef : (c.1 * (s - b * c.1) < c.2) = (hiC s b c < 0) := by
      unfold hiC hi
      apply propext
      constructor <;> intro z <;> grind
    obtain ⟨i, o1, o2⟩ := w_order_lt (S := S) (q := c.1 * (s - b * c.1)) (r := c.2) (by omega)
    rw [ef] at o2
    generalize c.1 * (s - b * c.1) = H at *
    have od : ∀ Q : PV → Sto → Prop, Ok (m__law_order [rv H, rv c.2] S) Q = Q (.int i) S := fun Q => by rw [o1, zaa]
    have e3 : decide (i < 0) = decide (hiC s b c < 0) := by simp [o2]
    simp -dsimp (disch := first | assumption | omega) only [zaa,zab,zac,zad,zae,zaf,zag,zah,zai,zaj,zak,zal,zam,zan,zao,zap,zaq,zar,zas,zat,zau,zav,zaw,zax,zay,zaz,zaA,zaB,zaC,zaD,zaE,zaF,zaG,zaH,zaI,zaJ,zaK,zaL,zaM,zaN,zaO,zaP,zaQ,zaR,zaS,zaT,zaU,zaV,zaW,zaX,zaY,zaZ,za0,za1,za2,za3,za4,za5,za6,za7,za8,za9,zba,zbb,zbc,zbd,zbe,zbf,zbg,zbh,zbi,zbj,zbk,zbl,zbm,zbn,zbo,zbp,zbq,zbr,zbs,zbt,zbu,zbv,zbw,zbx,zby,zbz,zbA,zbB,zbC,zbD,zbE,zbF,zbG,zbH,zbI,zbJ,zbK,zbL,zbM,zbN,zbO,zbP,zbQ,zbR,zbS,zbT,zbU,zbV,zbW,zbX,zbY,zbZ,zb0,zb1,zb2,zb3,zb4,zb5,zb6,zb7,zb8,zb9,zca,zcb,eq_self,zcc,zcd,zce,zcf,zcg,zch,zci,zcj,zck,zcl,zcm,List.getElem?_cons_succ,List.getElem?_cons_zero,List.set_cons_succ,List.set_cons_zero,List.map_cons,List.map_nil,List.length_cons,List.length_nil,List.cons_append,List.nil_append,List.append_nil,List.isEmpty_cons,List.isEmpty_nil,if_true,if_false,ite_true,ite_false,Bool.not_true,Bool.not_false,Bool.not_not,decide_true,true_and,and_true,false_and,and_false,Bool.false_eq_true,reduceCtorEq,decide_true,decide_false,ite_self,forall_const,Nat.zero_add,Nat.reduceAdd,Nat.reduceLeDiff,Nat.reduceLT,Nat.reduceEqDiff,Nat.reduceSub,Nat.reduceMul,Nat.reduceBEq,Int.reduceLT,Int.reduceLE,Int.reduceEq,Int.reduceNe,Int.reduceAdd,Int.reduceMul,Int.reduceSub,Int.reduceNeg,Int.reducePow,Int.reduceBEq,Int.reduceToNat,Int.reduceGT,Int.reduceGE,String.reduceBEq,zcn,zco,List.replicate_succ,List.replicate_zero,zcp,zcq,zcr,zcs,zct,zcu,zcv,zcw,zcx,zcy,zcz,zcA,zcB,zcC,zcD,zcE,zcF,zcG,zcH,zcI,zcJ,zcK,zcL,zcM,zcN,zcO,zcP,zcQ,zcR,zcS,zcT,zcU,zcV,zcW,zcX,zcY,zcZ,zc0,zc1,zc2,zc3,zc4,zc5,zc6,zc7,zc8,zc9,zda,zdb,zdc,Bool.true_or,Bool.or_true,Bool.false_or,Bool.or_false,Bool.and_true,Bool.true_and,Bool.and_false,Bool.false_and,Int.cast_ofNat_Int,Int.natCast_zero,Int.natCast_one,beq_self_eq_true,zdd,zde,zdf,zdg,zdh,wipeR,w_apart,wh,od,e3]
  rw [e, zaa]
end
end
end Pm.L


namespace Pm.L
open PySem PySem.Spec L2 Pm
theorem rngL_get {n i : Nat} {p : PV} (h : (rngL 0 n)[i]? = some p) : i < n ∧ p = nI i := by
  have h1 := (List.getElem?_eq_some_iff.mp h).1
  simp only [rngL, List.length_map, List.length_range] at h1
  refine ⟨h1, ?_⟩
  simp only [rngL, List.getElem?_map, List.getElem?_range h1, Option.map_some, Option.some.injEq] at h
  rw [← h]
  simp
theorem rngL_succ {k n : Nat} : rngL (k : Nat) (n + 1) = nI k :: rngL ((k + 1 : Nat) : Int) n := by
  simp only [rngL, List.range_succ_eq_map, List.map_cons, List.map_map]
  have e : ∀ j : Nat, (PV.int ((k : Int) + ((j + 1 : Nat) : Int))) = PV.int (((k + 1 : Nat) : Int) + (j : Nat)) := fun j => by congr 1; omega
  congr 1
  apply List.map_congr_left
  intro j _
  exact e j
instance nI_pln {T : List Nat} : PlnL (T.map nI) 0 := ⟨by rw [(ints_pln T).1, (ints_pln T).2]; exact ⟨rfl, Nat.le_refl _⟩⟩
theorem at_map {α : Type} {f : α → PV} {C : List α} {i : Nat} {c : α} (h : C[i]? = some c) : atI (C.map f) ((i : Nat) : Int) = some (f c) := by
  have hi := (List.getElem?_eq_some_iff.mp h).1
  unfold atI ixN
  rw [if_pos (by omega), if_pos (by rw [List.length_map]; omega)]
  simp [h]
section
variable {S : Sto} {Q : PV → Sto → Prop}
section
variable {s b : Rat} {k l : Nat} [hs : Sz s k] [hb : Sz b l] {C : List (Rat × Rat)}
theorem lc_below {r2 r3 : Option PV} (hC : Cor C) (hk : k + l ≤ 500) : ∀ (D : List (Rat × Rat)) (i : Nat) (S : Sto) (Q : List PV → Sto → Prop), C.drop i = D →
    Ok (lcM (fun _ => True) (gName 3) (bTru (dAp m__law_is_below (dCons (dVar 0) (dCons (dOp ixM (dVar 1) (dVar 3)) dNil)))) (dVar 3) [some (jv s b), some (.tup (C.map plP)), r2, r3] (rngL (i : Nat) D.length) S) Q = Q ((filt (D.map (hiC s b)) i).map nI) S
  | [], i, S, Q, _ => by
    rw [show rngL (i : Nat) ([] : List (Rat × Rat)).length = [] from rfl, zdf]; rfl
  | c :: D, i, S, Q, h => by
    have hc : C[i]? = some c := by
      have : (C.drop i)[0]? = some c := by rw [h]; rfl
      rw [List.getElem?_drop] at this
      exact this
    have h2 : C.drop (i + 1) = D := by rw [drop_at hc] at h; exact (List.cons.inj h).2
    obtain ⟨c0, c1, c2⟩ := hC.pos c (List.mem_of_getElem? hc)
    have ih := lc_below (r2 := r2) (r3 := r3) hC hk D (i + 1)
    have ea := at_map (f := plP) hc
    have wb := fun S Q => w_is_below (S := S) (Q := Q) (s := s) (b := b) c1 c2 hk
    rw [List.length_cons, rngL_succ, zde, List.map_cons, filt]
    by_cases a : hiC s b c < 0
    · rw [if_pos a]
      simp -dsimp (disch := first | assumption | omega) only [zaa,zab,zac,zad,zae,zaf,zag,zah,zai,zaj,zak,zal,zam,zan,zao,zap,zaq,zar,zas,zat,zau,zav,zaw,zax,zay,zaz,zaA,zaB,zaC,zaD,zaE,zaF,zaG,zaH,zaI,zaJ,zaK,zaL,zaM,zaN,zaO,zaP,zaQ,zaR,zaS,zaT,zaU,zaV,zaW,zaX,zaY,zaZ,za0,za1,za2,za3,za4,za5,za6,za7,za8,za9,zba,zbb,zbc,zbd,zbe,zbf,zbg,zbh,zbi,zbj,zbk,zbl,zbm,zbn,zbo,zbp,zbq,zbr,zbs,zbt,zbu,zbv,zbw,zbx,zby,zbz,zbA,zbB,zbC,zbD,zbE,zbF,zbG,zbH,zbI,zbJ,zbK,zbL,zbM,zbN,zbO,zbP,zbQ,zbR,zbS,zbT,zbU,zbV,zbW,zbX,zbY,zbZ,zb0,zb1,zb2,zb3,zb4,zb5,zb6,zb7,zb8,zb9,zca,zcb,eq_self,zcc,zcd,zce,zcf,zcg,zch,zci,zcj,zck,zcl,zcm,List.getElem?_cons_succ,List.getElem?_cons_zero,List.set_cons_succ,List.set_cons_zero,List.map_cons,List.map_nil,List.length_cons,List.length_nil,List.cons_append,List.nil_append,List.append_nil,List.isEmpty_cons,List.isEmpty_nil,if_true,if_false,ite_true,ite_false,Bool.not_true,Bool.not_false,Bool.not_not,decide_true,true_and,and_true,false_and,and_false,Bool.false_eq_true,reduceCtorEq,decide_true,decide_false,ite_self,forall_const,Nat.zero_add,Nat.reduceAdd,Nat.reduceLeDiff,Nat.reduceLT,Nat.reduceEqDiff,Nat.reduceSub,Nat.reduceMul,Nat.reduceBEq,Int.reduceLT,Int.reduceLE,Int.reduceEq,Int.reduceNe,Int.reduceAdd,Int.reduceMul,Int.reduceSub,Int.reduceNeg,Int.reducePow,Int.reduceBEq,Int.reduceToNat,Int.reduceGT,Int.reduceGE,String.reduceBEq,zcn,zco,List.replicate_succ,List.replicate_zero,zcp,zcq,zcr,zcs,zct,zcu,zcv,zcw,zcx,zcy,zcz,zcA,zcB,zcC,zcD,zcE,zcF,zcG,zcH,zcI,zcJ,zcK,zcL,zcM,zcN,zcO,zcP,zcQ,zcR,zcS,zcT,zcU,zcV,zcW,zcX,zcY,zcZ,zc0,zc1,zc2,zc3,zc4,zc5,zc6,zc7,zc8,zc9,zda,zdb,zdc,Bool.true_or,Bool.or_true,Bool.false_or,Bool.or_false,Bool.and_true,Bool.true_and,Bool.and_false,Bool.false_and,Int.cast_ofNat_Int,Int.natCast_zero,Int.natCast_one,beq_self_eq_true,zdd,wipeR,ea,wb,a,ih _ _ h2]
    · rw [if_neg a]
      simp -dsimp (disch := first | assumption | omega) only [zaa,zab,zac,zad,zae,zaf,zag,zah,zai,zaj,zak,zal,zam,zan,zao,zap,zaq,zar,zas,zat,zau,zav,zaw,zax,zay,zaz,zaA,zaB,zaC,zaD,zaE,zaF,zaG,zaH,zaI,zaJ,zaK,zaL,zaM,zaN,zaO,zaP,zaQ,zaR,zaS,zaT,zaU,zaV,zaW,zaX,zaY,zaZ,za0,za1,za2,za3,za4,za5,za6,za7,za8,za9,zba,zbb,zbc,zbd,zbe,zbf,zbg,zbh,zbi,zbj,zbk,zbl,zbm,zbn,zbo,zbp,zbq,zbr,zbs,zbt,zbu,zbv,zbw,zbx,zby,zbz,zbA,zbB,zbC,zbD,zbE,zbF,zbG,zbH,zbI,zbJ,zbK,zbL,zbM,zbN,zbO,zbP,zbQ,zbR,zbS,zbT,zbU,zbV,zbW,zbX,zbY,zbZ,zb0,zb1,zb2,zb3,zb4,zb5,zb6,zb7,zb8,zb9,zca,zcb,eq_self,zcc,zcd,zce,zcf,zcg,zch,zci,zcj,zck,zcl,zcm,List.getElem?_cons_succ,List.getElem?_cons_zero,List.set_cons_succ,List.set_cons_zero,List.map_cons,List.map_nil,List.length_cons,List.length_nil,List.cons_append,List.nil_append,List.append_nil,List.isEmpty_cons,List.isEmpty_nil,if_true,if_false,ite_true,ite_false,Bool.not_true,Bool.not_false,Bool.not_not,decide_true,true_and,and_true,false_and,and_false,Bool.false_eq_true,reduceCtorEq,decide_true,decide_false,ite_self,forall_const,Nat.zero_add,Nat.reduceAdd,Nat.reduceLeDiff,Nat.reduceLT,Nat.reduceEqDiff,Nat.reduceSub,Nat.reduceMul,Nat.reduceBEq,Int.reduceLT,Int.reduceLE,Int.reduceEq,Int.reduceNe,Int.reduceAdd,Int.reduceMul,Int.reduceSub,Int.reduceNeg,Int.reducePow,Int.reduceBEq,Int.reduceToNat,Int.reduceGT,Int.reduceGE,String.reduceBEq,zcn,zco,List.replicate_succ,List.replicate_zero,zcp,zcq,zcr,zcs,zct,zcu,zcv,zcw,zcx,zcy,zcz,zcA,zcB,zcC,zcD,zcE,zcF,zcG,zcH,zcI,zcJ,zcK,zcL,zcM,zcN,zcO,zcP,zcQ,zcR,zcS,zcT,zcU,zcV,zcW,zcX,zcY,zcZ,zc0,zc1,zc2,zc3,zc4,zc5,zc6,zc7,zc8,zc9,zda,zdb,zdc,Bool.true_or,Bool.or_true,Bool.false_or,Bool.or_false,Bool.and_true,Bool.true_and,Bool.and_false,Bool.false_and,Int.cast_ofNat_Int,Int.natCast_zero,Int.natCast_one,beq_self_eq_true,zdd,wipeR,ea,wb,a,ih _ _ h2]
/-- what the law tells of a jet and a ground -/
def gwV (F : List Nat) : PV := match F with
  | [] => .tup [.str "past", .non]
  | 0 :: _ => .tup [.str "short", .non]
  | (i + 1) :: _ => .tup [.str "strikes", nI i]
theorem w_ground_word (hC : Cor C) (h5 : C.length ≤ 5) (hk : k + l ≤ 500) : Ok (m__law_ground_word [jv s b, .tup (C.map plP)] S) Q = Q (gwV (filt (C.map (hiC s b)) 0)) S := by
  have e : ∀ v w, v = jv s b → w = .tup (C.map plP) → Ok (d__law_ground_word (rho0 4 [v, w]) S) fun r S1 => match r with
    | .nx _ => S1.length = S.length ∧ (fun p S' => p = gwV (filt (C.map (hiC s b)) 0) ∧ S' = S) .non S1
    | .rt p => S1.length = S.length ∧ (fun p S' => p = gwV (filt (C.map (hiC s b)) 0) ∧ S' = S) p S1
    | _ => False := by
    rintro v w rfl rfl
    have cl := fun S Q => lc_below (r2 := none) (r3 := none) (s := s) (b := b) hC hk C 0 S Q rfl
    have hf := filt_lt (C.map (hiC s b)) 0
    generalize filt (C.map (hiC s b)) 0 = F at *
    have e5 : (((C.map plP).length : Nat) : Int).toNat = C.length := by simp
    rw [show (((0 : Nat) : Int)) = 0 from rfl] at cl
    simp -dsimp (disch := first | assumption | omega) only [zaa,zab,zac,zad,zae,zaf,zag,zah,zai,zaj,zak,zal,zam,zan,zao,zap,zaq,zar,zas,zat,zau,zav,zaw,zax,zay,zaz,zaA,zaB,zaC,zaD,zaE,zaF,zaG,zaH,zaI,zaJ,zaK,zaL,zaM,zaN,zaO,zaP,zaQ,zaR,zaS,zaT,zaU,zaV,zaW,zaX,zaY,zaZ,za0,za1,za2,za3,za4,za5,za6,za7,za8,za9,zba,zbb,zbc,zbd,zbe,zbf,zbg,zbh,zbi,zbj,zbk,zbl,zbm,zbn,zbo,zbp,zbq,zbr,zbs,zbt,zbu,zbv,zbw,zbx,zby,zbz,zbA,zbB,zbC,zbD,zbE,zbF,zbG,zbH,zbI,zbJ,zbK,zbL,zbM,zbN,zbO,zbP,zbQ,zbR,zbS,zbT,zbU,zbV,zbW,zbX,zbY,zbZ,zb0,zb1,zb2,zb3,zb4,zb5,zb6,zb7,zb8,zb9,zca,zcb,eq_self,zcc,zcd,zce,zcf,zcg,zch,zci,zcj,zck,zcl,zcm,List.getElem?_cons_succ,List.getElem?_cons_zero,List.set_cons_succ,List.set_cons_zero,List.map_cons,List.map_nil,List.length_cons,List.length_nil,List.cons_append,List.nil_append,List.append_nil,List.isEmpty_cons,List.isEmpty_nil,if_true,if_false,ite_true,ite_false,Bool.not_true,Bool.not_false,Bool.not_not,decide_true,true_and,and_true,false_and,and_false,Bool.false_eq_true,reduceCtorEq,decide_true,decide_false,ite_self,forall_const,Nat.zero_add,Nat.reduceAdd,Nat.reduceLeDiff,Nat.reduceLT,Nat.reduceEqDiff,Nat.reduceSub,Nat.reduceMul,Nat.reduceBEq,Int.reduceLT,Int.reduceLE,Int.reduceEq,Int.reduceNe,Int.reduceAdd,Int.reduceMul,Int.reduceSub,Int.reduceNeg,Int.reducePow,Int.reduceBEq,Int.reduceToNat,Int.reduceGT,Int.reduceGE,String.reduceBEq,zcn,zco,List.replicate_succ,List.replicate_zero,zcp,zcq,zcr,zcs,zct,zcu,zcv,zcw,zcx,zcy,zcz,zcA,zcB,zcC,zcD,zcE,zcF,zcG,zcH,zcI,zcJ,zcK,zcL,zcM,zcN,zcO,zcP,zcQ,zcR,zcS,zcT,zcU,zcV,zcW,zcX,zcY,zcZ,zc0,zc1,zc2,zc3,zc4,zc5,zc6,zc7,zc8,zc9,zda,zdb,zdc,Bool.true_or,Bool.or_true,Bool.false_or,Bool.or_false,Bool.and_true,Bool.true_and,Bool.and_false,Bool.false_and,Int.cast_ofNat_Int,Int.natCast_zero,Int.natCast_one,beq_self_eq_true,zdd,wipeR,Int.natCast_zero]
    refine ⟨by rw [List.length_map]; omega, ?_⟩
    rw [e5]
    refine ⟨by simp [rngL]; omega, ?_⟩
    rw [cl]
    match F, hf with
    | [],_ => simp -dsimp (disch := first | assumption | omega) only [zaa,zab,zac,zad,zae,zaf,zag,zah,zai,zaj,zak,zal,zam,zan,zao,zap,zaq,zar,zas,zat,zau,zav,zaw,zax,zay,zaz,zaA,zaB,zaC,zaD,zaE,zaF,zaG,zaH,zaI,zaJ,zaK,zaL,zaM,zaN,zaO,zaP,zaQ,zaR,zaS,zaT,zaU,zaV,zaW,zaX,zaY,zaZ,za0,za1,za2,za3,za4,za5,za6,za7,za8,za9,zba,zbb,zbc,zbd,zbe,zbf,zbg,zbh,zbi,zbj,zbk,zbl,zbm,zbn,zbo,zbp,zbq,zbr,zbs,zbt,zbu,zbv,zbw,zbx,zby,zbz,zbA,zbB,zbC,zbD,zbE,zbF,zbG,zbH,zbI,zbJ,zbK,zbL,zbM,zbN,zbO,zbP,zbQ,zbR,zbS,zbT,zbU,zbV,zbW,zbX,zbY,zbZ,zb0,zb1,zb2,zb3,zb4,zb5,zb6,zb7,zb8,zb9,zca,zcb,eq_self,zcc,zcd,zce,zcf,zcg,zch,zci,zcj,zck,zcl,zcm,List.getElem?_cons_succ,List.getElem?_cons_zero,List.set_cons_succ,List.set_cons_zero,List.map_cons,List.map_nil,List.length_cons,List.length_nil,List.cons_append,List.nil_append,List.append_nil,List.isEmpty_cons,List.isEmpty_nil,if_true,if_false,ite_true,ite_false,Bool.not_true,Bool.not_false,Bool.not_not,decide_true,true_and,and_true,false_and,and_false,Bool.false_eq_true,reduceCtorEq,decide_true,decide_false,ite_self,forall_const,Nat.zero_add,Nat.reduceAdd,Nat.reduceLeDiff,Nat.reduceLT,Nat.reduceEqDiff,Nat.reduceSub,Nat.reduceMul,Nat.reduceBEq,Int.reduceLT,Int.reduceLE,Int.reduceEq,Int.reduceNe,Int.reduceAdd,Int.reduceMul,Int.reduceSub,Int.reduceNeg,Int.reducePow,Int.reduceBEq,Int.reduceToNat,Int.reduceGT,Int.reduceGE,String.reduceBEq,zcn,zco,List.replicate_succ,List.replicate_zero,zcp,zcq,zcr,zcs,zct,zcu,zcv,zcw,zcx,zcy,zcz,zcA,zcB,zcC,zcD,zcE,zcF,zcG,zcH,zcI,zcJ,zcK,zcL,zcM,zcN,zcO,zcP,zcQ,zcR,zcS,zcT,zcU,zcV,zcW,zcX,zcY,zcZ,zc0,zc1,zc2,zc3,zc4,zc5,zc6,zc7,zc8,zc9,zda,zdb,zdc,Bool.true_or,Bool.or_true,Bool.false_or,Bool.or_false,Bool.and_true,Bool.true_and,Bool.and_false,Bool.false_and,Int.cast_ofNat_Int,Int.natCast_zero,Int.natCast_one,beq_self_eq_true,zdd,wipeR,gwV]
    | 0 :: F, _ =>
      have e0 : ((PV.lst (nI 0 :: F.map nI)) = .lst []) = False := by simp
      simp -dsimp (disch := first | assumption | omega) only [zaa,zab,zac,zad,zae,zaf,zag,zah,zai,zaj,zak,zal,zam,zan,zao,zap,zaq,zar,zas,zat,zau,zav,zaw,zax,zay,zaz,zaA,zaB,zaC,zaD,zaE,zaF,zaG,zaH,zaI,zaJ,zaK,zaL,zaM,zaN,zaO,zaP,zaQ,zaR,zaS,zaT,zaU,zaV,zaW,zaX,zaY,zaZ,za0,za1,za2,za3,za4,za5,za6,za7,za8,za9,zba,zbb,zbc,zbd,zbe,zbf,zbg,zbh,zbi,zbj,zbk,zbl,zbm,zbn,zbo,zbp,zbq,zbr,zbs,zbt,zbu,zbv,zbw,zbx,zby,zbz,zbA,zbB,zbC,zbD,zbE,zbF,zbG,zbH,zbI,zbJ,zbK,zbL,zbM,zbN,zbO,zbP,zbQ,zbR,zbS,zbT,zbU,zbV,zbW,zbX,zbY,zbZ,zb0,zb1,zb2,zb3,zb4,zb5,zb6,zb7,zb8,zb9,zca,zcb,eq_self,zcc,zcd,zce,zcf,zcg,zch,zci,zcj,zck,zcl,zcm,List.getElem?_cons_succ,List.getElem?_cons_zero,List.set_cons_succ,List.set_cons_zero,List.map_cons,List.map_nil,List.length_cons,List.length_nil,List.cons_append,List.nil_append,List.append_nil,List.isEmpty_cons,List.isEmpty_nil,if_true,if_false,ite_true,ite_false,Bool.not_true,Bool.not_false,Bool.not_not,decide_true,true_and,and_true,false_and,and_false,Bool.false_eq_true,reduceCtorEq,decide_true,decide_false,ite_self,forall_const,Nat.zero_add,Nat.reduceAdd,Nat.reduceLeDiff,Nat.reduceLT,Nat.reduceEqDiff,Nat.reduceSub,Nat.reduceMul,Nat.reduceBEq,Int.reduceLT,Int.reduceLE,Int.reduceEq,Int.reduceNe,Int.reduceAdd,Int.reduceMul,Int.reduceSub,Int.reduceNeg,Int.reducePow,Int.reduceBEq,Int.reduceToNat,Int.reduceGT,Int.reduceGE,String.reduceBEq,zcn,zco,List.replicate_succ,List.replicate_zero,zcp,zcq,zcr,zcs,zct,zcu,zcv,zcw,zcx,zcy,zcz,zcA,zcB,zcC,zcD,zcE,zcF,zcG,zcH,zcI,zcJ,zcK,zcL,zcM,zcN,zcO,zcP,zcQ,zcR,zcS,zcT,zcU,zcV,zcW,zcX,zcY,zcZ,zc0,zc1,zc2,zc3,zc4,zc5,zc6,zc7,zc8,zc9,zda,zdb,zdc,Bool.true_or,Bool.or_true,Bool.false_or,Bool.or_false,Bool.and_true,Bool.true_and,Bool.and_false,Bool.false_and,Int.cast_ofNat_Int,Int.natCast_zero,Int.natCast_one,beq_self_eq_true,zdd,wipeR,e0,zb8,Int.natCast_zero,gwV]
    | (i + 1) :: F, _ =>
      have e0 : ((PV.lst (nI (i + 1) :: F.map nI)) = .lst []) = False := by simp
      have e1 : (((i + 1 : Nat) : Int) == 0) = false := by simp; omega
      have e2 : ((i + 1 : Nat) : Int) - 1 = (i : Nat) := by omega
      simp -dsimp (disch := first | assumption | omega) only [zaa,zab,zac,zad,zae,zaf,zag,zah,zai,zaj,zak,zal,zam,zan,zao,zap,zaq,zar,zas,zat,zau,zav,zaw,zax,zay,zaz,zaA,zaB,zaC,zaD,zaE,zaF,zaG,zaH,zaI,zaJ,zaK,zaL,zaM,zaN,zaO,zaP,zaQ,zaR,zaS,zaT,zaU,zaV,zaW,zaX,zaY,zaZ,za0,za1,za2,za3,za4,za5,za6,za7,za8,za9,zba,zbb,zbc,zbd,zbe,zbf,zbg,zbh,zbi,zbj,zbk,zbl,zbm,zbn,zbo,zbp,zbq,zbr,zbs,zbt,zbu,zbv,zbw,zbx,zby,zbz,zbA,zbB,zbC,zbD,zbE,zbF,zbG,zbH,zbI,zbJ,zbK,zbL,zbM,zbN,zbO,zbP,zbQ,zbR,zbS,zbT,zbU,zbV,zbW,zbX,zbY,zbZ,zb0,zb1,zb2,zb3,zb4,zb5,zb6,zb7,zb8,zb9,zca,zcb,eq_self,zcc,zcd,zce,zcf,zcg,zch,zci,zcj,zck,zcl,zcm,List.getElem?_cons_succ,List.getElem?_cons_zero,List.set_cons_succ,List.set_cons_zero,List.map_cons,List.map_nil,List.length_cons,List.length_nil,List.cons_append,List.nil_append,List.append_nil,List.isEmpty_cons,List.isEmpty_nil,if_true,if_false,ite_true,ite_false,Bool.not_true,Bool.not_false,Bool.not_not,decide_true,true_and,and_true,false_and,and_false,Bool.false_eq_true,reduceCtorEq,decide_true,decide_false,ite_self,forall_const,Nat.zero_add,Nat.reduceAdd,Nat.reduceLeDiff,Nat.reduceLT,Nat.reduceEqDiff,Nat.reduceSub,Nat.reduceMul,Nat.reduceBEq,Int.reduceLT,Int.reduceLE,Int.reduceEq,Int.reduceNe,Int.reduceAdd,Int.reduceMul,Int.reduceSub,Int.reduceNeg,Int.reducePow,Int.reduceBEq,Int.reduceToNat,Int.reduceGT,Int.reduceGE,String.reduceBEq,zcn,zco,List.replicate_succ,List.replicate_zero,zcp,zcq,zcr,zcs,zct,zcu,zcv,zcw,zcx,zcy,zcz,zcA,zcB,zcC,zcD,zcE,zcF,zcG,zcH,zcI,zcJ,zcK,zcL,zcM,zcN,zcO,zcP,zcQ,zcR,zcS,zcT,zcU,zcV,zcW,zcX,zcY,zcZ,zc0,zc1,zc2,zc3,zc4,zc5,zc6,zc7,zc8,zc9,zda,zdb,zdc,Bool.true_or,Bool.or_true,Bool.false_or,Bool.or_false,Bool.and_true,Bool.true_and,Bool.and_false,Bool.false_and,Int.cast_ofNat_Int,Int.natCast_zero,Int.natCast_one,beq_self_eq_true,zdd,wipeR,e0,zb8,e1,e2,gwV]
  have h : ∀ v w, v = jv s b → w = .tup (C.map plP) → Ok (m__law_ground_word [v, w] S) fun p S' => p = gwV (filt (C.map (hiC s b)) 0) ∧ S' = S := fun v w hv hw => Ok_defM rfl (e v w hv hw)
  have h2 : ∀ v w, v = jv s b → w = .tup (C.map plP) → Ok (m__law_ground_word [v, w] S) Q = Q (gwV (filt (C.map (hiC s b)) 0)) S := fun v w hv hw => by
    obtain ⟨p, S', e1, rfl, rfl⟩ := (h v w hv hw).ex
    rw [e1, zaa]
  exact h2 _ _ rfl rfl
end
end
end Pm.L


namespace Pm.L
open PySem PySem.Spec L2 Pm
section
variable {S : Sto} {Q : PV → Sto → Prop}
section
variable {s b s2 b2 : Rat} [z1 : Sz s 5] [z2 : Sz b 5] [z3 : Sz s2 5] [z4 : Sz b2 5] {C : List (Rat × Rat)}
theorem lc_here {r1 r2 r3 r4 r5 r6 r7 r8 r9 r10 r11 r12 : Option PV} : ∀ (D : List (Rat × Rat)) (S : Sto) (Q : List PV → Sto → Prop), (∀ c ∈ D, Sz c.1 40 ∧ Sz c.2 100) →
    Ok (lcM (fun _ => True) (gName 11) bYes (dAp m__law_less (dCons (dAp m__law_high (dCons (dVar 0) (dCons (dOp ixM (dAp m__law_apart (dCons (dVar 11) dNil)) (dC (.int 0))) dNil))) (dCons (dOp ixM (dAp m__law_apart (dCons (dVar 11) dNil)) (dC (.int 1))) dNil))) [some (jv s b), r1, r2, r3, r4, r5, r6, r7, r8, r9, r10, r11, r12] (D.map plP) S) Q = Q (D.map fun c => rv (hiC s b c)) S
  | [], S, Q, _ => by rw [List.map_nil, zdf]; rfl
  | c :: D, S, Q, h => by
    obtain ⟨c1, c2⟩ := h c (by simp)
    have ih := lc_here (r1 := r1) (r2 := r2) (r3 := r3) (r4 := r4) (r5 := r5) (r6 := r6) (r7 := r7) (r8 := r8) (r9 := r9) (r10 := r10) (r11 := r11) (r12 := r12) D
    have hd : ∀ c ∈ D, Sz c.1 40 ∧ Sz c.2 100 := fun d hd => h d (by simp [hd])
    have wh := fun S Q => w_high (S := S) (Q := Q) (s := s) (b := b) (d := c.1) (by omega)
    have zh : Sz (c.1 * (s - b * c.1)) 200 := (inferInstance : Sz (c.1 * (s - b * c.1)) _).le (by decide)
    have ef : c.1 * (s - b * c.1) - c.2 = hiC s b c := rfl
    rw [List.map_cons, List.map_cons, zde]
    generalize c.1 * (s - b * c.1) = H at *
    simp -dsimp (disch := first | assumption | omega) only [zaa,zab,zac,zad,zae,zaf,zag,zah,zai,zaj,zak,zal,zam,zan,zao,zap,zaq,zar,zas,zat,zau,zav,zaw,zax,zay,zaz,zaA,zaB,zaC,zaD,zaE,zaF,zaG,zaH,zaI,zaJ,zaK,zaL,zaM,zaN,zaO,zaP,zaQ,zaR,zaS,zaT,zaU,zaV,zaW,zaX,zaY,zaZ,za0,za1,za2,za3,za4,za5,za6,za7,za8,za9,zba,zbb,zbc,zbd,zbe,zbf,zbg,zbh,zbi,zbj,zbk,zbl,zbm,zbn,zbo,zbp,zbq,zbr,zbs,zbt,zbu,zbv,zbw,zbx,zby,zbz,zbA,zbB,zbC,zbD,zbE,zbF,zbG,zbH,zbI,zbJ,zbK,zbL,zbM,zbN,zbO,zbP,zbQ,zbR,zbS,zbT,zbU,zbV,zbW,zbX,zbY,zbZ,zb0,zb1,zb2,zb3,zb4,zb5,zb6,zb7,zb8,zb9,zca,zcb,eq_self,zcc,zcd,zce,zcf,zcg,zch,zci,zcj,zck,zcl,zcm,List.getElem?_cons_succ,List.getElem?_cons_zero,List.set_cons_succ,List.set_cons_zero,List.map_cons,List.map_nil,List.length_cons,List.length_nil,List.cons_append,List.nil_append,List.append_nil,List.isEmpty_cons,List.isEmpty_nil,if_true,if_false,ite_true,ite_false,Bool.not_true,Bool.not_false,Bool.not_not,decide_true,true_and,and_true,false_and,and_false,Bool.false_eq_true,reduceCtorEq,decide_true,decide_false,ite_self,forall_const,Nat.zero_add,Nat.reduceAdd,Nat.reduceLeDiff,Nat.reduceLT,Nat.reduceEqDiff,Nat.reduceSub,Nat.reduceMul,Nat.reduceBEq,Int.reduceLT,Int.reduceLE,Int.reduceEq,Int.reduceNe,Int.reduceAdd,Int.reduceMul,Int.reduceSub,Int.reduceNeg,Int.reducePow,Int.reduceBEq,Int.reduceToNat,Int.reduceGT,Int.reduceGE,String.reduceBEq,zcn,zco,List.replicate_succ,List.replicate_zero,zcp,zcq,zcr,zcs,zct,zcu,zcv,zcw,zcx,zcy,zcz,zcA,zcB,zcC,zcD,zcE,zcF,zcG,zcH,zcI,zcJ,zcK,zcL,zcM,zcN,zcO,zcP,zcQ,zcR,zcS,zcT,zcU,zcV,zcW,zcX,zcY,zcZ,zc0,zc1,zc2,zc3,zc4,zc5,zc6,zc7,zc8,zc9,zda,zdb,zdc,Bool.true_or,Bool.or_true,Bool.false_or,Bool.or_false,Bool.and_true,Bool.true_and,Bool.and_false,Bool.false_and,Int.cast_ofNat_Int,Int.natCast_zero,Int.natCast_one,beq_self_eq_true,zdd,wipeR,w_apart,wh,w_less,ef,ih _ _ hd]
theorem lc_there {r1 r2 r3 r4 r5 r6 r7 r8 r9 r10 r11 r12 : Option PV} : ∀ (D : List (Rat × Rat)) (S : Sto) (Q : List PV → Sto → Prop), (∀ c ∈ D, Sz c.1 40 ∧ Sz c.2 100) →
    Ok (lcM (fun _ => True) (gName 11) bYes (dAp m__law_less (dCons (dAp m__law_high (dCons (dVar 1) (dCons (dOp ixM (dAp m__law_apart (dCons (dVar 11) dNil)) (dC (.int 0))) dNil))) (dCons (dOp ixM (dAp m__law_apart (dCons (dVar 11) dNil)) (dC (.int 1))) dNil))) [r1, some (jv s b), r2, r3, r4, r5, r6, r7, r8, r9, r10, r11, r12] (D.map plP) S) Q = Q (D.map fun c => rv (hiC s b c)) S
  | [], S, Q, _ => by rw [List.map_nil, zdf]; rfl
  | c :: D, S, Q, h => by
    obtain ⟨c1, c2⟩ := h c (by simp)
    have ih := lc_there (r1 := r1) (r2 := r2) (r3 := r3) (r4 := r4) (r5 := r5) (r6 := r6) (r7 := r7) (r8 := r8) (r9 := r9) (r10 := r10) (r11 := r11) (r12 := r12) D
    have hd : ∀ c ∈ D, Sz c.1 40 ∧ Sz c.2 100 := fun d hd => h d (by simp [hd])
    have wh := fun S Q => w_high (S := S) (Q := Q) (s := s) (b := b) (d := c.1) (by omega)
    have zh : Sz (c.1 * (s - b * c.1)) 200 := (inferInstance : Sz (c.1 * (s - b * c.1)) _).le (by decide)
    have ef : c.1 * (s - b * c.1) - c.2 = hiC s b c := rfl
    rw [List.map_cons, List.map_cons, zde]
    generalize c.1 * (s - b * c.1) = H at *
    simp -dsimp (disch := first | assumption | omega) only [zaa,zab,zac,zad,zae,zaf,zag,zah,zai,zaj,zak,zal,zam,zan,zao,zap,zaq,zar,zas,zat,zau,zav,zaw,zax,zay,zaz,zaA,zaB,zaC,zaD,zaE,zaF,zaG,zaH,zaI,zaJ,zaK,zaL,zaM,zaN,zaO,zaP,zaQ,zaR,zaS,zaT,zaU,zaV,zaW,zaX,zaY,zaZ,za0,za1,za2,za3,za4,za5,za6,za7,za8,za9,zba,zbb,zbc,zbd,zbe,zbf,zbg,zbh,zbi,zbj,zbk,zbl,zbm,zbn,zbo,zbp,zbq,zbr,zbs,zbt,zbu,zbv,zbw,zbx,zby,zbz,zbA,zbB,zbC,zbD,zbE,zbF,zbG,zbH,zbI,zbJ,zbK,zbL,zbM,zbN,zbO,zbP,zbQ,zbR,zbS,zbT,zbU,zbV,zbW,zbX,zbY,zbZ,zb0,zb1,zb2,zb3,zb4,zb5,zb6,zb7,zb8,zb9,zca,zcb,eq_self,zcc,zcd,zce,zcf,zcg,zch,zci,zcj,zck,zcl,zcm,List.getElem?_cons_succ,List.getElem?_cons_zero,List.set_cons_succ,List.set_cons_zero,List.map_cons,List.map_nil,List.length_cons,List.length_nil,List.cons_append,List.nil_append,List.append_nil,List.isEmpty_cons,List.isEmpty_nil,if_true,if_false,ite_true,ite_false,Bool.not_true,Bool.not_false,Bool.not_not,decide_true,true_and,and_true,false_and,and_false,Bool.false_eq_true,reduceCtorEq,decide_true,decide_false,ite_self,forall_const,Nat.zero_add,Nat.reduceAdd,Nat.reduceLeDiff,Nat.reduceLT,Nat.reduceEqDiff,Nat.reduceSub,Nat.reduceMul,Nat.reduceBEq,Int.reduceLT,Int.reduceLE,Int.reduceEq,Int.reduceNe,Int.reduceAdd,Int.reduceMul,Int.reduceSub,Int.reduceNeg,Int.reducePow,Int.reduceBEq,Int.reduceToNat,Int.reduceGT,Int.reduceGE,String.reduceBEq,zcn,zco,List.replicate_succ,List.replicate_zero,zcp,zcq,zcr,zcs,zct,zcu,zcv,zcw,zcx,zcy,zcz,zcA,zcB,zcC,zcD,zcE,zcF,zcG,zcH,zcI,zcJ,zcK,zcL,zcM,zcN,zcO,zcP,zcQ,zcR,zcS,zcT,zcU,zcV,zcW,zcX,zcY,zcZ,zc0,zc1,zc2,zc3,zc4,zc5,zc6,zc7,zc8,zc9,zda,zdb,zdc,Bool.true_or,Bool.or_true,Bool.false_or,Bool.or_false,Bool.and_true,Bool.true_and,Bool.and_false,Bool.false_and,Int.cast_ofNat_Int,Int.natCast_zero,Int.natCast_one,beq_self_eq_true,zdd,wipeR,w_apart,wh,w_less,ef,ih _ _ hd]
theorem lc_some {r0 r1 r2 r5 r6 r7 r9 r10 r11 r12 : Option PV} {f l lo hi : Rat} {H G : List PV} {i : Nat} {S : Sto} {Q : List PV → Sto → Prop} [y1 : Sz f 192] [y2 : Sz l 192] [zl : Sz lo 600] [zh : Sz hi 600] (a1 : atI H ((i : Nat) : Int) = some (rv f)) (a2 : atI G ((i : Nat) : Int) = some (rv l)) :
    Ok (lcM (fun _ => True) (gName 12) bYes (dAp m__law_plus (dCons (dOp ixM (dVar 3) (dVar 8)) (dCons (dAp m__law_times (dCons (dVar 12) (dCons (dAp m__law_less (dCons (dOp ixM (dVar 4) (dVar 8)) (dCons (dOp ixM (dVar 3) (dVar 8)) dNil))) dNil))) dNil))) [r0, r1, r2, some (.lst H), some (.lst G), r5, r6, r7, some (nI i), r9, r10, r11, r12] [rv lo, rv hi] S) Q = Q [rv (gA f l lo), rv (gA f l hi)] S := by
  have e1 : ∀ r, f + r * (l - f) = gA f l r := fun _ => rfl
  simp -dsimp (disch := first | assumption | omega) only [zaa,zab,zac,zad,zae,zaf,zag,zah,zai,zaj,zak,zal,zam,zan,zao,zap,zaq,zar,zas,zat,zau,zav,zaw,zax,zay,zaz,zaA,zaB,zaC,zaD,zaE,zaF,zaG,zaH,zaI,zaJ,zaK,zaL,zaM,zaN,zaO,zaP,zaQ,zaR,zaS,zaT,zaU,zaV,zaW,zaX,zaY,zaZ,za0,za1,za2,za3,za4,za5,za6,za7,za8,za9,zba,zbb,zbc,zbd,zbe,zbf,zbg,zbh,zbi,zbj,zbk,zbl,zbm,zbn,zbo,zbp,zbq,zbr,zbs,zbt,zbu,zbv,zbw,zbx,zby,zbz,zbA,zbB,zbC,zbD,zbE,zbF,zbG,zbH,zbI,zbJ,zbK,zbL,zbM,zbN,zbO,zbP,zbQ,zbR,zbS,zbT,zbU,zbV,zbW,zbX,zbY,zbZ,zb0,zb1,zb2,zb3,zb4,zb5,zb6,zb7,zb8,zb9,zca,zcb,eq_self,zcc,zcd,zce,zcf,zcg,zch,zci,zcj,zck,zcl,zcm,List.getElem?_cons_succ,List.getElem?_cons_zero,List.set_cons_succ,List.set_cons_zero,List.map_cons,List.map_nil,List.length_cons,List.length_nil,List.cons_append,List.nil_append,List.append_nil,List.isEmpty_cons,List.isEmpty_nil,if_true,if_false,ite_true,ite_false,Bool.not_true,Bool.not_false,Bool.not_not,decide_true,true_and,and_true,false_and,and_false,Bool.false_eq_true,reduceCtorEq,decide_true,decide_false,ite_self,forall_const,Nat.zero_add,Nat.reduceAdd,Nat.reduceLeDiff,Nat.reduceLT,Nat.reduceEqDiff,Nat.reduceSub,Nat.reduceMul,Nat.reduceBEq,Int.reduceLT,Int.reduceLE,Int.reduceEq,Int.reduceNe,Int.reduceAdd,Int.reduceMul,Int.reduceSub,Int.reduceNeg,Int.reducePow,Int.reduceBEq,Int.reduceToNat,Int.reduceGT,Int.reduceGE,String.reduceBEq,zcn,zco,List.replicate_succ,List.replicate_zero,zcp,zcq,zcr,zcs,zct,zcu,zcv,zcw,zcx,zcy,zcz,zcA,zcB,zcC,zcD,zcE,zcF,zcG,zcH,zcI,zcJ,zcK,zcL,zcM,zcN,zcO,zcP,zcQ,zcR,zcS,zcT,zcU,zcV,zcW,zcX,zcY,zcZ,zc0,zc1,zc2,zc3,zc4,zc5,zc6,zc7,zc8,zc9,zda,zdb,zdc,Bool.true_or,Bool.or_true,Bool.false_or,Bool.or_false,Bool.and_true,Bool.true_and,Bool.and_false,Bool.false_and,Int.cast_ofNat_Int,Int.natCast_zero,Int.natCast_one,beq_self_eq_true,zdd,zde,zdf,zdg,zdh,wipeR,a1,a2,w_less,w_times,w_plus,e1]
abbrev shL (T : List Nat) : List PV := wv (T.any fun i => i == 0) false false
theorem shL_0 : shL [0] = [PV.str "short"] := rfl
theorem eL_0 {n : Nat} : eL n [0] = [] := by simp [eL, isS]
theorem eL_app {n i : Nat} {T : List Nat} (h0 : i ≠ 0) (hn : i ≠ n) : eL n (T ++ [i]) = eL n T ++ [PV.int ((i : Nat) - 1)] := by
  simp [eL, List.filter_append, isS, h0, hn]
theorem eL_end {n : Nat} {T : List Nat} : eL n (T ++ [n]) = eL n T := by
  simp [eL, List.filter_append, isS]
theorem shL_app {i : Nat} {T : List Nat} (h0 : i ≠ 0) : shL (T ++ [i]) = shL T := by
  have : (i == 0) = false := by simpa using h0
  unfold shL
  rw [List.any_append]
  simp [this]
theorem any_ne {n : Nat} {T : List Nat} (h : ∀ i ∈ T, i < n) : (T.any fun i => i == n) = false := by
  rw [List.any_eq_false]
  intro i hi
  have := h i hi
  simp; omega
noncomputable abbrev bodySw : SD := (sSeq (sAsg (dLC (iSeq (dVar 5)) (gName 12) bYes (dAp m__law_plus (dCons (dOp ixM (dVar 3) (dVar 8)) (dCons (dAp m__law_times (dCons (dVar 12) (dCons (dAp m__law_less (dCons (dOp ixM (dVar 4) (dVar 8)) (dCons (dOp ixM (dVar 3) (dVar 8)) dNil))) dNil))) dNil))) [12]) (gName 9))
      (sSeq (sIf (bOr (bCmp (dOp ltM (dOp ixM (dOp ixM (dVar 9) (dC (.int 0))) (dC (.int 0))) (dC (.int 0)))) (bCmp (dOp ltM (dOp ixM (dOp ixM (dVar 9) (dC (.int 1))) (dC (.int 0))) (dC (.int 0))))) (sAsg (dIf (bCmp (dOp eqM (dVar 8) (dC (.int 0)))) (dAp mkTup (dCons (dAp mkLst (dCons (dC (.str "short")) dNil)) (dCons (dAp mkLst dNil) dNil))) (dAp mkTup (dCons (dVar 6) (dCons (dOp addM (dVar 7) (dAp mkLst (dCons (dOp subM (dVar 8) (dC (.int 1))) dNil))) dNil)))) (gTup 2 (gsCons (gName 6) (gsCons (gName 7) gsNil)))) sNil)
      (sSeq (sIf (bAnd (bCmp (dOp ltM (dOp ixM (dOp ixM (dVar 9) (dC (.int 0))) (dC (.int 0))) (dC (.int 0)))) (bCmp (dOp ltM (dOp ixM (dOp ixM (dVar 9) (dC (.int 1))) (dC (.int 0))) (dC (.int 0))))) (sRet (dAp mkTup (dCons (dVar 6) (dCons (dVar 7) (dCons (dC (.bl false)) dNil))))) sNil)
      (sIf (bOr (bCmp (dOp ltM (dOp ixM (dOp ixM (dVar 9) (dC (.int 0))) (dC (.int 0))) (dC (.int 0)))) (bCmp (dOp ltM (dOp ixM (dOp ixM (dVar 9) (dC (.int 1))) (dC (.int 0))) (dC (.int 0))))) (sSeq (sAsg (dAp m__law_over (dCons (dOp ixM (dVar 3) (dVar 8)) (dCons (dAp m__law_less (dCons (dOp ixM (dVar 3) (dVar 8)) (dCons (dOp ixM (dVar 4) (dVar 8)) dNil))) dNil))) (gName 10))
      (sAsg (dIf (bCmp (dOp ltM (dOp ixM (dOp ixM (dVar 9) (dC (.int 0))) (dC (.int 0))) (dC (.int 0)))) (dAp mkTup (dCons (dVar 10) (dCons (dOp ixM (dVar 5) (dC (.int 1))) dNil))) (dAp mkTup (dCons (dOp ixM (dVar 5) (dC (.int 0))) (dCons (dVar 10) dNil)))) (gName 5))) sNil))))
theorem w_swept (hC : Cor C) (h5 : C.length ≤ 5) (hn : C.length ≠ 0) : Ok (m__law_swept [jv s b, jv s2 b2, .tup (C.map plP)] S) Q = Q (.tup [.lst (shL (falls (fl2 s b s2 b2 C) 0 0 1)), .lst (eL C.length (falls (fl2 s b s2 b2 C) 0 0 1)), .bl ((falls (fl2 s b s2 b2 C) 0 0 1).any fun i => i == C.length)]) S := by
  generalize hT : falls (fl2 s b s2 b2 C) 0 0 1 = T
  have e : ∀ v w x, v = jv s b → w = jv s2 b2 → x = .tup (C.map plP) → Ok (d__law_swept (rho0 13 [v, w, x]) S) fun r S1 => match r with
    | .nx _ => S1.length = S.length ∧ (fun (p : PV) (S' : Sto) => p = .tup [.lst (shL T), .lst (eL C.length T), .bl (T.any fun i => i == C.length)] ∧ S' = S) .non S1
    | .rt p => S1.length = S.length ∧ (fun (p : PV) (S' : Sto) => p = .tup [.lst (shL T), .lst (eL C.length T), .bl (T.any fun i => i == C.length)] ∧ S' = S) p S1
    | _ => False := by
    rintro v w x rfl rfl rfl
    have hz : ∀ c ∈ C, Sz c.1 40 ∧ Sz c.2 100 := fun c hc => (hC.pos c hc).2
    have e5 : (((C.map plP).length : Nat) : Int).toNat = C.length := by simp
    have L1 : (C.map plP).length ≤ 100000 := by rw [List.length_map]; omega
    simp -dsimp (disch := first | assumption | omega) only [zaa,zab,zac,zad,zae,zaf,zag,zah,zai,zaj,zak,zal,zam,zan,zao,zap,zaq,zar,zas,zat,zau,zav,zaw,zax,zay,zaz,zaA,zaB,zaC,zaD,zaE,zaF,zaG,zaH,zaI,zaJ,zaK,zaL,zaM,zaN,zaO,zaP,zaQ,zaR,zaS,zaT,zaU,zaV,zaW,zaX,zaY,zaZ,za0,za1,za2,za3,za4,za5,za6,za7,za8,za9,zba,zbb,zbc,zbd,zbe,zbf,zbg,zbh,zbi,zbj,zbk,zbl,zbm,zbn,zbo,zbp,zbq,zbr,zbs,zbt,zbu,zbv,zbw,zbx,zby,zbz,zbA,zbB,zbC,zbD,zbE,zbF,zbG,zbH,zbI,zbJ,zbK,zbL,zbM,zbN,zbO,zbP,zbQ,zbR,zbS,zbT,zbU,zbV,zbW,zbX,zbY,zbZ,zb0,zb1,zb2,zb3,zb4,zb5,zb6,zb7,zb8,zb9,zca,zcb,eq_self,zcc,zcd,zce,zcf,zcg,zch,zci,zcj,zck,zcl,zcm,List.getElem?_cons_succ,List.getElem?_cons_zero,List.set_cons_succ,List.set_cons_zero,List.map_cons,List.map_nil,List.length_cons,List.length_nil,List.cons_append,List.nil_append,List.append_nil,List.isEmpty_cons,List.isEmpty_nil,if_true,if_false,ite_true,ite_false,Bool.not_true,Bool.not_false,Bool.not_not,decide_true,true_and,and_true,false_and,and_false,Bool.false_eq_true,reduceCtorEq,decide_true,decide_false,ite_self,forall_const,Nat.zero_add,Nat.reduceAdd,Nat.reduceLeDiff,Nat.reduceLT,Nat.reduceEqDiff,Nat.reduceSub,Nat.reduceMul,Nat.reduceBEq,Int.reduceLT,Int.reduceLE,Int.reduceEq,Int.reduceNe,Int.reduceAdd,Int.reduceMul,Int.reduceSub,Int.reduceNeg,Int.reducePow,Int.reduceBEq,Int.reduceToNat,Int.reduceGT,Int.reduceGE,String.reduceBEq,zcn,zco,List.replicate_succ,List.replicate_zero,zcp,zcq,zcr,zcs,zct,zcu,zcv,zcw,zcx,zcy,zcz,zcA,zcB,zcC,zcD,zcE,zcF,zcG,zcH,zcI,zcJ,zcK,zcL,zcM,zcN,zcO,zcP,zcQ,zcR,zcS,zcT,zcU,zcV,zcW,zcX,zcY,zcZ,zc0,zc1,zc2,zc3,zc4,zc5,zc6,zc7,zc8,zc9,zda,zdb,zdc,Bool.true_or,Bool.or_true,Bool.false_or,Bool.or_false,Bool.and_true,Bool.true_and,Bool.and_false,Bool.false_and,Int.cast_ofNat_Int,Int.natCast_zero,Int.natCast_one,beq_self_eq_true,zdd,wipeR,lc_here C _ _ hz,lc_there C _ _ hz,L1]
    refine ⟨by rw [List.length_map]; omega, ?_⟩
    rw [e5]
    refine Ok_for (fun i ρ S' => S = S' ∧ ∃ acc lo hi z8 z9 z10 z11 z12, ρ = [some (jv s b), some (jv s2 b2), some (.tup (C.map plP)), some (.lst (C.map fun c => rv (hiC s b c))), some (.lst (C.map fun c => rv (hiC s2 b2 c))), some (.tup [rv lo, rv hi]), some (.lst (shL acc)), some (.lst (eL C.length acc)), z8, z9, z10, z11, z12] ∧ 0 ≤ lo ∧ lo ≤ hi ∧ hi ≤ 1 ∧ Sz lo 600 ∧ Sz hi 600 ∧ acc ++ falls (fl2 s b s2 b2 (C.drop i)) i lo hi = T ∧ acc.length ≤ i ∧ ∀ j ∈ acc, j < i) ⟨rfl, [], 0, 1, none, none, none, none, none, rfl, by decide, by decide, by decide, Sz.zero.le (by decide), Sz.one.le (by decide), by simpa using hT, by simp, by simp⟩ ?_ ?_
    · rintro i p ρ S' hp ⟨rfl, acc, lo, hi, z8, z9, z10, z11, z12, rfl, q0, q1, q2, zl, zh, hf, al, aj⟩
      obtain ⟨hi5, rfl⟩ := rngL_get hp
      obtain ⟨c, hc⟩ : ∃ c, C[i]? = some c := ⟨C[i], List.getElem?_eq_getElem hi5⟩
      obtain ⟨c0, c1, c2⟩ := hC.pos c (List.mem_of_getElem? hc)
      have y1 : Sz (hiC s b c) 192 := hi_sz c1 c2
      have y2 : Sz (hiC s2 b2 c) 192 := hi_sz c1 c2
      have a1 := at_map (f := fun c => rv (hiC s b c)) hc
      have a2 := at_map (f := fun c => rv (hiC s2 b2 c)) hc
      have zt : Sz (hiC s b c / (hiC s b c - hiC s2 b2 c)) 600 := (inferInstance : Sz (hiC s b c / (hiC s b c - hiC s2 b2 c)) _).le (by decide)
      rw [drop_at hc] at hf
      simp only [fl2, List.map_cons, falls] at hf
      have gm := gA_mono (f := hiC s b c) (l := hiC s2 b2 c) (lo := lo) (hi := hi)
      have ga := gA_anti (f := hiC s b c) (l := hiC s2 b2 c) (lo := lo) (hi := hi)
      have kl := fun r => gA_lt (f := hiC s b c) (l := hiC s2 b2 c) (r := r)
      have kg := fun r => gA_gt (f := hiC s b c) (l := hiC s2 b2 c) (r := r)
      generalize hiC s b c = f at *
      generalize hiC s2 b2 c = l at *
      have ls := fun r0 r1 r2 r5 r6 r7 r9 r10 r11 r12 S Q => lc_some (r0 := r0) (r1 := r1) (r2 := r2) (r5 := r5) (r6 := r6) (r7 := r7) (r9 := r9) (r10 := r10) (r11 := r11) (r12 := r12) (lo := lo) (hi := hi) (S := S) (Q := Q) a1 a2
      have hel : (eL C.length acc).length + 1 ≤ LIM := Nat.le_trans (show (eL C.length acc).length + 1 ≤ 8 by
        have : (eL C.length acc).length ≤ acc.length := by simp only [eL, List.length_map]; exact List.length_filter_le _ _
        omega) (by decide)
      have ash : i ≠ 0 → shL (acc ++ [i]) = shL acc := fun h => shL_app h
      have ael : i ≠ 0 → eL C.length acc ++ [PV.int ((i : Nat) - 1)] = eL C.length (acc ++ [i]) := fun h => (eL_app h (by omega)).symm
      have ain : ∀ j ∈ acc ++ [i], j < i + 1 := fun j hj => by
        rcases List.mem_append.mp hj with q | q
        · have := aj j q; omega
        · rw [List.mem_singleton.mp q]; omega
      have acl : (acc ++ [i]).length ≤ i + 1 := by rw [List.length_append, List.length_cons, List.length_nil]; omega
      have an0 : i = 0 → acc ++ [i] = [0] := fun h => by
        subst h
        have : acc = [] := List.length_eq_zero_iff.mp (by omega)
        rw [this]; rfl
      by_cases a : gA f l lo < 0
      · have n1 := (nlt a).2
        by_cases d : gA f l hi < 0
        · have n2 := (nlt d).2
          rw [if_pos ⟨a, d⟩] at hf
          subst hf
          have ap : ((acc ++ [i]).any fun j => j == C.length) = false := any_ne fun j hj => by have := ain j hj; omega
          by_cases i0 : i = 0
          · have ib : (((i : Nat) : Int) == 0) = true := by simpa using i0
            have ap0 := ap
            rw [an0 i0] at ap0
            simp -dsimp (disch := first | assumption | omega) only [zaa,zab,zac,zad,zae,zaf,zag,zah,zai,zaj,zak,zal,zam,zan,zao,zap,zaq,zar,zas,zat,zau,zav,zaw,zax,zay,zaz,zaA,zaB,zaC,zaD,zaE,zaF,zaG,zaH,zaI,zaJ,zaK,zaL,zaM,zaN,zaO,zaP,zaQ,zaR,zaS,zaT,zaU,zaV,zaW,zaX,zaY,zaZ,za0,za1,za2,za3,za4,za5,za6,za7,za8,za9,zba,zbb,zbc,zbd,zbe,zbf,zbg,zbh,zbi,zbj,zbk,zbl,zbm,zbn,zbo,zbp,zbq,zbr,zbs,zbt,zbu,zbv,zbw,zbx,zby,zbz,zbA,zbB,zbC,zbD,zbE,zbF,zbG,zbH,zbI,zbJ,zbK,zbL,zbM,zbN,zbO,zbP,zbQ,zbR,zbS,zbT,zbU,zbV,zbW,zbX,zbY,zbZ,zb0,zb1,zb2,zb3,zb4,zb5,zb6,zb7,zb8,zb9,zca,zcb,eq_self,zcc,zcd,zce,zcf,zcg,zch,zci,zcj,zck,zcl,zcm,List.getElem?_cons_succ,List.getElem?_cons_zero,List.set_cons_succ,List.set_cons_zero,List.map_cons,List.map_nil,List.length_cons,List.length_nil,List.cons_append,List.nil_append,List.append_nil,List.isEmpty_cons,List.isEmpty_nil,if_true,if_false,ite_true,ite_false,Bool.not_true,Bool.not_false,Bool.not_not,decide_true,true_and,and_true,false_and,and_false,Bool.false_eq_true,reduceCtorEq,decide_true,decide_false,ite_self,forall_const,Nat.zero_add,Nat.reduceAdd,Nat.reduceLeDiff,Nat.reduceLT,Nat.reduceEqDiff,Nat.reduceSub,Nat.reduceMul,Nat.reduceBEq,Int.reduceLT,Int.reduceLE,Int.reduceEq,Int.reduceNe,Int.reduceAdd,Int.reduceMul,Int.reduceSub,Int.reduceNeg,Int.reducePow,Int.reduceBEq,Int.reduceToNat,Int.reduceGT,Int.reduceGE,String.reduceBEq,zcn,zco,List.replicate_succ,List.replicate_zero,zcp,zcq,zcr,zcs,zct,zcu,zcv,zcw,zcx,zcy,zcz,zcA,zcB,zcC,zcD,zcE,zcF,zcG,zcH,zcI,zcJ,zcK,zcL,zcM,zcN,zcO,zcP,zcQ,zcR,zcS,zcT,zcU,zcV,zcW,zcX,zcY,zcZ,zc0,zc1,zc2,zc3,zc4,zc5,zc6,zc7,zc8,zc9,zda,zdb,zdc,Bool.true_or,Bool.or_true,Bool.false_or,Bool.or_false,Bool.and_true,Bool.true_and,Bool.and_false,Bool.false_and,Int.cast_ofNat_Int,Int.natCast_zero,Int.natCast_one,beq_self_eq_true,zdd,wipeR,ls,a1,a2,w_less,n1,n2,ib,shL_0,ap0,an0 i0,eL_0]
          · have ib : (((i : Nat) : Int) == 0) = false := by simpa using i0
            simp -dsimp (disch := first | assumption | omega) only [zaa,zab,zac,zad,zae,zaf,zag,zah,zai,zaj,zak,zal,zam,zan,zao,zap,zaq,zar,zas,zat,zau,zav,zaw,zax,zay,zaz,zaA,zaB,zaC,zaD,zaE,zaF,zaG,zaH,zaI,zaJ,zaK,zaL,zaM,zaN,zaO,zaP,zaQ,zaR,zaS,zaT,zaU,zaV,zaW,zaX,zaY,zaZ,za0,za1,za2,za3,za4,za5,za6,za7,za8,za9,zba,zbb,zbc,zbd,zbe,zbf,zbg,zbh,zbi,zbj,zbk,zbl,zbm,zbn,zbo,zbp,zbq,zbr,zbs,zbt,zbu,zbv,zbw,zbx,zby,zbz,zbA,zbB,zbC,zbD,zbE,zbF,zbG,zbH,zbI,zbJ,zbK,zbL,zbM,zbN,zbO,zbP,zbQ,zbR,zbS,zbT,zbU,zbV,zbW,zbX,zbY,zbZ,zb0,zb1,zb2,zb3,zb4,zb5,zb6,zb7,zb8,zb9,zca,zcb,eq_self,zcc,zcd,zce,zcf,zcg,zch,zci,zcj,zck,zcl,zcm,List.getElem?_cons_succ,List.getElem?_cons_zero,List.set_cons_succ,List.set_cons_zero,List.map_cons,List.map_nil,List.length_cons,List.length_nil,List.cons_append,List.nil_append,List.append_nil,List.isEmpty_cons,List.isEmpty_nil,if_true,if_false,ite_true,ite_false,Bool.not_true,Bool.not_false,Bool.not_not,decide_true,true_and,and_true,false_and,and_false,Bool.false_eq_true,reduceCtorEq,decide_true,decide_false,ite_self,forall_const,Nat.zero_add,Nat.reduceAdd,Nat.reduceLeDiff,Nat.reduceLT,Nat.reduceEqDiff,Nat.reduceSub,Nat.reduceMul,Nat.reduceBEq,Int.reduceLT,Int.reduceLE,Int.reduceEq,Int.reduceNe,Int.reduceAdd,Int.reduceMul,Int.reduceSub,Int.reduceNeg,Int.reducePow,Int.reduceBEq,Int.reduceToNat,Int.reduceGT,Int.reduceGE,String.reduceBEq,zcn,zco,List.replicate_succ,List.replicate_zero,zcp,zcq,zcr,zcs,zct,zcu,zcv,zcw,zcx,zcy,zcz,zcA,zcB,zcC,zcD,zcE,zcF,zcG,zcH,zcI,zcJ,zcK,zcL,zcM,zcN,zcO,zcP,zcQ,zcR,zcS,zcT,zcU,zcV,zcW,zcX,zcY,zcZ,zc0,zc1,zc2,zc3,zc4,zc5,zc6,zc7,zc8,zc9,zda,zdb,zdc,Bool.true_or,Bool.or_true,Bool.false_or,Bool.or_false,Bool.and_true,Bool.true_and,Bool.and_false,Bool.false_and,Int.cast_ofNat_Int,Int.natCast_zero,Int.natCast_one,beq_self_eq_true,zdd,wipeR,ls,a1,a2,w_less,n1,n2,ib,hel,ap,ael i0,ash i0]
        · have n2 := (nneg (q := gA f l hi) (by grind)).2
          rw [if_neg (fun z => d z.2), if_pos a] at hf
          have hfl := gm q1 a d
          have h0 : f - l ≠ 0 := by grind
          have t1 : f / (f - l) ≤ hi := by have := mt (kl hi hfl).mpr d; grind
          have t0 : 0 ≤ f / (f - l) := by have := (kl lo hfl).mp a; grind
          have wo := fun S Q => w_over (S := S) (Q := Q) (q := f) (r := f - l) h0 (by omega)
          by_cases i0 : i = 0
          · have ib : (((i : Nat) : Int) == 0) = true := by simpa using i0
            have bd : ∀ Q : Fl → Sto → Prop, Ok (bodySw [some (jv s b), some (jv s2 b2), some (.tup (C.map plP)), some (.lst (C.map fun c => rv (hiC s b c))), some (.lst (C.map fun c => rv (hiC s2 b2 c))), some (.tup [rv lo, rv hi]), some (.lst (shL acc)), some (.lst (eL C.length acc)), some (nI i), z9, z10, z11, z12] S) Q = Q (.nx [some (jv s b), some (jv s2 b2), some (.tup (C.map plP)), some (.lst (C.map fun c => rv (hiC s b c))), some (.lst (C.map fun c => rv (hiC s2 b2 c))), some (.tup [rv (f / (f - l)), rv hi]), some (.lst ([.str "short"])), some (.lst ([])), some (nI i), some (.lst [rv (gA f l lo), rv (gA f l hi)]), some (rv (f / (f - l))), z11, z12]) S := fun Q => by
              simp -dsimp (disch := first | assumption | omega) only [zaa,zab,zac,zad,zae,zaf,zag,zah,zai,zaj,zak,zal,zam,zan,zao,zap,zaq,zar,zas,zat,zau,zav,zaw,zax,zay,zaz,zaA,zaB,zaC,zaD,zaE,zaF,zaG,zaH,zaI,zaJ,zaK,zaL,zaM,zaN,zaO,zaP,zaQ,zaR,zaS,zaT,zaU,zaV,zaW,zaX,zaY,zaZ,za0,za1,za2,za3,za4,za5,za6,za7,za8,za9,zba,zbb,zbc,zbd,zbe,zbf,zbg,zbh,zbi,zbj,zbk,zbl,zbm,zbn,zbo,zbp,zbq,zbr,zbs,zbt,zbu,zbv,zbw,zbx,zby,zbz,zbA,zbB,zbC,zbD,zbE,zbF,zbG,zbH,zbI,zbJ,zbK,zbL,zbM,zbN,zbO,zbP,zbQ,zbR,zbS,zbT,zbU,zbV,zbW,zbX,zbY,zbZ,zb0,zb1,zb2,zb3,zb4,zb5,zb6,zb7,zb8,zb9,zca,zcb,eq_self,zcc,zcd,zce,zcf,zcg,zch,zci,zcj,zck,zcl,zcm,List.getElem?_cons_succ,List.getElem?_cons_zero,List.set_cons_succ,List.set_cons_zero,List.map_cons,List.map_nil,List.length_cons,List.length_nil,List.cons_append,List.nil_append,List.append_nil,List.isEmpty_cons,List.isEmpty_nil,if_true,if_false,ite_true,ite_false,Bool.not_true,Bool.not_false,Bool.not_not,decide_true,true_and,and_true,false_and,and_false,Bool.false_eq_true,reduceCtorEq,decide_true,decide_false,ite_self,forall_const,Nat.zero_add,Nat.reduceAdd,Nat.reduceLeDiff,Nat.reduceLT,Nat.reduceEqDiff,Nat.reduceSub,Nat.reduceMul,Nat.reduceBEq,Int.reduceLT,Int.reduceLE,Int.reduceEq,Int.reduceNe,Int.reduceAdd,Int.reduceMul,Int.reduceSub,Int.reduceNeg,Int.reducePow,Int.reduceBEq,Int.reduceToNat,Int.reduceGT,Int.reduceGE,String.reduceBEq,zcn,zco,List.replicate_succ,List.replicate_zero,zcp,zcq,zcr,zcs,zct,zcu,zcv,zcw,zcx,zcy,zcz,zcA,zcB,zcC,zcD,zcE,zcF,zcG,zcH,zcI,zcJ,zcK,zcL,zcM,zcN,zcO,zcP,zcQ,zcR,zcS,zcT,zcU,zcV,zcW,zcX,zcY,zcZ,zc0,zc1,zc2,zc3,zc4,zc5,zc6,zc7,zc8,zc9,zda,zdb,zdc,Bool.true_or,Bool.or_true,Bool.false_or,Bool.or_false,Bool.and_true,Bool.true_and,Bool.and_false,Bool.false_and,Int.cast_ofNat_Int,Int.natCast_zero,Int.natCast_one,beq_self_eq_true,zdd,wipeR,bodySw,ls,a1,a2,w_less,n1,n2,ib,wo]
            refine Eq.mpr (bd _) ?_
            refine ⟨rfl, ?_⟩
            exact ⟨acc ++ [i], _, _, _, _, _, _, _, by rw [an0 i0, eL_0, shL_0], t0, t1, q2, zt, zh, by rw [← hf]; simp [fl2], acl, ain⟩
          · have ib : (((i : Nat) : Int) == 0) = false := by simpa using i0
            have bd : ∀ Q : Fl → Sto → Prop, Ok (bodySw [some (jv s b), some (jv s2 b2), some (.tup (C.map plP)), some (.lst (C.map fun c => rv (hiC s b c))), some (.lst (C.map fun c => rv (hiC s2 b2 c))), some (.tup [rv lo, rv hi]), some (.lst (shL acc)), some (.lst (eL C.length acc)), some (nI i), z9, z10, z11, z12] S) Q = Q (.nx [some (jv s b), some (jv s2 b2), some (.tup (C.map plP)), some (.lst (C.map fun c => rv (hiC s b c))), some (.lst (C.map fun c => rv (hiC s2 b2 c))), some (.tup [rv (f / (f - l)), rv hi]), some (.lst (shL acc)), some (.lst (eL C.length (acc ++ [i]))), some (nI i), some (.lst [rv (gA f l lo), rv (gA f l hi)]), some (rv (f / (f - l))), z11, z12]) S := fun Q => by
              simp -dsimp (disch := first | assumption | omega) only [zaa,zab,zac,zad,zae,zaf,zag,zah,zai,zaj,zak,zal,zam,zan,zao,zap,zaq,zar,zas,zat,zau,zav,zaw,zax,zay,zaz,zaA,zaB,zaC,zaD,zaE,zaF,zaG,zaH,zaI,zaJ,zaK,zaL,zaM,zaN,zaO,zaP,zaQ,zaR,zaS,zaT,zaU,zaV,zaW,zaX,zaY,zaZ,za0,za1,za2,za3,za4,za5,za6,za7,za8,za9,zba,zbb,zbc,zbd,zbe,zbf,zbg,zbh,zbi,zbj,zbk,zbl,zbm,zbn,zbo,zbp,zbq,zbr,zbs,zbt,zbu,zbv,zbw,zbx,zby,zbz,zbA,zbB,zbC,zbD,zbE,zbF,zbG,zbH,zbI,zbJ,zbK,zbL,zbM,zbN,zbO,zbP,zbQ,zbR,zbS,zbT,zbU,zbV,zbW,zbX,zbY,zbZ,zb0,zb1,zb2,zb3,zb4,zb5,zb6,zb7,zb8,zb9,zca,zcb,eq_self,zcc,zcd,zce,zcf,zcg,zch,zci,zcj,zck,zcl,zcm,List.getElem?_cons_succ,List.getElem?_cons_zero,List.set_cons_succ,List.set_cons_zero,List.map_cons,List.map_nil,List.length_cons,List.length_nil,List.cons_append,List.nil_append,List.append_nil,List.isEmpty_cons,List.isEmpty_nil,if_true,if_false,ite_true,ite_false,Bool.not_true,Bool.not_false,Bool.not_not,decide_true,true_and,and_true,false_and,and_false,Bool.false_eq_true,reduceCtorEq,decide_true,decide_false,ite_self,forall_const,Nat.zero_add,Nat.reduceAdd,Nat.reduceLeDiff,Nat.reduceLT,Nat.reduceEqDiff,Nat.reduceSub,Nat.reduceMul,Nat.reduceBEq,Int.reduceLT,Int.reduceLE,Int.reduceEq,Int.reduceNe,Int.reduceAdd,Int.reduceMul,Int.reduceSub,Int.reduceNeg,Int.reducePow,Int.reduceBEq,Int.reduceToNat,Int.reduceGT,Int.reduceGE,String.reduceBEq,zcn,zco,List.replicate_succ,List.replicate_zero,zcp,zcq,zcr,zcs,zct,zcu,zcv,zcw,zcx,zcy,zcz,zcA,zcB,zcC,zcD,zcE,zcF,zcG,zcH,zcI,zcJ,zcK,zcL,zcM,zcN,zcO,zcP,zcQ,zcR,zcS,zcT,zcU,zcV,zcW,zcX,zcY,zcZ,zc0,zc1,zc2,zc3,zc4,zc5,zc6,zc7,zc8,zc9,zda,zdb,zdc,Bool.true_or,Bool.or_true,Bool.false_or,Bool.or_false,Bool.and_true,Bool.true_and,Bool.and_false,Bool.false_and,Int.cast_ofNat_Int,Int.natCast_zero,Int.natCast_one,beq_self_eq_true,zdd,wipeR,bodySw,ls,a1,a2,w_less,n1,n2,ib,hel,wo,ael i0]
            refine Eq.mpr (bd _) ?_
            refine ⟨rfl, ?_⟩
            exact ⟨acc ++ [i], _, _, _, _, _, _, _, by rw [ash i0], t0, t1, q2, zt, zh, by rw [← hf]; simp [fl2], acl, ain⟩
      · have n1 := (nneg (q := gA f l lo) (by grind)).2
        by_cases d : gA f l hi < 0
        · have n2 := (nlt d).2
          rw [if_neg (fun z => a z.1), if_neg a, if_pos d] at hf
          have hfl := ga q1 a d
          have h0 : f - l ≠ 0 := by grind
          have t1 : lo ≤ f / (f - l) := by have := mt (kg lo hfl).mpr a; grind
          have t0 : f / (f - l) ≤ 1 := by have := (kg hi hfl).mp d; grind
          have wo := fun S Q => w_over (S := S) (Q := Q) (q := f) (r := f - l) h0 (by omega)
          by_cases i0 : i = 0
          · have ib : (((i : Nat) : Int) == 0) = true := by simpa using i0
            have bd : ∀ Q : Fl → Sto → Prop, Ok (bodySw [some (jv s b), some (jv s2 b2), some (.tup (C.map plP)), some (.lst (C.map fun c => rv (hiC s b c))), some (.lst (C.map fun c => rv (hiC s2 b2 c))), some (.tup [rv lo, rv hi]), some (.lst (shL acc)), some (.lst (eL C.length acc)), some (nI i), z9, z10, z11, z12] S) Q = Q (.nx [some (jv s b), some (jv s2 b2), some (.tup (C.map plP)), some (.lst (C.map fun c => rv (hiC s b c))), some (.lst (C.map fun c => rv (hiC s2 b2 c))), some (.tup [rv lo, rv (f / (f - l))]), some (.lst ([.str "short"])), some (.lst ([])), some (nI i), some (.lst [rv (gA f l lo), rv (gA f l hi)]), some (rv (f / (f - l))), z11, z12]) S := fun Q => by
              simp -dsimp (disch := first | assumption | omega) only [zaa,zab,zac,zad,zae,zaf,zag,zah,zai,zaj,zak,zal,zam,zan,zao,zap,zaq,zar,zas,zat,zau,zav,zaw,zax,zay,zaz,zaA,zaB,zaC,zaD,zaE,zaF,zaG,zaH,zaI,zaJ,zaK,zaL,zaM,zaN,zaO,zaP,zaQ,zaR,zaS,zaT,zaU,zaV,zaW,zaX,zaY,zaZ,za0,za1,za2,za3,za4,za5,za6,za7,za8,za9,zba,zbb,zbc,zbd,zbe,zbf,zbg,zbh,zbi,zbj,zbk,zbl,zbm,zbn,zbo,zbp,zbq,zbr,zbs,zbt,zbu,zbv,zbw,zbx,zby,zbz,zbA,zbB,zbC,zbD,zbE,zbF,zbG,zbH,zbI,zbJ,zbK,zbL,zbM,zbN,zbO,zbP,zbQ,zbR,zbS,zbT,zbU,zbV,zbW,zbX,zbY,zbZ,zb0,zb1,zb2,zb3,zb4,zb5,zb6,zb7,zb8,zb9,zca,zcb,eq_self,zcc,zcd,zce,zcf,zcg,zch,zci,zcj,zck,zcl,zcm,List.getElem?_cons_succ,List.getElem?_cons_zero,List.set_cons_succ,List.set_cons_zero,List.map_cons,List.map_nil,List.length_cons,List.length_nil,List.cons_append,List.nil_append,List.append_nil,List.isEmpty_cons,List.isEmpty_nil,if_true,if_false,ite_true,ite_false,Bool.not_true,Bool.not_false,Bool.not_not,decide_true,true_and,and_true,false_and,and_false,Bool.false_eq_true,reduceCtorEq,decide_true,decide_false,ite_self,forall_const,Nat.zero_add,Nat.reduceAdd,Nat.reduceLeDiff,Nat.reduceLT,Nat.reduceEqDiff,Nat.reduceSub,Nat.reduceMul,Nat.reduceBEq,Int.reduceLT,Int.reduceLE,Int.reduceEq,Int.reduceNe,Int.reduceAdd,Int.reduceMul,Int.reduceSub,Int.reduceNeg,Int.reducePow,Int.reduceBEq,Int.reduceToNat,Int.reduceGT,Int.reduceGE,String.reduceBEq,zcn,zco,List.replicate_succ,List.replicate_zero,zcp,zcq,zcr,zcs,zct,zcu,zcv,zcw,zcx,zcy,zcz,zcA,zcB,zcC,zcD,zcE,zcF,zcG,zcH,zcI,zcJ,zcK,zcL,zcM,zcN,zcO,zcP,zcQ,zcR,zcS,zcT,zcU,zcV,zcW,zcX,zcY,zcZ,zc0,zc1,zc2,zc3,zc4,zc5,zc6,zc7,zc8,zc9,zda,zdb,zdc,Bool.true_or,Bool.or_true,Bool.false_or,Bool.or_false,Bool.and_true,Bool.true_and,Bool.and_false,Bool.false_and,Int.cast_ofNat_Int,Int.natCast_zero,Int.natCast_one,beq_self_eq_true,zdd,wipeR,bodySw,ls,a1,a2,w_less,n1,n2,ib,wo]
            refine Eq.mpr (bd _) ?_
            refine ⟨rfl, ?_⟩
            exact ⟨acc ++ [i], _, _, _, _, _, _, _, by rw [an0 i0, eL_0, shL_0], q0, t1, t0, zl, zt, by rw [← hf]; simp [fl2], acl, ain⟩
          · have ib : (((i : Nat) : Int) == 0) = false := by simpa using i0
            have bd : ∀ Q : Fl → Sto → Prop, Ok (bodySw [some (jv s b), some (jv s2 b2), some (.tup (C.map plP)), some (.lst (C.map fun c => rv (hiC s b c))), some (.lst (C.map fun c => rv (hiC s2 b2 c))), some (.tup [rv lo, rv hi]), some (.lst (shL acc)), some (.lst (eL C.length acc)), some (nI i), z9, z10, z11, z12] S) Q = Q (.nx [some (jv s b), some (jv s2 b2), some (.tup (C.map plP)), some (.lst (C.map fun c => rv (hiC s b c))), some (.lst (C.map fun c => rv (hiC s2 b2 c))), some (.tup [rv lo, rv (f / (f - l))]), some (.lst (shL acc)), some (.lst (eL C.length (acc ++ [i]))), some (nI i), some (.lst [rv (gA f l lo), rv (gA f l hi)]), some (rv (f / (f - l))), z11, z12]) S := fun Q => by
              simp -dsimp (disch := first | assumption | omega) only [zaa,zab,zac,zad,zae,zaf,zag,zah,zai,zaj,zak,zal,zam,zan,zao,zap,zaq,zar,zas,zat,zau,zav,zaw,zax,zay,zaz,zaA,zaB,zaC,zaD,zaE,zaF,zaG,zaH,zaI,zaJ,zaK,zaL,zaM,zaN,zaO,zaP,zaQ,zaR,zaS,zaT,zaU,zaV,zaW,zaX,zaY,zaZ,za0,za1,za2,za3,za4,za5,za6,za7,za8,za9,zba,zbb,zbc,zbd,zbe,zbf,zbg,zbh,zbi,zbj,zbk,zbl,zbm,zbn,zbo,zbp,zbq,zbr,zbs,zbt,zbu,zbv,zbw,zbx,zby,zbz,zbA,zbB,zbC,zbD,zbE,zbF,zbG,zbH,zbI,zbJ,zbK,zbL,zbM,zbN,zbO,zbP,zbQ,zbR,zbS,zbT,zbU,zbV,zbW,zbX,zbY,zbZ,zb0,zb1,zb2,zb3,zb4,zb5,zb6,zb7,zb8,zb9,zca,zcb,eq_self,zcc,zcd,zce,zcf,zcg,zch,zci,zcj,zck,zcl,zcm,List.getElem?_cons_succ,List.getElem?_cons_zero,List.set_cons_succ,List.set_cons_zero,List.map_cons,List.map_nil,List.length_cons,List.length_nil,List.cons_append,List.nil_append,List.append_nil,List.isEmpty_cons,List.isEmpty_nil,if_true,if_false,ite_true,ite_false,Bool.not_true,Bool.not_false,Bool.not_not,decide_true,true_and,and_true,false_and,and_false,Bool.false_eq_true,reduceCtorEq,decide_true,decide_false,ite_self,forall_const,Nat.zero_add,Nat.reduceAdd,Nat.reduceLeDiff,Nat.reduceLT,Nat.reduceEqDiff,Nat.reduceSub,Nat.reduceMul,Nat.reduceBEq,Int.reduceLT,Int.reduceLE,Int.reduceEq,Int.reduceNe,Int.reduceAdd,Int.reduceMul,Int.reduceSub,Int.reduceNeg,Int.reducePow,Int.reduceBEq,Int.reduceToNat,Int.reduceGT,Int.reduceGE,String.reduceBEq,zcn,zco,List.replicate_succ,List.replicate_zero,zcp,zcq,zcr,zcs,zct,zcu,zcv,zcw,zcx,zcy,zcz,zcA,zcB,zcC,zcD,zcE,zcF,zcG,zcH,zcI,zcJ,zcK,zcL,zcM,zcN,zcO,zcP,zcQ,zcR,zcS,zcT,zcU,zcV,zcW,zcX,zcY,zcZ,zc0,zc1,zc2,zc3,zc4,zc5,zc6,zc7,zc8,zc9,zda,zdb,zdc,Bool.true_or,Bool.or_true,Bool.false_or,Bool.or_false,Bool.and_true,Bool.true_and,Bool.and_false,Bool.false_and,Int.cast_ofNat_Int,Int.natCast_zero,Int.natCast_one,beq_self_eq_true,zdd,wipeR,bodySw,ls,a1,a2,w_less,n1,n2,ib,hel,wo,ael i0]
            refine Eq.mpr (bd _) ?_
            refine ⟨rfl, ?_⟩
            exact ⟨acc ++ [i], _, _, _, _, _, _, _, by rw [ash i0], q0, t1, t0, zl, zt, by rw [← hf]; simp [fl2], acl, ain⟩
        · have n2 := (nneg (q := gA f l hi) (by grind)).2
          rw [if_neg (fun z => a z.1), if_neg a, if_neg d] at hf
          simp -dsimp (disch := first | assumption | omega) only [zaa,zab,zac,zad,zae,zaf,zag,zah,zai,zaj,zak,zal,zam,zan,zao,zap,zaq,zar,zas,zat,zau,zav,zaw,zax,zay,zaz,zaA,zaB,zaC,zaD,zaE,zaF,zaG,zaH,zaI,zaJ,zaK,zaL,zaM,zaN,zaO,zaP,zaQ,zaR,zaS,zaT,zaU,zaV,zaW,zaX,zaY,zaZ,za0,za1,za2,za3,za4,za5,za6,za7,za8,za9,zba,zbb,zbc,zbd,zbe,zbf,zbg,zbh,zbi,zbj,zbk,zbl,zbm,zbn,zbo,zbp,zbq,zbr,zbs,zbt,zbu,zbv,zbw,zbx,zby,zbz,zbA,zbB,zbC,zbD,zbE,zbF,zbG,zbH,zbI,zbJ,zbK,zbL,zbM,zbN,zbO,zbP,zbQ,zbR,zbS,zbT,zbU,zbV,zbW,zbX,zbY,zbZ,zb0,zb1,zb2,zb3,zb4,zb5,zb6,zb7,zb8,zb9,zca,zcb,eq_self,zcc,zcd,zce,zcf,zcg,zch,zci,zcj,zck,zcl,zcm,List.getElem?_cons_succ,List.getElem?_cons_zero,List.set_cons_succ,List.set_cons_zero,List.map_cons,List.map_nil,List.length_cons,List.length_nil,List.cons_append,List.nil_append,List.append_nil,List.isEmpty_cons,List.isEmpty_nil,if_true,if_false,ite_true,ite_false,Bool.not_true,Bool.not_false,Bool.not_not,decide_true,true_and,and_true,false_and,and_false,Bool.false_eq_true,reduceCtorEq,decide_true,decide_false,ite_self,forall_const,Nat.zero_add,Nat.reduceAdd,Nat.reduceLeDiff,Nat.reduceLT,Nat.reduceEqDiff,Nat.reduceSub,Nat.reduceMul,Nat.reduceBEq,Int.reduceLT,Int.reduceLE,Int.reduceEq,Int.reduceNe,Int.reduceAdd,Int.reduceMul,Int.reduceSub,Int.reduceNeg,Int.reducePow,Int.reduceBEq,Int.reduceToNat,Int.reduceGT,Int.reduceGE,String.reduceBEq,zcn,zco,List.replicate_succ,List.replicate_zero,zcp,zcq,zcr,zcs,zct,zcu,zcv,zcw,zcx,zcy,zcz,zcA,zcB,zcC,zcD,zcE,zcF,zcG,zcH,zcI,zcJ,zcK,zcL,zcM,zcN,zcO,zcP,zcQ,zcR,zcS,zcT,zcU,zcV,zcW,zcX,zcY,zcZ,zc0,zc1,zc2,zc3,zc4,zc5,zc6,zc7,zc8,zc9,zda,zdb,zdc,Bool.true_or,Bool.or_true,Bool.false_or,Bool.or_false,Bool.and_true,Bool.true_and,Bool.and_false,Bool.false_and,Int.cast_ofNat_Int,Int.natCast_zero,Int.natCast_one,beq_self_eq_true,zdd,wipeR,ls,a1,a2,w_less,n1,n2]
          exact ⟨acc, _, _, _, _, _, _, _, rfl, q0, q1, q2, zl, zh, hf, by omega, fun j hj => by have := aj j hj; omega⟩
    · rintro ρ S' ⟨rfl, acc, lo, hi, z8, z9, z10, z11, z12, rfl, q0, q1, q2, zl, zh, hf, al, aj⟩
      have rl : (rngL 0 C.length).length = C.length := by simp [rngL]
      rw [rl, List.drop_length] at hf
      simp only [fl2, List.map_nil, falls] at hf
      have es : shL acc = shL T := by rw [← hf, shL_app hn]
      have ee : eL C.length acc = eL C.length T := by rw [← hf, eL_end]
      have ea : (T.any fun i => i == C.length) = true := by rw [← hf]; simp
      simp -dsimp (disch := first | assumption | omega) only [zaa,zab,zac,zad,zae,zaf,zag,zah,zai,zaj,zak,zal,zam,zan,zao,zap,zaq,zar,zas,zat,zau,zav,zaw,zax,zay,zaz,zaA,zaB,zaC,zaD,zaE,zaF,zaG,zaH,zaI,zaJ,zaK,zaL,zaM,zaN,zaO,zaP,zaQ,zaR,zaS,zaT,zaU,zaV,zaW,zaX,zaY,zaZ,za0,za1,za2,za3,za4,za5,za6,za7,za8,za9,zba,zbb,zbc,zbd,zbe,zbf,zbg,zbh,zbi,zbj,zbk,zbl,zbm,zbn,zbo,zbp,zbq,zbr,zbs,zbt,zbu,zbv,zbw,zbx,zby,zbz,zbA,zbB,zbC,zbD,zbE,zbF,zbG,zbH,zbI,zbJ,zbK,zbL,zbM,zbN,zbO,zbP,zbQ,zbR,zbS,zbT,zbU,zbV,zbW,zbX,zbY,zbZ,zb0,zb1,zb2,zb3,zb4,zb5,zb6,zb7,zb8,zb9,zca,zcb,eq_self,zcc,zcd,zce,zcf,zcg,zch,zci,zcj,zck,zcl,zcm,List.getElem?_cons_succ,List.getElem?_cons_zero,List.set_cons_succ,List.set_cons_zero,List.map_cons,List.map_nil,List.length_cons,List.length_nil,List.cons_append,List.nil_append,List.append_nil,List.isEmpty_cons,List.isEmpty_nil,if_true,if_false,ite_true,ite_false,Bool.not_true,Bool.not_false,Bool.not_not,decide_true,true_and,and_true,false_and,and_false,Bool.false_eq_true,reduceCtorEq,decide_true,decide_false,ite_self,forall_const,Nat.zero_add,Nat.reduceAdd,Nat.reduceLeDiff,Nat.reduceLT,Nat.reduceEqDiff,Nat.reduceSub,Nat.reduceMul,Nat.reduceBEq,Int.reduceLT,Int.reduceLE,Int.reduceEq,Int.reduceNe,Int.reduceAdd,Int.reduceMul,Int.reduceSub,Int.reduceNeg,Int.reducePow,Int.reduceBEq,Int.reduceToNat,Int.reduceGT,Int.reduceGE,String.reduceBEq,zcn,zco,List.replicate_succ,List.replicate_zero,zcp,zcq,zcr,zcs,zct,zcu,zcv,zcw,zcx,zcy,zcz,zcA,zcB,zcC,zcD,zcE,zcF,zcG,zcH,zcI,zcJ,zcK,zcL,zcM,zcN,zcO,zcP,zcQ,zcR,zcS,zcT,zcU,zcV,zcW,zcX,zcY,zcZ,zc0,zc1,zc2,zc3,zc4,zc5,zc6,zc7,zc8,zc9,zda,zdb,zdc,Bool.true_or,Bool.or_true,Bool.false_or,Bool.or_false,Bool.and_true,Bool.true_and,Bool.and_false,Bool.false_and,Int.cast_ofNat_Int,Int.natCast_zero,Int.natCast_one,beq_self_eq_true,zdd,wipeR,es,ee,ea]
  have h : ∀ v w x, v = jv s b → w = jv s2 b2 → x = .tup (C.map plP) → Ok (m__law_swept [v, w, x]  S) fun p S' => p = .tup [.lst (shL T), .lst (eL C.length T), .bl (T.any fun i => i == C.length)] ∧ S' = S := fun v w x hv hw hx => Ok_defM rfl (e v w x hv hw hx)
  have h2 : ∀ v w x, v = jv s b → w = jv s2 b2 → x = .tup (C.map plP) → Ok (m__law_swept [v, w, x] S) Q = Q (.tup [.lst (shL T), .lst (eL C.length T), .bl (T.any fun i => i == C.length)]) S := fun v w x hv hw hx => by
    obtain ⟨p, S', e1, rfl, rfl⟩ := (h v w x hv hw hx).ex
    rw [e1, zaa]
  exact h2 _ _ _ rfl rfl rfl
end
end
end Pm.L


namespace Pm.L
open PySem PySem.Spec L2 Pm
theorem fb_first {f l h : Rat × Rat → Rat} {r : Rat} (e : ∀ c, h c = gA (f c) (l c) r) : ∀ (C : List (Rat × Rat)) (k : Nat), fbL (C.map h) k = firstB r (C.map fun c => (f c, l c)) k
  | [], k => rfl
  | c :: C, k => by
    have ih := fb_first e C (k + 1)
    simp only [List.map_cons, fbL, firstB, e]
    rw [ih]
theorem wT_mem {n i : Nat} {T : List Nat} (h : i ∈ T) : PV.str (wordS i n) ∈ wT n T := by
  unfold wT wv wordS
  by_cases a : i = 0
  · have : (T.any fun j => j == 0) = true := List.any_eq_true.mpr ⟨i, h, by simpa using a⟩
    rw [if_pos a, this]
    simp
  · rw [if_neg a]
    by_cases b : i = n
    · have : (T.any fun j => j == n) = true := List.any_eq_true.mpr ⟨i, h, by simpa using b⟩
      rw [if_pos b, this]
      simp
    · have : (T.any (isS n)) = true := List.any_eq_true.mpr ⟨i, h, by simp [isS, a, b]⟩
      rw [if_neg b, this]
      simp
theorem eL_mem {n i : Nat} {T : List Nat} (h : i ∈ T) (h0 : i ≠ 0) (hn : i ≠ n) : PV.int ((i : Nat) - 1) ∈ eL n T := by
  unfold eL
  exact List.mem_map.mpr ⟨i, List.mem_filter.mpr ⟨h, by simp [isS, h0, hn]⟩, rfl⟩
theorem eL_nil {n : Nat} {T : List Nat} : eL n T = [] ↔ T.any (isS n) = false := by
  unfold eL
  rw [List.map_eq_nil_iff, List.filter_eq_nil_iff, List.any_eq_false]
instance eL_plnL {n : Nat} {T : List Nat} : PlnL (eL n T) 0 := ⟨by rw [(eL_pln T).1, (eL_pln T).2]; exact ⟨rfl, Nat.le_refl _⟩⟩
theorem eL_shw {n : Nat} {T : List Nat} (h : T.length ≤ 6) (hT : ∀ i ∈ T, i ≤ 100) : ShwL (eL n T) 6 0 := by
  have e : eL n T = ((T.filter (isS n)).map fun i => ((i : Nat) : Int) - 1).map PV.int := by
    unfold eL
    rw [List.map_map]
    rfl
  rw [e]
  refine ints_shw _ ?_ ?_
  · rw [List.length_map]
    exact Nat.le_trans (List.length_filter_le _ _) h
  · intro j hj
    obtain ⟨i, hi, rfl⟩ := List.mem_map.mp hj
    have := hT i (List.mem_filter.mp hi).1
    omega
noncomputable def wordsK : SD := (sAsg (dOp addM (dOp addM (dVar 4) (dIf (bCmp (dOp neM (dVar 5) (dAp mkLst dNil))) (dAp mkLst (dCons (dC (.str "strikes")) dNil)) (dAp mkLst dNil))) (dIf (bTru (dVar 6)) (dAp mkLst (dCons (dC (.str "past")) dNil)) (dAp mkLst dNil))) (gName 4))
noncomputable def loopK : SD := (sSeq (sAsg (dAp m_jet_between (dCons (dVar 1) (dCons (dVar 2) (dCons (dAp m__law_ratio (dCons (dVar 10) (dCons (dVar 9) dNil))) dNil)))) (gName 14))
      (sSeq (sAsg (dAp m_strike_edge (dCons (dVar 14) (dCons (dVar 3) dNil))) (gName 15))
      (sIf (bOr (bCmp (dOp ninM (dAp m_ground_word (dCons (dVar 14) (dCons (dVar 3) dNil))) (dVar 4))) (bAnd (bCmp (dOp (fun p q => match q with | .non => notNM p q | _ => stk) (dVar 15) (dC .non))) (bCmp (dOp ninM (dVar 15) (dVar 5))))) (sRet (dC (.bl false))) sNil)))
noncomputable def lastK : SD := (sSeq (sAsg (dAp m__law_ground_word (dCons (dVar 1) (dCons (dVar 3) dNil))) (gTup 2 (gsCons (gName 11) (gsCons (gName 12) gsNil))))
      (sSeq (sAsg (dAp mkLst (dCons (dAp mkTup (dCons (dVar 11) dNil)) (dCons (dIf (bCmp (dOp (fun p q => match q with | .non => isNM p q | _ => stk) (dVar 12) (dC .non))) (dAp mkTup dNil) (dAp mkTup (dCons (dVar 12) dNil))) dNil))) (gName 13))
      (sRet (dOp eqM (dAp reprM (dCons (dAp mkLst (dCons (dAp m_swept_words (dCons (dVar 1) (dCons (dVar 1) (dCons (dVar 3) dNil)))) (dCons (dAp m_swept_edges (dCons (dVar 1) (dCons (dVar 1) (dCons (dVar 3) dNil)))) dNil))) dNil)) (dAp reprM (dCons (dVar 13) dNil))))))
noncomputable abbrev restK : SD := (sSeq (sAsg (dAp m__law_swept (dCons (dVar 1) (dCons (dVar 2) (dCons (dVar 3) dNil)))) (gTup 3 (gsCons (gName 4) (gsCons (gName 5) (gsCons (gName 6) gsNil)))))
      (sSeq wordsK
      (sSeq (sAsg (dAp mkLst (dCons (dAp m_swept_words (dCons (dVar 1) (dCons (dVar 2) (dCons (dVar 3) dNil)))) (dCons (dAp m_swept_edges (dCons (dVar 1) (dCons (dVar 2) (dCons (dVar 3) dNil)))) dNil))) (gName 7))
      (sSeq (sIf (bCmp (dOp neM (dAp reprM (dCons (dVar 7) dNil)) (dAp reprM (dCons (dAp mkLst (dCons (dAp tupleM (dCons (dVar 4) dNil)) (dCons (dAp tupleM (dCons (dVar 5) dNil)) dNil))) dNil)))) (sRet (dC (.bl false))) sNil)
      (sSeq (sAsg (dAp mkLst (dCons (dApK 0 3 [0, 1, 2] m_swept_words dNil (dCons (dVar 2) (dCons (dVar 1) (dCons (dVar 3) dNil)))) (dCons (dApK 0 3 [0, 1, 2] m_swept_edges dNil (dCons (dVar 2) (dCons (dVar 1) (dCons (dVar 3) dNil)))) dNil))) (gName 8))
      (sSeq (sIf (bCmp (dOp neM (dAp reprM (dCons (dVar 8) dNil)) (dAp reprM (dCons (dVar 7) dNil)))) (sRet (dC (.bl false))) sNil)
      (sSeq (sAsg (dOp addM (dC (.int 1)) (dAp m__law_draw (dCons (dVar 0) (dCons (dC (.int 6)) dNil)))) (gName 9))
      (sSeq (sFor (iAp rng1 (dCons (dOp addM (dVar 9) (dC (.int 1))) dNil)) (gName 10) loopK)
      lastK))))))))
section
variable {S : Sto} {Q : PV → Sto → Prop}
theorem words_ok {r0 r1 r2 r3 r7 r8 r9 r10 r11 r12 r13 r14 r15 : Option PV} {n : Nat} {T : List Nat} {Q : Fl → Sto → Prop} : Ok (wordsK [r0, r1, r2, r3, some (.lst (shL T)), some (.lst (eL n T)), some (.bl (T.any fun i => i == n)), r7, r8, r9, r10, r11, r12, r13, r14, r15] S) Q = Q (.nx [r0, r1, r2, r3, some (.lst (wT n T)), some (.lst (eL n T)), some (.bl (T.any fun i => i == n)), r7, r8, r9, r10, r11, r12, r13, r14, r15]) S := by
  have en := eL_nil (n := n) (T := T)
  have hp : PlnL (eL n T) 0 := inferInstance
  have L1 : (1 : Nat) ≤ LIM := by decide
  have L2 : (2 : Nat) ≤ LIM := by decide
  have L0 : (0 : Nat) ≤ LIM := by decide
  have L3 : (3 : Nat) ≤ LIM := by decide
  unfold wT shL
  generalize eL n T = E at *
  generalize (T.any fun i => i == 0) = x1 at *
  generalize T.any (isS n) = x2 at *
  generalize (T.any fun i => i == n) = x3 at *
  cases x2 with
  | false =>
    have en := en.mpr rfl
    subst en
    cases x1 <;> cases x3 <;> simp -dsimp (disch := first | assumption | omega) only [zaa,zab,zac,zad,zae,zaf,zag,zah,zai,zaj,zak,zal,zam,zan,zao,zap,zaq,zar,zas,zat,zau,zav,zaw,zax,zay,zaz,zaA,zaB,zaC,zaD,zaE,zaF,zaG,zaH,zaI,zaJ,zaK,zaL,zaM,zaN,zaO,zaP,zaQ,zaR,zaS,zaT,zaU,zaV,zaW,zaX,zaY,zaZ,za0,za1,za2,za3,za4,za5,za6,za7,za8,za9,zba,zbb,zbc,zbd,zbe,zbf,zbg,zbh,zbi,zbj,zbk,zbl,zbm,zbn,zbo,zbp,zbq,zbr,zbs,zbt,zbu,zbv,zbw,zbx,zby,zbz,zbA,zbB,zbC,zbD,zbE,zbF,zbG,zbH,zbI,zbJ,zbK,zbL,zbM,zbN,zbO,zbP,zbQ,zbR,zbS,zbT,zbU,zbV,zbW,zbX,zbY,zbZ,zb0,zb1,zb2,zb3,zb4,zb5,zb6,zb7,zb8,zb9,zca,zcb,eq_self,zcc,zcd,zce,zcf,zcg,zch,zci,zcj,zck,zcl,zcm,List.getElem?_cons_succ,List.getElem?_cons_zero,List.set_cons_succ,List.set_cons_zero,List.map_cons,List.map_nil,List.length_cons,List.length_nil,List.cons_append,List.nil_append,List.append_nil,List.isEmpty_cons,List.isEmpty_nil,if_true,if_false,ite_true,ite_false,Bool.not_true,Bool.not_false,Bool.not_not,decide_true,true_and,and_true,false_and,and_false,Bool.false_eq_true,reduceCtorEq,decide_true,decide_false,ite_self,forall_const,Nat.zero_add,Nat.reduceAdd,Nat.reduceLeDiff,Nat.reduceLT,Nat.reduceEqDiff,Nat.reduceSub,Nat.reduceMul,Nat.reduceBEq,Int.reduceLT,Int.reduceLE,Int.reduceEq,Int.reduceNe,Int.reduceAdd,Int.reduceMul,Int.reduceSub,Int.reduceNeg,Int.reducePow,Int.reduceBEq,Int.reduceToNat,Int.reduceGT,Int.reduceGE,String.reduceBEq,zcn,zco,List.replicate_succ,List.replicate_zero,zcp,zcq,zcr,zcs,zct,zcu,zcv,zcw,zcx,zcy,zcz,zcA,zcB,zcC,zcD,zcE,zcF,zcG,zcH,zcI,zcJ,zcK,zcL,zcM,zcN,zcO,zcP,zcQ,zcR,zcS,zcT,zcU,zcV,zcW,zcX,zcY,zcZ,zc0,zc1,zc2,zc3,zc4,zc5,zc6,zc7,zc8,zc9,zda,zdb,zdc,Bool.true_or,Bool.or_true,Bool.false_or,Bool.or_false,Bool.and_true,Bool.true_and,Bool.and_false,Bool.false_and,Int.cast_ofNat_Int,Int.natCast_zero,Int.natCast_one,beq_self_eq_true,zdd,zde,zdf,zdg,zdh,wipeR,wordsK,wv,L0,L1,L2,L3]
  | true =>
    match E, en with
    | [], en => exact absurd (en.mp rfl) (by decide)
    | e :: E, _ =>
      have e0 : (PV.lst (e :: E) = .lst []) = False := by simp
      cases x1 <;> cases x3 <;> simp -dsimp (disch := first | assumption | omega) only [zaa,zab,zac,zad,zae,zaf,zag,zah,zai,zaj,zak,zal,zam,zan,zao,zap,zaq,zar,zas,zat,zau,zav,zaw,zax,zay,zaz,zaA,zaB,zaC,zaD,zaE,zaF,zaG,zaH,zaI,zaJ,zaK,zaL,zaM,zaN,zaO,zaP,zaQ,zaR,zaS,zaT,zaU,zaV,zaW,zaX,zaY,zaZ,za0,za1,za2,za3,za4,za5,za6,za7,za8,za9,zba,zbb,zbc,zbd,zbe,zbf,zbg,zbh,zbi,zbj,zbk,zbl,zbm,zbn,zbo,zbp,zbq,zbr,zbs,zbt,zbu,zbv,zbw,zbx,zby,zbz,zbA,zbB,zbC,zbD,zbE,zbF,zbG,zbH,zbI,zbJ,zbK,zbL,zbM,zbN,zbO,zbP,zbQ,zbR,zbS,zbT,zbU,zbV,zbW,zbX,zbY,zbZ,zb0,zb1,zb2,zb3,zb4,zb5,zb6,zb7,zb8,zb9,zca,zcb,eq_self,zcc,zcd,zce,zcf,zcg,zch,zci,zcj,zck,zcl,zcm,List.getElem?_cons_succ,List.getElem?_cons_zero,List.set_cons_succ,List.set_cons_zero,List.map_cons,List.map_nil,List.length_cons,List.length_nil,List.cons_append,List.nil_append,List.append_nil,List.isEmpty_cons,List.isEmpty_nil,if_true,if_false,ite_true,ite_false,Bool.not_true,Bool.not_false,Bool.not_not,decide_true,true_and,and_true,false_and,and_false,Bool.false_eq_true,reduceCtorEq,decide_true,decide_false,ite_self,forall_const,Nat.zero_add,Nat.reduceAdd,Nat.reduceLeDiff,Nat.reduceLT,Nat.reduceEqDiff,Nat.reduceSub,Nat.reduceMul,Nat.reduceBEq,Int.reduceLT,Int.reduceLE,Int.reduceEq,Int.reduceNe,Int.reduceAdd,Int.reduceMul,Int.reduceSub,Int.reduceNeg,Int.reducePow,Int.reduceBEq,Int.reduceToNat,Int.reduceGT,Int.reduceGE,String.reduceBEq,zcn,zco,List.replicate_succ,List.replicate_zero,zcp,zcq,zcr,zcs,zct,zcu,zcv,zcw,zcx,zcy,zcz,zcA,zcB,zcC,zcD,zcE,zcF,zcG,zcH,zcI,zcJ,zcK,zcL,zcM,zcN,zcO,zcP,zcQ,zcR,zcS,zcT,zcU,zcV,zcW,zcX,zcY,zcZ,zc0,zc1,zc2,zc3,zc4,zc5,zc6,zc7,zc8,zc9,zda,zdb,zdc,Bool.true_or,Bool.or_true,Bool.false_or,Bool.or_false,Bool.and_true,Bool.true_and,Bool.and_false,Bool.false_and,Int.cast_ofNat_Int,Int.natCast_zero,Int.natCast_one,beq_self_eq_true,zdd,zde,zdf,zdg,zdh,wipeR,wordsK,wv,L0,L1,L2,L3,zb9,e0]
theorem last_ok {s b : Rat} [z1 : Sz s 5] [z2 : Sz b 5] {C : List (Rat × Rat)} {r0 r2 r4 r5 r6 r7 r8 r9 r10 r11 r12 r13 r14 r15 : Option PV} {Q : Fl → Sto → Prop} (b0 : 0 < b) (hC : Cor C) (h2 : 2 ≤ C.length) (h5 : C.length ≤ 5) (hI : InS S) :
    Ok (lastK [r0, some (jv s b), r2, some (.tup (C.map plP)), r4, r5, r6, r7, r8, r9, r10, r11, r12, r13, r14, r15] S) Q = Q (.rt (.bl true)) S := by
  have g := fun S Q => w_ground_word (S := S) (Q := Q) (s := s) (b := b) hC h5 (by omega)
  have p1 := fun Q => p_swept_words (S := S) (Q := Q) (s := s) (b := b) (s2 := s) (b2 := b) b0 b0 hC h2 h5 hI
  have p2 := fun Q => p_swept_edges (S := S) (Q := Q) (s := s) (b := b) (s2 := s) (b2 := b) b0 b0 hC h2 h5 hI
  have eT : falls (fl2 s b s b C) 0 0 1 = [fbL (C.map (hiC s b)) 0] := by
    rw [falls_same _ 0 0 1 0 (by intro c hc; obtain ⟨x, _, rfl⟩ := List.mem_map.mp hc; rfl), ← fb_first (h := hiC s b) (fun c => by unfold gA; grind)]
  rw [eT] at p1 p2
  have ff := filt_fb (C.map (hiC s b)) 0
  have fl := filt_lt (C.map (hiC s b)) 0
  generalize fbL (C.map (hiC s b)) 0 = i at *
  generalize filt (C.map (hiC s b)) 0 = F at *
  rw [Nat.zero_add, List.length_map] at ff fl
  generalize C.length = n at *
  match F, ff with
  | [], ff =>
    have ei : i = n := by rw [← ff]; rfl
    subst ei
    have w1 : wT i [i] = [.str "past"] := by
      have : (i == 0) = false := by simp; omega
      simp [wv, isS, this]
    have w2 : eL i [i] = [] := by simp [eL, isS]
    rw [w1] at p1
    rw [w2] at p2
    simp -dsimp (disch := first | assumption | omega) only [zaa,zab,zac,zad,zae,zaf,zag,zah,zai,zaj,zak,zal,zam,zan,zao,zap,zaq,zar,zas,zat,zau,zav,zaw,zax,zay,zaz,zaA,zaB,zaC,zaD,zaE,zaF,zaG,zaH,zaI,zaJ,zaK,zaL,zaM,zaN,zaO,zaP,zaQ,zaR,zaS,zaT,zaU,zaV,zaW,zaX,zaY,zaZ,za0,za1,za2,za3,za4,za5,za6,za7,za8,za9,zba,zbb,zbc,zbd,zbe,zbf,zbg,zbh,zbi,zbj,zbk,zbl,zbm,zbn,zbo,zbp,zbq,zbr,zbs,zbt,zbu,zbv,zbw,zbx,zby,zbz,zbA,zbB,zbC,zbD,zbE,zbF,zbG,zbH,zbI,zbJ,zbK,zbL,zbM,zbN,zbO,zbP,zbQ,zbR,zbS,zbT,zbU,zbV,zbW,zbX,zbY,zbZ,zb0,zb1,zb2,zb3,zb4,zb5,zb6,zb7,zb8,zb9,zca,zcb,eq_self,zcc,zcd,zce,zcf,zcg,zch,zci,zcj,zck,zcl,zcm,List.getElem?_cons_succ,List.getElem?_cons_zero,List.set_cons_succ,List.set_cons_zero,List.map_cons,List.map_nil,List.length_cons,List.length_nil,List.cons_append,List.nil_append,List.append_nil,List.isEmpty_cons,List.isEmpty_nil,if_true,if_false,ite_true,ite_false,Bool.not_true,Bool.not_false,Bool.not_not,decide_true,true_and,and_true,false_and,and_false,Bool.false_eq_true,reduceCtorEq,decide_true,decide_false,ite_self,forall_const,Nat.zero_add,Nat.reduceAdd,Nat.reduceLeDiff,Nat.reduceLT,Nat.reduceEqDiff,Nat.reduceSub,Nat.reduceMul,Nat.reduceBEq,Int.reduceLT,Int.reduceLE,Int.reduceEq,Int.reduceNe,Int.reduceAdd,Int.reduceMul,Int.reduceSub,Int.reduceNeg,Int.reducePow,Int.reduceBEq,Int.reduceToNat,Int.reduceGT,Int.reduceGE,String.reduceBEq,zcn,zco,List.replicate_succ,List.replicate_zero,zcp,zcq,zcr,zcs,zct,zcu,zcv,zcw,zcx,zcy,zcz,zcA,zcB,zcC,zcD,zcE,zcF,zcG,zcH,zcI,zcJ,zcK,zcL,zcM,zcN,zcO,zcP,zcQ,zcR,zcS,zcT,zcU,zcV,zcW,zcX,zcY,zcZ,zc0,zc1,zc2,zc3,zc4,zc5,zc6,zc7,zc8,zc9,zda,zdb,zdc,Bool.true_or,Bool.or_true,Bool.false_or,Bool.or_false,Bool.and_true,Bool.true_and,Bool.and_false,Bool.false_and,Int.cast_ofNat_Int,Int.natCast_zero,Int.natCast_one,beq_self_eq_true,zdd,zde,zdf,zdg,zdh,wipeR,lastK,g,gwV,p1,p2]
  | 0 :: F, ff =>
    have ei : i = 0 := by rw [← ff]; rfl
    subst ei
    have w1 : wT n [0] = [.str "short"] := by
      have : (0 == n) = false := by simp; omega
      simp [wv, isS, this]
    have w2 : eL n [0] = [] := by simp [eL, isS]
    rw [w1] at p1
    rw [w2] at p2
    simp -dsimp (disch := first | assumption | omega) only [zaa,zab,zac,zad,zae,zaf,zag,zah,zai,zaj,zak,zal,zam,zan,zao,zap,zaq,zar,zas,zat,zau,zav,zaw,zax,zay,zaz,zaA,zaB,zaC,zaD,zaE,zaF,zaG,zaH,zaI,zaJ,zaK,zaL,zaM,zaN,zaO,zaP,zaQ,zaR,zaS,zaT,zaU,zaV,zaW,zaX,zaY,zaZ,za0,za1,za2,za3,za4,za5,za6,za7,za8,za9,zba,zbb,zbc,zbd,zbe,zbf,zbg,zbh,zbi,zbj,zbk,zbl,zbm,zbn,zbo,zbp,zbq,zbr,zbs,zbt,zbu,zbv,zbw,zbx,zby,zbz,zbA,zbB,zbC,zbD,zbE,zbF,zbG,zbH,zbI,zbJ,zbK,zbL,zbM,zbN,zbO,zbP,zbQ,zbR,zbS,zbT,zbU,zbV,zbW,zbX,zbY,zbZ,zb0,zb1,zb2,zb3,zb4,zb5,zb6,zb7,zb8,zb9,zca,zcb,eq_self,zcc,zcd,zce,zcf,zcg,zch,zci,zcj,zck,zcl,zcm,List.getElem?_cons_succ,List.getElem?_cons_zero,List.set_cons_succ,List.set_cons_zero,List.map_cons,List.map_nil,List.length_cons,List.length_nil,List.cons_append,List.nil_append,List.append_nil,List.isEmpty_cons,List.isEmpty_nil,if_true,if_false,ite_true,ite_false,Bool.not_true,Bool.not_false,Bool.not_not,decide_true,true_and,and_true,false_and,and_false,Bool.false_eq_true,reduceCtorEq,decide_true,decide_false,ite_self,forall_const,Nat.zero_add,Nat.reduceAdd,Nat.reduceLeDiff,Nat.reduceLT,Nat.reduceEqDiff,Nat.reduceSub,Nat.reduceMul,Nat.reduceBEq,Int.reduceLT,Int.reduceLE,Int.reduceEq,Int.reduceNe,Int.reduceAdd,Int.reduceMul,Int.reduceSub,Int.reduceNeg,Int.reducePow,Int.reduceBEq,Int.reduceToNat,Int.reduceGT,Int.reduceGE,String.reduceBEq,zcn,zco,List.replicate_succ,List.replicate_zero,zcp,zcq,zcr,zcs,zct,zcu,zcv,zcw,zcx,zcy,zcz,zcA,zcB,zcC,zcD,zcE,zcF,zcG,zcH,zcI,zcJ,zcK,zcL,zcM,zcN,zcO,zcP,zcQ,zcR,zcS,zcT,zcU,zcV,zcW,zcX,zcY,zcZ,zc0,zc1,zc2,zc3,zc4,zc5,zc6,zc7,zc8,zc9,zda,zdb,zdc,Bool.true_or,Bool.or_true,Bool.false_or,Bool.or_false,Bool.and_true,Bool.true_and,Bool.and_false,Bool.false_and,Int.cast_ofNat_Int,Int.natCast_zero,Int.natCast_one,beq_self_eq_true,zdd,zde,zdf,zdg,zdh,wipeR,lastK,g,gwV,p1,p2]
  | (j + 1) :: F, ff =>
    have ei : i = j + 1 := by rw [← ff]; rfl
    subst ei
    have hj := fl (j + 1) (by simp)
    have w1 : wT n [j + 1] = [.str "strikes"] := by
      have q1 : (j + 1 == 0) = false := by simp
      have q2 : (j + 1 == n) = false := by simp; omega
      have q3 : isS n (j + 1) = true := by simp [isS]; omega
      simp [wv, q1, q2, q3]
    have w2 : eL n [j + 1] = [nI j] := by
      have q3 : isS n (j + 1) = true := by simp [isS]; omega
      simp [eL, q3]
    rw [w1] at p1
    rw [w2] at p2
    have hN : isN (nI j) = false := rfl
    have hs : Shw (nI j) 0 0 := Shw.int (Nat.lt_of_le_of_lt (log_le (k := 10) (by omega)) (by decide))
    simp -dsimp (disch := first | assumption | omega) only [zaa,zab,zac,zad,zae,zaf,zag,zah,zai,zaj,zak,zal,zam,zan,zao,zap,zaq,zar,zas,zat,zau,zav,zaw,zax,zay,zaz,zaA,zaB,zaC,zaD,zaE,zaF,zaG,zaH,zaI,zaJ,zaK,zaL,zaM,zaN,zaO,zaP,zaQ,zaR,zaS,zaT,zaU,zaV,zaW,zaX,zaY,zaZ,za0,za1,za2,za3,za4,za5,za6,za7,za8,za9,zba,zbb,zbc,zbd,zbe,zbf,zbg,zbh,zbi,zbj,zbk,zbl,zbm,zbn,zbo,zbp,zbq,zbr,zbs,zbt,zbu,zbv,zbw,zbx,zby,zbz,zbA,zbB,zbC,zbD,zbE,zbF,zbG,zbH,zbI,zbJ,zbK,zbL,zbM,zbN,zbO,zbP,zbQ,zbR,zbS,zbT,zbU,zbV,zbW,zbX,zbY,zbZ,zb0,zb1,zb2,zb3,zb4,zb5,zb6,zb7,zb8,zb9,zca,zcb,eq_self,zcc,zcd,zce,zcf,zcg,zch,zci,zcj,zck,zcl,zcm,List.getElem?_cons_succ,List.getElem?_cons_zero,List.set_cons_succ,List.set_cons_zero,List.map_cons,List.map_nil,List.length_cons,List.length_nil,List.cons_append,List.nil_append,List.append_nil,List.isEmpty_cons,List.isEmpty_nil,if_true,if_false,ite_true,ite_false,Bool.not_true,Bool.not_false,Bool.not_not,decide_true,true_and,and_true,false_and,and_false,Bool.false_eq_true,reduceCtorEq,decide_true,decide_false,ite_self,forall_const,Nat.zero_add,Nat.reduceAdd,Nat.reduceLeDiff,Nat.reduceLT,Nat.reduceEqDiff,Nat.reduceSub,Nat.reduceMul,Nat.reduceBEq,Int.reduceLT,Int.reduceLE,Int.reduceEq,Int.reduceNe,Int.reduceAdd,Int.reduceMul,Int.reduceSub,Int.reduceNeg,Int.reducePow,Int.reduceBEq,Int.reduceToNat,Int.reduceGT,Int.reduceGE,String.reduceBEq,zcn,zco,List.replicate_succ,List.replicate_zero,zcp,zcq,zcr,zcs,zct,zcu,zcv,zcw,zcx,zcy,zcz,zcA,zcB,zcC,zcD,zcE,zcF,zcG,zcH,zcI,zcJ,zcK,zcL,zcM,zcN,zcO,zcP,zcQ,zcR,zcS,zcT,zcU,zcV,zcW,zcX,zcY,zcZ,zc0,zc1,zc2,zc3,zc4,zc5,zc6,zc7,zc8,zc9,zda,zdb,zdc,Bool.true_or,Bool.or_true,Bool.false_or,Bool.or_false,Bool.and_true,Bool.true_and,Bool.and_false,Bool.false_and,Int.cast_ofNat_Int,Int.natCast_zero,Int.natCast_one,beq_self_eq_true,zdd,zde,zdf,zdg,zdh,wipeR,lastK,g,gwV,p1,p2,hN]
theorem loop_ok {s b s2 b2 : Rat} [z1 : Sz s 5] [z2 : Sz b 5] [z3 : Sz s2 5] [z4 : Sz b2 5] {C : List (Rat × Rat)} {T : List Nat} {r0 r6 r7 r8 r11 r12 r13 r14 r15 : Option PV} {many : Int} {i : Nat} {Q : Fl → Sto → Prop} (b0 : 0 < b) (c0 : 0 < b2) (hC : Cor C) (h2 : 2 ≤ C.length) (h5 : C.length ≤ 5) (m0 : 0 < many) (m6 : many ≤ 6) (him : (i : Int) ≤ many)
    (hT : falls (fl2 s b s2 b2 C) 0 0 1 = T) (hq : ∀ z14 z15, Q (.nx [r0, some (jv s b), some (jv s2 b2), some (.tup (C.map plP)), some (.lst (wT C.length T)), some (.lst (eL C.length T)), r6, r7, r8, some (.int many), some (nI i), r11, r12, r13, z14, z15]) S) :
    Ok (loopK [r0, some (jv s b), some (jv s2 b2), some (.tup (C.map plP)), some (.lst (wT C.length T)), some (.lst (eL C.length T)), r6, r7, r8, some (.int many), some (nI i), r11, r12, r13, r14, r15] S) Q := by
  have hb : many ≠ 0 := by omega
  have y1 : (i : Int).natAbs < 2 ^ 5 := by omega
  have y2 : many.natAbs < 2 ^ 5 := by omega
  have wr := fun S Q => w_ratio (S := S) (Q := Q) hb (up8 y1 (by omega)) (up8 y2 (by omega))
  have zr : Sz (Rat.divInt (i : Int) many) 5 := wfrac_sz hb y1 y2
  obtain ⟨r0', r1'⟩ : 0 ≤ Rat.divInt (i : Int) many ∧ Rat.divInt (i : Int) many ≤ 1 := by
    have hp : (0 : Rat) < (many : Rat) := Rat.intCast_pos.mpr (by omega)
    have hv := Rat.inv_pos.mpr hp
    refine ⟨?_, ?_⟩
    · rw [Rat.divInt_eq_div, Rat.div_def]
      exact Rat.mul_nonneg (Rat.intCast_nonneg.mpr (by omega)) (Rat.le_of_lt hv)
    · rw [Rat.divInt_eq_div]
      have e1 : (many : Rat) / (many : Rat) = 1 := by
        have := Rat.ne_of_gt hp
        grind
      have e2 : ((i : Int) : Rat) / (many : Rat) ≤ (many : Rat) / (many : Rat) := by
        rw [Rat.div_def, Rat.div_def]
        exact Rat.mul_le_mul_of_nonneg_right (Rat.intCast_le_intCast.mpr him) (Rat.le_of_lt hv)
      rw [e1] at e2
      exact e2
  generalize Rat.divInt (i : Int) many = r at *
  have jb := fun S Q => p_jet_between (S := S) (Q := Q) (s := s) (b := b) (s2 := s2) (b2 := b2) (r := r) (by omega) b0 c0 r0' r1'
  have zs : Sz (s + r * (s2 - s)) 100 := (inferInstance : Sz (s + r * (s2 - s)) _).le (by decide)
  have zb : Sz (b + r * (b2 - b)) 100 := (inferInstance : Sz (b + r * (b2 - b)) _).le (by decide)
  have pb : 0 < b + r * (b2 - b) := by
    have a1 : 0 ≤ (1 - r) * b := Rat.mul_nonneg (by grind) (Rat.le_of_lt b0)
    have a2 : 0 ≤ r * b2 := Rat.mul_nonneg r0' (Rat.le_of_lt c0)
    by_cases c : r = 0
    · rw [c]; grind
    · have : 0 < r * b2 := Rat.mul_pos (by grind) c0
      grind
  have ef : fbL (C.map (hiC (s + r * (s2 - s)) (b + r * (b2 - b)))) 0 = firstB r (fl2 s b s2 b2 C) 0 := fb_first (fun c => by unfold gA hiC hi; grind) C 0
  have hm := falls_first (fl2 s b s2 b2 C) 0 0 1 r r0' r1'
  have pe := fun S Q => p_strike_edge (S := S) (Q := Q) (s := s + r * (s2 - s)) (b := b + r * (b2 - b)) pb hC h2 h5 (by omega)
  have pg := fun S Q => p_ground_word (S := S) (Q := Q) (s := s + r * (s2 - s)) (b := b + r * (b2 - b)) pb hC h2 h5 (by omega)
  rw [hT] at hm
  rw [ef] at pe pg
  generalize firstB r (fl2 s b s2 b2 C) 0 = j at *
  unfold bt at jb
  generalize s + r * (s2 - s) = s' at *
  generalize b + r * (b2 - b) = b' at *
  have hp := wv_pln (T.any fun i => i == 0) (T.any (isS C.length)) (T.any fun i => i == C.length)
  have hw : (PV.str (wordS j C.length)).pln = true ∧ (PV.str (wordS j C.length)).dep = 0 := ⟨by
    have := (words_pln C.length [j]).1
    simpa [plnL] using this, rfl⟩
  have n1 := fun S Q => Ok_nin_l (S := S) (Q := Q) (x := .str (wordS j C.length)) (ps := wT C.length T) (b := true) hw.1 (by omega) hp.1 (Nat.le_trans (Nat.le_of_eq hp.2) (by omega)) ⟨fun _ => rfl, fun _ => wT_mem hm⟩
  have hN : isN (PV.int ((j : Nat) - 1)) = false := rfl
  by_cases c : j ≠ 0 ∧ j ≠ C.length
  · rw [if_pos c] at pe
    have he := eL_pln (n := C.length) T
    have n2 := fun S Q => Ok_nin_l (S := S) (Q := Q) (x := .int ((j : Nat) - 1)) (ps := eL C.length T) (b := true) rfl (by simp [PV.dep]) he.1 (by omega) ⟨fun _ => rfl, fun _ => eL_mem hm c.1 c.2⟩
    simp -dsimp (disch := first | assumption | omega) only [zaa,zab,zac,zad,zae,zaf,zag,zah,zai,zaj,zak,zal,zam,zan,zao,zap,zaq,zar,zas,zat,zau,zav,zaw,zax,zay,zaz,zaA,zaB,zaC,zaD,zaE,zaF,zaG,zaH,zaI,zaJ,zaK,zaL,zaM,zaN,zaO,zaP,zaQ,zaR,zaS,zaT,zaU,zaV,zaW,zaX,zaY,zaZ,za0,za1,za2,za3,za4,za5,za6,za7,za8,za9,zba,zbb,zbc,zbd,zbe,zbf,zbg,zbh,zbi,zbj,zbk,zbl,zbm,zbn,zbo,zbp,zbq,zbr,zbs,zbt,zbu,zbv,zbw,zbx,zby,zbz,zbA,zbB,zbC,zbD,zbE,zbF,zbG,zbH,zbI,zbJ,zbK,zbL,zbM,zbN,zbO,zbP,zbQ,zbR,zbS,zbT,zbU,zbV,zbW,zbX,zbY,zbZ,zb0,zb1,zb2,zb3,zb4,zb5,zb6,zb7,zb8,zb9,zca,zcb,eq_self,zcc,zcd,zce,zcf,zcg,zch,zci,zcj,zck,zcl,zcm,List.getElem?_cons_succ,List.getElem?_cons_zero,List.set_cons_succ,List.set_cons_zero,List.map_cons,List.map_nil,List.length_cons,List.length_nil,List.cons_append,List.nil_append,List.append_nil,List.isEmpty_cons,List.isEmpty_nil,if_true,if_false,ite_true,ite_false,Bool.not_true,Bool.not_false,Bool.not_not,decide_true,true_and,and_true,false_and,and_false,Bool.false_eq_true,reduceCtorEq,decide_true,decide_false,ite_self,forall_const,Nat.zero_add,Nat.reduceAdd,Nat.reduceLeDiff,Nat.reduceLT,Nat.reduceEqDiff,Nat.reduceSub,Nat.reduceMul,Nat.reduceBEq,Int.reduceLT,Int.reduceLE,Int.reduceEq,Int.reduceNe,Int.reduceAdd,Int.reduceMul,Int.reduceSub,Int.reduceNeg,Int.reducePow,Int.reduceBEq,Int.reduceToNat,Int.reduceGT,Int.reduceGE,String.reduceBEq,zcn,zco,List.replicate_succ,List.replicate_zero,zcp,zcq,zcr,zcs,zct,zcu,zcv,zcw,zcx,zcy,zcz,zcA,zcB,zcC,zcD,zcE,zcF,zcG,zcH,zcI,zcJ,zcK,zcL,zcM,zcN,zcO,zcP,zcQ,zcR,zcS,zcT,zcU,zcV,zcW,zcX,zcY,zcZ,zc0,zc1,zc2,zc3,zc4,zc5,zc6,zc7,zc8,zc9,zda,zdb,zdc,Bool.true_or,Bool.or_true,Bool.false_or,Bool.or_false,Bool.and_true,Bool.true_and,Bool.and_false,Bool.false_and,Int.cast_ofNat_Int,Int.natCast_zero,Int.natCast_one,beq_self_eq_true,zdd,zde,zdf,zdg,zdh,wipeR,loopK,wr,jb,pe,pg,n1,n2,hN]
    exact hq _ _
  · rw [if_neg c] at pe
    simp -dsimp (disch := first | assumption | omega) only [zaa,zab,zac,zad,zae,zaf,zag,zah,zai,zaj,zak,zal,zam,zan,zao,zap,zaq,zar,zas,zat,zau,zav,zaw,zax,zay,zaz,zaA,zaB,zaC,zaD,zaE,zaF,zaG,zaH,zaI,zaJ,zaK,zaL,zaM,zaN,zaO,zaP,zaQ,zaR,zaS,zaT,zaU,zaV,zaW,zaX,zaY,zaZ,za0,za1,za2,za3,za4,za5,za6,za7,za8,za9,zba,zbb,zbc,zbd,zbe,zbf,zbg,zbh,zbi,zbj,zbk,zbl,zbm,zbn,zbo,zbp,zbq,zbr,zbs,zbt,zbu,zbv,zbw,zbx,zby,zbz,zbA,zbB,zbC,zbD,zbE,zbF,zbG,zbH,zbI,zbJ,zbK,zbL,zbM,zbN,zbO,zbP,zbQ,zbR,zbS,zbT,zbU,zbV,zbW,zbX,zbY,zbZ,zb0,zb1,zb2,zb3,zb4,zb5,zb6,zb7,zb8,zb9,zca,zcb,eq_self,zcc,zcd,zce,zcf,zcg,zch,zci,zcj,zck,zcl,zcm,List.getElem?_cons_succ,List.getElem?_cons_zero,List.set_cons_succ,List.set_cons_zero,List.map_cons,List.map_nil,List.length_cons,List.length_nil,List.cons_append,List.nil_append,List.append_nil,List.isEmpty_cons,List.isEmpty_nil,if_true,if_false,ite_true,ite_false,Bool.not_true,Bool.not_false,Bool.not_not,decide_true,true_and,and_true,false_and,and_false,Bool.false_eq_true,reduceCtorEq,decide_true,decide_false,ite_self,forall_const,Nat.zero_add,Nat.reduceAdd,Nat.reduceLeDiff,Nat.reduceLT,Nat.reduceEqDiff,Nat.reduceSub,Nat.reduceMul,Nat.reduceBEq,Int.reduceLT,Int.reduceLE,Int.reduceEq,Int.reduceNe,Int.reduceAdd,Int.reduceMul,Int.reduceSub,Int.reduceNeg,Int.reducePow,Int.reduceBEq,Int.reduceToNat,Int.reduceGT,Int.reduceGE,String.reduceBEq,zcn,zco,List.replicate_succ,List.replicate_zero,zcp,zcq,zcr,zcs,zct,zcu,zcv,zcw,zcx,zcy,zcz,zcA,zcB,zcC,zcD,zcE,zcF,zcG,zcH,zcI,zcJ,zcK,zcL,zcM,zcN,zcO,zcP,zcQ,zcR,zcS,zcT,zcU,zcV,zcW,zcX,zcY,zcZ,zc0,zc1,zc2,zc3,zc4,zc5,zc6,zc7,zc8,zc9,zda,zdb,zdc,Bool.true_or,Bool.or_true,Bool.false_or,Bool.or_false,Bool.and_true,Bool.true_and,Bool.and_false,Bool.false_and,Int.cast_ofNat_Int,Int.natCast_zero,Int.natCast_one,beq_self_eq_true,zdd,zde,zdf,zdg,zdh,wipeR,loopK,wr,jb,pe,pg,n1]
    exact hq _ _
theorem rest_ok {s b s2 b2 : Rat} [z1 : Sz s 5] [z2 : Sz b 5] [z3 : Sz s2 5] [z4 : Sz b2 5] {C : List (Rat × Rat)} {n m : Nat} {r4 r5 r6 r7 r8 r9 r10 r11 r12 r13 r14 r15 : Option PV} (b0 : 0 < b) (c0 : 0 < b2) (hC : Cor C) (h2 : 2 ≤ C.length) (h5 : C.length ≤ 5) (h : Vat m S n) (hS : S.length = n + 1) (hm : m < 999999000) :
    Ok (restK [some (.loc n), some (jv s b), some (jv s2 b2), some (.tup (C.map plP)), r4, r5, r6, r7, r8, r9, r10, r11, r12, r13, r14, r15] S) (Fin1 n) := by
  have hI : InS S := IntS.inS h.2 hS
  have sw := fun S Q => w_swept (S := S) (Q := Q) (s := s) (b := b) (s2 := s2) (b2 := b2) hC h5 (by omega)
  have p1 := fun Q => p_swept_words (S := S) (Q := Q) (s := s) (b := b) (s2 := s2) (b2 := b2) b0 c0 hC h2 h5 hI
  have p2 := fun Q => p_swept_edges (S := S) (Q := Q) (s := s) (b := b) (s2 := s2) (b2 := b2) b0 c0 hC h2 h5 hI
  have p3 := fun Q => p_swept_words (S := S) (Q := Q) (s := s2) (b := b2) (s2 := s) (b2 := b) c0 b0 hC h2 h5 hI
  have p4 := fun Q => p_swept_edges (S := S) (Q := Q) (s := s2) (b := b2) (s2 := s) (b2 := b) c0 b0 hC h2 h5 hI
  have eB : falls (fl2 s2 b2 s b C) 0 0 1 = falls (fl2 s b s2 b2 C) 0 0 1 := by
    rw [← falls_sw (fl2 s b s2 b2 C) 0 0 1 (by decide)]
    unfold fl2
    rw [List.map_map, show (1 : Rat) - 1 = 0 by grind, show (1 : Rat) - 0 = 1 by grind]
    rfl
  rw [eB] at p3 p4
  have hlen := falls_len (cs := fl2 s b s2 b2 C) 0 0 1
  have hrng := falls_range (fl2 s b s2 b2 C) 0 0 1
  rw [show (fl2 s b s2 b2 C).length = C.length by simp [fl2]] at hlen hrng
  generalize hT : falls (fl2 s b s2 b2 C) 0 0 1 = T at *
  have hE : ShwL (eL C.length T) 6 0 := eL_shw (by omega) (fun i hi => by have := hrng i hi; omega)
  have wk := fun r0 r1 r2 r3 r7 r8 r9 r10 r11 r12 r13 r14 r15 S Q => words_ok (S := S) (Q := Q) (n := C.length) (T := T) (r0 := r0) (r1 := r1) (r2 := r2) (r3 := r3) (r7 := r7) (r8 := r8) (r9 := r9) (r10 := r10) (r11 := r11) (r12 := r12) (r13 := r13) (r14 := r14) (r15 := r15)
  simp -dsimp (disch := first | assumption | omega) only [zaa,zab,zac,zad,zae,zaf,zag,zah,zai,zaj,zak,zal,zam,zan,zao,zap,zaq,zar,zas,zat,zau,zav,zaw,zax,zay,zaz,zaA,zaB,zaC,zaD,zaE,zaF,zaG,zaH,zaI,zaJ,zaK,zaL,zaM,zaN,zaO,zaP,zaQ,zaR,zaS,zaT,zaU,zaV,zaW,zaX,zaY,zaZ,za0,za1,za2,za3,za4,za5,za6,za7,za8,za9,zba,zbb,zbc,zbd,zbe,zbf,zbg,zbh,zbi,zbj,zbk,zbl,zbm,zbn,zbp,zbq,zbr,zbs,zbt,zbu,zbv,zbw,zbx,zby,zbz,zbA,zbB,zbC,zbD,zbE,zbF,zbG,zbH,zbI,zbJ,zbK,zbL,zbM,zbN,zbO,zbP,zbQ,zbR,zbS,zbT,zbU,zbV,zbW,zbX,zbY,zbZ,zb0,zb1,zb2,zb3,zb4,zb5,zb6,zb7,zb8,zb9,zca,zcb,eq_self,zcc,zcd,zce,zcf,zcg,zch,zci,zcj,zck,zcl,zcm,List.getElem?_cons_succ,List.getElem?_cons_zero,List.set_cons_succ,List.set_cons_zero,List.map_cons,List.map_nil,List.length_cons,List.length_nil,List.cons_append,List.nil_append,List.append_nil,List.isEmpty_cons,List.isEmpty_nil,if_true,if_false,ite_true,ite_false,Bool.not_true,Bool.not_false,Bool.not_not,decide_true,true_and,and_true,false_and,and_false,Bool.false_eq_true,reduceCtorEq,decide_true,decide_false,ite_self,forall_const,Nat.zero_add,Nat.reduceAdd,Nat.reduceLeDiff,Nat.reduceLT,Nat.reduceEqDiff,Nat.reduceSub,Nat.reduceMul,Nat.reduceBEq,Int.reduceLT,Int.reduceLE,Int.reduceEq,Int.reduceNe,Int.reduceAdd,Int.reduceMul,Int.reduceSub,Int.reduceNeg,Int.reducePow,Int.reduceBEq,Int.reduceToNat,Int.reduceGT,Int.reduceGE,String.reduceBEq,zcn,zco,List.replicate_succ,List.replicate_zero,zcp,zcq,zcr,zcs,zct,zcu,zcv,zcw,zcx,zcy,zcz,zcA,zcB,zcC,zcD,zcE,zcF,zcG,zcH,zcI,zcJ,zcK,zcL,zcM,zcN,zcO,zcP,zcQ,zcR,zcS,zcT,zcU,zcV,zcW,zcX,zcY,zcZ,zc0,zc1,zc2,zc3,zc4,zc5,zc6,zc7,zc8,zc9,zda,zdb,zdc,Bool.true_or,Bool.or_true,Bool.false_or,Bool.or_false,Bool.and_true,Bool.true_and,Bool.and_false,Bool.false_and,Int.cast_ofNat_Int,Int.natCast_zero,Int.natCast_one,beq_self_eq_true,zdd,wipeR,restK,sw,wk,p1,p2]
  refine Ok_check ?_ ?_
  · simp -dsimp (disch := first | assumption | omega) only [zaa,zab,zac,zad,zae,zaf,zag,zah,zai,zaj,zak,zal,zam,zan,zao,zap,zaq,zar,zas,zat,zau,zav,zaw,zax,zay,zaz,zaA,zaB,zaC,zaD,zaE,zaF,zaG,zaH,zaI,zaJ,zaK,zaL,zaM,zaN,zaO,zaP,zaQ,zaR,zaS,zaT,zaU,zaV,zaW,zaX,zaY,zaZ,za0,za1,za2,za3,za4,za5,za6,za7,za8,za9,zba,zbb,zbc,zbd,zbe,zbf,zbg,zbh,zbi,zbj,zbk,zbl,zbm,zbn,zbo,zbp,zbq,zbr,zbs,zbt,zbu,zbv,zbw,zbx,zby,zbz,zbA,zbB,zbC,zbD,zbE,zbF,zbG,zbH,zbI,zbJ,zbK,zbL,zbM,zbN,zbO,zbP,zbQ,zbR,zbS,zbT,zbU,zbV,zbW,zbX,zbY,zbZ,zb0,zb1,zb2,zb3,zb4,zb5,zb6,zb7,zb8,zb9,zca,zcb,eq_self,zcc,zcd,zce,zcf,zcg,zch,zci,zcj,zck,zcl,zcm,List.getElem?_cons_succ,List.getElem?_cons_zero,List.set_cons_succ,List.set_cons_zero,List.map_cons,List.map_nil,List.length_cons,List.length_nil,List.cons_append,List.nil_append,List.append_nil,List.isEmpty_cons,List.isEmpty_nil,if_true,if_false,ite_true,ite_false,Bool.not_true,Bool.not_false,Bool.not_not,decide_true,true_and,and_true,false_and,and_false,Bool.false_eq_true,reduceCtorEq,decide_true,decide_false,ite_self,forall_const,Nat.zero_add,Nat.reduceAdd,Nat.reduceLeDiff,Nat.reduceLT,Nat.reduceEqDiff,Nat.reduceSub,Nat.reduceMul,Nat.reduceBEq,Int.reduceLT,Int.reduceLE,Int.reduceEq,Int.reduceNe,Int.reduceAdd,Int.reduceMul,Int.reduceSub,Int.reduceNeg,Int.reducePow,Int.reduceBEq,Int.reduceToNat,Int.reduceGT,Int.reduceGE,String.reduceBEq,zcn,zco,List.replicate_succ,List.replicate_zero,zcp,zcq,zcr,zcs,zct,zcu,zcv,zcw,zcx,zcy,zcz,zcA,zcB,zcC,zcD,zcE,zcF,zcG,zcH,zcI,zcJ,zcK,zcL,zcM,zcN,zcO,zcP,zcQ,zcR,zcS,zcT,zcU,zcV,zcW,zcX,zcY,zcZ,zc0,zc1,zc2,zc3,zc4,zc5,zc6,zc7,zc8,zc9,zda,zdb,zdc,Bool.true_or,Bool.or_true,Bool.false_or,Bool.or_false,Bool.and_true,Bool.true_and,Bool.and_false,Bool.false_and,Int.cast_ofNat_Int,Int.natCast_zero,Int.natCast_one,beq_self_eq_true,zdd,zde,zdf,zdg,zdh,wipeR]
  simp -dsimp (disch := first | assumption | omega) only [zaa,zab,zac,zad,zae,zaf,zag,zah,zai,zaj,zak,zal,zam,zan,zao,zap,zaq,zar,zas,zat,zau,zav,zaw,zax,zay,zaz,zaA,zaB,zaC,zaD,zaE,zaF,zaG,zaH,zaI,zaJ,zaK,zaL,zaM,zaN,zaO,zaP,zaQ,zaR,zaS,zaT,zaU,zaV,zaW,zaX,zaY,zaZ,za0,za1,za2,za3,za4,za5,za6,za7,za8,za9,zba,zbb,zbc,zbd,zbe,zbf,zbg,zbh,zbi,zbj,zbk,zbl,zbm,zbn,zbp,zbq,zbr,zbs,zbt,zbu,zbv,zbw,zbx,zby,zbz,zbA,zbB,zbC,zbD,zbE,zbF,zbG,zbH,zbI,zbJ,zbK,zbL,zbM,zbN,zbO,zbP,zbQ,zbR,zbS,zbT,zbU,zbV,zbW,zbX,zbY,zbZ,zb0,zb1,zb2,zb3,zb4,zb5,zb6,zb7,zb8,zb9,zca,zcb,eq_self,zcc,zcd,zce,zcf,zcg,zch,zci,zcj,zck,zcl,zcm,List.getElem?_cons_succ,List.getElem?_cons_zero,List.set_cons_succ,List.set_cons_zero,List.map_cons,List.map_nil,List.length_cons,List.length_nil,List.cons_append,List.nil_append,List.append_nil,List.isEmpty_cons,List.isEmpty_nil,if_true,if_false,ite_true,ite_false,Bool.not_true,Bool.not_false,Bool.not_not,decide_true,true_and,and_true,false_and,and_false,Bool.false_eq_true,reduceCtorEq,decide_true,decide_false,ite_self,forall_const,Nat.zero_add,Nat.reduceAdd,Nat.reduceLeDiff,Nat.reduceLT,Nat.reduceEqDiff,Nat.reduceSub,Nat.reduceMul,Nat.reduceBEq,Int.reduceLT,Int.reduceLE,Int.reduceEq,Int.reduceNe,Int.reduceAdd,Int.reduceMul,Int.reduceSub,Int.reduceNeg,Int.reducePow,Int.reduceBEq,Int.reduceToNat,Int.reduceGT,Int.reduceGE,String.reduceBEq,zcn,zco,List.replicate_succ,List.replicate_zero,zcp,zcq,zcr,zcs,zct,zcu,zcv,zcw,zcx,zcy,zcz,zcA,zcB,zcC,zcD,zcE,zcF,zcG,zcH,zcI,zcJ,zcK,zcL,zcM,zcN,zcO,zcP,zcQ,zcR,zcS,zcT,zcU,zcV,zcW,zcX,zcY,zcZ,zc0,zc1,zc2,zc3,zc4,zc5,zc6,zc7,zc8,zc9,zda,zdb,zdc,Bool.true_or,Bool.or_true,Bool.false_or,Bool.or_false,Bool.and_true,Bool.true_and,Bool.and_false,Bool.false_and,Int.cast_ofNat_Int,Int.natCast_zero,Int.natCast_one,beq_self_eq_true,zdd,wipeR,p3,p4,kput,List.filterMap_cons,List.filterMap_nil]
  refine Ok_check ?_ ?_
  · simp -dsimp (disch := first | assumption | omega) only [zaa,zab,zac,zad,zae,zaf,zag,zah,zai,zaj,zak,zal,zam,zan,zao,zap,zaq,zar,zas,zat,zau,zav,zaw,zax,zay,zaz,zaA,zaB,zaC,zaD,zaE,zaF,zaG,zaH,zaI,zaJ,zaK,zaL,zaM,zaN,zaO,zaP,zaQ,zaR,zaS,zaT,zaU,zaV,zaW,zaX,zaY,zaZ,za0,za1,za2,za3,za4,za5,za6,za7,za8,za9,zba,zbb,zbc,zbd,zbe,zbf,zbg,zbh,zbi,zbj,zbk,zbl,zbm,zbn,zbo,zbp,zbq,zbr,zbs,zbt,zbu,zbv,zbw,zbx,zby,zbz,zbA,zbB,zbC,zbD,zbE,zbF,zbG,zbH,zbI,zbJ,zbK,zbL,zbM,zbN,zbO,zbP,zbQ,zbR,zbS,zbT,zbU,zbV,zbW,zbX,zbY,zbZ,zb0,zb1,zb2,zb3,zb4,zb5,zb6,zb7,zb8,zb9,zca,zcb,eq_self,zcc,zcd,zce,zcf,zcg,zch,zci,zcj,zck,zcl,zcm,List.getElem?_cons_succ,List.getElem?_cons_zero,List.set_cons_succ,List.set_cons_zero,List.map_cons,List.map_nil,List.length_cons,List.length_nil,List.cons_append,List.nil_append,List.append_nil,List.isEmpty_cons,List.isEmpty_nil,if_true,if_false,ite_true,ite_false,Bool.not_true,Bool.not_false,Bool.not_not,decide_true,true_and,and_true,false_and,and_false,Bool.false_eq_true,reduceCtorEq,decide_true,decide_false,ite_self,forall_const,Nat.zero_add,Nat.reduceAdd,Nat.reduceLeDiff,Nat.reduceLT,Nat.reduceEqDiff,Nat.reduceSub,Nat.reduceMul,Nat.reduceBEq,Int.reduceLT,Int.reduceLE,Int.reduceEq,Int.reduceNe,Int.reduceAdd,Int.reduceMul,Int.reduceSub,Int.reduceNeg,Int.reducePow,Int.reduceBEq,Int.reduceToNat,Int.reduceGT,Int.reduceGE,String.reduceBEq,zcn,zco,List.replicate_succ,List.replicate_zero,zcp,zcq,zcr,zcs,zct,zcu,zcv,zcw,zcx,zcy,zcz,zcA,zcB,zcC,zcD,zcE,zcF,zcG,zcH,zcI,zcJ,zcK,zcL,zcM,zcN,zcO,zcP,zcQ,zcR,zcS,zcT,zcU,zcV,zcW,zcX,zcY,zcZ,zc0,zc1,zc2,zc3,zc4,zc5,zc6,zc7,zc8,zc9,zda,zdb,zdc,Bool.true_or,Bool.or_true,Bool.false_or,Bool.or_false,Bool.and_true,Bool.true_and,Bool.and_false,Bool.false_and,Int.cast_ofNat_Int,Int.natCast_zero,Int.natCast_one,beq_self_eq_true,zdd,zde,zdf,zdg,zdh,wipeR]
  simp -dsimp (disch := first | assumption | omega) only [zaa,zab,zac,zad,zae,zaf,zag,zah,zai,zaj,zak,zal,zam,zan,zao,zap,zaq,zar,zas,zat,zau,zav,zaw,zax,zay,zaz,zaA,zaB,zaC,zaD,zaE,zaF,zaG,zaH,zaI,zaJ,zaK,zaL,zaM,zaN,zaO,zaP,zaQ,zaR,zaS,zaT,zaU,zaV,zaW,zaX,zaY,zaZ,za0,za1,za2,za3,za4,za5,za6,za7,za8,za9,zba,zbb,zbc,zbd,zbe,zbf,zbg,zbh,zbi,zbj,zbk,zbl,zbm,zbn,zbp,zbq,zbr,zbs,zbt,zbu,zbv,zbw,zbx,zby,zbz,zbA,zbB,zbC,zbD,zbE,zbF,zbG,zbH,zbI,zbJ,zbK,zbL,zbM,zbN,zbO,zbP,zbQ,zbR,zbS,zbT,zbU,zbV,zbW,zbX,zbY,zbZ,zb0,zb1,zb2,zb3,zb4,zb5,zb6,zb7,zb8,zb9,zca,zcb,eq_self,zcc,zcd,zce,zcf,zcg,zch,zci,zcj,zck,zcl,zcm,List.getElem?_cons_succ,List.getElem?_cons_zero,List.set_cons_succ,List.set_cons_zero,List.map_cons,List.map_nil,List.length_cons,List.length_nil,List.cons_append,List.nil_append,List.append_nil,List.isEmpty_cons,List.isEmpty_nil,if_true,if_false,ite_true,ite_false,Bool.not_true,Bool.not_false,Bool.not_not,decide_true,true_and,and_true,false_and,and_false,Bool.false_eq_true,reduceCtorEq,decide_true,decide_false,ite_self,forall_const,Nat.zero_add,Nat.reduceAdd,Nat.reduceLeDiff,Nat.reduceLT,Nat.reduceEqDiff,Nat.reduceSub,Nat.reduceMul,Nat.reduceBEq,Int.reduceLT,Int.reduceLE,Int.reduceEq,Int.reduceNe,Int.reduceAdd,Int.reduceMul,Int.reduceSub,Int.reduceNeg,Int.reducePow,Int.reduceBEq,Int.reduceToNat,Int.reduceGT,Int.reduceGE,String.reduceBEq,zcn,zco,List.replicate_succ,List.replicate_zero,zcp,zcq,zcr,zcs,zct,zcu,zcv,zcw,zcx,zcy,zcz,zcA,zcB,zcC,zcD,zcE,zcF,zcG,zcH,zcI,zcJ,zcK,zcL,zcM,zcN,zcO,zcP,zcQ,zcR,zcS,zcT,zcU,zcV,zcW,zcX,zcY,zcZ,zc0,zc1,zc2,zc3,zc4,zc5,zc6,zc7,zc8,zc9,zda,zdb,zdc,Bool.true_or,Bool.or_true,Bool.false_or,Bool.or_false,Bool.and_true,Bool.true_and,Bool.and_false,Bool.false_and,Int.cast_ofNat_Int,Int.natCast_zero,Int.natCast_one,beq_self_eq_true,zdd,wipeR]
  refine wdraw_ok h (by omega) (by omega) (by omega) fun d S1 d0 d1 l1 v1 => ?_
  simp -dsimp (disch := first | assumption | omega) only [zaa,zab,zac,zad,zae,zaf,zag,zah,zai,zaj,zak,zal,zam,zan,zao,zap,zaq,zar,zas,zat,zau,zav,zaw,zax,zay,zaz,zaA,zaB,zaC,zaD,zaE,zaF,zaG,zaH,zaI,zaJ,zaK,zaL,zaM,zaN,zaO,zaP,zaQ,zaR,zaS,zaT,zaU,zaV,zaW,zaX,zaY,zaZ,za0,za1,za2,za3,za4,za5,za6,za7,za8,za9,zba,zbb,zbc,zbd,zbe,zbf,zbg,zbh,zbi,zbj,zbk,zbl,zbm,zbn,zbp,zbq,zbr,zbs,zbt,zbu,zbv,zbw,zbx,zby,zbz,zbA,zbB,zbC,zbD,zbE,zbF,zbG,zbH,zbI,zbJ,zbK,zbL,zbM,zbN,zbO,zbP,zbQ,zbR,zbS,zbT,zbU,zbV,zbW,zbX,zbY,zbZ,zb0,zb1,zb2,zb3,zb4,zb5,zb6,zb7,zb8,zb9,zca,zcb,eq_self,zcc,zcd,zce,zcf,zcg,zch,zci,zcj,zck,zcl,zcm,List.getElem?_cons_succ,List.getElem?_cons_zero,List.set_cons_succ,List.set_cons_zero,List.map_cons,List.map_nil,List.length_cons,List.length_nil,List.cons_append,List.nil_append,List.append_nil,List.isEmpty_cons,List.isEmpty_nil,if_true,if_false,ite_true,ite_false,Bool.not_true,Bool.not_false,Bool.not_not,decide_true,true_and,and_true,false_and,and_false,Bool.false_eq_true,reduceCtorEq,decide_true,decide_false,ite_self,forall_const,Nat.zero_add,Nat.reduceAdd,Nat.reduceLeDiff,Nat.reduceLT,Nat.reduceEqDiff,Nat.reduceSub,Nat.reduceMul,Nat.reduceBEq,Int.reduceLT,Int.reduceLE,Int.reduceEq,Int.reduceNe,Int.reduceAdd,Int.reduceMul,Int.reduceSub,Int.reduceNeg,Int.reducePow,Int.reduceBEq,Int.reduceToNat,Int.reduceGT,Int.reduceGE,String.reduceBEq,zcn,zco,List.replicate_succ,List.replicate_zero,zcp,zcq,zcr,zcs,zct,zcu,zcv,zcw,zcx,zcy,zcz,zcA,zcB,zcC,zcD,zcE,zcF,zcG,zcH,zcI,zcJ,zcK,zcL,zcM,zcN,zcO,zcP,zcQ,zcR,zcS,zcT,zcU,zcV,zcW,zcX,zcY,zcZ,zc0,zc1,zc2,zc3,zc4,zc5,zc6,zc7,zc8,zc9,zda,zdb,zdc,Bool.true_or,Bool.or_true,Bool.false_or,Bool.or_false,Bool.and_true,Bool.true_and,Bool.and_false,Bool.false_and,Int.cast_ofNat_Int,Int.natCast_zero,Int.natCast_one,beq_self_eq_true,zdd,wipeR]
  refine ⟨by omega, ?_⟩
  have hl : (rngL 0 (1 + d + 1).toNat).length = (1 + d + 1).toNat := by simp [rngL]
  refine Ok_for (fun i ρ S' => S1 = S' ∧ ∃ z10 z14 z15, ρ = [some (.loc n), some (jv s b), some (jv s2 b2), some (.tup (C.map plP)), some (.lst (wT C.length T)), some (.lst (eL C.length T)), some (.bl (T.any fun i => i == C.length)), some (.lst [.tup (wT C.length T), .tup (eL C.length T)]), some (.lst [.tup (wT C.length T), .tup (eL C.length T)]), some (.int (1 + d)), z10, r11, r12, r13, z14, z15]) ⟨rfl, _, _, _, rfl⟩ ?_ ?_
  · rintro i p ρ S' hp ⟨rfl, z10, z14, z15, rfl⟩
    obtain ⟨hi5, rfl⟩ := rngL_get hp
    simp -dsimp (disch := first | assumption | omega) only [zaa,zab,zac,zad,zae,zaf,zag,zah,zai,zaj,zak,zal,zam,zan,zao,zap,zaq,zar,zas,zat,zau,zav,zaw,zax,zay,zaz,zaA,zaB,zaC,zaD,zaE,zaF,zaG,zaH,zaI,zaJ,zaK,zaL,zaM,zaN,zaO,zaP,zaQ,zaR,zaS,zaT,zaU,zaV,zaW,zaX,zaY,zaZ,za0,za1,za2,za3,za4,za5,za6,za7,za8,za9,zba,zbb,zbc,zbd,zbe,zbf,zbg,zbh,zbi,zbj,zbk,zbl,zbm,zbn,zbp,zbq,zbr,zbs,zbt,zbu,zbv,zbw,zbx,zby,zbz,zbA,zbB,zbC,zbD,zbE,zbF,zbG,zbH,zbI,zbJ,zbK,zbL,zbM,zbN,zbO,zbP,zbQ,zbR,zbS,zbT,zbU,zbV,zbW,zbX,zbY,zbZ,zb0,zb1,zb2,zb3,zb4,zb5,zb6,zb7,zb8,zb9,zca,zcb,eq_self,zcc,zcd,zce,zcf,zcg,zch,zci,zcj,zck,zcl,zcm,List.getElem?_cons_succ,List.getElem?_cons_zero,List.set_cons_succ,List.set_cons_zero,List.map_cons,List.map_nil,List.length_cons,List.length_nil,List.cons_append,List.nil_append,List.append_nil,List.isEmpty_cons,List.isEmpty_nil,if_true,if_false,ite_true,ite_false,Bool.not_true,Bool.not_false,Bool.not_not,decide_true,true_and,and_true,false_and,and_false,Bool.false_eq_true,reduceCtorEq,decide_true,decide_false,ite_self,forall_const,Nat.zero_add,Nat.reduceAdd,Nat.reduceLeDiff,Nat.reduceLT,Nat.reduceEqDiff,Nat.reduceSub,Nat.reduceMul,Nat.reduceBEq,Int.reduceLT,Int.reduceLE,Int.reduceEq,Int.reduceNe,Int.reduceAdd,Int.reduceMul,Int.reduceSub,Int.reduceNeg,Int.reducePow,Int.reduceBEq,Int.reduceToNat,Int.reduceGT,Int.reduceGE,String.reduceBEq,zcn,zco,List.replicate_succ,List.replicate_zero,zcp,zcq,zcr,zcs,zct,zcu,zcv,zcw,zcx,zcy,zcz,zcA,zcB,zcC,zcD,zcE,zcF,zcG,zcH,zcI,zcJ,zcK,zcL,zcM,zcN,zcO,zcP,zcQ,zcR,zcS,zcT,zcU,zcV,zcW,zcX,zcY,zcZ,zc0,zc1,zc2,zc3,zc4,zc5,zc6,zc7,zc8,zc9,zda,zdb,zdc,Bool.true_or,Bool.or_true,Bool.false_or,Bool.or_false,Bool.and_true,Bool.true_and,Bool.and_false,Bool.false_and,Int.cast_ofNat_Int,Int.natCast_zero,Int.natCast_one,beq_self_eq_true,zdd,wipeR]
    refine loop_ok b0 c0 hC h2 h5 (by omega) (by omega) (by omega) hT fun z14 z15 => ?_
    exact ⟨rfl, _, _, _, rfl⟩
  · rintro ρ S' ⟨rfl, z10, z14, z15, rfl⟩
    have hI1 : InS S1 := IntS.inS v1.2 (by omega)
    have lk := fun r0 r2 r4 r5 r6 r7 r8 r9 r10 r11 r12 r13 r14 r15 Q => last_ok (s := s) (r0 := r0) (r2 := r2) (r4 := r4) (r5 := r5) (r6 := r6) (r7 := r7) (r8 := r8) (r9 := r9) (r10 := r10) (r11 := r11) (r12 := r12) (r13 := r13) (r14 := r14) (r15 := r15) (Q := Q) b0 hC h2 h5 hI1
    simp -dsimp only [lk]
    exact ⟨rfl, by omega, v1.2⟩
theorem right_ok {n m : Nat} (h : Vat m S n) (hS : S.length = n + 1) (hm : m < 999000000) : Ok (m__law_right [.loc n] S) (Right n) := by
  refine right_of hS ?_
  simp -dsimp (disch := first | assumption | omega) only [zaa,zab,zac,zad,zae,zaf,zag,zah,zai,zaj,zak,zal,zam,zan,zao,zap,zaq,zar,zas,zat,zau,zav,zaw,zax,zay,zaz,zaA,zaB,zaC,zaD,zaE,zaF,zaG,zaH,zaI,zaJ,zaK,zaL,zaM,zaN,zaO,zaP,zaQ,zaR,zaS,zaT,zaU,zaV,zaW,zaX,zaY,zaZ,za0,za1,za2,za3,za4,za5,za6,za7,za8,za9,zba,zbb,zbc,zbd,zbe,zbf,zbg,zbh,zbi,zbj,zbk,zbl,zbm,zbn,zbp,zbq,zbr,zbs,zbt,zbu,zbv,zbw,zbx,zby,zbz,zbA,zbB,zbC,zbD,zbE,zbF,zbG,zbH,zbI,zbJ,zbK,zbL,zbM,zbN,zbO,zbP,zbQ,zbR,zbS,zbT,zbU,zbV,zbW,zbX,zbY,zbZ,zb0,zb1,zb2,zb3,zb4,zb5,zb6,zb7,zb8,zb9,zca,zcb,eq_self,zcc,zcd,zce,zcf,zcg,zch,zci,zcj,zck,zcl,zcm,List.getElem?_cons_succ,List.getElem?_cons_zero,List.set_cons_succ,List.set_cons_zero,List.map_cons,List.map_nil,List.length_cons,List.length_nil,List.cons_append,List.nil_append,List.append_nil,List.isEmpty_cons,List.isEmpty_nil,if_true,if_false,ite_true,ite_false,Bool.not_true,Bool.not_false,Bool.not_not,decide_true,true_and,and_true,false_and,and_false,Bool.false_eq_true,reduceCtorEq,decide_true,decide_false,ite_self,forall_const,Nat.zero_add,Nat.reduceAdd,Nat.reduceLeDiff,Nat.reduceLT,Nat.reduceEqDiff,Nat.reduceSub,Nat.reduceMul,Nat.reduceBEq,Int.reduceLT,Int.reduceLE,Int.reduceEq,Int.reduceNe,Int.reduceAdd,Int.reduceMul,Int.reduceSub,Int.reduceNeg,Int.reducePow,Int.reduceBEq,Int.reduceToNat,Int.reduceGT,Int.reduceGE,String.reduceBEq,zcn,zco,List.replicate_succ,List.replicate_zero,zcp,zcq,zcr,zcs,zct,zcu,zcv,zcw,zcx,zcy,zcz,zcA,zcB,zcC,zcD,zcE,zcF,zcG,zcH,zcI,zcJ,zcK,zcL,zcM,zcN,zcO,zcP,zcQ,zcR,zcS,zcT,zcU,zcV,zcW,zcX,zcY,zcZ,zc0,zc1,zc2,zc3,zc4,zc5,zc6,zc7,zc8,zc9,zda,zdb,zdc,Bool.true_or,Bool.or_true,Bool.false_or,Bool.or_false,Bool.and_true,Bool.true_and,Bool.and_false,Bool.false_and,Int.cast_ofNat_Int,Int.natCast_zero,Int.natCast_one,beq_self_eq_true,zdd,wipeR]
  refine wtwo_ok h (by omega) fun s b s2 b2 S1 z1 z2 b0 z3 z4 c0 l1 v1 => ?_
  simp -dsimp (disch := first | assumption | omega) only [zaa,zab,zac,zad,zae,zaf,zag,zah,zai,zaj,zak,zal,zam,zan,zao,zap,zaq,zar,zas,zat,zau,zav,zaw,zax,zay,zaz,zaA,zaB,zaC,zaD,zaE,zaF,zaG,zaH,zaI,zaJ,zaK,zaL,zaM,zaN,zaO,zaP,zaQ,zaR,zaS,zaT,zaU,zaV,zaW,zaX,zaY,zaZ,za0,za1,za2,za3,za4,za5,za6,za7,za8,za9,zba,zbb,zbc,zbd,zbe,zbf,zbg,zbh,zbi,zbj,zbk,zbl,zbm,zbn,zbp,zbq,zbr,zbs,zbt,zbu,zbv,zbw,zbx,zby,zbz,zbA,zbB,zbC,zbD,zbE,zbF,zbG,zbH,zbI,zbJ,zbK,zbL,zbM,zbN,zbO,zbP,zbQ,zbR,zbS,zbT,zbU,zbV,zbW,zbX,zbY,zbZ,zb0,zb1,zb2,zb3,zb4,zb5,zb6,zb7,zb8,zb9,zca,zcb,eq_self,zcc,zcd,zce,zcf,zcg,zch,zci,zcj,zck,zcl,zcm,List.getElem?_cons_succ,List.getElem?_cons_zero,List.set_cons_succ,List.set_cons_zero,List.map_cons,List.map_nil,List.length_cons,List.length_nil,List.cons_append,List.nil_append,List.append_nil,List.isEmpty_cons,List.isEmpty_nil,if_true,if_false,ite_true,ite_false,Bool.not_true,Bool.not_false,Bool.not_not,decide_true,true_and,and_true,false_and,and_false,Bool.false_eq_true,reduceCtorEq,decide_true,decide_false,ite_self,forall_const,Nat.zero_add,Nat.reduceAdd,Nat.reduceLeDiff,Nat.reduceLT,Nat.reduceEqDiff,Nat.reduceSub,Nat.reduceMul,Nat.reduceBEq,Int.reduceLT,Int.reduceLE,Int.reduceEq,Int.reduceNe,Int.reduceAdd,Int.reduceMul,Int.reduceSub,Int.reduceNeg,Int.reducePow,Int.reduceBEq,Int.reduceToNat,Int.reduceGT,Int.reduceGE,String.reduceBEq,zcn,zco,List.replicate_succ,List.replicate_zero,zcp,zcq,zcr,zcs,zct,zcu,zcv,zcw,zcx,zcy,zcz,zcA,zcB,zcC,zcD,zcE,zcF,zcG,zcH,zcI,zcJ,zcK,zcL,zcM,zcN,zcO,zcP,zcQ,zcR,zcS,zcT,zcU,zcV,zcW,zcX,zcY,zcZ,zc0,zc1,zc2,zc3,zc4,zc5,zc6,zc7,zc8,zc9,zda,zdb,zdc,Bool.true_or,Bool.or_true,Bool.false_or,Bool.or_false,Bool.and_true,Bool.true_and,Bool.and_false,Bool.false_and,Int.cast_ofNat_Int,Int.natCast_zero,Int.natCast_one,beq_self_eq_true,zdd,wipeR]
  refine wdraw_ok v1 (by omega) (by omega) (by omega) fun d S2 d0 d1 l2 v2 => ?_
  by_cases e : d = 0
  · have e' : (d == 0) = true := by simpa using e
    simp -dsimp (disch := first | assumption | omega) only [zaa,zab,zac,zad,zae,zaf,zag,zah,zai,zaj,zak,zal,zam,zan,zao,zap,zaq,zar,zas,zat,zau,zav,zaw,zax,zay,zaz,zaA,zaB,zaC,zaD,zaE,zaF,zaG,zaH,zaI,zaJ,zaK,zaL,zaM,zaN,zaO,zaP,zaQ,zaR,zaS,zaT,zaU,zaV,zaW,zaX,zaY,zaZ,za0,za1,za2,za3,za4,za5,za6,za7,za8,za9,zba,zbb,zbc,zbd,zbe,zbf,zbg,zbh,zbi,zbj,zbk,zbl,zbm,zbn,zbp,zbq,zbr,zbs,zbt,zbu,zbv,zbw,zbx,zby,zbz,zbA,zbB,zbC,zbD,zbE,zbF,zbG,zbH,zbI,zbJ,zbK,zbL,zbM,zbN,zbO,zbP,zbQ,zbR,zbS,zbT,zbU,zbV,zbW,zbX,zbY,zbZ,zb0,zb1,zb2,zb3,zb4,zb5,zb6,zb7,zb8,zb9,zca,zcb,eq_self,zcc,zcd,zce,zcf,zcg,zch,zci,zcj,zck,zcl,zcm,List.getElem?_cons_succ,List.getElem?_cons_zero,List.set_cons_succ,List.set_cons_zero,List.map_cons,List.map_nil,List.length_cons,List.length_nil,List.cons_append,List.nil_append,List.append_nil,List.isEmpty_cons,List.isEmpty_nil,if_true,if_false,ite_true,ite_false,Bool.not_true,Bool.not_false,Bool.not_not,decide_true,true_and,and_true,false_and,and_false,Bool.false_eq_true,reduceCtorEq,decide_true,decide_false,ite_self,forall_const,Nat.zero_add,Nat.reduceAdd,Nat.reduceLeDiff,Nat.reduceLT,Nat.reduceEqDiff,Nat.reduceSub,Nat.reduceMul,Nat.reduceBEq,Int.reduceLT,Int.reduceLE,Int.reduceEq,Int.reduceNe,Int.reduceAdd,Int.reduceMul,Int.reduceSub,Int.reduceNeg,Int.reducePow,Int.reduceBEq,Int.reduceToNat,Int.reduceGT,Int.reduceGE,String.reduceBEq,zcn,zco,List.replicate_succ,List.replicate_zero,zcp,zcq,zcr,zcs,zct,zcu,zcv,zcw,zcx,zcy,zcz,zcA,zcB,zcC,zcD,zcE,zcF,zcG,zcH,zcI,zcJ,zcK,zcL,zcM,zcN,zcO,zcP,zcQ,zcR,zcS,zcT,zcU,zcV,zcW,zcX,zcY,zcZ,zc0,zc1,zc2,zc3,zc4,zc5,zc6,zc7,zc8,zc9,zda,zdb,zdc,Bool.true_or,Bool.or_true,Bool.false_or,Bool.or_false,Bool.and_true,Bool.true_and,Bool.and_false,Bool.false_and,Int.cast_ofNat_Int,Int.natCast_zero,Int.natCast_one,beq_self_eq_true,zdd,wipeR,e']
    refine ground_ok v2 (by omega) (by omega) fun C S3 h2 h5 hC l3 v3 => ?_
    simp -dsimp only [zbs, List.set_cons_succ, List.set_cons_zero]
    exact rest_ok b0 c0 hC h2 h5 v3 l3 (by omega)
  · have e' : (d == 0) = false := by simpa using e
    simp -dsimp (disch := first | assumption | omega) only [zaa,zab,zac,zad,zae,zaf,zag,zah,zai,zaj,zak,zal,zam,zan,zao,zap,zaq,zar,zas,zat,zau,zav,zaw,zax,zay,zaz,zaA,zaB,zaC,zaD,zaE,zaF,zaG,zaH,zaI,zaJ,zaK,zaL,zaM,zaN,zaO,zaP,zaQ,zaR,zaS,zaT,zaU,zaV,zaW,zaX,zaY,zaZ,za0,za1,za2,za3,za4,za5,za6,za7,za8,za9,zba,zbb,zbc,zbd,zbe,zbf,zbg,zbh,zbi,zbj,zbk,zbl,zbm,zbn,zbp,zbq,zbr,zbs,zbt,zbu,zbv,zbw,zbx,zby,zbz,zbA,zbB,zbC,zbD,zbE,zbF,zbG,zbH,zbI,zbJ,zbK,zbL,zbM,zbN,zbO,zbP,zbQ,zbR,zbS,zbT,zbU,zbV,zbW,zbX,zbY,zbZ,zb0,zb1,zb2,zb3,zb4,zb5,zb6,zb7,zb8,zb9,zca,zcb,eq_self,zcc,zcd,zce,zcf,zcg,zch,zci,zcj,zck,zcl,zcm,List.getElem?_cons_succ,List.getElem?_cons_zero,List.set_cons_succ,List.set_cons_zero,List.map_cons,List.map_nil,List.length_cons,List.length_nil,List.cons_append,List.nil_append,List.append_nil,List.isEmpty_cons,List.isEmpty_nil,if_true,if_false,ite_true,ite_false,Bool.not_true,Bool.not_false,Bool.not_not,decide_true,true_and,and_true,false_and,and_false,Bool.false_eq_true,reduceCtorEq,decide_true,decide_false,ite_self,forall_const,Nat.zero_add,Nat.reduceAdd,Nat.reduceLeDiff,Nat.reduceLT,Nat.reduceEqDiff,Nat.reduceSub,Nat.reduceMul,Nat.reduceBEq,Int.reduceLT,Int.reduceLE,Int.reduceEq,Int.reduceNe,Int.reduceAdd,Int.reduceMul,Int.reduceSub,Int.reduceNeg,Int.reducePow,Int.reduceBEq,Int.reduceToNat,Int.reduceGT,Int.reduceGE,String.reduceBEq,zcn,zco,List.replicate_succ,List.replicate_zero,zcp,zcq,zcr,zcs,zct,zcu,zcv,zcw,zcx,zcy,zcz,zcA,zcB,zcC,zcD,zcE,zcF,zcG,zcH,zcI,zcJ,zcK,zcL,zcM,zcN,zcO,zcP,zcQ,zcR,zcS,zcT,zcU,zcV,zcW,zcX,zcY,zcZ,zc0,zc1,zc2,zc3,zc4,zc5,zc6,zc7,zc8,zc9,zda,zdb,zdc,Bool.true_or,Bool.or_true,Bool.false_or,Bool.or_false,Bool.and_true,Bool.true_and,Bool.and_false,Bool.false_and,Int.cast_ofNat_Int,Int.natCast_zero,Int.natCast_one,beq_self_eq_true,zdd,wipeR,e']
    refine ground_ok v2 (by omega) (by omega) fun C S3 h2 h5 hC l3 v3 => ?_
    simp -dsimp only [zbs, List.set_cons_succ, List.set_cons_zero]
    exact rest_ok b0 c0 hC h2 h5 v3 l3 (by omega)
end
end Pm.L


namespace Pm.L
open PySem PySem.Spec L2 Pm
theorem fin_true (S1 : Sto) : ∃ S, fin 0 (.ok (.bl true) S1) = .ok (.bl true) S := by
  have e : fzV S1 0 20 (.bl true) = some (.bl true) := by simp [fzV]
  by_cases h : S1.length = 0
  · exact ⟨S1, by simp [fin, h]⟩
  · exact ⟨[], by simp [fin, h, e]⟩
theorem law_ok (ns : List Int) (hn : ns.length ≤ 63) : ∃ S, m_law [.frz (ns.map PV.int)] [] = .ok (.bl true) S := by
  have key : Ok (d_law (rho0 2 [.frz (ns.map PV.int)]) []) fun r S1 => r = .rt (.bl true) := by
    have hr : ∀ (S : Sto) (Q : PV → Sto → Prop), Ok (m__law_rounds [.frz (ns.map PV.int), .int 2, .int 4] S) Q = Q (.int (if (if (4 : Int) < ns.length then (4 : Int) else ns.length) > 2 then (if (4 : Int) < ns.length then (4 : Int) else ns.length) else 2)) S := fun S Q => by
      have e : m__law_rounds [.frz (ns.map PV.int), .int 2, .int 4] S = .ok (.int (if (if (4 : Int) < ns.length then (4 : Int) else ns.length) > 2 then (if (4 : Int) < ns.length then (4 : Int) else ns.length) else 2)) S := by
        refine Ok.eq (Ok_defM rfl ?_)
        simp -dsimp (disch := first | assumption | omega) only [zaa,zab,zac,zad,zae,zaf,zag,zah,zai,zaj,zak,zal,zam,zan,zao,zap,zaq,zar,zas,zat,zau,zav,zaw,zax,zay,zaz,zaA,zaB,zaC,zaD,zaE,zaF,zaG,zaH,zaI,zaJ,zaK,zaL,zaM,zaN,zaO,zaP,zaQ,zaR,zaS,zaT,zaU,zaV,zaW,zaX,zaY,zaZ,za0,za1,za2,za3,za4,za5,za6,za7,za8,za9,zba,zbb,zbc,zbd,zbe,zbf,zbg,zbh,zbi,zbj,zbk,zbl,zbm,zbn,zbo,zbp,zbq,zbr,zbs,zbt,zbu,zbv,zbw,zbx,zby,zbz,zbA,zbB,zbC,zbD,zbE,zbF,zbG,zbH,zbI,zbJ,zbK,zbL,zbM,zbN,zbO,zbP,zbQ,zbR,zbS,zbT,zbU,zbV,zbW,zbX,zbY,zbZ,zb0,zb1,zb2,zb3,zb4,zb5,zb6,zb7,zb8,zb9,zca,zcb,eq_self,zcc,zcd,zce,zcf,zcg,zch,zci,zcj,zck,zcl,zcm,List.getElem?_cons_succ,List.getElem?_cons_zero,List.set_cons_succ,List.set_cons_zero,List.map_cons,List.map_nil,List.length_cons,List.length_nil,List.cons_append,List.nil_append,List.append_nil,List.isEmpty_cons,List.isEmpty_nil,if_true,if_false,ite_true,ite_false,Bool.not_true,Bool.not_false,Bool.not_not,decide_true,true_and,and_true,false_and,and_false,Bool.false_eq_true,reduceCtorEq,decide_true,decide_false,ite_self,forall_const,Nat.zero_add,Nat.reduceAdd,Nat.reduceLeDiff,Nat.reduceLT,Nat.reduceEqDiff,Nat.reduceSub,Nat.reduceMul,Nat.reduceBEq,Int.reduceLT,Int.reduceLE,Int.reduceEq,Int.reduceNe,Int.reduceAdd,Int.reduceMul,Int.reduceSub,Int.reduceNeg,Int.reducePow,Int.reduceBEq,Int.reduceToNat,Int.reduceGT,Int.reduceGE,String.reduceBEq,zcn,zco,List.replicate_succ,List.replicate_zero,zcp,zcq,zcr,zcs,zct,zcu,zcv,zcw,zcx,zcy,zcz,zcA,zcB,zcC,zcD,zcE,zcF,zcG,zcH,zcI,zcJ,zcK,zcL,zcM,zcN,zcO,zcP,zcQ,zcR,zcS,zcT,zcU,zcV,zcW,zcX,zcY,zcZ,zc0,zc1,zc2,zc3,zc4,zc5,zc6,zc7,zc8,zc9,zda,zdb,zdc,Bool.true_or,Bool.or_true,Bool.false_or,Bool.or_false,Bool.and_true,Bool.true_and,Bool.and_false,Bool.false_and,Int.cast_ofNat_Int,Int.natCast_zero,Int.natCast_one,beq_self_eq_true,zdd,zde,zdf,zdg,zdh,wipeR,List.length_map]
      rw [e, zaa]
    simp -dsimp (disch := first | assumption | omega) only [zaa,zab,zac,zad,zae,zaf,zag,zah,zai,zaj,zak,zal,zam,zan,zao,zap,zaq,zar,zas,zat,zau,zav,zaw,zax,zay,zaz,zaA,zaB,zaC,zaD,zaE,zaF,zaG,zaH,zaI,zaJ,zaK,zaL,zaM,zaN,zaO,zaP,zaQ,zaR,zaS,zaT,zaU,zaV,zaW,zaX,zaY,zaZ,za0,za1,za2,za3,za4,za5,za6,za7,za8,za9,zba,zbb,zbc,zbd,zbe,zbf,zbg,zbh,zbi,zbj,zbk,zbl,zbm,zbn,zbo,zbp,zbq,zbr,zbs,zbt,zbu,zbv,zbw,zbx,zby,zbz,zbA,zbB,zbC,zbD,zbE,zbF,zbG,zbH,zbI,zbJ,zbK,zbL,zbM,zbN,zbO,zbP,zbQ,zbR,zbS,zbT,zbU,zbV,zbW,zbX,zbY,zbZ,zb0,zb1,zb2,zb3,zb4,zb5,zb6,zb7,zb8,zb9,zca,zcb,eq_self,zcc,zcd,zce,zcf,zcg,zch,zci,zcj,zck,zcl,zcm,List.getElem?_cons_succ,List.getElem?_cons_zero,List.set_cons_succ,List.set_cons_zero,List.map_cons,List.map_nil,List.length_cons,List.length_nil,List.cons_append,List.nil_append,List.append_nil,List.isEmpty_cons,List.isEmpty_nil,if_true,if_false,ite_true,ite_false,Bool.not_true,Bool.not_false,Bool.not_not,decide_true,true_and,and_true,false_and,and_false,Bool.false_eq_true,reduceCtorEq,decide_true,decide_false,ite_self,forall_const,Nat.zero_add,Nat.reduceAdd,Nat.reduceLeDiff,Nat.reduceLT,Nat.reduceEqDiff,Nat.reduceSub,Nat.reduceMul,Nat.reduceBEq,Int.reduceLT,Int.reduceLE,Int.reduceEq,Int.reduceNe,Int.reduceAdd,Int.reduceMul,Int.reduceSub,Int.reduceNeg,Int.reducePow,Int.reduceBEq,Int.reduceToNat,Int.reduceGT,Int.reduceGE,String.reduceBEq,zcn,zco,List.replicate_succ,List.replicate_zero,zcp,zcq,zcr,zcs,zct,zcu,zcv,zcw,zcx,zcy,zcz,zcA,zcB,zcC,zcD,zcE,zcF,zcG,zcH,zcI,zcJ,zcK,zcL,zcM,zcN,zcO,zcP,zcQ,zcR,zcS,zcT,zcU,zcV,zcW,zcX,zcY,zcZ,zc0,zc1,zc2,zc3,zc4,zc5,zc6,zc7,zc8,zc9,zda,zdb,zdc,Bool.true_or,Bool.or_true,Bool.false_or,Bool.or_false,Bool.and_true,Bool.true_and,Bool.and_false,Bool.false_and,Int.cast_ofNat_Int,Int.natCast_zero,Int.natCast_one,beq_self_eq_true,zdd,zde,zdf,zdg,zdh,wipeR,hr]
    refine ⟨by split <;> split <;> omega, by simp [rngL]; split <;> split <;> omega, ?_⟩
    refine Ok_lc (fun S => ∀ (i : Nat) e, S[i]? = some e → IntE e) (fun _ p => p = .bl true) (fun i e h => by simp at h) ?_ ?_
    · intro k p S hp hJ
      obtain ⟨i, hi, rfl⟩ : ∃ i : Nat, i < 63 ∧ p = .int i := by
        have h1 := List.mem_of_getElem? hp
        simp only [rngL, List.mem_map, List.mem_range] at h1
        obtain ⟨i, hi, rfl⟩ := h1
        refine ⟨i, ?_, by simp⟩
        revert hi
        split <;> split <;> omega
      simp -dsimp (disch := first | assumption | omega) only [zaa,zab,zac,zad,zae,zaf,zag,zah,zai,zaj,zak,zal,zam,zan,zao,zap,zaq,zar,zas,zat,zau,zav,zaw,zax,zay,zaz,zaA,zaB,zaC,zaD,zaE,zaF,zaG,zaH,zaI,zaJ,zaK,zaL,zaM,zaN,zaO,zaP,zaQ,zaR,zaS,zaT,zaU,zaV,zaW,zaX,zaY,zaZ,za0,za1,za2,za3,za4,za5,za6,za7,za8,za9,zba,zbb,zbc,zbd,zbe,zbf,zbg,zbh,zbi,zbj,zbk,zbl,zbm,zbn,zbo,zbp,zbq,zbr,zbs,zbt,zbu,zbv,zbw,zbx,zby,zbz,zbA,zbB,zbC,zbD,zbE,zbF,zbG,zbH,zbI,zbJ,zbK,zbL,zbM,zbN,zbO,zbP,zbQ,zbR,zbS,zbT,zbU,zbV,zbW,zbX,zbY,zbZ,zb0,zb1,zb2,zb3,zb4,zb5,zb6,zb7,zb8,zb9,zca,zcb,eq_self,zcc,zcd,zce,zcf,zcg,zch,zci,zcj,zck,zcl,zcm,List.getElem?_cons_succ,List.getElem?_cons_zero,List.set_cons_succ,List.set_cons_zero,List.map_cons,List.map_nil,List.length_cons,List.length_nil,List.cons_append,List.nil_append,List.append_nil,List.isEmpty_cons,List.isEmpty_nil,if_true,if_false,ite_true,ite_false,Bool.not_true,Bool.not_false,Bool.not_not,decide_true,true_and,and_true,false_and,and_false,Bool.false_eq_true,reduceCtorEq,decide_true,decide_false,ite_self,forall_const,Nat.zero_add,Nat.reduceAdd,Nat.reduceLeDiff,Nat.reduceLT,Nat.reduceEqDiff,Nat.reduceSub,Nat.reduceMul,Nat.reduceBEq,Int.reduceLT,Int.reduceLE,Int.reduceEq,Int.reduceNe,Int.reduceAdd,Int.reduceMul,Int.reduceSub,Int.reduceNeg,Int.reducePow,Int.reduceBEq,Int.reduceToNat,Int.reduceGT,Int.reduceGE,String.reduceBEq,zcn,zco,List.replicate_succ,List.replicate_zero,zcp,zcq,zcr,zcs,zct,zcu,zcv,zcw,zcx,zcy,zcz,zcA,zcB,zcC,zcD,zcE,zcF,zcG,zcH,zcI,zcJ,zcK,zcL,zcM,zcN,zcO,zcP,zcQ,zcR,zcS,zcT,zcU,zcV,zcW,zcX,zcY,zcZ,zc0,zc1,zc2,zc3,zc4,zc5,zc6,zc7,zc8,zc9,zda,zdb,zdc,Bool.true_or,Bool.or_true,Bool.false_or,Bool.or_false,Bool.and_true,Bool.true_and,Bool.and_false,Bool.false_and,Int.cast_ofNat_Int,Int.natCast_zero,Int.natCast_one,beq_self_eq_true,zdd,zde,zdf,zdg,zdh,wipeR]
      refine well_ok hn (by omega) hJ fun S1 l1 v1 => ?_
      exact (right_ok v1 l1 (by omega)).mono fun p S' ⟨e, l2, h2⟩ => ⟨e, fun i e he => h2 i e (by have := (List.getElem?_eq_some_iff.mp he).1; omega) he⟩
    · intro qs S hl hq _
      rw [zaf, Ok_all_true (fun p hp => by obtain ⟨k, hk⟩ := List.getElem?_of_mem hp; exact hq k p hk)]
  obtain ⟨r, S1, e, rfl⟩ := key.ex
  have e2 : bodyR d_law (rho0 2 [.frz (ns.map PV.int)]) [] = .ok (.bl true) S1 := by
    unfold bodyR bnd
    rw [e]
    rfl
  have e3 : m_law [.frz (ns.map PV.int)] [] = fin 0 (bodyR d_law (rho0 2 [.frz (ns.map PV.int)]) []) := rfl
  rw [e3, e2]
  exact fin_true S1
end Pm.L

theorem PySem.Challenge.cw_spoutlines_k89_whole_words_and_edges_on_holds : PySem.Challenge.rw_spoutlines_k89_whole_words_and_edges_on.Holds := by
  exact Pm.L.ends Pm.L.law_ok
