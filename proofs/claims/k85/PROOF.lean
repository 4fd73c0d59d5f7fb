import PyProof.Rows.All
import PySem.Challenge.RW_spoutlines_k85_whole_streams_on_one_curv
import Wide.All
import OpenK.AllK
import Wide.FinOn
import HandS.Base
import HandS.Call
import HandS.List
import HandS.Dict
import HandS.Comp
import HandS.Iter
import HandS.Text
import HandS.Ends
import HandS.Words
import HandS.Flow
import HandS.Style
import HandS.Wide
import HandS.Conv
import HandS.IsInst
import HandS.Deep
import HandS.TupAny
import HandS.Gcd
import HandS.Walk
import HandS.Exc
import HandS.Defaults
import HandS.WordsExc
import HandS.ExcInit
import KE.KMathG
import PyProof.ReprRoads
import KE.KStateDown
import HandS.Head0
import HandS.Head1
import HandS.Head2
import HandS.HeadEnd
import HandS.HeadHook1
import HandS.HeadHook2
import HandS.Head3
import KE.GoesEnum
import HandS.Star
import HandS.Zip
import HandS.WideBits
import PyProof.ByEval2
import Flt.RightSqrt
set_option autoImplicit false
set_option Elab.async false
set_option linter.all false
set_option maxRecDepth 100000
set_option maxHeartbeats 2000000
set_option exponentiation.threshold 10000
namespace Pm
open PySem PySem.Spec L2

/-! ## pure values, the store, outcomes -/
inductive PV where
  | non | bl (b : Bool) | int (i : Int) | str (x : Str)
  | tup (xs : List PV) | lst (xs : List PV) | frz (xs : List PV) | loc (n : Nat) | dct
inductive Ent where
  | lst (xs : List PV)
abbrev Sto := List Ent
abbrev Rho := List (Option PV)
inductive Out (α : Type) where
  | ok (a : α) (S : Sto) | exn (c : Str) (x : Option (Str × PV)) (S : Sto) | stuck
abbrev M (α : Type) := Sto → Out α
def bnd {α β : Type} (m : M α) (f : α → M β) : M β := fun S => match m S with
  | .ok a S1 => f a S1
  | .exn c x S1 => .exn c x S1
  | .stuck => .stuck
def ret {α : Type} (a : α) : M α := fun S => .ok a S
def stk {α : Type} : M α := fun _ => .stuck
theorem bnd_ok {α β : Type} {m : M α} {f : α → M β} {S S1 : Sto} {a : α} (h : m S = .ok a S1) : bnd m f S = f a S1 := by
  unfold bnd; rw [h]
theorem bnd_ret {α β : Type} {a : α} {f : α → M β} : bnd (ret a) f = f a := rfl
abbrev ED := Rho → M PV
abbrev BD := Rho → M Bool
abbrev AD := Rho → M (List PV)

/-! ## the relation to the heap -/
/-- the addresses of the store's places, and those of lists that are being made -/
structure Mu where
  ls : List Addr
  hid : List Addr
def Mu.has (μ : Mu) (a : Addr) : Prop := a ∈ μ.ls ∨ a ∈ μ.hid
abbrev Mu.push (μ : Mu) (p : Addr) : Mu := ⟨μ.ls ++ [p], μ.hid⟩
abbrev Mu.hide (μ : Mu) (p : Addr) : Mu := ⟨μ.ls, p :: μ.hid⟩
/-- a list that nobody writes: known to the object, or of the module -/
def FrzL (K : PySem.W.Frag) (H : Hp) (a : Addr) (vs : List V) : Prop := (∃ o, H a = some (.frz o (.lst vs))) ∨
  ∃ (o : Obj) (its : Array Value) (n : Nat), K.lookup a = some o ∧ o.cls = .type "list" ∧ o.dict = none ∧ o.data = .seq its n ∧ its.size ≤ sizeLine ∧ Vals vs its.toList
theorem FrzL.sqL {K : PySem.W.Frag} {H : Hp} {a : Addr} {vs : List V} (h : FrzL K H a vs) : SqL K H a vs := h.elim (fun ⟨o, e⟩ => .inl (.inr ⟨o, e⟩)) .inr
section
variable (K : PySem.W.Frag)
mutual
inductive Rp (H : Hp) (μ : Mu) : V → PV → Prop
  | non : Rp H μ .non .non
  | bl (b : Bool) : Rp H μ (.bl b) (.bl b)
  | int (i : Int) : Rp H μ (.int i) (.int i)
  | str (x : Str) : Rp H μ (.str x) (.str x)
  | tup {a : Addr} {vs : List V} {ps : List PV} : SqT K H a vs → RpL H μ vs ps → Rp H μ (.ref a) (.tup ps)
  | lst {a : Addr} {vs : List V} {ps : List PV} : ¬ μ.has a → H a = some (.lst vs) → RpL H μ vs ps → Rp H μ (.ref a) (.lst ps)
  | frz {a : Addr} {vs : List V} {ps : List PV} : FrzL K H a vs → RpL H μ vs ps → Rp H μ (.ref a) (.frz ps)
  | loc {a : Addr} {n : Nat} : μ.ls[n]? = some a → Rp H μ (.ref a) (.loc n)
  | dct {a : Addr} : ¬ μ.has a → H a = some (.dK []) → Rp H μ (.ref a) .dct
inductive RpL (H : Hp) (μ : Mu) : List V → List PV → Prop
  | nil : RpL H μ [] []
  | cons {v : V} {vs : List V} {p : PV} {ps : List PV} : Rp H μ v p → RpL H μ vs ps → RpL H μ (v :: vs) (p :: ps)
end
end

def Imm : HO → Prop
  | .tup _ => True
  | .frz _ _ => True
  | _ => False
structure GrowW (H : Hp) (μ : Mu) (H' : Hp) (μ' : Mu) : Prop where
  ext : ∃ ν, μ'.ls = μ.ls ++ ν ∧ ∀ p ∈ ν, H p = none
  hid : ∃ hs, μ'.hid = hs ++ μ.hid ∧ ∀ p ∈ hs, H p = none
  keep : ∀ a o, H a = some o → (¬ μ.has a ∨ Imm o) → H' a = some o
  there : ∀ a o, H a = some o → ∃ o', H' a = some o'
theorem GrowW.refl {H : Hp} {μ : Mu} : GrowW H μ H μ := ⟨⟨[], by simp, by simp⟩, ⟨[], by simp, by simp⟩, fun _ _ h _ => h, fun _ o h => ⟨o, h⟩⟩
theorem GrowW.notin {H H' : Hp} {μ μ' : Mu} (g : GrowW H μ H' μ') {a : Addr} {o : HO} (h : H a = some o) (n : ¬ μ.has a) : ¬ μ'.has a := fun hx => by
  obtain ⟨ν, e, f⟩ := g.ext
  obtain ⟨hs, e2, f2⟩ := g.hid
  rcases hx with hx | hx
  · rw [e] at hx
    rcases List.mem_append.mp hx with z | z
    · exact n (.inl z)
    · rw [f a z] at h; cases h
  · rw [e2] at hx
    rcases List.mem_append.mp hx with z | z
    · rw [f2 a z] at h; cases h
    · exact n (.inr z)
theorem GrowW.trans {H H1 H2 : Hp} {μ μ1 μ2 : Mu} (a : GrowW H μ H1 μ1) (b : GrowW H1 μ1 H2 μ2) : GrowW H μ H2 μ2 := by
  have nn := fun x o h q => a.notin (a := x) (o := o) h q
  obtain ⟨⟨n1, e1, f1⟩, ⟨d1, y1, z1⟩, k1, t1⟩ := a
  obtain ⟨⟨n2, e2, f2⟩, ⟨d2, y2, z2⟩, k2, t2⟩ := b
  have lift : ∀ x o, H x = some o → (¬ μ.has x ∨ Imm o) → ¬ μ1.has x ∨ Imm o := fun x o h q => q.elim (fun q => .inl (nn x o h q)) .inr
  have fr : ∀ p, H1 p = none → H p = none := fun p hp => by
    cases q : H p with
    | none => rfl
    | some o =>
      obtain ⟨o', h'⟩ := t1 p o q
      rw [hp] at h'; cases h'
  refine ⟨⟨n1 ++ n2, by rw [e2, e1, List.append_assoc], fun p hp => ?_⟩, ⟨d2 ++ d1, by rw [y2, y1, List.append_assoc], fun p hp => ?_⟩, fun x o h q => k2 x o (k1 x o h q) (lift x o h q), fun x o h => ?_⟩
  · exact (List.mem_append.mp hp).elim (f1 p) fun z => fr p (f2 p z)
  · exact (List.mem_append.mp hp).elim (fun z => fr p (z2 p z)) (z1 p)
  · obtain ⟨o', h'⟩ := t1 x o h
    exact t2 x o' h'
theorem GrowW.pre {H H' : Hp} {μ μ' : Mu} (g : GrowW H μ H' μ') {n : Nat} {a : Addr} (h : μ.ls[n]? = some a) : μ'.ls[n]? = some a := by
  obtain ⟨ν, e, _⟩ := g.ext
  rw [e, List.getElem?_append_left (List.getElem?_eq_some_iff.mp h).1]
  exact h
/-- the lists that are being made are forgotten -/
theorem GrowW.drop {H H' : Hp} {μ μ' : Mu} (g : GrowW H μ H' μ') : GrowW H μ H' ⟨μ'.ls, μ.hid⟩ := ⟨g.ext, ⟨[], by simp, by simp⟩, g.keep, g.there⟩
section
variable {K : PySem.W.Frag} {H H' : Hp} {μ μ' : Mu}
theorem GrowW.sqT (g : GrowW H μ H' μ') {a : Addr} {vs : List V} (h : SqT K H a vs) : SqT K H' a vs := by
  rcases h with (h | ⟨o, h⟩) | h
  · exact .inl (.inl (g.keep _ _ h (.inr trivial)))
  · exact .inl (.inr ⟨o, g.keep _ _ h (.inr trivial)⟩)
  · exact .inr h
theorem GrowW.frz (g : GrowW H μ H' μ') {a : Addr} {vs : List V} (h : FrzL K H a vs) : FrzL K H' a vs := h.elim (fun ⟨o, e⟩ => .inl ⟨o, g.keep _ _ e (.inr trivial)⟩) .inr
mutual
theorem Rp.growW' (g : GrowW H μ H' μ') : ∀ {v : V} {p : PV}, Rp K H μ v p → Rp K H' μ' v p
  | _, _, .non => .non
  | _, _, .bl b => .bl b
  | _, _, .int i => .int i
  | _, _, .str x => .str x
  | _, _, .tup h r => .tup (g.sqT h) (RpL.growW' g r)
  | _, _, .lst n h r => .lst (g.notin h n) (g.keep _ _ h (.inl n)) (RpL.growW' g r)
  | _, _, .frz h r => .frz (g.frz h) (RpL.growW' g r)
  | _, _, .loc h => .loc (g.pre h)
  | _, _, .dct n h => .dct (g.notin h n) (g.keep _ _ h (.inl n))
theorem RpL.growW' (g : GrowW H μ H' μ') : ∀ {vs : List V} {ps : List PV}, RpL K H μ vs ps → RpL K H' μ' vs ps
  | _, _, .nil => .nil
  | _, _, .cons h r => .cons (Rp.growW' g h) (RpL.growW' g r)
end
theorem Rp.growW {v : V} {p : PV} (h : Rp K H μ v p) (g : GrowW H μ H' μ') : Rp K H' μ' v p := Rp.growW' g h
theorem RpL.growW {v : List V} {p : List PV} (h : RpL K H μ v p) (g : GrowW H μ H' μ') : RpL K H' μ' v p := RpL.growW' g h
theorem RpL.length : ∀ {vs : List V} {ps : List PV}, RpL K H μ vs ps → vs.length = ps.length
  | _, _, .nil => rfl
  | _, _, .cons _ r => by simp [RpL.length r]
theorem RpL.get : ∀ {vs : List V} {ps : List PV} {i : Nat} {p : PV}, RpL K H μ vs ps → ps[i]? = some p → ∃ v, vs[i]? = some v ∧ Rp K H μ v p
  | _, _, _, _, .nil, e => by simp at e
  | _, _, 0, _, .cons r _, e => by simp at e; subst e; exact ⟨_, rfl, r⟩
  | _, _, i + 1, p, .cons _ t, e => by
    obtain ⟨u, h1, h2⟩ := RpL.get (i := i) (p := p) t (by simpa using e)
    exact ⟨u, by simpa using h1, h2⟩
theorem RpL.append : ∀ {vs ws : List V} {ps qs : List PV}, RpL K H μ vs ps → RpL K H μ ws qs → RpL K H μ (vs ++ ws) (ps ++ qs)
  | _, _, _, _, .nil, s => s
  | _, _, _, _, .cons r t, s => .cons r (RpL.append t s)
theorem RpL.take : ∀ {vs : List V} {ps : List PV} (n : Nat), RpL K H μ vs ps → RpL K H μ (vs.take n) (ps.take n)
  | _, _, 0, _ => .nil
  | _, _, _ + 1, .nil => .nil
  | _, _, n + 1, .cons r t => .cons r (RpL.take n t)
theorem RpL.drop : ∀ {vs : List V} {ps : List PV} (n : Nat), RpL K H μ vs ps → RpL K H μ (vs.drop n) (ps.drop n)
  | _, _, 0, r => r
  | _, _, _ + 1, .nil => .nil
  | _, _, n + 1, .cons _ t => RpL.drop n t
theorem RpL.set {v : V} {p : PV} (r : Rp K H μ v p) : ∀ {vs : List V} {ps : List PV} (i : Nat), RpL K H μ vs ps → RpL K H μ (vs.set i v) (ps.set i p)
  | _, _, _, .nil => .nil
  | _, _, 0, .cons _ t => .cons r t
  | _, _, i + 1, .cons q t => .cons q (RpL.set r i t)
theorem RpL.reverse {vs : List V} {ps : List PV} (h : RpL K H μ vs ps) : RpL K H μ vs.reverse ps.reverse := by
  induction h using RpL.rec (motive_1 := fun _ _ _ => True) with
  | nil => exact .nil
  | cons r t _ ih => simp only [List.reverse_cons]; exact RpL.append ih (.cons r .nil)
  | _ => trivial
end

/-! ## the store's relation -/
def EntOk (K : PySem.W.Frag) (H : Hp) (μ : Mu) (a : Addr) : Ent → Prop
  | .lst ps => ∃ vs, H a = some (.lst vs) ∧ RpL K H μ vs ps
structure RelS (K : PySem.W.Frag) (H : Hp) (μ : Mu) (S : Sto) : Prop where
  len : μ.ls.length = S.length
  nd : μ.ls.Nodup
  hids : ∀ a ∈ μ.hid, a ∉ μ.ls ∧ ∃ vs, H a = some (.lst vs)
  at_ : ∀ (n : Nat) (e : Ent) (a : Addr), S[n]? = some e → μ.ls[n]? = some a → EntOk K H μ a e
def RelE (K : PySem.W.Frag) (H : Hp) (μ : Mu) (σ : St) (ρ : Rho) : Prop :=
  σ.length = ρ.length ∧ ∀ (i : Nat) (p : PV), ρ[i]? = some (some p) → ∃ v, σ[i]? = some (some v) ∧ Rp K H μ v p
/-- .. the lists that are being made stay as they are -/
structure Grow (H : Hp) (μ : Mu) (H' : Hp) (μ' : Mu) : Prop where
  w : GrowW H μ H' μ'
  stay : ∀ a ∈ μ.hid, H' a = H a
theorem Grow.refl {H : Hp} {μ : Mu} : Grow H μ H μ := ⟨.refl, fun _ _ => rfl⟩
theorem Grow.trans {H H1 H2 : Hp} {μ μ1 μ2 : Mu} (a : Grow H μ H1 μ1) (b : Grow H1 μ1 H2 μ2) : Grow H μ H2 μ2 := by
  refine ⟨a.w.trans b.w, fun x hx => ?_⟩
  obtain ⟨hs, e, _⟩ := a.w.hid
  rw [b.stay x (by rw [e]; exact List.mem_append_right _ hx), a.stay x hx]
theorem Grow.pre {H H' : Hp} {μ μ' : Mu} (g : Grow H μ H' μ') {n : Nat} {a : Addr} (h : μ.ls[n]? = some a) : μ'.ls[n]? = some a := g.w.pre h
theorem Grow.keep {H H' : Hp} {μ μ' : Mu} (g : Grow H μ H' μ') (a : Addr) (o : HO) (h : H a = some o) (q : ¬ μ.has a ∨ Imm o) : H' a = some o := g.w.keep a o h q
theorem Grow.sqT {K : PySem.W.Frag} {H H' : Hp} {μ μ' : Mu} (g : Grow H μ H' μ') {a : Addr} {vs : List V} (h : SqT K H a vs) : SqT K H' a vs := g.w.sqT h
theorem Rp.grow {K : PySem.W.Frag} {H H' : Hp} {μ μ' : Mu} {v : V} {p : PV} (h : Rp K H μ v p) (g : Grow H μ H' μ') : Rp K H' μ' v p := h.growW g.w
theorem RpL.grow {K : PySem.W.Frag} {H H' : Hp} {μ μ' : Mu} {v : List V} {p : List PV} (h : RpL K H μ v p) (g : Grow H μ H' μ') : RpL K H' μ' v p := h.growW g.w
section
variable {K : PySem.W.Frag} {H H' : Hp} {μ μ' : Mu} {S : Sto} {σ : St} {ρ : Rho}
theorem RelE.growW (h : RelE K H μ σ ρ) (g : GrowW H μ H' μ') : RelE K H' μ' σ ρ :=
  ⟨h.1, fun i p e => let ⟨v, e1, r⟩ := h.2 i p e; ⟨v, e1, r.growW g⟩⟩
theorem RelE.grow (h : RelE K H μ σ ρ) (g : Grow H μ H' μ') : RelE K H' μ' σ ρ := h.growW g.w
theorem RelE.set (h : RelE K H μ σ ρ) {v : V} {p : PV} (r : Rp K H μ v p) (i : Nat) : RelE K H μ (σ.set i (some v)) (ρ.set i (some p)) := by
  refine ⟨by simp [h.1], fun j q e => ?_⟩
  by_cases hj : i = j
  · subst hj
    rw [List.getElem?_set] at e ⊢
    rw [if_pos rfl] at e ⊢
    split at e
    · rename_i hl
      have e' : p = q := by simpa using e
      subst e'
      exact ⟨v, by simp [h.1, hl], r⟩
    · cases e
  · rw [List.getElem?_set_ne hj] at e ⊢
    exact h.2 j q e
theorem RelE.unset (h : RelE K H μ σ ρ) (i : Nat) : RelE K H μ (σ.set i none) (ρ.set i none) := by
  refine ⟨by simp [h.1], fun j q e => ?_⟩
  by_cases hj : i = j
  · subst hj
    rw [List.getElem?_set, if_pos rfl] at e
    split at e <;> cases e
  · rw [List.getElem?_set_ne hj] at e ⊢
    exact h.2 j q e
theorem EntOk.grow {a : Addr} {e : Ent} (h : EntOk K H μ a e) (g : GrowW H μ H' μ') (e1 : H' a = H a) : EntOk K H' μ' a e := by
  cases e with
  | lst ps =>
    obtain ⟨vs, h1, r⟩ := h
    exact ⟨vs, by rw [e1]; exact h1, r.growW g⟩
/-- nothing of the store's own changed -/
theorem RelS.same (h : RelS K H μ S) (g : GrowW H μ H' μ) (k : ∀ a, μ.has a → H' a = H a) : RelS K H' μ S :=
  ⟨h.len, h.nd, fun a ha => ⟨(h.hids a ha).1, by rw [k a (.inr ha)]; exact (h.hids a ha).2⟩, fun n e a e1 e2 => (h.at_ n e a e1 e2).grow g (k a (.inl (List.mem_of_getElem? e2)))⟩
/-- what stands at the store's own places -/
theorem RelS.has (h : RelS K H μ S) {a : Addr} (ha : μ.has a) : ∃ vs, H a = some (.lst vs) := by
  rcases ha with ha | ha
  · obtain ⟨n, hn, e⟩ := List.getElem_of_mem ha
    have e2 : μ.ls[n]? = some a := by rw [List.getElem?_eq_getElem hn, e]
    have hs : n < S.length := by rw [← h.len]; exact hn
    have := h.at_ n S[n] a (List.getElem?_eq_getElem hs) e2
    cases q : S[n] with
    | lst ps => rw [q] at this; obtain ⟨vs, h1, _⟩ := this; exact ⟨vs, h1⟩
  · exact (h.hids a ha).2
theorem RelS.fresh (h : RelS K H μ S) {p : Addr} (hp : H p = none) : ¬ μ.has p := fun hm => by
  obtain ⟨vs, e⟩ := h.has hm
  rw [hp] at e; cases e
/-- a new object that is not of the store -/
theorem growW_new {p : Addr} {o : HO} (hp : H p = none) : GrowW H μ (upd H p o) μ :=
  ⟨⟨[], by simp, by simp⟩, ⟨[], by simp, by simp⟩, fun a u h _ => by rw [upd_ne (ne_of_none h hp)]; exact h, fun a u h => ⟨u, by rw [upd_ne (ne_of_none h hp)]; exact h⟩⟩
theorem RelS.new (h : RelS K H μ S) {p : Addr} {o : HO} (hp : H p = none) : RelS K (upd H p o) μ S :=
  h.same (growW_new hp) fun a ha => by
    obtain ⟨vs, e⟩ := h.has ha
    rw [upd_ne (ne_of_none e hp)]
theorem RelS.st (h : RelS K H μ S) {p : Addr} {o : HO} (hp : H p = none) : ∀ a ∈ μ.hid, (upd H p o) a = H a := fun a ha => by
  obtain ⟨_, vs, e⟩ := h.hids a ha
  rw [upd_ne (ne_of_none e hp)]
theorem grow_new (h : RelS K H μ S) {p : Addr} {o : HO} (hp : H p = none) : Grow H μ (upd H p o) μ := ⟨growW_new hp, h.st hp⟩
/-- a new list of the store -/
theorem growW_loc {p : Addr} {o : HO} (hp : H p = none) : GrowW H μ (upd H p o) (μ.push p) :=
  ⟨⟨[p], rfl, fun q hq => by have e : q = p := by simpa using hq
                             subst e; exact hp⟩, ⟨[], by simp, by simp⟩, fun a u h _ => by rw [upd_ne (ne_of_none h hp)]; exact h, fun a u h => ⟨u, by rw [upd_ne (ne_of_none h hp)]; exact h⟩⟩
theorem grow_loc (h : RelS K H μ S) {p : Addr} {o : HO} (hp : H p = none) : Grow H μ (upd H p o) (μ.push p) := ⟨growW_loc hp, h.st hp⟩
theorem RelS.newLoc (h : RelS K H μ S) {p : Addr} {vs : List V} {ps : List PV} (hp : H p = none) (r : RpL K H μ vs ps) : RelS K (upd H p (.lst vs)) (μ.push p) (S ++ [.lst ps]) := by
  have g : GrowW H μ (upd H p (.lst vs)) (μ.push p) := growW_loc hp
  have st : ∀ a, μ.has a → (upd H p (.lst vs)) a = H a := fun a ha => by
    obtain ⟨ws, q⟩ := h.has ha
    rw [upd_ne (ne_of_none q hp)]
  refine ⟨by simp [h.len], ?_, fun a ha => ?_, fun n e a e1 e2 => ?_⟩
  · rw [List.nodup_append]
    refine ⟨h.nd, by simp, fun a ha b hb => ?_⟩
    have e : b = p := by simpa using hb
    subst e
    intro z
    subst z
    exact h.fresh hp (.inl ha)
  · refine ⟨fun hm => ?_, by rw [st a (.inr ha)]; exact (h.hids a ha).2⟩
    rcases List.mem_append.mp hm with z | z
    · exact (h.hids a ha).1 z
    · have e : a = p := by simpa using z
      subst e
      exact h.fresh hp (.inr ha)
  · by_cases hn : n < S.length
    · rw [List.getElem?_append_left hn] at e1
      rw [List.getElem?_append_left (by rw [h.len]; exact hn)] at e2
      exact (h.at_ n e a e1 e2).grow g (st a (.inl (List.mem_of_getElem? e2)))
    · rw [List.getElem?_append_right (by omega)] at e1
      rw [List.getElem?_append_right (by rw [h.len]; omega), h.len] at e2
      have hz : n - S.length = 0 := by
        cases q : n - S.length with
        | zero => rfl
        | succ k => rw [q] at e1; simp at e1
      rw [hz] at e1 e2
      have e1' : Ent.lst ps = e := by simpa using e1
      have e2' : p = a := by simpa using e2
      subst e1' e2'
      exact ⟨vs, upd_same, r.growW g⟩
/-- a list of the store is written -/
theorem growW_put {n : Nat} {a : Addr} {o : HO} (h : RelS K H μ S) (e : μ.ls[n]? = some a) : GrowW H μ (upd H a o) μ := by
  have ha : a ∈ μ.ls := List.mem_of_getElem? e
  obtain ⟨ws, hw⟩ := h.has (.inl ha)
  refine ⟨⟨[], by simp, by simp⟩, ⟨[], by simp, by simp⟩, fun b u hb q => ?_, fun b u hb => ?_⟩
  · have ne : b ≠ a := fun z => by
      subst z
      rcases q with q | q
      · exact q (.inl ha)
      · rw [hw] at hb; cases hb; exact q
    rw [upd_ne ne]; exact hb
  · by_cases z : b = a
    · subst z; exact ⟨o, upd_same⟩
    · exact ⟨u, by rw [upd_ne z]; exact hb⟩
theorem grow_put {n : Nat} {a : Addr} {o : HO} (h : RelS K H μ S) (e : μ.ls[n]? = some a) : Grow H μ (upd H a o) μ := ⟨growW_put h e, fun b hb => by
  rw [upd_ne]
  intro z
  subst z
  exact (h.hids b hb).1 (List.mem_of_getElem? e)⟩
theorem RelS.put (h : RelS K H μ S) {n : Nat} {a : Addr} {vs : List V} {ps : List PV} (e : μ.ls[n]? = some a) (r : RpL K H μ vs ps) : RelS K (upd H a (.lst vs)) μ (S.set n (.lst ps)) := by
  have g : GrowW H μ (upd H a (.lst vs)) μ := growW_put h e
  refine ⟨by simp [h.len], h.nd, fun b hb => ?_, fun m u b e1 e2 => ?_⟩
  · have hh := h.hids b hb
    have ne : b ≠ a := fun z => by subst z; exact hh.1 (List.mem_of_getElem? e)
    exact ⟨hh.1, by rw [upd_ne ne]; exact hh.2⟩
  by_cases hm : n = m
  · subst hm
    rw [e] at e2
    have e2' : a = b := by simpa using e2
    subst e2'
    rw [List.getElem?_set, if_pos rfl] at e1
    split at e1
    · have e1' : Ent.lst ps = u := by simpa using e1
      subst e1'
      exact ⟨vs, upd_same, r.growW g⟩
    · cases e1
  · rw [List.getElem?_set_ne hm] at e1
    have nb : b ≠ a := fun z => by
      subst z
      exact hm (by
        obtain ⟨h1, q1⟩ := List.getElem?_eq_some_iff.mp e
        obtain ⟨h2, q2⟩ := List.getElem?_eq_some_iff.mp e2
        exact (List.getElem_inj h.nd).mp (q1.trans q2.symm))
    exact (h.at_ m u b e1 e2).grow g (upd_ne nb)
/-! ### a list that is being made -/
section
variable {D : Addr} {o : HO}
theorem grow_enter (hD : H D = none) : GrowW H μ (upd H D o) (μ.hide D) :=
  ⟨⟨[], by simp, by simp⟩, ⟨[D], rfl, fun p hp => (List.mem_singleton.mp hp) ▸ hD⟩, fun a u h _ => by rw [upd_ne (ne_of_none h hD)]; exact h, fun a u h => ⟨u, by rw [upd_ne (ne_of_none h hD)]; exact h⟩⟩
mutual
theorem Rp.show_ (e1 : μ'.ls = μ.ls) (e2 : ∀ a ∈ μ'.hid, a ∈ μ.hid) : ∀ {v : V} {p : PV}, Rp K H μ v p → Rp K H μ' v p
  | _, _, .non => .non
  | _, _, .bl b => .bl b
  | _, _, .int i => .int i
  | _, _, .str x => .str x
  | _, _, .tup h r => .tup h (RpL.show_ e1 e2 r)
  | _, _, .lst n h r => .lst (fun z => n (z.elim (fun q => .inl (e1 ▸ q)) fun q => .inr (e2 _ q))) h (RpL.show_ e1 e2 r)
  | _, _, .frz h r => .frz h (RpL.show_ e1 e2 r)
  | _, _, .loc h => .loc (by rw [e1]; exact h)
  | _, _, .dct n h => .dct (fun z => n (z.elim (fun q => .inl (e1 ▸ q)) fun q => .inr (e2 _ q))) h
theorem RpL.show_ (e1 : μ'.ls = μ.ls) (e2 : ∀ a ∈ μ'.hid, a ∈ μ.hid) : ∀ {vs : List V} {ps : List PV}, RpL K H μ vs ps → RpL K H μ' vs ps
  | _, _, .nil => .nil
  | _, _, .cons h r => .cons (Rp.show_ e1 e2 h) (RpL.show_ e1 e2 r)
end
theorem RelS.hide (hD : H D = none) (h : RelS K H μ S) : RelS K (upd H D (.lst [])) (μ.hide D) S := by
  have g : GrowW H μ (upd H D (.lst [])) (μ.hide D) := grow_enter hD
  refine ⟨h.len, h.nd, fun a ha => ?_, fun n e a e1 e2 => ?_⟩
  · rcases List.mem_cons.mp ha with z | z
    · subst z; exact ⟨fun hm => h.fresh hD (.inl hm), [], upd_same⟩
    · obtain ⟨q1, vs, q2⟩ := h.hids a z
      exact ⟨q1, vs, by rw [upd_ne (ne_of_none q2 hD)]; exact q2⟩
  · obtain ⟨vs, q⟩ := h.has (.inl (List.mem_of_getElem? e2))
    exact (h.at_ n e a e1 e2).grow g (by rw [upd_ne (ne_of_none q hD)])
theorem RelS.show_ (h : RelS K H μ S) (e1 : μ'.ls = μ.ls) (e2 : ∀ a ∈ μ'.hid, a ∈ μ.hid) : RelS K H μ' S := by
  refine ⟨by rw [e1]; exact h.len, by rw [e1]; exact h.nd, fun a ha => by rw [e1]; exact h.hids a (e2 a ha), fun n e a q1 q2 => ?_⟩
  have := h.at_ n e a q1 (by rw [← e1]; exact q2)
  cases e with
  | lst ps =>
    obtain ⟨vs, h1, r⟩ := this
    exact ⟨vs, h1, r.show_ e1 e2⟩
/-- the list that is being made is written -/
theorem grow_hid (hm : D ∈ μ.hid) (h : RelS K H μ S) : GrowW H μ (upd H D o) μ := by
  obtain ⟨_, vs, hv⟩ := h.hids D hm
  refine ⟨⟨[], by simp, by simp⟩, ⟨[], by simp, by simp⟩, fun b u hb q => ?_, fun b u hb => ?_⟩
  · have ne : b ≠ D := fun z => by
      subst z
      rcases q with q | q
      · exact q (.inr hm)
      · rw [hv] at hb; cases hb; exact q
    rw [upd_ne ne]; exact hb
  · by_cases z : b = D
    · subst z; exact ⟨o, upd_same⟩
    · exact ⟨u, by rw [upd_ne z]; exact hb⟩
theorem RelS.putHid (hm : D ∈ μ.hid) (h : RelS K H μ S) {ws : List V} : RelS K (upd H D (.lst ws)) μ S := by
  have g : GrowW H μ (upd H D (.lst ws)) μ := grow_hid hm h
  refine ⟨h.len, h.nd, fun a ha => ⟨(h.hids a ha).1, ?_⟩, fun n e a e1 e2 => ?_⟩
  · by_cases z : a = D
    · subst z; exact ⟨ws, upd_same⟩
    · rw [upd_ne z]; exact (h.hids a ha).2
  · have ne : a ≠ D := fun z => by
      subst z
      exact (h.hids a hm).1 (List.mem_of_getElem? e2)
    exact (h.at_ n e a e1 e2).grow g (upd_ne ne)
end
end

/-! ## what is wanted behind an outcome -/
def XOk (K : PySem.W.Frag) (H : Hp) (μ : Mu) : Option Addr → Option (Str × PV) → Prop
  | none, none => True
  | some d, some (f, p) => ∃ v, H d = some (.xd [(f, v)]) ∧ Rp K H μ v p
  | _, _ => False
def Post (K : PySem.W.Frag) (mg : Str → Option Value) (E : XK) (H : Hp) (μ : Mu) {α : Type} (o : Out α) (k : α → Sto → Hp → Mu → Prop) : Prop :=
  match o with
  | .ok a S' => ∀ H' μ', Grow H μ H' μ' → RelS K H' μ' S' → k a S' H' μ'
  | .exn c x S' => ∀ C od H' μ', mg c = some (.ref C) → Grow H μ H' μ' → RelS K H' μ' S' → XOk K H' μ' od x → E (.ref C) od H'
  | .stuck => False
section
variable {K : PySem.W.Frag} {mg : Str → Option Value} {E : XK} {H H' : Hp} {μ μ' : Mu} {S : Sto} {α β : Type}
theorem Post.grow {o : Out α} {k : α → Sto → Hp → Mu → Prop} (g : Grow H μ H' μ') (h : Post K mg E H μ o k) : Post K mg E H' μ' o k := by
  cases o with
  | ok a S1 => exact fun H2 μ2 g2 r2 => h H2 μ2 (g.trans g2) r2
  | exn c x S1 => exact fun C od H2 μ2 hm g2 r2 q => h C od H2 μ2 hm (g.trans g2) r2 q
  | stuck => exact h
theorem Post.mono {o : Out α} {k k' : α → Sto → Hp → Mu → Prop} (h : Post K mg E H μ o k) (q : ∀ a S1 H1 μ1, Grow H μ H1 μ1 → RelS K H1 μ1 S1 → k a S1 H1 μ1 → k' a S1 H1 μ1) : Post K mg E H μ o k' := by
  cases o with
  | ok a S1 => exact fun H2 μ2 g2 r2 => q _ _ _ _ g2 r2 (h H2 μ2 g2 r2)
  | exn c x S1 => exact h
  | stuck => exact h
theorem Post.bnd {m : M α} {f : α → M β} {k : β → Sto → Hp → Mu → Prop} (h : Post K mg E H μ (bnd m f S) k) : Post K mg E H μ (m S) (fun a S1 H1 μ1 => Post K mg E H1 μ1 (f a S1) k) := by
  unfold Pm.bnd at h
  cases q : m S with
  | ok a S1 => rw [q] at h; exact fun H1 μ1 g1 _ => h.grow g1
  | exn c x S1 => rw [q] at h; exact h
  | stuck => rw [q] at h; exact h
end

/-! ## readings -/
section
variable (K : PySem.W.Frag) (mg : Str → Option Value) (E : XK)
def kE (Q : VK) : PV → Sto → Hp → Mu → Prop := fun p _ H' μ' => ∀ v, Rp K H' μ' v p → Q v H'
def kT (Q : Bool → Hp → Prop) : Bool → Sto → Hp → Mu → Prop := fun b _ H' _ => Q b H'
def kA (Q : List V → Hp → Prop) : List PV → Sto → Hp → Mu → Prop := fun ps _ H' μ' => ∀ vs, RpL K H' μ' vs ps → Q vs H'
def tE (m : ED) : TE := fun σ H Q => ∃ ρ S μ, RelE K H μ σ ρ ∧ RelS K H μ S ∧ Post K mg E H μ (m ρ S) (kE K Q)
def tT (m : BD) : TT := fun σ H Q => ∃ ρ S μ, RelE K H μ σ ρ ∧ RelS K H μ S ∧ Post K mg E H μ (m ρ S) (kT Q)
def tA (m : AD) : TA := fun σ H Q => ∃ ρ S μ, RelE K H μ σ ρ ∧ RelS K H μ S ∧ Post K mg E H μ (m ρ S) (kA K Q)
end
section
variable {K : PySem.W.Frag} {mg : Str → Option Value} {E : XK} {H : Hp} {μ : Mu} {S : Sto} {σ : St} {ρ : Rho} {β : Type}
theorem stepE {m : ED} {f : PV → M β} {k : β → Sto → Hp → Mu → Prop} {Q : VK} (re : RelE K H μ σ ρ) (rs : RelS K H μ S) (h : Post K mg E H μ (bnd (m ρ) f S) k)
    (hq : ∀ v p S1 H1 μ1, RelE K H1 μ1 σ ρ → RelS K H1 μ1 S1 → Rp K H1 μ1 v p → Grow H μ H1 μ1 → Post K mg E H1 μ1 (f p S1) k → Q v H1) : tE K mg E m σ H Q :=
  ⟨ρ, S, μ, re, rs, h.bnd.mono fun p S1 H1 μ1 g r q v rv => hq v p S1 H1 μ1 (re.grow g) r rv g q⟩
theorem stepT {m : BD} {f : Bool → M β} {k : β → Sto → Hp → Mu → Prop} {Q : Bool → Hp → Prop} (re : RelE K H μ σ ρ) (rs : RelS K H μ S) (h : Post K mg E H μ (bnd (m ρ) f S) k)
    (hq : ∀ b S1 H1 μ1, RelE K H1 μ1 σ ρ → RelS K H1 μ1 S1 → Grow H μ H1 μ1 → Post K mg E H1 μ1 (f b S1) k → Q b H1) : tT K mg E m σ H Q :=
  ⟨ρ, S, μ, re, rs, h.bnd.mono fun b S1 H1 μ1 g r q => hq b S1 H1 μ1 (re.grow g) r g q⟩
theorem stepA {m : AD} {f : List PV → M β} {k : β → Sto → Hp → Mu → Prop} {Q : List V → Hp → Prop} (re : RelE K H μ σ ρ) (rs : RelS K H μ S) (h : Post K mg E H μ (bnd (m ρ) f S) k)
    (hq : ∀ vs ps S1 H1 μ1, RelE K H1 μ1 σ ρ → RelS K H1 μ1 S1 → RpL K H1 μ1 vs ps → Grow H μ H1 μ1 → Post K mg E H1 μ1 (f ps S1) k → Q vs H1) : tA K mg E m σ H Q :=
  ⟨ρ, S, μ, re, rs, h.bnd.mono fun p S1 H1 μ1 g r q v rv => hq v p S1 H1 μ1 (re.grow g) r rv g q⟩
theorem lastE {m : ED} {Q : VK} (re : RelE K H μ σ ρ) (rs : RelS K H μ S) (h : Post K mg E H μ (m ρ S) (kE K Q)) : tE K mg E m σ H Q := ⟨ρ, S, μ, re, rs, h⟩
theorem lastT {m : BD} {Q : Bool → Hp → Prop} (re : RelE K H μ σ ρ) (rs : RelS K H μ S) (h : Post K mg E H μ (m ρ S) (kT Q)) : tT K mg E m σ H Q := ⟨ρ, S, μ, re, rs, h⟩
/-- the answer of an outcome that is there at once -/
theorem Post.now {α : Type} {a : α} {k : α → Sto → Hp → Mu → Prop} (rs : RelS K H μ S) (h : Post K mg E H μ (.ok a S) k) : k a S H μ := h H μ .refl rs
end

/-! ## weakening -/
section
variable {X : Cx}
theorem PE.imp {e : Expr} {t t' : TE} (h : PE X e t) (q : ∀ σ H Q, t' σ H Q → t σ H Q) : PE X e t' := ⟨fun pins s σ H Q I w => h.run pins s σ H Q I (q σ H Q w)⟩
theorem PT.imp {e : Expr} {t t' : TT} (h : PT X e t) (q : ∀ σ H Q, t' σ H Q → t σ H Q) : PT X e t' := ⟨fun pins s σ H Q I w => h.run pins s σ H Q I (q σ H Q w)⟩
theorem PW.imp {e : Expr} {t t' : TT} (h : PW X e t) (q : ∀ σ H Q, t' σ H Q → t σ H Q) : PW X e t' := ⟨fun wh pins s σ H Q I w => h.run wh pins s σ H Q I (q σ H Q w)⟩
theorem PA.imp {es : List Expr} {t t' : TA} (h : PA X es t) (q : ∀ σ H Q, t' σ H Q → t σ H Q) : PA X es t' := ⟨fun pos pins s σ H Q I w => h.run pos pins s σ H Q I (q σ H Q w)⟩
theorem PS.imp {st : Stmt} {t t' : TS} (h : PS X st t) (q : ∀ D σ H, t' D σ H → t D σ H) : PS X st t' := ⟨fun pins s σ H D I w => h.run pins s σ H D I (q D σ H w)⟩
theorem PSs.imp {st : List Stmt} {t t' : TS} (h : PSs X st t) (q : ∀ D σ H, t' D σ H → t D σ H) : PSs X st t' := ⟨fun pins s σ H D I w => h.run pins s σ H D I (q D σ H w)⟩
end
end Pm

namespace Pm
open PySem PySem.Spec L2

def LIM : Nat := 100000
theorem lim_le {n : Nat} (h : n ≤ LIM) : n ≤ sizeLine := by
  rw [sizeLine_eq]; unfold LIM at h; omega
theorem lim_lt {n : Nat} (h : n < LIM) : n < sizeLine := by
  rw [sizeLine_eq]; unfold LIM at h; omega

/-! ## combinators of expressions -/
def dVar (i : Nat) : ED := fun ρ S => match ρ[i]? with
  | some (some p) => .ok p S
  | _ => .stuck
def dC (p : PV) : ED := fun _ S => .ok p S
def dNil : AD := fun _ S => .ok [] S
def dCons (m : ED) (as : AD) : AD := fun ρ => bnd (m ρ) fun p => bnd (as ρ) fun ps => ret (p :: ps)
def mkTup (ps : List PV) : M PV := fun S => if ps.length ≤ LIM then .ok (.tup ps) S else .stuck
def mkLst (ps : List PV) : M PV := fun S => if ps.length ≤ LIM then .ok (.lst ps) S else .stuck
/-- a list that will be written: a place of the store -/
def mkLoc (ps : List PV) : M PV := fun S => if ps.length ≤ LIM then .ok (.loc S.length) (S ++ [.lst ps]) else .stuck
def dAp (f : List PV → M PV) (as : AD) : ED := fun ρ => bnd (as ρ) f
def dOp (g : PV → PV → M PV) (m n : ED) : ED := fun ρ => bnd (m ρ) fun x => bnd (n ρ) fun y => g x y
def dUn (g : PV → M PV) (m : ED) : ED := fun ρ => bnd (m ρ) g
def dIf (c : BD) (m n : ED) : ED := fun ρ => bnd (c ρ) fun b => if b = true then m ρ else n ρ
def asB : PV → M Bool
  | .bl b => ret b
  | _ => stk
/-- truth by value -/
def truM : PV → M Bool
  | .non => ret false
  | .bl b => ret b
  | .int i => ret (i != 0)
  | .str x => fun S => if x.length ≤ LIM then .ok ((x.length : Int) != 0) S else .stuck
  | .tup xs => ret (!xs.isEmpty)
  | .lst xs => ret (!xs.isEmpty)
  | .frz xs => ret (!xs.isEmpty)
  | .loc n => fun S => match S[n]? with
    | some (.lst xs) => .ok (!xs.isEmpty) S
    | _ => .stuck
  | .dct => stk
def bTru (m : ED) : BD := fun ρ => bnd (m ρ) truM
def bCmp (m : ED) : BD := fun ρ => bnd (m ρ) asB
def bNot (c : BD) : BD := fun ρ => bnd (c ρ) fun b => ret (!b)
def bAnd (c d : BD) : BD := fun ρ => bnd (c ρ) fun b => if b = true then d ρ else ret false
def bOr (c d : BD) : BD := fun ρ => bnd (c ρ) fun b => if b = true then ret true else d ρ
def dAnd (m n : ED) : ED := fun ρ => bnd (m ρ) fun x => bnd (truM x) fun b => if b = true then n ρ else ret x
def dOr (m n : ED) : ED := fun ρ => bnd (m ρ) fun x => bnd (truM x) fun b => if b = true then ret x else n ρ
def dNot (m : ED) : ED := fun ρ => bnd (m ρ) fun x => bnd (truM x) fun b => ret (.bl (!b))
def dChain (g h : PV → PV → M PV) (a b c : ED) : ED := fun ρ => bnd (a ρ) fun x => bnd (b ρ) fun y => bnd (g x y) fun z => bnd (asB z) fun k => if k = true then bnd (c ρ) fun w => h y w else ret (.bl false)

/-! ## lists that are read -/
def asL : PV → Sto → Option (List PV)
  | .lst xs, _ => some xs
  | .frz xs, _ => some xs
  | .loc n, S => match S[n]? with
    | some (.lst xs) => some xs
    | _ => none
  | _, _ => none
def asM : PV → Sto → Option (List PV)
  | .lst xs, _ => some xs
  | .loc n, S => match S[n]? with
    | some (.lst xs) => some xs
    | _ => none
  | _, _ => none
section
variable {K : PySem.W.Frag} {H : Hp} {μ : Mu} {S : Sto} {v : V} {p : PV} {ps : List PV}
theorem asM_ok (e : asM p S = some ps) (rs : RelS K H μ S) (r : Rp K H μ v p) : ∃ a vs, v = .ref a ∧ H a = some (.lst vs) ∧ RpL K H μ vs ps := by
  cases r with
  | lst n h r => simp only [asM, Option.some.injEq] at e; subst e; exact ⟨_, _, rfl, h, r⟩
  | @loc a n h =>
    simp only [asM] at e
    split at e
    · rename_i xs q
      cases e
      obtain ⟨vs, h1, r1⟩ := rs.at_ n _ a q h
      exact ⟨a, vs, rfl, h1, r1⟩
    · cases e
  | _ => simp [asM] at e
theorem asL_ok (e : asL p S = some ps) (rs : RelS K H μ S) (r : Rp K H μ v p) : ∃ a vs, v = .ref a ∧ SqL K H a vs ∧ RpL K H μ vs ps := by
  cases r with
  | lst n h r => simp only [asL, Option.some.injEq] at e; subst e; exact ⟨_, _, rfl, SqL.of h, r⟩
  | frz h r => simp only [asL, Option.some.injEq] at e; subst e; exact ⟨_, _, rfl, h.sqL, r⟩
  | @loc a n h =>
    simp only [asL] at e
    split at e
    · rename_i xs q
      cases e
      obtain ⟨vs, h1, r1⟩ := rs.at_ n _ a q h
      exact ⟨a, vs, rfl, SqL.of h1, r1⟩
    · cases e
  | _ => simp [asL] at e
end

/-! ## new objects -/
section
variable {K : PySem.W.Frag} {mg : Str → Option Value} {E : XK} {H : Hp} {μ : Mu} {S : Sto} {vs : List V} {ps : List PV} {Q : VK}
theorem new_tup (rs : RelS K H μ S) (r : RpL K H μ vs ps) (h : Post K mg E H μ (.ok (.tup ps) S) (kE K Q)) (p : Addr) (hp : H p = none) : Q (.ref p) (upd H p (.tup vs)) :=
  h _ _ (grow_new rs hp) (rs.new hp) _ (.tup (SqT.of upd_same) (r.grow (grow_new rs hp)))
theorem new_lst (rs : RelS K H μ S) (r : RpL K H μ vs ps) (h : Post K mg E H μ (.ok (.lst ps) S) (kE K Q)) (p : Addr) (hp : H p = none) : Q (.ref p) (upd H p (.lst vs)) :=
  h _ _ (grow_new rs hp) (rs.new hp) _ (.lst (rs.fresh hp) upd_same (r.grow (grow_new rs hp)))
theorem new_loc (rs : RelS K H μ S) (r : RpL K H μ vs ps) (h : Post K mg E H μ (.ok (.loc S.length) (S ++ [.lst ps])) (kE K Q)) (p : Addr) (hp : H p = none) : Q (.ref p) (upd H p (.lst vs)) :=
  h _ _ (grow_loc rs hp) (rs.newLoc hp r) _ (.loc (by rw [← rs.len]; simp))
theorem new_dct (rs : RelS K H μ S) (h : Post K mg E H μ (.ok .dct S) (kE K Q)) (p : Addr) (hp : H p = none) : Q (.ref p) (upd H p (.dK [])) :=
  h _ _ (grow_new rs hp) (rs.new hp) _ (.dct (rs.fresh hp) upd_same)
/-- the same value, the heap as it is -/
theorem now_ (rs : RelS K H μ S) {v : V} {p : PV} (r : Rp K H μ v p) (h : Post K mg E H μ (.ok p S) (kE K Q)) : Q v H := h H μ .refl rs v r
end

/-! ## rules: names, constants, displays -/
section
variable {X : Cx} {E : XK} {e a b c : Expr} {es : List Expr} {m n l : ED} {as : AD} {pos : Pos}
abbrev PM (X : Cx) (E : XK) (e : Expr) (m : ED) : Prop := PE X e (tE X.K X.mg E m)
abbrev PB (X : Cx) (E : XK) (e : Expr) (m : BD) : Prop := PT X e (tT X.K X.mg E m)
abbrev PBW (X : Cx) (E : XK) (e : Expr) (m : BD) : Prop := PW X e (tT X.K X.mg E m)
abbrev PAs (X : Cx) (E : XK) (es : List Expr) (m : AD) : Prop := PA X es (tA X.K X.mg E m)
theorem pm_var (i : Nat) {x : Str} (hN : X.N[i]? = some x := by rfl) (hv : Vis X.env.scope x := by first | exact Or.inl rfl | exact Or.inr (Or.inl rfl) | exact Or.inr (Or.inr rfl)) (hd : (x == ("__debug__" : Str)) = false := by decide)
    (hcd : (x == ("__classdict__" : Str)) = false := by decide) : PM X E (.Name x pos) (dVar i) := by
  refine PE.imp (pe_var hN hv hd hcd) fun σ H Q ⟨ρ, S, μ, re, rs, h⟩ => ?_
  unfold dVar at h
  split at h
  · rename_i p e
    obtain ⟨v, e1, r⟩ := re.2 i p e
    exact ⟨v, e1, now_ rs r h⟩
  · exact h.elim
theorem pm_const {v : V} {p : PV} (h : PE X e (tC v)) (r : ∀ H μ, Rp X.K H μ v p) : PM X E e (dC p) :=
  PE.imp h fun σ H Q ⟨ρ, S, μ, re, rs, h⟩ => now_ rs (r H μ) h
theorem pm_int {i : Int} {j : Nat} : PM X E (.Constant (.int i) j pos) (dC (.int i)) := pm_const pe_int fun _ _ => .int i
theorem pm_bl {b : Bool} {j : Nat} : PM X E (.Constant (.bool b) j pos) (dC (.bl b)) := pm_const pe_bl fun _ _ => .bl b
theorem pm_non {j : Nat} : PM X E (.Constant .none j pos) (dC .non) := pm_const pe_non fun _ _ => .non
theorem pm_str {x : Str} {j : Nat} : PM X E (.Constant (.str x) j pos) (dC (.str x)) := pm_const pe_str fun _ _ => .str x
/-- a module's constant -/
def GlobIs (K : PySem.W.Frag) (mg : Str → Option Value) (x : Str) (p : PV) : Prop := ∃ u v, mg x = some u ∧ RelV v u ∧ ∀ H μ, Rp K H μ v p
theorem pm_glob {x : Str} {p : PV} (g : GlobIs X.K X.mg x p) (hg : Gl X x) (hd : (x == ("__debug__" : Str)) = false := by decide) : PM X E (.Name x pos) (dC p) := by
  obtain ⟨u, v, hm, r, q⟩ := g
  exact pm_const (pe_glob hg hm r hd) q
theorem pma_nil : PAs X E [] dNil := PA.imp pa_nil fun σ H Q ⟨ρ, S, μ, re, rs, h⟩ => h H μ .refl rs [] .nil
theorem pma_cons (ha : PM X E e m) (hr : PAs X E es as) (hs : starEach (e :: es) X.env = (false, eval e X.env) :: starEach es X.env := by rfl) : PAs X E (e :: es) (dCons m as) := by
  refine PA.imp (pa_cons ha hr hs) fun σ H Q ⟨ρ, S, μ, re, rs, h⟩ => ?_
  refine stepE re rs h fun v p S1 H1 μ1 re1 rs1 rv g1 h1 => ?_
  refine stepA re1 rs1 h1 fun vs ps S2 H2 μ2 re2 rs2 rvs g2 h2 => ?_
  exact h2 H2 μ2 .refl rs2 _ (.cons (rv.grow g2) rvs)
theorem pm_tup {x1} (h : PAs X E es as) : PM X E (.Tuple es x1 pos) (dAp mkTup as) := by
  refine PE.imp (pe_tup h) fun σ H Q ⟨ρ, S, μ, re, rs, h⟩ => ?_
  refine stepA re rs h fun vs ps S1 H1 μ1 re1 rs1 rv g1 h1 => ?_
  unfold mkTup at h1
  split at h1
  · rename_i hl
    exact ⟨by rw [rv.length]; exact lim_le hl, fun p hp => new_tup rs1 rv h1 p hp⟩
  · exact h1.elim
theorem pm_lst (h : PAs X E es as) : PM X E (.List es pos) (dAp mkLst as) := by
  refine PE.imp (pe_lst h) fun σ H Q ⟨ρ, S, μ, re, rs, h⟩ => ?_
  refine stepA re rs h fun vs ps S1 H1 μ1 re1 rs1 rv g1 h1 => ?_
  unfold mkLst at h1
  split at h1
  · rename_i hl
    exact ⟨by rw [rv.length]; exact lim_le hl, fun p hp => new_lst rs1 rv h1 p hp⟩
  · exact h1.elim
theorem pm_dct : PM X E (.Dict [] [] pos) (dC .dct) := by
  refine PE.imp pe_dnewK fun σ H Q ⟨ρ, S, μ, re, rs, h⟩ => ?_
  exact fun p hp => new_dct rs h p hp
theorem pm_loc (h : PAs X E es as) : PM X E (.List es pos) (dAp mkLoc as) := by
  refine PE.imp (pe_lst h) fun σ H Q ⟨ρ, S, μ, re, rs, h⟩ => ?_
  refine stepA re rs h fun vs ps S1 H1 μ1 re1 rs1 rv g1 h1 => ?_
  unfold mkLoc at h1
  split at h1
  · rename_i hl
    exact ⟨by rw [rv.length]; exact lim_le hl, fun p hp => new_loc rs1 rv h1 p hp⟩
  · exact h1.elim

/-! ## operators -/
def OpM (X : Cx) (E : XK) (r : R2) (g : PV → PV → M PV) : Prop := ∀ v w p q H μ S Q, RelS X.K H μ S → Rp X.K H μ v p → Rp X.K H μ w q → Post X.K X.mg E H μ (g p q S) (kE X.K Q) → r v w H Q
def UnM (X : Cx) (E : XK) (r : V → Hp → VK → Prop) (g : PV → M PV) : Prop := ∀ v p H μ S Q, RelS X.K H μ S → Rp X.K H μ v p → Post X.K X.mg E H μ (g p S) (kE X.K Q) → r v H Q
theorem tOp_of {r : R2} {g : PV → PV → M PV} (hg : OpM X E r g) {σ : L2.St} {H : Hp} {Q : VK} (h : tE X.K X.mg E (dOp g m n) σ H Q) : tOp r (tE X.K X.mg E m) (tE X.K X.mg E n) σ H Q := by
  obtain ⟨ρ, S, μ, re, rs, h⟩ := h
  refine stepE re rs h fun v p S1 H1 μ1 re1 rs1 rv g1 h1 => ?_
  refine stepE re1 rs1 h1 fun w q S2 H2 μ2 re2 rs2 rw' g2 h2 => ?_
  exact hg v w p q H2 μ2 S2 Q rs2 (rv.grow g2) rw' h2
theorem pm_op {op : Operator} {r : R2} {g : PV → PV → M PV} (o : OpR X (binaryOp op) r ∧ OpM X E r g) (ha : PM X E a m) (hb : PM X E b n) : PM X E (.BinOp a op b pos) (dOp g m n) :=
  PE.imp (pe_op o.1 ha hb) fun σ H Q h => tOp_of o.2 h
theorem pm_cmp {op : CmpOp} {r : R2} {g : PV → PV → M PV} (o : OpR X (compareOp op) r ∧ OpM X E r g) (ha : PM X E a m) (hb : PM X E b n) (hm : behindInMarks op b = false) : PM X E (.Compare a [op] [b] pos) (dOp g m n) :=
  PE.imp (pe_cmpR o.1 ha hb hm) fun σ H Q h => tOp_of o.2 h
theorem pb_cmp {op : CmpOp} {r : R2} {g : PV → PV → M PV} (o : OpR X (compareOp op) r ∧ OpM X E r g) (ha : PM X E a m) (hb : PM X E b n) (hm : behindInMarks op b = false) : PB X E (.Compare a [op] [b] pos) (bCmp (dOp g m n)) := by
  refine PT.imp (pt_cmpR o.1 ha hb hm) fun σ H Q ⟨ρ, S, μ, re, rs, h⟩ => ?_
  have h' := h.bnd
  refine tOp_of o.2 (Q := fun x H' => ∃ k, x = .bl k ∧ Q k H') ⟨ρ, S, μ, re, rs, h'.mono fun p S1 H1 μ1 g r q v rv => ?_⟩
  cases rv with
  | bl k => exact ⟨k, rfl, q H1 μ1 .refl r⟩
  | _ => exact q.elim
theorem pm_un {op : UnaryOp} {r : V → Hp → VK → Prop} {g : PV → M PV} (o : UnR X (unaryOp op) r ∧ UnM X E r g) (ha : PM X E a m) : PM X E (.UnaryOp op a pos) (dUn g m) := by
  refine PE.imp (pe_un o.1 ha) fun σ H Q ⟨ρ, S, μ, re, rs, h⟩ => ?_
  exact stepE re rs h fun v p S1 H1 μ1 re1 rs1 rv g1 h1 => o.2 v p H1 μ1 S1 Q rs1 rv h1
theorem pm_chain {op op' : CmpOp} {r r' : R2} {g g' : PV → PV → M PV} (o : OpR X (compareOp op) r ∧ OpM X E r g) (o' : OpR X (compareOp op') r' ∧ OpM X E r' g') (ha : PM X E a m) (hb : PM X E b n) (hc : PM X E c l)
    (hp : ∀ (r r' : R2) (ta tb tc : TE), OpR X (compareOp op) r → OpR X (compareOp op') r' → PE X a ta → PE X b tb → PE X c tc → PE X (.Compare a [op, op'] [b, c] pos) (tChain r r' ta tb tc) := by intro r r' ta tb tc h1 h2 h3 h4 h5; exact pe_chain h1 h2 h3 h4 h5) :
    PM X E (.Compare a [op, op'] [b, c] pos) (dChain g g' m n l) := by
  refine PE.imp (hp r r' _ _ _ o.1 o'.1 ha hb hc) fun σ H Q ⟨ρ, S, μ, re, rs, h⟩ => ?_
  refine stepE re rs h fun v p S1 H1 μ1 re1 rs1 rv g1 h1 => ?_
  refine stepE re1 rs1 h1 fun w q S2 H2 μ2 re2 rs2 rw' g2 h2 => ?_
  refine o.2 v w p q H2 μ2 S2 _ rs2 (rv.grow g2) rw' (h2.bnd.mono fun z S3 H3 μ3 g3 r3 q3 y ry => ?_)
  cases ry with
  | bl k =>
    refine ⟨k, rfl, ?_⟩
    rw [show asB (.bl k) = ret k from rfl, bnd_ret] at q3
    by_cases hk : k = true
    · rw [if_pos hk] at q3 ⊢
      refine stepE (re2.grow g3) r3 q3 fun u t S4 H4 μ4 re4 rs4 ru g4 h4 => ?_
      exact o'.2 w u q t H4 μ4 S4 Q rs4 ((rw'.grow g3).grow g4) ru h4
    · rw [if_neg hk] at q3 ⊢
      exact q3 H3 μ3 .refl r3 _ (.bl false)
  | _ => exact q3.elim

/-! ## tests -/
theorem tru_of {H : Hp} {μ : Mu} {S : Sto} {v : V} {p : PV} {k : Bool → Sto → Hp → Mu → Prop} (rs : RelS X.K H μ S) (r : Rp X.K H μ v p) (h : Post X.K X.mg E H μ (truM p S) k) : ∃ b, TruV X.K v H b ∧ truM p S = .ok b S := by
  cases r with
  | non => exact ⟨false, rfl, rfl⟩
  | bl b => exact ⟨b, rfl, rfl⟩
  | int i => exact ⟨_, rfl, rfl⟩
  | str x =>
    unfold truM at h ⊢
    simp only at h ⊢
    split at h
    · rename_i hl
      exact ⟨_, ⟨lim_le hl, rfl⟩, by rw [if_pos hl]⟩
    · exact h.elim
  | @tup a vs ps hq r =>
    refine ⟨_, .inr (.inl ⟨vs, hq, rfl⟩), ?_⟩
    cases r <;> rfl
  | @lst a vs ps n hq r =>
    refine ⟨_, .inl ⟨vs, SqL.of hq, rfl⟩, ?_⟩
    cases r <;> rfl
  | @frz a vs ps hq r =>
    refine ⟨_, .inl ⟨vs, hq.sqL, rfl⟩, ?_⟩
    cases r <;> rfl
  | @loc a n hq =>
    unfold truM at h ⊢
    simp only at h ⊢
    split at h
    · rename_i xs q
      obtain ⟨vs, h1, r1⟩ := rs.at_ n _ a q hq
      refine ⟨_, .inl ⟨vs, SqL.of h1, rfl⟩, ?_⟩
      cases r1 <;> rfl
    · exact h.elim
  | dct _ _ => exact h.elim
theorem pb_tru (ha : PM X E a m) (he : ∀ whole, isTrue a X.env whole = (do let v ← whole; standAt a.pos; holding [v] (truthy v)) := by intro _; rfl) : PB X E a (bTru m) := by
  refine PT.imp (pt_truth ha he) fun σ H Q ⟨ρ, S, μ, re, rs, h⟩ => ?_
  refine stepE re rs h fun v p S1 H1 μ1 re1 rs1 rv g1 h1 => ?_
  obtain ⟨b, tv, e⟩ := tru_of rs1 rv h1
  rw [e] at h1
  exact ⟨b, tv, h1 H1 μ1 .refl rs1⟩
theorem pb_not {d : BD} (ha : PB X E a d) : PB X E (.UnaryOp .Not a pos) (bNot d) := by
  refine PT.imp (pt_not ha) fun σ H Q ⟨ρ, S, μ, re, rs, h⟩ => ?_
  exact stepT re rs h fun b S1 H1 μ1 re1 rs1 g1 h1 => h1 H1 μ1 .refl rs1
theorem pw1_and {d : BD} (ha : PB X E a d) : PBW X E (.BoolOp .And [a] pos) d := pw_and1 ha
theorem pw1_or {d : BD} (ha : PB X E a d) : PBW X E (.BoolOp .Or [a] pos) d := pw_or1 ha
theorem pbw_and {d f : BD} (ha : PB X E a d) (hb : PBW X E (.BoolOp .And (b :: es) pos) f) : PBW X E (.BoolOp .And (a :: b :: es) pos) (bAnd d f) := by
  refine PW.imp (pw_and ha hb) fun σ H Q ⟨ρ, S, μ, re, rs, h⟩ => ?_
  refine stepT re rs h fun k S1 H1 μ1 re1 rs1 g1 h1 => ?_
  by_cases hk : k = true
  · rw [if_pos hk] at h1 ⊢; exact lastT re1 rs1 h1
  · rw [if_neg hk] at h1 ⊢; exact h1 H1 μ1 .refl rs1
theorem pbw_or {d f : BD} (ha : PB X E a d) (hb : PBW X E (.BoolOp .Or (b :: es) pos) f) : PBW X E (.BoolOp .Or (a :: b :: es) pos) (bOr d f) := by
  refine PW.imp (pw_or ha hb) fun σ H Q ⟨ρ, S, μ, re, rs, h⟩ => ?_
  refine stepT re rs h fun k S1 H1 μ1 re1 rs1 g1 h1 => ?_
  by_cases hk : k = true
  · rw [if_pos hk] at h1 ⊢; exact h1 H1 μ1 .refl rs1
  · rw [if_neg hk] at h1 ⊢; exact lastT re1 rs1 h1
theorem pm_one {op} (h : PM X E a m) : PM X E (.BoolOp op [a] pos) m := pe_one h
theorem pm_and (ha : PM X E a m) (hb : PM X E (.BoolOp .And (b :: es) pos) n) : PM X E (.BoolOp .And (a :: b :: es) pos) (dAnd m n) := by
  refine PE.imp (pe_andT ha hb) fun σ H Q ⟨ρ, S, μ, re, rs, h⟩ => ?_
  refine stepE re rs h fun v p S1 H1 μ1 re1 rs1 rv g1 h1 => ?_
  obtain ⟨k, tv, e⟩ := tru_of rs1 rv h1.bnd
  rw [bnd_ok e] at h1
  refine ⟨k, tv, ?_⟩
  by_cases hk : k = true
  · rw [if_pos hk] at h1 ⊢; exact lastE re1 rs1 h1
  · rw [if_neg hk] at h1 ⊢; exact now_ rs1 rv h1
theorem pm_or (ha : PM X E a m) (hb : PM X E (.BoolOp .Or (b :: es) pos) n) : PM X E (.BoolOp .Or (a :: b :: es) pos) (dOr m n) := by
  refine PE.imp (pe_orT ha hb) fun σ H Q ⟨ρ, S, μ, re, rs, h⟩ => ?_
  refine stepE re rs h fun v p S1 H1 μ1 re1 rs1 rv g1 h1 => ?_
  obtain ⟨k, tv, e⟩ := tru_of rs1 rv h1.bnd
  rw [bnd_ok e] at h1
  refine ⟨k, tv, ?_⟩
  by_cases hk : k = true
  · rw [if_pos hk] at h1 ⊢; exact now_ rs1 rv h1
  · rw [if_neg hk] at h1 ⊢; exact lastE re1 rs1 h1
theorem pm_not (ha : PM X E a m) : PM X E (.UnaryOp .Not a pos) (dNot m) := by
  refine PE.imp (pe_notT ha) fun σ H Q ⟨ρ, S, μ, re, rs, h⟩ => ?_
  refine stepE re rs h fun v p S1 H1 μ1 re1 rs1 rv g1 h1 => ?_
  obtain ⟨k, tv, e⟩ := tru_of rs1 rv h1.bnd
  rw [bnd_ok e] at h1
  exact ⟨k, tv, now_ rs1 (.bl _) h1⟩
theorem pm_if {d : BD} (hc : PB X E c d) (ha : PM X E a m) (hb : PM X E b n) : PM X E (.IfExp c a b pos) (dIf d m n) := by
  refine PE.imp (pe_ifExp hc ha hb) fun σ H Q ⟨ρ, S, μ, re, rs, h⟩ => ?_
  refine stepT re rs h fun k S1 H1 μ1 re1 rs1 g1 h1 => ?_
  by_cases hk : k = true
  · rw [if_pos hk] at h1 ⊢; exact lastE re1 rs1 h1
  · rw [if_neg hk] at h1 ⊢; exact lastE re1 rs1 h1
end
end Pm

namespace Pm
open PySem PySem.Spec L2

/-! ## operators by values -/
def catM (p q : PV) : M PV := fun S => match asM p S, asM q S with
  | some xs, some ys => if xs.length + ys.length ≤ LIM then .ok (.lst (xs ++ ys)) S else .stuck
  | _, _ => .stuck
def addM : PV → PV → M PV
  | .int i, .int j => ret (.int (i + j))
  | .str x, .str y => fun S => if x.length + y.length ≤ LIM then .ok (.str (x ++ y)) S else .stuck
  | .tup xs, .tup ys => fun S => if xs.length + ys.length ≤ LIM then .ok (.tup (xs ++ ys)) S else .stuck
  | .lst xs, q => catM (.lst xs) q
  | .loc n, q => catM (.loc n) q
  | _, _ => stk
def subM : PV → PV → M PV
  | .int i, .int j => ret (.int (i - j))
  | _, _ => stk
def repL (k : Int) (xs : List PV) : List PV := (List.replicate k.toNat xs).flatten
def mulM : PV → PV → M PV
  | .int i, .int j => fun S => if i.natAbs.log2 + j.natAbs.log2 < 1000000 then .ok (.int (i * j)) S else .stuck
  | .lst xs, .int k => fun S => if -1000 ≤ k ∧ k ≤ 1000 ∧ xs.length ≤ 100 then .ok (.lst (repL k xs)) S else .stuck
  | _, _ => stk
def fdivM : PV → PV → M PV
  | .int i, .int j => fun S => if j ≠ 0 ∧ j.natAbs.log2 < 9000 then .ok (.int (i.fdiv j)) S else .stuck
  | _, _ => stk
def modM : PV → PV → M PV
  | .int i, .int j => fun S => if j ≠ 0 then .ok (.int (i.fmod j)) S else .stuck
  | _, _ => stk
def powM : PV → PV → M PV
  | .int i, .int j => fun S => if 0 ≤ j ∧ j ≤ 1000000 ∧ i.natAbs < 2 ^ 64 then .ok (.int (i ^ j.toNat)) S else .stuck
  | _, _ => stk
def negM : PV → M PV
  | .int i => ret (.int (-i))
  | _ => stk
def ltM : PV → PV → M PV
  | .int i, .int j => ret (.bl (decide (i < j)))
  | _, _ => stk
def leM : PV → PV → M PV
  | .int i, .int j => ret (.bl (decide (i ≤ j)))
  | _, _ => stk
def gtM : PV → PV → M PV
  | .int i, .int j => ret (.bl (decide (j < i)))
  | _, _ => stk
def geM : PV → PV → M PV
  | .int i, .int j => ret (.bl (decide (j ≤ i)))
  | _, _ => stk
def isN : PV → Bool
  | .non => true
  | _ => false
def isNM (p _ : PV) : M PV := ret (.bl (isN p))
def notNM (p _ : PV) : M PV := ret (.bl (!isN p))
def isBM : PV → PV → M PV
  | .bl a, .bl b => ret (.bl (decide (a = b)))
  | _, _ => stk
def notBM : PV → PV → M PV
  | .bl a, .bl b => ret (.bl (!decide (a = b)))
  | _, _ => stk
/-- what a tuple's and a list's index may be -/
def ixM : PV → PV → M PV
  | .tup xs, .int i => fun S => match atI xs i with
    | some p => .ok p S
    | none => .stuck
  | .str z, .int i => fun S => if z.length ≤ LIM then match atI z.cps.toList i with
      | some c => .ok (.str ⟨#[c]⟩) S
      | none => .stuck
    else .stuck
  | p, .int i => fun S => match asL p S with
    | some xs => match atI xs i with
      | some p => .ok p S
      | none => .stuck
    | none => .stuck
  | _, _ => stk
def cutP (xs : List PV) (lo hi : Option Int) : List PV := (xs.drop (HT.sIx xs.length 0 lo)).take (HT.sIx xs.length xs.length hi - HT.sIx xs.length 0 lo)
def slM (p : PV) (lo hi : Option Int) : M PV := fun S => match p with
  | .tup xs => .ok (.tup (cutP xs lo hi)) S
  | p => match asL p S with
    | some xs => .ok (.lst (cutP xs lo hi)) S
    | none => .stuck
def OD := Rho → M (Option Int)
def oNone : OD := fun _ S => .ok none S
def oSome (m : ED) : OD := fun ρ => bnd (m ρ) fun p => match p with
  | .int i => ret (some i)
  | _ => stk
def dSl (m : ED) (lo hi : OD) : ED := fun ρ => bnd (m ρ) fun p => bnd (lo ρ) fun l => bnd (hi ρ) fun h => slM p l h

/-! ## data: equality, membership -/
mutual
def PV.data : PV → Option PyData
  | .non => some .none
  | .bl b => some (.bool b)
  | .int i => some (.int i)
  | .str x => some (.str x)
  | .tup xs => match dataL xs with
    | some ds => some (.tuple ds)
    | none => none
  | .lst xs => match dataL xs with
    | some ds => some (.list ds)
    | none => none
  | .frz xs => match dataL xs with
    | some ds => some (.list ds)
    | none => none
  | .loc _ => none
  | .dct => none
def dataL : List PV → Option (List PyData)
  | [] => some []
  | p :: ps => match PV.data p, dataL ps with
    | some d, some ds => some (d :: ds)
    | _, _ => none
end
/-- a place of the store, read at the top -/
def deref : PV → Sto → PV
  | .loc n, S => match S[n]? with
    | some (.lst xs) => .lst xs
    | _ => .loc n
  | p, _ => p
def mapD (f : PV → Option PyData) : List PV → Option (List PyData)
  | [] => some []
  | p :: ps => match f p, mapD f ps with
    | some d, some ds => some (d :: ds)
    | _, _ => none
/-- .. places within lists and tuples, too -/
def dataF (S : Sto) : Nat → PV → Option PyData
  | 0, _ => none
  | _ + 1, .non => some .none
  | _ + 1, .bl b => some (.bool b)
  | _ + 1, .int i => some (.int i)
  | _ + 1, .str x => some (.str x)
  | k + 1, .tup xs => (mapD (dataF S k) xs).map .tuple
  | k + 1, .lst xs => (mapD (dataF S k) xs).map .list
  | k + 1, .frz xs => (mapD (dataF S k) xs).map .list
  | k + 1, .loc n => match S[n]? with
    | some (.lst xs) => (mapD (dataF S k) xs).map .list
    | _ => none
  | _ + 1, .dct => none
def dataS (p : PV) (S : Sto) : Option PyData := match (deref p S).data with
  | some d => some d
  | none => dataF S 8 p
/-- two texts are told apart without a look at their signs -/
def twoStr : PV → PV → Option Bool
  | .str x, .str y => some (x == y)
  | _, _ => none
def eqD (p q : PV) (S : Sto) : Option Bool := match dataS p S, dataS q S with
  | some d, some e => if SeqAt.shaped d = true ∧ SeqAt.shaped e = true then some (PyData.eqv d e) else none
  | _, _ => none
def eqB (p q : PV) (S : Sto) : Option Bool := match twoStr p q with
  | some b => some b
  | none => eqD p q S
def eqM (p q : PV) : M PV := fun S => match eqB p q S with
  | some b => .ok (.bl b) S
  | none => .stuck
def neM (p q : PV) : M PV := fun S => match eqB p q S with
  | some b => .ok (.bl (!b)) S
  | none => .stuck
def flatP : PV → Option V
  | .non => some .non
  | .bl b => some (.bl b)
  | .int i => some (.int i)
  | .str x => some (.str x)
  | _ => none
def flatL : List PV → Option (List V)
  | [] => some []
  | p :: ps => match flatP p, flatL ps with
    | some d, some ds => some (d :: ds)
    | _, _ => none
def inFl (x : PV) (ps : List PV) : Option Bool := match flatP x, flatL ps with
  | some v, some vs => some (inV v vs)
  | _, _ => none
/-- x in c: flat things or data in a tuple, any data in a list -/
def inB (x c : PV) (S : Sto) : Option Bool := match c with
  | .tup ps => match inFl x ps with
    | some b => some b
    | none => match dataS x S, dataS (.tup ps) S with
      | some d, some (.tuple ds) => if SeqAt.shaped d = true ∧ SeqAt.shaped (.list ds) = true then some (ds.any fun z => PyData.eqv z d) else none
      | _, _ => none
  | c => match dataS x S, dataS c S with
    | some d, some (.list ds) => if SeqAt.shaped d = true ∧ SeqAt.shaped (.list ds) = true then some (ds.any fun z => PyData.eqv z d) else none
    | _, _ => none
def inM (x c : PV) : M PV := fun S => match inB x c S with
  | some b => .ok (.bl b) S
  | none => .stuck
def ninM (x c : PV) : M PV := fun S => match inB x c S with
  | some b => .ok (.bl (!b)) S
  | none => .stuck

section
variable {K : PySem.W.Frag} {H : Hp} {μ : Mu} {S : Sto}
mutual
theorem Rp.dp : ∀ {v : V} {p : PV} {d : PyData}, Rp K H μ v p → p.data = some d → Dp K H v d
  | _, _, _, .non, e => by simp only [PV.data, Option.some.injEq] at e; subst e; exact .non
  | _, _, _, .bl b, e => by simp only [PV.data, Option.some.injEq] at e; subst e; exact .bl b
  | _, _, _, .int i, e => by simp only [PV.data, Option.some.injEq] at e; subst e; exact .int i
  | _, _, _, .str x, e => by simp only [PV.data, Option.some.injEq] at e; subst e; exact .str x
  | _, _, _, .tup h r, e => by
    simp only [PV.data] at e
    split at e
    · rename_i ds q; cases e; exact .tup h (RpL.dp r q)
    · cases e
  | _, _, _, .lst n h r, e => by
    simp only [PV.data] at e
    split at e
    · rename_i ds q; cases e; exact .lst (SqL.of h) (RpL.dp r q)
    · cases e
  | _, _, _, .frz h r, e => by
    simp only [PV.data] at e
    split at e
    · rename_i ds q; cases e; exact .lst h.sqL (RpL.dp r q)
    · cases e
  | _, _, _, .loc h, e => by simp [PV.data] at e
theorem RpL.dp : ∀ {vs : List V} {ps : List PV} {ds : List PyData}, RpL K H μ vs ps → dataL ps = some ds → DpAll K H vs ds
  | _, _, _, .nil, e => by simp only [dataL, Option.some.injEq] at e; subst e; exact .nil
  | _, _, _, .cons r t, e => by
    simp only [dataL] at e
    split at e
    · rename_i d ds q1 q2
      cases e
      exact .cons (Rp.dp r q1) (RpL.dp t q2)
    · cases e
end
theorem data1_dp (rs : RelS K H μ S) {v : V} {p : PV} {d : PyData} (r : Rp K H μ v p) (e : (deref p S).data = some d) : Dp K H v d := by
  cases r with
  | @loc a n h =>
    simp only [deref] at e
    split at e
    · rename_i xs q
      obtain ⟨vs, h1, r1⟩ := rs.at_ n _ a q h
      simp only [PV.data] at e
      split at e
      · rename_i ds q2; cases e; exact .lst (SqL.of h1) (r1.dp q2)
      · cases e
    · simp [PV.data] at e
  | non => exact Rp.dp (μ := μ) .non e
  | bl b => exact Rp.dp (μ := μ) (.bl b) e
  | int i => exact Rp.dp (μ := μ) (.int i) e
  | str x => exact Rp.dp (μ := μ) (.str x) e
  | tup h r => exact Rp.dp (.tup h r) e
  | lst n h r => exact Rp.dp (.lst n h r) e
  | frz h r => exact Rp.dp (.frz h r) e
  | dct _ _ => simp [deref, PV.data] at e
theorem mapD_dp {f : PV → Option PyData} (hf : ∀ v p d, Rp K H μ v p → f p = some d → Dp K H v d) {vs : List V} {ps : List PV} {ds : List PyData} (r : RpL K H μ vs ps) (e : mapD f ps = some ds) : DpAll K H vs ds := by
  induction ps generalizing vs ds with
  | nil => cases r; cases e; exact .nil
  | cons p ps ih =>
    cases r with
    | cons a b =>
      simp only [mapD] at e
      split at e
      · rename_i d ds' e1 e2
        cases e
        exact .cons (hf _ _ _ a e1) (ih b e2)
      · cases e
theorem dataF_dp (rs : RelS K H μ S) : ∀ (k : Nat) (v : V) (p : PV) (d : PyData), Rp K H μ v p → dataF S k p = some d → Dp K H v d := by
  intro k
  induction k with
  | zero => intro v p d r e; cases e
  | succ k ih =>
    intro v p d r e
    cases r with
    | non => simp only [dataF] at e; cases e; exact .non
    | bl b => simp only [dataF] at e; cases e; exact .bl b
    | int i => simp only [dataF] at e; cases e; exact .int i
    | str x => simp only [dataF] at e; cases e; exact .str x
    | tup h r =>
      simp only [dataF, Option.map_eq_some_iff] at e
      obtain ⟨ds, e, rfl⟩ := e
      exact .tup h (mapD_dp ih r e)
    | lst n h r =>
      simp only [dataF, Option.map_eq_some_iff] at e
      obtain ⟨ds, e, rfl⟩ := e
      exact .lst (SqL.of h) (mapD_dp ih r e)
    | frz h r =>
      simp only [dataF, Option.map_eq_some_iff] at e
      obtain ⟨ds, e, rfl⟩ := e
      exact .lst h.sqL (mapD_dp ih r e)
    | @loc a n h =>
      simp only [dataF] at e
      split at e
      · rename_i xs q
        simp only [Option.map_eq_some_iff] at e
        obtain ⟨ds, e, rfl⟩ := e
        obtain ⟨vs, h1, r1⟩ := rs.at_ n _ a q h
        exact .lst (SqL.of h1) (mapD_dp ih r1 e)
      · cases e
    | dct _ _ => simp [dataF] at e
theorem dataS_dp (rs : RelS K H μ S) {v : V} {p : PV} {d : PyData} (r : Rp K H μ v p) (e : dataS p S = some d) : Dp K H v d := by
  unfold dataS at e
  split at e
  · rename_i d' e1
    cases e
    exact data1_dp rs r e1
  · exact dataF_dp rs 8 v p d r e
theorem Rp.flat {v : V} {p : PV} {u : V} (r : Rp K H μ v p) (e : flatP p = some u) : v = u ∧ flatV v = true := by
  cases r <;> simp only [flatP, Option.some.injEq, reduceCtorEq] at e <;> (subst e; exact ⟨rfl, rfl⟩)
theorem RpL.flat : ∀ {vs : List V} {ps : List PV} {us : List V}, RpL K H μ vs ps → flatL ps = some us → vs = us ∧ vs.all flatV = true
  | _, _, _, .nil, e => by simp only [flatL, Option.some.injEq] at e; subst e; exact ⟨rfl, rfl⟩
  | _, _, _, .cons r t, e => by
    simp only [flatL] at e
    split at e
    · rename_i d ds q1 q2
      cases e
      obtain ⟨e1, f1⟩ := Rp.flat r q1
      obtain ⟨e2, f2⟩ := RpL.flat t q2
      subst e1 e2
      exact ⟨rfl, by rw [List.all_cons, f1, f2]; rfl⟩
    · cases e
end

section
variable {X : Cx} {E : XK}
theorem iff_post {c : Prop} [Decidable c] {α : Type} {o : Out α} {k : α → Sto → Hp → Mu → Prop} {H : Hp} {μ : Mu} (h : Post X.K X.mg E H μ (if c then o else .stuck) k) : c ∧ Post X.K X.mg E H μ o k := by
  by_cases hc : c
  · rw [if_pos hc] at h; exact ⟨hc, h⟩
  · rw [if_neg hc] at h; exact h.elim
theorem o_add : OpR X (binaryOp .Add) (fun x y H Q => (rI0 fun i j => .int (i + j)) x y H Q ∨ ((∃ i j, x = .str i ∧ y = .str j ∧ i.length + j.length ≤ sizeLine ∧ Q (.str (i ++ j)) H) ∨ (rCat x y H Q ∨ rCatA X.K x y H Q))) ∧ OpM X E (fun x y H Q => (rI0 fun i j => .int (i + j)) x y H Q ∨ ((∃ i j, x = .str i ∧ y = .str j ∧ i.length + j.length ≤ sizeLine ∧ Q (.str (i ++ j)) H) ∨ (rCat x y H Q ∨ rCatA X.K x y H Q))) addM := by
  refine ⟨op_add.or (op_add_str.or (op_cat.or op_catA)), ?_⟩
  intro v w p q H μ S Q rs rv rw' h
  have cat : ∀ {p q : PV}, Rp X.K H μ v p → Rp X.K H μ w q → Post X.K X.mg E H μ (catM p q S) (kE X.K Q) → rCat v w H Q := by
    intro p q rv rw' h
    unfold catM at h
    split at h
    · rename_i xs ys e1 e2
      obtain ⟨a, vs, rfl, h1, r1⟩ := asM_ok e1 rs rv
      obtain ⟨b, ws, rfl, h2, r2⟩ := asM_ok e2 rs rw'
      obtain ⟨hl, h⟩ := iff_post h
      exact ⟨a, b, vs, ws, rfl, rfl, h1, h2, by rw [r1.length, r2.length]; exact lim_le hl, fun p hp => new_lst rs (r1.append r2) h p hp⟩
    · exact h.elim
  cases rv with
  | int i =>
    cases rw' with
    | int j => exact .inl ⟨i, j, rfl, rfl, now_ rs (.int _) h⟩
    | _ => exact h.elim
  | str x =>
    cases rw' with
    | str y =>
      obtain ⟨hl, h⟩ := iff_post h
      exact .inr (.inl ⟨x, y, rfl, rfl, lim_le hl, now_ rs (.str _) h⟩)
    | _ => exact h.elim
  | @tup a vs ps ha r1 =>
    cases rw' with
    | @tup b ws qs hb r2 =>
      obtain ⟨hl, h⟩ := iff_post h
      refine .inr (.inr (.inr ⟨a, b, vs, ws, rfl, rfl, ha, hb, by rw [r1.length, r2.length]; exact lim_le hl, fun e => ?_, fun _ e => ?_, fun _ _ p hp => new_tup rs (r1.append r2) h p hp⟩))
      · subst e
        have e2 : ps = [] := by cases r1; rfl
        subst e2
        exact now_ rs (.tup hb r2) h
      · subst e
        have e2 : qs = [] := by cases r2; rfl
        subst e2
        rw [List.append_nil] at h
        exact now_ rs (.tup ha r1) h
    | _ => exact h.elim
  | lst n h1 r1 => exact .inr (.inr (.inl (cat (.lst n h1 r1) rw' h)))
  | loc h1 => exact .inr (.inr (.inl (cat (.loc h1) rw' h)))
  | _ => exact h.elim
theorem o_sub : OpR X (binaryOp .Sub) (rI0 fun i j => .int (i - j)) ∧ OpM X E (rI0 fun i j => .int (i - j)) subM := by
  refine ⟨op_sub, ?_⟩
  intro v w p q H μ S Q rs rv rw' h
  cases rv with
  | int i =>
    cases rw' with
    | int j => exact ⟨i, j, rfl, rfl, now_ rs (.int _) h⟩
    | _ => exact h.elim
  | _ => exact h.elim
theorem RpL.flatten {K : PySem.W.Frag} {H : Hp} {μ : Mu} {vs : List V} {ps : List PV} (r : RpL K H μ vs ps) : ∀ n : Nat, RpL K H μ (List.replicate n vs).flatten (List.replicate n ps).flatten
  | 0 => .nil
  | n + 1 => by simp only [List.replicate_succ, List.flatten_cons]; exact r.append (RpL.flatten r n)
theorem op_repN : OpR X (binaryOp .Mult) (fun x y H Q => ∃ l k xs, x = .ref l ∧ y = .int k ∧ H l = some (.lst xs) ∧ -1000 ≤ k ∧ k ≤ 1000 ∧ xs.length ≤ 100 ∧ ∀ p, H p = none → Q (.ref p) (upd H p (.lst (List.replicate k.toNat xs).flatten))) := by
  intro pins s σ H x y v u Q I rx ry h
  obtain ⟨l, k, xs, e1, e2, hH, k1, k2, hl, q⟩ := h
  refine op_rep pins s σ H x y v u Q I rx ry ⟨l, k, xs, e1, e2, hH, by omega, by omega, ?_, q⟩
  have h1 : k.toNat ≤ 1000 := by omega
  have h2 := Nat.mul_le_mul hl h1
  rw [sizeLine_eq]
  omega
theorem o_mul : OpR X (binaryOp .Mult) (fun x y H Q => rI CMulW (fun i j => .int (i * j)) x y H Q ∨ (∃ l k xs, x = .ref l ∧ y = .int k ∧ H l = some (.lst xs) ∧ -1000 ≤ k ∧ k ≤ 1000 ∧ xs.length ≤ 100 ∧ ∀ p, H p = none → Q (.ref p) (upd H p (.lst (List.replicate k.toNat xs).flatten)))) ∧
    OpM X E (fun x y H Q => rI CMulW (fun i j => .int (i * j)) x y H Q ∨ (∃ l k xs, x = .ref l ∧ y = .int k ∧ H l = some (.lst xs) ∧ -1000 ≤ k ∧ k ≤ 1000 ∧ xs.length ≤ 100 ∧ ∀ p, H p = none → Q (.ref p) (upd H p (.lst (List.replicate k.toNat xs).flatten)))) mulM := by
  refine ⟨op_mulW.or op_repN, ?_⟩
  intro v w p q H μ S Q rs rv rw' h
  cases rv with
  | int i =>
    cases rw' with
    | int j =>
      obtain ⟨hl, h⟩ := iff_post h
      exact .inl ⟨i, j, rfl, rfl, hl, now_ rs (.int _) h⟩
    | _ => exact h.elim
  | @lst a vs ps n h1 r1 =>
    cases rw' with
    | int j =>
      obtain ⟨⟨k1, k2, hl⟩, h⟩ := iff_post h
      exact .inr ⟨a, j, vs, rfl, rfl, h1, k1, k2, by rw [r1.length]; exact hl, fun p hp => new_lst rs (r1.flatten _) h p hp⟩
    | _ => exact h.elim
  | _ => exact h.elim
def CDivX (_ j : Int) : Prop := j ≠ 0 ∧ j.natAbs.log2 < 9000
theorem op_fdivX : OpR X (binaryOp .FloorDiv) (rI CDivX fun i j => .int (i.fdiv j)) := opI fun _ _ _ _ _ _ _ hc q => PyProof.Rows.floordiv_int hc.1 q (.inl (PyProof.noPylong_of_log2 hc.2))
theorem o_fdiv : OpR X (binaryOp .FloorDiv) (rI CDivX fun i j => .int (i.fdiv j)) ∧ OpM X E (rI CDivX fun i j => .int (i.fdiv j)) fdivM := by
  refine ⟨op_fdivX, ?_⟩
  intro v w p q H μ S Q rs rv rw' h
  cases rv with
  | int i =>
    cases rw' with
    | int j =>
      obtain ⟨hl, h⟩ := iff_post h
      exact ⟨i, j, rfl, rfl, hl, now_ rs (.int _) h⟩
    | _ => exact h.elim
  | _ => exact h.elim
theorem o_mod : OpR X (binaryOp .Mod) (rI (fun _ j => j ≠ 0) fun i j => .int (i.fmod j)) ∧ OpM X E (rI (fun _ j => j ≠ 0) fun i j => .int (i.fmod j)) modM := by
  refine ⟨op_modN, ?_⟩
  intro v w p q H μ S Q rs rv rw' h
  cases rv with
  | int i =>
    cases rw' with
    | int j =>
      obtain ⟨hl, h⟩ := iff_post h
      exact ⟨i, j, rfl, rfl, hl, now_ rs (.int _) h⟩
    | _ => exact h.elim
  | _ => exact h.elim
theorem o_pow : OpR X (binaryOp .Pow) (rI CPow fun i j => .int (i ^ j.toNat)) ∧ OpM X E (rI CPow fun i j => .int (i ^ j.toNat)) powM := by
  refine ⟨op_pow, ?_⟩
  intro v w p q H μ S Q rs rv rw' h
  cases rv with
  | int i =>
    cases rw' with
    | int j =>
      obtain ⟨hl, h⟩ := iff_post h
      exact ⟨i, j, rfl, rfl, hl, now_ rs (.int _) h⟩
    | _ => exact h.elim
  | _ => exact h.elim
theorem o_neg : UnR X (unaryOp .USub) (rU fun i => .int (-i)) ∧ UnM X E (rU fun i => .int (-i)) negM := by
  refine ⟨un_neg, ?_⟩
  intro v p H μ S Q rs rv h
  cases rv with
  | int i => exact ⟨i, rfl, now_ rs (.int _) h⟩
  | _ => exact h.elim
theorem opM_int {g : PV → PV → M PV} {f : Int → Int → Bool} (hg : ∀ i j, g (.int i) (.int j) = ret (.bl (f i j))) (hs : ∀ p q S, (∀ i j, ¬(p = .int i ∧ q = .int j)) → g p q S = .stuck) : OpM X E (rI0 fun i j => .bl (f i j)) g := by
  intro v w p q H μ S Q rs rv rw' h
  by_cases hc : ∃ i j, p = .int i ∧ q = .int j
  · obtain ⟨i, j, rfl, rfl⟩ := hc
    rw [hg] at h
    cases rv
    cases rw'
    exact ⟨i, j, rfl, rfl, now_ rs (.bl _) h⟩
  · rw [hs p q S fun i j z => hc ⟨i, j, z⟩] at h
    exact h.elim
theorem o_lt : OpR X (compareOp .Lt) (rI0 fun i j => .bl (decide (i < j))) ∧ OpM X E (rI0 fun i j => .bl (decide (i < j))) ltM :=
  ⟨op_lt, opM_int (fun _ _ => rfl) fun p q S h => by cases p <;> cases q <;> first | rfl | exact absurd ⟨rfl, rfl⟩ (h _ _)⟩
theorem o_le : OpR X (compareOp .LtE) (rI0 fun i j => .bl (decide (i ≤ j))) ∧ OpM X E (rI0 fun i j => .bl (decide (i ≤ j))) leM :=
  ⟨op_le, opM_int (fun _ _ => rfl) fun p q S h => by cases p <;> cases q <;> first | rfl | exact absurd ⟨rfl, rfl⟩ (h _ _)⟩
theorem o_gt : OpR X (compareOp .Gt) (rI0 fun i j => .bl (decide (j < i))) ∧ OpM X E (rI0 fun i j => .bl (decide (j < i))) gtM :=
  ⟨op_gt, opM_int (fun _ _ => rfl) fun p q S h => by cases p <;> cases q <;> first | rfl | exact absurd ⟨rfl, rfl⟩ (h _ _)⟩
theorem o_ge : OpR X (compareOp .GtE) (rI0 fun i j => .bl (decide (j ≤ i))) ∧ OpM X E (rI0 fun i j => .bl (decide (j ≤ i))) geM :=
  ⟨op_ge, opM_int (fun _ _ => rfl) fun p q S h => by cases p <;> cases q <;> first | rfl | exact absurd ⟨rfl, rfl⟩ (h _ _)⟩
theorem Rp.isN {K : PySem.W.Frag} {H : Hp} {μ : Mu} {v : V} {p : PV} (r : Rp K H μ v p) : decide (v = .non) = Pm.isN p := by cases r <;> rfl
theorem o_isN : OpR X (compareOp .Is) (fun x y H Q => y = .non ∧ Q (.bl (decide (x = .non))) H) ∧ OpM X E (fun x y H Q => y = .non ∧ Q (.bl (decide (x = .non))) H) (fun p q => match q with | .non => isNM p q | _ => stk) := by
  refine ⟨op_isN, ?_⟩
  intro v w p q H μ S Q rs rv rw' h
  cases rw' with
  | non => exact ⟨rfl, by rw [rv.isN]; exact now_ rs (.bl _) h⟩
  | _ => exact h.elim
theorem o_notN : OpR X (compareOp .IsNot) (fun x y H Q => y = .non ∧ Q (.bl (!decide (x = .non))) H) ∧ OpM X E (fun x y H Q => y = .non ∧ Q (.bl (!decide (x = .non))) H) (fun p q => match q with | .non => notNM p q | _ => stk) := by
  refine ⟨op_notN, ?_⟩
  intro v w p q H μ S Q rs rv rw' h
  cases rw' with
  | non => exact ⟨rfl, by rw [rv.isN]; exact now_ rs (.bl _) h⟩
  | _ => exact h.elim
theorem o_isB : OpR X (compareOp .Is) rIsB ∧ OpM X E rIsB isBM := by
  refine ⟨op_isBl, ?_⟩
  intro v w p q H μ S Q rs rv rw' h
  cases rv with
  | bl a =>
    cases rw' with
    | bl b => exact ⟨a, b, rfl, rfl, now_ rs (.bl _) h⟩
    | _ => exact h.elim
  | _ => exact h.elim
theorem o_notB : OpR X (compareOp .IsNot) rNotB ∧ OpM X E rNotB notBM := by
  refine ⟨op_notBl, ?_⟩
  intro v w p q H μ S Q rs rv rw' h
  cases rv with
  | bl a =>
    cases rw' with
    | bl b => exact ⟨a, b, rfl, rfl, now_ rs (.bl _) h⟩
    | _ => exact h.elim
  | _ => exact h.elim
def rOr (r t : R2) : R2 := fun v w H Q => r v w H Q ∨ t v w H Q
theorem opOr {f : Value → Value → Sem Value} {r t : R2} (h : OpR X f r) (k : OpR X f t) : OpR X f (rOr r t) := fun pins s σ H x y v u Q I rx ry q => q.elim (h pins s σ H x y v u Q I rx ry) (k pins s σ H x y v u Q I rx ry)
theorem two_of {v w : V} {p q : PV} {H : Hp} {μ : Mu} {b : Bool} (rv : Rp X.K H μ v p) (rw' : Rp X.K H μ w q) (e : twoStr p q = some b) : scal v w = true ∧ decide (v = w) = b := by
  unfold twoStr at e
  split at e
  · cases e
    cases rv with
    | str x => cases rw' with
      | str y => exact ⟨rfl, dec_str⟩
  · cases e
theorem eqD_of {v w : V} {p q : PV} {H : Hp} {μ : Mu} {S : Sto} {b : Bool} (rs : RelS X.K H μ S) (rv : Rp X.K H μ v p) (rw' : Rp X.K H μ w q) (e : eqD p q S = some b) : ∃ d e, Dp X.K H v d ∧ Dp X.K H w e ∧ SeqAt.shaped d = true ∧ SeqAt.shaped e = true ∧ PyData.eqv d e = b := by
  unfold eqD at e
  split at e
  · rename_i d e e1 e2
    split at e
    · rename_i sh
      cases e
      exact ⟨d, _, dataS_dp rs rv e1, dataS_dp rs rw' e2, sh.1, sh.2, rfl⟩
    · cases e
  · cases e
theorem o_eq (hu : X.A.units + 64 < cLine) : OpR X (compareOp .Eq) (rOr rEq (rEqD X.K)) ∧ OpM X E (rOr rEq (rEqD X.K)) eqM := by
  refine ⟨opOr op_eq (op_eqD hu), ?_⟩
  intro v w p q H μ S Q rs rv rw' h
  unfold eqM eqB at h
  cases et : twoStr p q with
  | some b =>
    rw [et] at h
    obtain ⟨h1, h2⟩ := two_of rv rw' et
    exact .inl ⟨h1, h2 ▸ now_ rs (.bl _) h⟩
  | none =>
    rw [et] at h
    cases ed : eqD p q S with
    | none => simp only [ed] at h; exact h.elim
    | some b =>
      simp only [ed] at h
      obtain ⟨d, e, d1, d2, s1, s2, eb⟩ := eqD_of rs rv rw' ed
      exact .inr ⟨d, e, d1, d2, s1, s2, eb ▸ now_ rs (.bl _) h⟩
theorem o_ne (hu : X.A.units + 64 < cLine) : OpR X (compareOp .NotEq) (rOr rNe (rNeD X.K)) ∧ OpM X E (rOr rNe (rNeD X.K)) neM := by
  refine ⟨opOr op_ne (op_neD hu), ?_⟩
  intro v w p q H μ S Q rs rv rw' h
  unfold neM eqB at h
  cases et : twoStr p q with
  | some b =>
    rw [et] at h
    obtain ⟨h1, h2⟩ := two_of rv rw' et
    exact .inl ⟨h1, h2 ▸ now_ rs (.bl _) h⟩
  | none =>
    rw [et] at h
    cases ed : eqD p q S with
    | none => simp only [ed] at h; exact h.elim
    | some b =>
      simp only [ed] at h
      obtain ⟨d, e, d1, d2, s1, s2, eb⟩ := eqD_of rs rv rw' ed
      exact .inr ⟨d, e, d1, d2, s1, s2, eb ▸ now_ rs (.bl _) h⟩
def rInX (neg : Bool) (K : PySem.W.Frag) : R2 := fun x y H Q => ∃ d ds, Dp K H x d ∧ (Dp K H y (.list ds) ∨ Dp K H y (.tuple ds)) ∧ SeqAt.shaped d = true ∧ SeqAt.shaped (.list ds) = true ∧ Q (.bl (if neg = true then !(ds.any fun z => PyData.eqv z d) else ds.any fun z => PyData.eqv z d)) H
theorem op_inX (hu : X.A.units + 65 < cLine) : OpR X (compareOp .In) (rInX false X.K) := by
  intro pins s σ H x y v u Q I rx ry h
  obtain ⟨d, ds, hd, he, sd, se, q⟩ := h
  obtain ⟨as, r1⟩ := Dp.reads I d x v hd rx
  rcases he with he | he
  · obtain ⟨bs, r2⟩ := Dp.reads I (.list ds) y u he ry
    exact SeqAt.in_list_reads r2 r1 (SeqAt.canLay_of_shaped se) (SeqAt.canLay_of_shaped sd) (PyProof.Rows.room_in_shaped sd hu) ⟨.bl _, H, I, rfl, q⟩
  · obtain ⟨bs, r2⟩ := Dp.reads I (.tuple ds) y u he ry
    exact SeqAt.in_tuple_reads r2 r1 (SeqAt.canLay_of_shaped se) (SeqAt.canLay_of_shaped sd) (PyProof.Rows.room_in_shaped sd hu) ⟨.bl _, H, I, rfl, q⟩
theorem op_notInX (hu : X.A.units + 65 < cLine) : OpR X (compareOp .NotIn) (rInX true X.K) := by
  intro pins s σ H x y v u Q I rx ry h
  obtain ⟨d, ds, hd, he, sd, se, q⟩ := h
  obtain ⟨as, r1⟩ := Dp.reads I d x v hd rx
  rcases he with he | he
  · obtain ⟨bs, r2⟩ := Dp.reads I (.list ds) y u he ry
    exact SeqAt.notIn_list_reads r2 r1 (SeqAt.canLay_of_shaped se) (SeqAt.canLay_of_shaped sd) (PyProof.Rows.room_in_shaped sd hu) ⟨.bl _, H, I, rfl, q⟩
  · obtain ⟨bs, r2⟩ := Dp.reads I (.tuple ds) y u he ry
    exact SeqAt.notIn_tuple_reads r2 r1 (SeqAt.canLay_of_shaped se) (SeqAt.canLay_of_shaped sd) (PyProof.Rows.room_in_shaped sd hu) ⟨.bl _, H, I, rfl, q⟩
theorem in_of {neg : Bool} {v w : V} {p q : PV} {H : Hp} {μ : Mu} {S : Sto} {b : Bool} {Q : VK} (rs : RelS X.K H μ S) (rv : Rp X.K H μ v p) (rw' : Rp X.K H μ w q) (e : inB p q S = some b) (h : Q (.bl (if neg = true then !b else b)) H) :
    rIn X.K neg v w H Q ∨ rInX neg X.K v w H Q := by
  have gen : ∀ {q : PV}, Rp X.K H μ w q → (match dataS p S, dataS q S with
    | some d, some (.list ds) => if SeqAt.shaped d = true ∧ SeqAt.shaped (.list ds) = true then some (ds.any fun z => PyData.eqv z d) else none
    | _, _ => none) = some b → rInX neg X.K v w H Q := by
    intro q rw' e
    split at e
    · rename_i d ds e1 e2
      split at e
      · rename_i sh
        cases e
        exact ⟨d, ds, dataS_dp rs rv e1, .inl (dataS_dp rs rw' e2), sh.1, sh.2, h⟩
      · cases e
    · cases e
  cases rw' with
  | @tup a vs ps hq r =>
    simp only [inB] at e
    split at e
    · rename_i b' ef
      cases e
      unfold inFl at ef
      split at ef
      · rename_i x xs e1 e2
        cases ef
        obtain ⟨q1, f1⟩ := rv.flat e1
        obtain ⟨q2, f2⟩ := r.flat e2
        subst q1 q2
        exact .inl ⟨a, vs, rfl, .inr hq, f1, f2, h⟩
      · cases ef
    · split at e
      · rename_i d ds e1 e2
        split at e
        · rename_i sh
          cases e
          exact .inr ⟨d, ds, dataS_dp rs rv e1, .inr (dataS_dp rs (.tup hq r) e2), sh.1, sh.2, h⟩
        · cases e
      · cases e
  | non => exact .inr (gen .non e)
  | bl b' => exact .inr (gen (.bl b') e)
  | int i => exact .inr (gen (.int i) e)
  | str x => exact .inr (gen (.str x) e)
  | lst n h1 r => exact .inr (gen (.lst n h1 r) e)
  | frz h1 r => exact .inr (gen (.frz h1 r) e)
  | loc h1 => exact .inr (gen (.loc h1) e)
  | dct h1 h2 => exact .inr (gen (.dct h1 h2) e)
theorem o_in (hu : X.A.units + 65 < cLine) : OpR X (compareOp .In) (fun x y H Q => rIn X.K false x y H Q ∨ rInX false X.K x y H Q) ∧ OpM X E (fun x y H Q => rIn X.K false x y H Q ∨ rInX false X.K x y H Q) inM := by
  refine ⟨op_in_seq.or (op_inX hu), ?_⟩
  intro v w p q H μ S Q rs rv rw' h
  unfold inM at h
  split at h
  · rename_i b e
    exact in_of (neg := false) rs rv rw' e (now_ rs (.bl _) h)
  · exact h.elim
theorem o_nin (hu : X.A.units + 65 < cLine) : OpR X (compareOp .NotIn) (fun x y H Q => rIn X.K true x y H Q ∨ rInX true X.K x y H Q) ∧ OpM X E (fun x y H Q => rIn X.K true x y H Q ∨ rInX true X.K x y H Q) ninM := by
  refine ⟨op_notIn_seq.or (op_notInX hu), ?_⟩
  intro v w p q H μ S Q rs rv rw' h
  unfold ninM at h
  split at h
  · rename_i b e
    exact in_of (neg := true) rs rv rw' e (now_ rs (.bl _) h)
  · exact h.elim

/-! ## subscripts, slices -/
theorem ixN_len {n : Nat} {i : Int} {j : Nat} (h : ixN n i = some j) : j < n := (ixN_seq h).2.1
theorem atI_rp {K : PySem.W.Frag} {H : Hp} {μ : Mu} {vs : List V} {ps : List PV} {i : Int} {p : PV} (r : RpL K H μ vs ps) (e : atI ps i = some p) : ∃ v, atI vs i = some v ∧ Rp K H μ v p := by
  unfold atI at e ⊢
  rw [r.length]
  cases q : ixN ps.length i with
  | none => rw [q] at e; cases e
  | some j =>
    rw [q] at e
    obtain ⟨v, e1, r1⟩ := r.get (show ps[j]? = some p from e)
    exact ⟨v, e1, r1⟩
variable {a b : Expr} {m n : ED} {pos p2 : Pos}
theorem ix_opM : OpM X E (rIx X.K) ixM := by
  intro v w p q H μ S Q rs rv rw' h
  have gen : ∀ {p : PV} {i : Int}, Rp X.K H μ v p → Post X.K X.mg E H μ (match asL p S with
    | some xs => match atI xs i with
      | some p => .ok p S
      | none => .stuck
    | none => .stuck) (kE X.K Q) → rIxL X.K v (.int i) H Q := by
    intro p i rv h
    split at h
    · rename_i xs e1
      split at h
      · rename_i z e2
        obtain ⟨a, vs, rfl, hq, r⟩ := asL_ok e1 rs rv
        obtain ⟨u, e3, r3⟩ := atI_rp r e2
        exact ⟨a, vs, i, u, rfl, rfl, hq, e3, now_ rs r3 h⟩
      · exact h.elim
    · exact h.elim
  cases rv with
  | @tup a vs ps hq r =>
    cases rw' with
    | int i =>
      unfold ixM at h
      simp only at h
      split at h
      · rename_i z e2
        obtain ⟨u, e3, r3⟩ := atI_rp r e2
        exact .inr (.inl ⟨a, vs, i, u, rfl, rfl, hq, e3, now_ rs r3 h⟩)
      · exact h.elim
    | _ => exact h.elim
  | str z =>
    cases rw' with
    | int i =>
      unfold ixM at h
      simp only at h
      obtain ⟨hl, h⟩ := iff_post h
      split at h
      · rename_i c e2
        exact .inr (.inr ⟨z, i, c, rfl, rfl, lim_le hl, e2, now_ rs (.str _) h⟩)
      · exact h.elim
    | _ => exact h.elim
  | lst n h1 r => cases rw' with
    | int i => exact .inl (gen (.lst n h1 r) h)
    | _ => exact h.elim
  | frz h1 r => cases rw' with
    | int i => exact .inl (gen (.frz h1 r) h)
    | _ => exact h.elim
  | loc h1 => cases rw' with
    | int i => exact .inl (gen (.loc h1) h)
    | _ => exact h.elim
  | dct h1 h2 => cases rw' with
    | int i => exact .inl (gen (.dct h1 h2) h)
    | _ => exact h.elim
  | non => cases rw' with
    | int i => exact .inl (gen .non h)
    | _ => exact h.elim
  | bl b => cases rw' with
    | int i => exact .inl (gen (.bl b) h)
    | _ => exact h.elim
  | int k => cases rw' with
    | int i => exact .inl (gen (.int k) h)
    | _ => exact h.elim
theorem pm_ix (ha : PM X E a m) (hb : PM X E b n) (hs : PlainIx b := by exact fun _ _ => rfl) : PM X E (.Subscript a b pos) (dOp ixM m n) :=
  PE.imp (pe_ix ix_seq ha hb hs) fun σ H Q h => tOp_of ix_opM h
def tO (K : PySem.W.Frag) (mg : Str → Option Value) (E : XK) (m : OD) : TO := fun σ H Q => ∃ ρ S μ, RelE K H μ σ ρ ∧ RelS K H μ S ∧ Post K mg E H μ (m ρ S) (fun o _ H' _ => Q o H')
theorem PO.imp {e : Option Expr} {t t' : TO} (h : PO X e t) (q : ∀ σ H Q, t' σ H Q → t σ H Q) : PO X e t' := ⟨fun pins s σ H Q I w => h.run pins s σ H Q I (q σ H Q w)⟩
theorem pmo_none : PO X none (tO X.K X.mg E oNone) := PO.imp po_none fun σ H Q ⟨ρ, S, μ, re, rs, h⟩ => h H μ .refl rs
theorem pmo_some (h : PM X E a m) : PO X (some a) (tO X.K X.mg E (oSome m)) := by
  refine PO.imp (po_some h) fun σ H Q ⟨ρ, S, μ, re, rs, h⟩ => ?_
  refine stepE re rs h fun v p S1 H1 μ1 re1 rs1 rv g1 h1 => ?_
  cases rv with
  | int i => exact ⟨i, rfl, h1 H1 μ1 .refl rs1⟩
  | _ => exact h1.elim
theorem cut_rp {K : PySem.W.Frag} {H : Hp} {μ : Mu} {vs : List V} {ps : List PV} (r : RpL K H μ vs ps) (lo hi : Option Int) : RpL K H μ (cutV vs lo hi) (cutP ps lo hi) := by
  unfold cutV cutP
  rw [r.length]
  exact (r.drop _).take _
theorem stepO {β : Type} {m : OD} {ρ : Rho} {σ : L2.St} {H : Hp} {μ : Mu} {S : Sto} {f : Option Int → M β} {k : β → Sto → Hp → Mu → Prop} {Q : Option Int → Hp → Prop} (re : RelE X.K H μ σ ρ) (rs : RelS X.K H μ S) (h : Post X.K X.mg E H μ (bnd (m ρ) f S) k)
    (hq : ∀ o S1 H1 μ1, RelE X.K H1 μ1 σ ρ → RelS X.K H1 μ1 S1 → Grow H μ H1 μ1 → Post X.K X.mg E H1 μ1 (f o S1) k → Q o H1) : tO X.K X.mg E m σ H Q :=
  ⟨ρ, S, μ, re, rs, h.bnd.mono fun b S1 H1 μ1 g r q => hq b S1 H1 μ1 (re.grow g) r g q⟩
theorem pm_sl {lo hi : Option Expr} {ml mh : OD} (ha : PM X E a m) (hl : PO X lo (tO X.K X.mg E ml)) (hh : PO X hi (tO X.K X.mg E mh)) : PM X E (.Subscript a (.Slice lo hi none p2) pos) (dSl m ml mh) := by
  refine PE.imp (pe_slice (SlR.or sl_tupA sl_list) ha hl hh) fun σ H Q ⟨ρ, S, μ, re, rs, h⟩ => ?_
  refine stepE re rs h fun v p S1 H1 μ1 re1 rs1 rv g1 h1 => ?_
  refine stepO re1 rs1 h1 fun l S2 H2 μ2 re2 rs2 g2 h2 => ?_
  refine stepO re2 rs2 h2 fun u S3 H3 μ3 re3 rs3 g3 h3 => ?_
  have rv3 := (rv.grow g2).grow g3
  have gen : ∀ {p : PV}, Rp X.K H3 μ3 v p → Post X.K X.mg E H3 μ3 (match asL p S3 with
    | some xs => .ok (.lst (cutP xs l u)) S3
    | none => .stuck) (kE X.K Q) → rSlL X.K v l u H3 Q := by
    intro p rv h
    split at h
    · rename_i xs e1
      obtain ⟨a, vs, rfl, hq, r⟩ := asL_ok e1 rs3 rv
      exact ⟨a, vs, rfl, hq, fun p hp => new_lst rs3 (cut_rp r l u) h p hp⟩
    · exact h.elim
  cases rv3 with
  | @tup a vs ps hq r =>
    refine .inl ⟨a, vs, rfl, hq, fun ⟨e1, e2⟩ => ?_, fun _ p hp => new_tup rs3 (cut_rp r l u) h3 p hp⟩
    have ec : cutP ps l u = ps := by
      unfold cutP
      rw [← r.length, e1, e2, List.drop_zero, Nat.sub_zero, r.length, List.take_length]
    have h3' : Post X.K X.mg E H3 μ3 (.ok (.tup (cutP ps l u)) S3) (kE X.K Q) := h3
    rw [ec] at h3'
    exact now_ rs3 (.tup hq r) h3'
  | non => exact .inr (gen .non h3)
  | bl b => exact .inr (gen (.bl b) h3)
  | int k => exact .inr (gen (.int k) h3)
  | str k => exact .inr (gen (.str k) h3)
  | lst n z1 r => exact .inr (gen (.lst n z1 r) h3)
  | frz z1 r => exact .inr (gen (.frz z1 r) h3)
  | loc z1 => exact .inr (gen (.loc z1) h3)
  | dct z1 z2 => exact .inr (gen (.dct z1 z2) h3)
end
end Pm

namespace Pm
open PySem PySem.Spec L2
section
variable {prog : Program} {w : World} {A : Around} {E : Value → Shared → Prop}
theorem draw_list {it l : Addr} {items : Array Value} (hne : l ≠ it) : ∀ (n i : Nat) (s : Shared) (Q : List Value → Shared → Prop), s.heap.IsListIter it l i → s.heap.IsList l items → i + n ≤ items.size →
    (∀ h' : Heap, h'.IsListIter it l (i + n) → Heap.SameBut it s.heap h' → Q ((items.toList.drop i).take n) { s with heap := h' }) → wpAny (model prog w) A (draw (.ref it) n) Q E s
  | 0, i, s, Q, hit, _, _, hQ => by
    show wpAny _ _ (pure []) Q E s
    exact wpAny_pure (by simpa using hQ s.heap hit (Heap.SameBut.refl ..))
  | n + 1, i, s, Q, hit, ht, hle, hQ => by
    have hlt : i < items.size := by omega
    show wpAny _ _ (pyNext (.ref it) >>= _) Q E s
    refine wpAny_bind (wpAny_pyNext_list_item hit ht (x := items[i]) (by simp [hlt]) fun h₁ hit₁ hs₁ => ?_)
    refine wpAny_bind (wpAny_holding (draw_list hne n (i + 1) _ _ hit₁ (ht.extBut hs₁.extBut hne) (by omega) fun h₂ hit₂ hs₂ => wpAny_pure ?_))
    have hd : items.toList.drop i = items[i] :: items.toList.drop (i + 1) := by simp [List.drop_eq_getElem_cons, hlt]
    have := hQ h₂ (by rw [show i + (n + 1) = i + 1 + n by omega]; exact hit₂) (hs₁.trans hs₂)
    rw [hd, List.take_succ_cons] at this
    exact this
theorem unpackItems_list {s : Shared} {l : Addr} {items : Array Value} {Q : List Value → Shared → Prop} (hh : A.handled = none) (ht : s.heap.IsList l items)
    (hQ : ∀ h', Heap.ExtBut s.heap.objs.size s.heap h' → Q items.toList { s with heap := h' }) : wpAny (model prog w) A (unpackItems (.ref l) items.size none) Q E s := by
  have hlt : l ≠ s.heap.objs.size := by obtain ⟨o, ho, _⟩ := ht; exact Nat.ne_of_lt (Heap.lt_size ho)
  unfold unpackItems
  refine wpAny_bind ?_
  unfold notIterableAtAll
  refine wpAny_bind (wpAny_specialOf ht.typeIs slot_list_iter.lookup ?_)
  refine wpAny_pure ?_
  simp only [Bool.false_eq_true, if_false]
  refine wpAny_bind (wpAny_holding (wpAny_pyIter_list ht ?_))
  refine wpAny_bind (wpAny_holding (draw_list hlt items.size 0 _ _ ⟨_, Heap.get?_push_size _ rfl, rfl, rfl⟩ (ht.push _) (by omega) fun h₁ hit₁ hs₁ => ?_))
  have hall : List.take items.size (List.drop 0 items.toList) = items.toList := by
    rw [List.drop_zero]; exact List.take_of_length_le (by simp)
  rw [hall]
  rw [if_neg (by simp)]
  have ht₁ : h₁.IsList l items := (ht.push _).extBut hs₁.extBut hlt
  refine wpAny_bind (wpAny_holding (wpAny_pyNext_list_end hh hit₁ ht₁ (by simp) fun h₂ he₂ => ?_))
  simp only [Option.isSome_none, Bool.false_eq_true, if_false]
  exact wpAny_pure (hQ h₂ fun b o hb e => he₂ b o hb (hs₁.extBut b o hb (Heap.get?_push_of_some _ e)))
end
section
variable {X : Cx} {pos : Pos}
theorem assign_Tuple_list {prog : Program} {w : World} {A : Around} {E : Value → Shared → Prop} {s : Shared} {env : Env} {elts : List Expr} {x1} {pos : Pos} {t : Addr} {items : Array Value} {Q : Unit → Shared → Prop} (hh : A.handled = none) (ht : s.heap.IsList t items)
    (hn : (assignEach elts env).length = items.size) (hstar : (assignEach elts env).findIdx? (·.1) = none)
    (h : ∀ h', Heap.ExtBut s.heap.objs.size s.heap h' → wpAny (model prog w) A (assignInOrder ((assignEach elts env).map (·.2)) items.toList) Q E { s with heap := h' }) :
    wpAny (model prog w) A (assign (.Tuple elts x1 pos) env (.ref t)) Q E s := by
  rw [PyProof.Rows.assign_Tuple]
  refine wpAny_bind (wpAny_standAt ?_)
  unfold unpack
  rw [hn, hstar]
  exact wpAny_bind (wpAny_holding (unpackItems_list hh ht h))
/-- (a, b, ..) = a tuple or a list of that length -/
def gTupE (K : PySem.W.Frag) (n : Nat) (t : TGs) : TG := fun v σ H Q => ∃ a xs, v = .ref a ∧ (SqT K H a xs ∨ SqL K H a xs) ∧ xs.length = n ∧ t xs σ H Q
theorem pg_tupE {es : List Expr} {k : Nat} {t : TGs} {n : Nat} (hc : X.calm = true) (h : PGs X es t)
    (hn : (assignEach es X.env).length = n := by rfl) (hst : (assignEach es X.env).findIdx? (·.1) = none := by rfl) : PG X (.Tuple es k pos) (gTupE X.K n t) := by
  refine ⟨fun pins s σ H v u Q I r hw => ?_⟩
  obtain ⟨a, xs, e1, hq, hl, hw⟩ := hw
  subst e1
  cases r
  rcases hq with hq | hq
  · obtain ⟨its, rv, ht, hz⟩ := I.tuple hq
    refine PyProof.Rows.assign_Tuple_tuple (I.ok.hd hc) ht (by simp [hn, ← hl, rv.length]) hst fun h' hx => ?_
    have I1 : Inv X pins σ H { s with heap := h' } := I.kept (t' := s.toks) fun b o e => hx b o (Nat.ne_of_lt (Heap.lt_size e)) e
    exact h.run pins _ σ H xs _ Q I1 (by simpa using rv) hw
  · obtain ⟨its, rv, pl, hz⟩ := I.list hq
    refine assign_Tuple_list (I.ok.hd hc) pl.isList (by simp [hn, ← hl, rv.length]) hst fun h' hx => ?_
    have I1 : Inv X pins σ H { s with heap := h' } := I.kept (t' := s.toks) fun b o e => hx b o (Nat.ne_of_lt (Heap.lt_size e)) e
    exact h.run pins _ σ H xs _ Q I1 (by simpa using rv) hw
end

/-! ## statements -/
inductive Fl where
  | nx (ρ : Rho) | rt (p : PV) | bk (ρ : Rho) | ct (ρ : Rho)
abbrev SD := Rho → M Fl
section
variable (K : PySem.W.Frag) (mg : Str → Option Value) (E : XK)
def kS (D : Ends) : Fl → Sto → Hp → Mu → Prop := fun f _ H' μ' => match f with
  | .nx ρ' => ∀ σ', RelE K H' μ' σ' ρ' → D.nx σ' H'
  | .rt p => ∀ v, Rp K H' μ' v p → D.rt v H'
  | .bk ρ' => ∀ σ', RelE K H' μ' σ' ρ' → D.bk σ' H'
  | .ct ρ' => ∀ σ', RelE K H' μ' σ' ρ' → D.ct σ' H'
def tS (d : SD) : TS := fun D σ H => ∃ ρ S μ, RelE K H μ σ ρ ∧ RelS K H μ S ∧ Post K mg E H μ (d ρ S) (kS K D)
end
def sNil : SD := fun ρ S => .ok (.nx ρ) S
def sSeq (d f : SD) : SD := fun ρ => bnd (d ρ) fun r => match r with
  | .nx ρ' => f ρ'
  | r => ret r
def sRet (m : ED) : SD := fun ρ => bnd (m ρ) fun p => ret (.rt p)
def sRetN : SD := fun _ S => .ok (.rt .non) S
def sExpr (m : ED) : SD := fun ρ => bnd (m ρ) fun _ => ret (.nx ρ)
def sIf (c : BD) (d f : SD) : SD := fun ρ => bnd (c ρ) fun b => if b = true then d ρ else f ρ
def sBrk : SD := fun ρ S => .ok (.bk ρ) S
def sCt : SD := fun ρ S => .ok (.ct ρ) S
/-- a target: what it makes of the names -/
abbrev GD := PV → Rho → M Rho
def gName (i : Nat) : GD := fun p ρ S => .ok (ρ.set i (some p)) S
def sAsg (m : ED) (g : GD) : SD := fun ρ => bnd (m ρ) fun p => bnd (g p ρ) fun ρ' => ret (.nx ρ')
abbrev GDs := List PV → Rho → M Rho
def gsNil : GDs := fun ps ρ S => match ps with
  | [] => .ok ρ S
  | _ => .stuck
def gsCons (g : GD) (gs : GDs) : GDs := fun ps ρ => match ps with
  | p :: ps => bnd (g p ρ) fun ρ' => gs ps ρ'
  | [] => stk
def gTup (n : Nat) (gs : GDs) : GD := fun p ρ => match p with
  | .tup ps => if ps.length = n then gs ps ρ else stk
  | .lst ps => if ps.length = n then gs ps ρ else stk
  | _ => stk
/-- a list that is unpacked -/
def gLst (n : Nat) (gs : GDs) : GD := fun p ρ => match p with
  | .lst ps => if ps.length = n then gs ps ρ else stk
  | _ => stk
/-- o[i] = v, o a list of the store -/
def gSub (mo mi : ED) : GD := fun p ρ => bnd (mo ρ) fun o => bnd (mi ρ) fun i => fun S => match o, i with
  | .loc n, .int k => match S[n]? with
    | some (.lst xs) => match ixN xs.length k with
      | some j => .ok ρ (S.set n (.lst (xs.set j p)))
      | none => .stuck
    | _ => .stuck
  | _, _ => .stuck
def sPar (i j : Nat) (as : AD) : SD := fun ρ => bnd (as ρ) fun ps => match ps with
  | [p, q] => ret (.nx ((ρ.set i (some p)).set j (some q)))
  | _ => stk
def sPar3 (i j l : Nat) (as : AD) : SD := fun ρ => bnd (as ρ) fun ps => match ps with
  | [p, q, r] => ret (.nx (((ρ.set i (some p)).set j (some q)).set l (some r)))
  | _ => stk
section
variable {X : Cx} {E : XK} {e c : Expr} {es : List Expr} {m n : ED} {as : AD} {d f : SD} {st : Stmt} {sts : List Stmt} {pos : Pos}
abbrev PMS (X : Cx) (E : XK) (st : Stmt) (d : SD) : Prop := PS X st (tS X.K X.mg E d)
abbrev PMB (X : Cx) (E : XK) (st : List Stmt) (d : SD) : Prop := PSs X st (tS X.K X.mg E d)
theorem pmb_nil : PMB X E [] sNil := PSs.imp pss_nil fun D σ H ⟨ρ, S, μ, re, rs, h⟩ => h H μ .refl rs σ re
theorem seq_of {D : Ends} {H : Hp} {μ : Mu} {S : Sto} {ρ : Rho} (h : Post X.K X.mg E H μ (sSeq d f ρ S) (kS X.K D)) : Post X.K X.mg E H μ (d ρ S) (kS X.K { D with nx := fun σ' H' => tS X.K X.mg E f D σ' H' }) := by
  refine h.bnd.mono fun r S1 H1 μ1 g r1 q => ?_
  cases r with
  | nx ρ' => exact fun σ' re => ⟨ρ', S1, μ1, re, r1, q⟩
  | rt p => exact q H1 μ1 .refl r1
  | bk ρ' => exact q H1 μ1 .refl r1
  | ct ρ' => exact q H1 μ1 .refl r1
theorem pmb_cons (h1 : PMS X E st d) (h2 : PMB X E sts f) : PMB X E (st :: sts) (sSeq d f) :=
  PSs.imp (pss_cons h1 h2) fun D σ H ⟨ρ, S, μ, re, rs, h⟩ => ⟨ρ, S, μ, re, rs, seq_of h⟩
theorem pmb_one (h1 : PMS X E st d) : PMB X E [st] d := pss_one h1
theorem pms_ret (he : PM X E e m) : PMS X E (.Return (some e) pos) (sRet m) := by
  refine PS.imp (ps_ret he) fun D σ H ⟨ρ, S, μ, re, rs, h⟩ => ?_
  exact stepE re rs h fun v p S1 H1 μ1 re1 rs1 rv g1 h1 => h1 H1 μ1 .refl rs1 v rv
theorem pms_retN : PMS X E (.Return none pos) sRetN := PS.imp ps_retN fun D σ H ⟨ρ, S, μ, re, rs, h⟩ => h H μ .refl rs _ .non
theorem pms_pass : PMS X E (.Pass pos) sNil := PS.imp ps_pass fun D σ H ⟨ρ, S, μ, re, rs, h⟩ => h H μ .refl rs σ re
theorem pms_brk : PMS X E (.Break pos) sBrk := PS.imp ps_break fun D σ H ⟨ρ, S, μ, re, rs, h⟩ => h H μ .refl rs σ re
theorem pms_ct : PMS X E (.Continue pos) sCt := PS.imp ps_continue fun D σ H ⟨ρ, S, μ, re, rs, h⟩ => h H μ .refl rs σ re
theorem pms_expr (he : PM X E e m) (hs : swapsWith e none pos.line X.env = pure false := by rfl) : PMS X E (.Expr e pos) (sExpr m) := by
  refine PS.imp (ps_expr he hs) fun D σ H ⟨ρ, S, μ, re, rs, h⟩ => ?_
  exact stepE re rs h fun v p S1 H1 μ1 re1 rs1 rv g1 h1 => h1 H1 μ1 .refl rs1 σ re1
theorem pms_if {b : BD} {p q : List Stmt} (hc : PB X E c b) (ha : PMB X E p d) (hb : PMB X E q f) : PMS X E (.If c p q pos) (sIf b d f) := by
  refine PS.imp (ps_if hc ha hb) fun D σ H ⟨ρ, S, μ, re, rs, h⟩ => ?_
  refine stepT re rs h fun k S1 H1 μ1 re1 rs1 g1 h1 => ?_
  by_cases hk : k = true
  · rw [if_pos hk] at h1 ⊢; exact ⟨ρ, S1, μ1, re1, rs1, h1⟩
  · rw [if_neg hk] at h1 ⊢; exact ⟨ρ, S1, μ1, re1, rs1, h1⟩
/-! ### targets -/
def tG (K : PySem.W.Frag) (mg : Str → Option Value) (E : XK) (g : GD) : TG := fun v σ H Q => ∃ ρ S μ p, RelE K H μ σ ρ ∧ RelS K H μ S ∧ Rp K H μ v p ∧ Post K mg E H μ (g p ρ S) (fun ρ' _ H' μ' => ∀ σ', RelE K H' μ' σ' ρ' → Q σ' H')
def tGs (K : PySem.W.Frag) (mg : Str → Option Value) (E : XK) (g : GDs) : TGs := fun vs σ H Q => ∃ ρ S μ ps, RelE K H μ σ ρ ∧ RelS K H μ S ∧ RpL K H μ vs ps ∧ Post K mg E H μ (g ps ρ S) (fun ρ' _ H' μ' => ∀ σ', RelE K H' μ' σ' ρ' → Q σ' H')
theorem PG.imp {e : Expr} {t t' : TG} (h : PG X e t) (q : ∀ v σ H Q, t' v σ H Q → t v σ H Q) : PG X e t' := ⟨fun pins s σ H v u Q I r w => h.run pins s σ H v u Q I r (q v σ H Q w)⟩
theorem PGs.imp {es : List Expr} {t t' : TGs} (h : PGs X es t) (q : ∀ v σ H Q, t' v σ H Q → t v σ H Q) : PGs X es t' := ⟨fun pins s σ H v u Q I r w => h.run pins s σ H v u Q I r (q v σ H Q w)⟩
theorem PI.imp {tg e : Expr} {t t' : TI} (h : PI X tg e t) (q : ∀ σ H R, t' σ H R → t σ H R) : PI X tg e t' := ⟨fun pins s σ H R I w => h.run pins s σ H R I (q σ H R w)⟩
abbrev PMG (X : Cx) (E : XK) (e : Expr) (g : GD) : Prop := PG X e (tG X.K X.mg E g)
abbrev PMGs (X : Cx) (E : XK) (es : List Expr) (g : GDs) : Prop := PGs X es (tGs X.K X.mg E g)
theorem pmg_name (i : Nat) {x : Str} (hN : X.N.Nodup) (hi : X.N[i]? = some x := by rfl) (hx : Loc X.env.scope x := by first | exact Or.inl rfl | exact Or.inr rfl) (hf : X.fn x = true ∨ X.env.scope.names.lookup x = some .local := by first | exact .inl rfl | exact .inr rfl | assumption) : PMG X E (.Name x pos) (gName i) := by
  refine PG.imp (pg_name hN hi hx hf) fun v σ H Q ⟨ρ, S, μ, p, re, rs, rv, h⟩ => ?_
  exact h H μ .refl rs _ (re.set rv i)
theorem pmgs_nil : PMGs X E [] gsNil := by
  refine PGs.imp pgs_nil fun vs σ H Q ⟨ρ, S, μ, ps, re, rs, rv, h⟩ => ?_
  cases rv with
  | nil => exact ⟨rfl, h H μ .refl rs σ re⟩
  | cons _ _ => exact h.elim
theorem pmgs_cons {g : GD} {gs : GDs} (h1 : PMG X E e g) (h2 : PMGs X E es gs) (hs : (assignEach (e :: es) X.env).map (·.2) = assign e X.env :: (assignEach es X.env).map (·.2) := by rfl) : PMGs X E (e :: es) (gsCons g gs) := by
  refine PGs.imp (pgs_cons h1 h2 hs) fun vs σ H Q ⟨ρ, S, μ, ps, re, rs, rv, h⟩ => ?_
  cases rv with
  | nil => exact h.elim
  | @cons v vs p ps r t =>
    refine ⟨v, vs, rfl, ρ, S, μ, p, re, rs, r, h.bnd.mono fun ρ' S1 H1 μ1 g1 r1 q σ' re' => ?_⟩
    exact ⟨ρ', S1, μ1, ps, re', r1, t.grow g1, q⟩
theorem pmg_tup {k : Nat} {gs : GDs} {n : Nat} (hc : X.calm = true) (h : PMGs X E es gs) (hn : (assignEach es X.env).length = n := by rfl) (hst : (assignEach es X.env).findIdx? (·.1) = none := by rfl) : PMG X E (.Tuple es k pos) (gTup n gs) := by
  refine PG.imp (pg_tupE hc h hn hst) fun v σ H Q ⟨ρ, S, μ, p, re, rs, rv, h⟩ => ?_
  cases rv with
  | @tup a vs ps hq r =>
    unfold gTup at h
    simp only at h
    by_cases hl : ps.length = n
    · rw [if_pos hl] at h
      exact ⟨a, vs, rfl, .inl hq, r.length.trans hl, ρ, S, μ, ps, re, rs, r, h⟩
    · rw [if_neg hl] at h; exact h.elim
  | @lst a vs ps hn2 hq r =>
    unfold gTup at h
    simp only at h
    by_cases hl : ps.length = n
    · rw [if_pos hl] at h
      exact ⟨a, vs, rfl, .inr (SqL.of hq), r.length.trans hl, ρ, S, μ, ps, re, rs, r, h⟩
    · rw [if_neg hl] at h; exact h.elim
  | _ => exact h.elim
theorem pmg_sub {o i : Expr} {mo mi : ED} (ho : PM X E o mo) (hi : PM X E i mi)
    (ha : ∀ v, assign (.Subscript o i pos) X.env v = (do
      let ov ← holding [v] (eval o X.env)
      let iv ← holding [v, ov] (eval i X.env)
      standAt pos
      holding [v, ov, iv] (setItem ov iv v)
      release [v, ov, iv] []) := by intro _; rfl) : PMG X E (.Subscript o i pos) (gSub mo mi) := by
  refine PG.imp (pg_sub ho hi set_list ha) fun v σ H Q ⟨ρ, S, μ, p, re, rs, rv, h⟩ => ?_
  refine stepE re rs h fun ov op S1 H1 μ1 re1 rs1 ro g1 h1 => ?_
  refine stepE re1 rs1 h1 fun iv ip S2 H2 μ2 re2 rs2 ri g2 h2 => ?_
  have ro2 := ro.grow g2
  have rv2 := (rv.grow g1).grow g2
  cases ro2 with
  | @loc a n hn =>
    cases ri with
    | int k =>
      simp only at h2
      split at h2
      · rename_i xs q
        split at h2
        · rename_i j qj
          obtain ⟨vs, hv, rl⟩ := rs2.at_ n _ a q hn
          refine ⟨a, vs, k, j, rfl, rfl, hv, by rw [rl.length]; exact qj, ?_⟩
          have g := grow_put (o := .lst (vs.set j v)) rs2 hn
          exact h2 _ _ g (rs2.put hn (rl.set rv2 j)) σ (re2.grow g)
        · exact h2.elim
      · exact h2.elim
    | _ => exact h2.elim
  | _ => exact h2.elim
theorem pms_asg {tg : Expr} {g : GD} (he : PM X E e m) (hg : PMG X E tg g) (hs : swapsWithSole [tg] e pos.line X.env = pure false := by rfl) (hw : swappedStores [tg] e X.env = pure none := by rfl)
    (h1 : (assignEach [tg] X.env).map (·.2) = [assign tg X.env] := by rfl) : PMS X E (.Assign [tg] e pos) (sAsg m g) := by
  refine PS.imp (ps_asg he hg hs hw h1) fun D σ H ⟨ρ, S, μ, re, rs, h⟩ => ?_
  refine stepE re rs h fun v p S1 H1 μ1 re1 rs1 rv g1 h1 => ?_
  exact ⟨ρ, S1, μ1, p, re1, rs1, rv, h1.bnd.mono fun ρ' S2 H2 μ2 g2 r2 q σ' re' => q H2 μ2 .refl r2 σ' re'⟩
theorem pms_set (i : Nat) {x : Str} {pos' : Pos} (hN : X.N.Nodup) (he : PM X E e m) (hi : X.N[i]? = some x := by rfl) (hx : Loc X.env.scope x := by first | exact Or.inl rfl | exact Or.inr rfl) (hs : swapsWith e (some (.Name x pos')) pos.line X.env = pure false := by rfl) (hf : X.fn x = true ∨ X.env.scope.names.lookup x = some .local := by first | exact .inl rfl | exact .inr rfl | assumption) :
    PMS X E (.Assign [.Name x pos'] e pos) (sAsg m (gName i)) := by
  refine PS.imp (ps_set hN hi hx he hs hf) fun D σ H ⟨ρ, S, μ, re, rs, h⟩ => ?_
  refine stepE re rs h fun v p S1 H1 μ1 re1 rs1 rv g1 h1 => ?_
  exact h1 H1 μ1 .refl rs1 _ (re1.set rv i)
theorem pms_par {i j : Nat} {x y : Str} {a b : Expr} {px py pt : Pos} {kt k2 pt2} (hc : X.calm = true) (hN : X.N.Nodup) (ha : PAs X E [a, b] as) (hi : X.N[i]? = some x := by rfl) (hj : X.N[j]? = some y := by rfl) (hij : i ≠ j := by decide)
    (hx : X.env.scope.names.lookup x = some .local := by rfl) (hy : X.env.scope.names.lookup y = some .local := by rfl)
    (hw : swappedStores [.Tuple [.Name x px, .Name y py] kt pt] (.Tuple [a, b] k2 pt2) X.env = pure (some [x, y]) := by rfl)
    (hs : swapsWithSole [.Tuple [.Name x px, .Name y py] kt pt] (.Tuple [a, b] k2 pt2) pos.line X.env = pure false := by rfl) :
    PMS X E (.Assign [.Tuple [.Name x px, .Name y py] kt pt] (.Tuple [a, b] k2 pt2) pos) (sPar i j as) := by
  refine PS.imp (ps_par hc hN hi hj hij hx hy ha hw hs) fun D σ H ⟨ρ, S, μ, re, rs, h⟩ => ?_
  refine stepA re rs h fun vs ps S1 H1 μ1 re1 rs1 rv g1 h1 => ?_
  cases rv with
  | nil => exact h1.elim
  | cons r t => cases t with
    | nil => exact h1.elim
    | cons r2 t2 => cases t2 with
      | nil => exact ⟨_, _, rfl, h1 H1 μ1 .refl rs1 _ ((re1.set r i).set r2 j)⟩
      | cons _ _ => exact h1.elim
theorem pms_par3 {i j l : Nat} {x y z : Str} {a b c : Expr} {px py pz pt : Pos} {kt k2 pt2} (hc : X.calm = true) (hN : X.N.Nodup) (ha : PAs X E [a, b, c] as) (hi : X.N[i]? = some x := by rfl) (hj : X.N[j]? = some y := by rfl) (hl : X.N[l]? = some z := by rfl) (hij : i ≠ j := by decide) (hil : i ≠ l := by decide) (hjl : j ≠ l := by decide)
    (hx : X.env.scope.names.lookup x = some .local := by rfl) (hy : X.env.scope.names.lookup y = some .local := by rfl) (hz : X.env.scope.names.lookup z = some .local := by rfl)
    (hw : swappedStores [.Tuple [.Name x px, .Name y py, .Name z pz] kt pt] (.Tuple [a, b, c] k2 pt2) X.env = pure (some [x, y, z]) := by rfl)
    (hs : swapsWithSole [.Tuple [.Name x px, .Name y py, .Name z pz] kt pt] (.Tuple [a, b, c] k2 pt2) pos.line X.env = pure false := by rfl) :
    PMS X E (.Assign [.Tuple [.Name x px, .Name y py, .Name z pz] kt pt] (.Tuple [a, b, c] k2 pt2) pos) (sPar3 i j l as) := by
  refine PS.imp (ps_par3 hc hN hi hj hl hij hil hjl hx hy hz ha hw hs) fun D σ H ⟨ρ, S, μ, re, rs, h⟩ => ?_
  refine stepA re rs h fun vs ps S1 H1 μ1 re1 rs1 rv g1 h1 => ?_
  cases rv with
  | nil => exact h1.elim
  | cons r t => cases t with
    | nil => exact h1.elim
    | cons r2 t2 => cases t2 with
      | nil => exact h1.elim
      | cons r3 t3 => cases t3 with
        | nil => exact ⟨_, _, _, rfl, h1 H1 μ1 .refl rs1 _ (((re1.set r i).set r2 j).set r3 l)⟩
        | cons _ _ => exact h1.elim

/-! ## what is walked -/
/-- the turns of an iterator give these things while ok holds of the store -/
structure ItOk (K : PySem.W.Frag) (H0 : Hp) (μ0 : Mu) (ok : Sto → Prop) (J : It) (ps : List PV) : Prop where
  go : ∀ i H μ S, i < ps.length → GrowW H0 μ0 H μ → RelS K H μ S → ok S → J.go i H
  yld : ∀ i H μ S x H', i < ps.length → GrowW H0 μ0 H μ → RelS K H μ S → ok S → J.yld i H x H' → ∃ p, ps[i]? = some p ∧ Grow H μ H' μ ∧ RelS K H' μ S ∧ Rp K H' μ x p
  stop : ∀ H μ S, GrowW H0 μ0 H μ → RelS K H μ S → ok S → J.stop ps.length H
structure Src where
  items : List PV
  ok : Sto → Prop
abbrev ID := Rho → M Src
def tI (K : PySem.W.Frag) (mg : Str → Option Value) (E : XK) (m : ID) : TI := fun σ H R => ∃ ρ S μ, RelE K H μ σ ρ ∧ RelS K H μ S ∧ Post K mg E H μ (m ρ S) (fun s _ H' μ' => ∀ J, ItOk K H' μ' s.ok J s.items → R J H')
abbrev PMI (X : Cx) (E : XK) (tg e : Expr) (m : ID) : Prop := PI X tg e (tI X.K X.mg E m)
theorem stepI {β : Type} {im : ID} {ρ : Rho} {σ : L2.St} {H : Hp} {μ : Mu} {S : Sto} {f : Src → M β} {k : β → Sto → Hp → Mu → Prop} {R : It → Hp → Prop} (re : RelE X.K H μ σ ρ) (rs : RelS X.K H μ S) (h : Post X.K X.mg E H μ (bnd (im ρ) f S) k)
    (hq : ∀ s S1 H1 μ1 J, RelE X.K H1 μ1 σ ρ → RelS X.K H1 μ1 S1 → ItOk X.K H1 μ1 s.ok J s.items → Grow H μ H1 μ1 → Post X.K X.mg E H1 μ1 (f s S1) k → R J H1) : tI X.K X.mg E im σ H R :=
  ⟨ρ, S, μ, re, rs, h.bnd.mono fun s S1 H1 μ1 g r q J j => hq s S1 H1 μ1 J (re.grow g) r j g q⟩
/-- a list or tuple that is walked -/
def seqSrc (p : PV) : M Src := fun S => match p with
  | .tup ps => .ok ⟨ps, fun _ => True⟩ S
  | .lst ps => .ok ⟨ps, fun _ => True⟩ S
  | .frz ps => .ok ⟨ps, fun _ => True⟩ S
  | .loc n => match S[n]? with
    | some (.lst ps) => .ok ⟨ps, fun S' => S'[n]? = some (.lst ps)⟩ S
    | _ => .stuck
  | _ => .stuck
def iSeq (m : ED) : ID := fun ρ => bnd (m ρ) seqSrc
theorem itok_list {H : Hp} {μ : Mu} {a : Addr} {vs : List V} {ps : List PV} {ok : Sto → Prop} (hq : ∀ H' μ' S', GrowW H μ H' μ' → RelS X.K H' μ' S' → ok S' → ∃ vs', SqL X.K H' a vs' ∧ RpL X.K H' μ' vs' ps) : ItOk X.K H μ ok (Itl X.K a) ps where
  go := fun i H' μ' S' hi g rs o => by
    obtain ⟨vs', h1, r⟩ := hq H' μ' S' g rs o
    obtain ⟨v, e, _⟩ := r.get (List.getElem?_eq_getElem hi)
    exact ⟨vs', v, h1, e⟩
  yld := fun i H' μ' S' x H2 hi g rs o ⟨e, y⟩ => by
    subst e
    obtain ⟨vs', h1, r⟩ := hq H2 μ' S' g rs o
    obtain ⟨v, e, rv⟩ := r.get (List.getElem?_eq_getElem hi)
    have := y _ h1
    rw [e] at this
    cases this
    exact ⟨_, List.getElem?_eq_getElem hi, .refl, rs, rv⟩
  stop := fun H' μ' S' g rs o => by
    obtain ⟨vs', h1, r⟩ := hq H' μ' S' g rs o
    exact ⟨vs', h1, by rw [r.length]; exact Nat.le_refl _⟩
theorem itok_tup {H : Hp} {μ : Mu} {a : Addr} {vs : List V} {ps : List PV} {ok : Sto → Prop} (hq : SqT X.K H a vs) (r : RpL X.K H μ vs ps) : ItOk X.K H μ ok (Itt X.K a) ps where
  go := fun i H' μ' S' hi g rs o => by
    obtain ⟨v, e, _⟩ := r.get (List.getElem?_eq_getElem hi)
    exact ⟨vs, v, g.sqT hq, e⟩
  yld := fun i H' μ' S' x H2 hi g rs o ⟨e, y⟩ => by
    subst e
    obtain ⟨v, e, rv⟩ := r.get (List.getElem?_eq_getElem hi)
    have := y _ (g.sqT hq)
    rw [e] at this
    cases this
    exact ⟨_, List.getElem?_eq_getElem hi, .refl, rs, rv.growW g⟩
  stop := fun H' μ' S' g rs o => ⟨vs, g.sqT hq, by rw [r.length]; exact Nat.le_refl _⟩
theorem pmi_seq {tg : Expr} (he : PM X E e m) : PMI X E tg e (iSeq m) := by
  refine ⟨fun pins s σ H R I ⟨ρ, S, μ, re, rs, h⟩ => ?_⟩
  unfold iSeq bnd at h
  cases q : m ρ S with
  | stuck => rw [q] at h; exact h.elim
  | exn c x S1 =>
    rw [q] at h
    exact (pi_tup he).run pins s σ H R I ⟨ρ, S, μ, re, rs, by rw [q]; exact h⟩
  | ok p S1 =>
    rw [q] at h
    simp only at h
    cases p with
    | tup ps =>
      refine (pi_tup he).run pins s σ H R I ⟨ρ, S, μ, re, rs, ?_⟩
      rw [q]
      intro H1 μ1 g r v rv
      cases rv with
      | @tup a vs _ hq rl => exact ⟨a, rfl, ⟨vs, hq⟩, h H1 μ1 g r _ (itok_tup hq rl)⟩
    | lst ps =>
      refine (pi_list he).run pins s σ H R I ⟨ρ, S, μ, re, rs, ?_⟩
      rw [q]
      intro H1 μ1 g r v rv
      cases rv with
      | @lst a vs _ n hq rl => exact ⟨a, rfl, ⟨vs, SqL.of hq⟩, h H1 μ1 g r _ (itok_list (vs := vs) fun H' μ' S' g _ _ => ⟨vs, SqL.of (g.keep _ _ hq (.inl n)), rl.growW g⟩)⟩
    | frz ps =>
      refine (pi_list he).run pins s σ H R I ⟨ρ, S, μ, re, rs, ?_⟩
      rw [q]
      intro H1 μ1 g r v rv
      cases rv with
      | @frz a vs _ hq rl => exact ⟨a, rfl, ⟨vs, hq.sqL⟩, h H1 μ1 g r _ (itok_list (vs := vs) fun H' μ' S' g _ _ => ⟨vs, (g.frz hq).sqL, rl.growW g⟩)⟩
    | loc n =>
      simp only [seqSrc] at h
      cases e2 : S1[n]? with
      | none => rw [e2] at h; exact h.elim
      | some en =>
        cases en with
        | lst ps =>
          rw [e2] at h
          refine (pi_list he).run pins s σ H R I ⟨ρ, S, μ, re, rs, ?_⟩
          rw [q]
          intro H1 μ1 g r v rv
          cases rv with
          | @loc a _ hn =>
            obtain ⟨vs, hv, rl⟩ := r.at_ n _ a e2 hn
            refine ⟨a, rfl, ⟨vs, SqL.of hv⟩, h H1 μ1 g r _ (itok_list (vs := vs) fun H' μ' S' g rs' o => ?_)⟩
            obtain ⟨ws, hw, rw'⟩ := rs'.at_ n _ a o (g.pre hn)
            exact ⟨ws, SqL.of hw, rw'⟩
    | non => exact h.elim
    | bl _ => exact h.elim
    | int _ => exact h.elim
    | str _ => exact h.elim
    | dct => exact h.elim
/-! ### ranges -/
def rngL (lo : Int) (n : Nat) : List PV := (List.range n).map fun i => .int (lo + (i : Nat))
theorem itok_rng {H : Hp} {μ : Mu} {ok : Sto → Prop} {lo : Int} {n : Nat} : ItOk X.K H μ ok (Itr lo n) (rngL lo n) where
  go := fun i H' μ' S' hi g rs o => by
    show i < n
    simpa [rngL] using hi
  yld := fun i H' μ' S' x H2 hi g rs o ⟨e, y⟩ => by
    subst e y
    have hi' : i < n := by simpa [rngL] using hi
    exact ⟨.int (lo + (i : Nat)), by simp [rngL, hi'], .refl, rs, .int _⟩
  stop := fun H' μ' S' g rs o => by simp [rngL, Itr]
def rng1 (ps : List PV) : M Src := fun S => match ps with
  | [.int j] => if -(2 ^ 62) ≤ j ∧ j < 2 ^ 62 then .ok ⟨rngL 0 j.toNat, fun _ => True⟩ S else .stuck
  | _ => .stuck
def rng2 (ps : List PV) : M Src := fun S => match ps with
  | [.int i, .int j] => if -(2 ^ 62) ≤ i ∧ i < 2 ^ 62 ∧ -(2 ^ 62) ≤ j ∧ j < 2 ^ 62 then .ok ⟨rngL i (j - i).toNat, fun _ => True⟩ S else .stuck
  | _ => .stuck
def iAp (f : List PV → M Src) (as : AD) : ID := fun ρ => bnd (as ρ) f
theorem pmi_rng1 {tg a : Expr} {p : Pos} (hm : X.mg "range" = none) (ha : PAs X E [a] as) (hg : Gl X "range" := by rfl) (hs : starEach [a] X.env = [(false, eval a X.env)] := by rfl) : PMI X E tg (.Call (.Name "range" p) [a] [] pos) (iAp rng1 as) := by
  refine PI.imp (pi_range1 hg hm ha hs) fun σ H R ⟨ρ, S, μ, re, rs, h⟩ => ?_
  refine stepA re rs h fun vs ps S1 H1 μ1 re1 rs1 rv g1 h1 => ?_
  cases rv with
  | nil => exact h1.elim
  | cons r t =>
    cases t with
    | nil =>
      cases r with
      | int j =>
        obtain ⟨⟨b1, b2⟩, h1⟩ := iff_post h1
        exact ⟨j, rfl, b1, b2, h1 H1 μ1 .refl rs1 _ itok_rng⟩
      | _ => exact h1.elim
    | cons _ _ => cases r <;> exact h1.elim
theorem pmi_rng2 {tg a b : Expr} {p : Pos} (hm : X.mg "range" = none) (ha : PAs X E [a, b] as) (hg : Gl X "range" := by rfl) (hs : starEach [a, b] X.env = [(false, eval a X.env), (false, eval b X.env)] := by rfl) (hs2 : starEach [b] X.env = [(false, eval b X.env)] := by rfl) : PMI X E tg (.Call (.Name "range" p) [a, b] [] pos) (iAp rng2 as) := by
  refine PI.imp (pi_range2 hg hm ha hs hs2) fun σ H R ⟨ρ, S, μ, re, rs, h⟩ => ?_
  refine stepA re rs h fun vs ps S1 H1 μ1 re1 rs1 rv g1 h1 => ?_
  cases rv with
  | nil => exact h1.elim
  | cons r t =>
    cases t with
    | nil => cases r <;> exact h1.elim
    | cons r2 t2 =>
      cases t2 with
      | nil =>
        cases r with
        | int i =>
          cases r2 with
          | int j =>
            obtain ⟨bb, h1⟩ := iff_post h1
            exact ⟨i, j, rfl, bb, h1 H1 μ1 .refl rs1 _ itok_rng⟩
          | _ => exact h1.elim
        | _ => cases r2 <;> exact h1.elim
      | cons _ _ => cases r <;> cases r2 <;> exact h1.elim

/-! ## for -/
open Classical in
noncomputable def forM (ok : Sto → Prop) (g : GD) (d : SD) : List PV → Rho → M Fl
  | [], ρ => fun S => if ok S then .ok (.nx ρ) S else .stuck
  | p :: ps, ρ => fun S => if ok S then (bnd (g p ρ) fun ρ1 => bnd (d ρ1) fun r => match r with
    | .nx ρ2 => forM ok g d ps ρ2
    | .ct ρ2 => forM ok g d ps ρ2
    | .bk ρ2 => ret (.nx ρ2)
    | .rt v => ret (.rt v)) S else .stuck
noncomputable def sFor (im : ID) (g : GD) (d : SD) : SD := fun ρ => bnd (im ρ) fun s => forM s.ok g d s.items ρ
open Classical in
theorem pms_for {tg iter : Expr} {im : ID} {g : GD} {body : List Stmt} (hp : PassesOwn (model X.prog X.w) X.A X.env X.xe) (hc : X.calm = true) (hi : PMI X E tg iter im) (hg : PMG X E tg g) (hb : PMB X E body d)
    (hs : ∀ x, foldedSetIterable iter X.env x = pure x := by intro _; rfl) : PMS X E (.For tg iter body [] pos) (sFor im g d) := by
  refine PS.imp (ps_for hp hc hi hg hb hs) fun D σ H ⟨ρ, S, μ, re, rs, h⟩ => ?_
  refine stepI re rs h fun s S1 H1 μ1 J re1 rs1 j g1 h1 => ?_
  refine ⟨fun i m σ' H' => m = s.items.length - i ∧ i ≤ s.items.length ∧ ∃ ρ' S' μ', Grow H1 μ1 H' μ' ∧ RelE X.K H' μ' σ' ρ' ∧ RelS X.K H' μ' S' ∧ Post X.K X.mg E H' μ' (forM s.ok g d (s.items.drop i) ρ' S') (kS X.K D), ⟨s.items.length, by simp, Nat.zero_le _, ρ, S1, μ1, .refl, re1, rs1, h1⟩, ?_⟩
  rintro i m σ' H' ⟨rfl, hi, ρ', S', μ', gr, re', rs', h'⟩
  by_cases hlt : i < s.items.length
  · rw [List.drop_eq_getElem_cons hlt] at h'
    simp only [forM] at h'
    obtain ⟨o, h'⟩ := iff_post h'
    refine .inr ⟨j.go i H' μ' S' hlt gr.w rs' o, fun σ2 H2 => ∃ ρ2 S2 μ2, Grow H1 μ1 H2 μ2 ∧ RelE X.K H2 μ2 σ2 ρ2 ∧ RelS X.K H2 μ2 S2 ∧ Post X.K X.mg E H2 μ2 (forM s.ok g d (s.items.drop (i + 1)) ρ2 S2) (kS X.K D), fun σ2 H2 ⟨ρ2, S2, μ2, q⟩ => ⟨s.items.length - (i + 1), by omega, rfl, hlt, ρ2, S2, μ2, q⟩, fun x H2 y => ?_⟩
    obtain ⟨p, ep, g2, rs2, rx⟩ := j.yld i H' μ' S' x H2 hlt gr.w rs' o y
    have ep' : p = s.items[i] := by rw [List.getElem?_eq_getElem hlt] at ep; exact (Option.some.inj ep).symm
    subst ep'
    refine ⟨ρ', S', μ', _, re'.grow g2, rs2, rx, (h'.grow g2).bnd.mono fun ρ1 S3 H3 μ3 g3 rs3 q3 σ3 re3 => ?_⟩
    refine ⟨ρ1, S3, μ3, re3, rs3, q3.bnd.mono fun r S4 H4 μ4 g4 rs4 q4 => ?_⟩
    have gAll : Grow H1 μ1 H4 μ4 := ((gr.trans g2).trans g3).trans g4
    cases r with
    | nx ρ4 => exact fun σ4 re4 => ⟨ρ4, S4, μ4, gAll, re4, rs4, q4⟩
    | ct ρ4 => exact fun σ4 re4 => ⟨ρ4, S4, μ4, gAll, re4, rs4, q4⟩
    | bk ρ4 => exact fun σ4 re4 => q4 H4 μ4 .refl rs4 σ4 re4
    | rt v => exact fun u ru => q4 H4 μ4 .refl rs4 u ru
  · have e : i = s.items.length := by omega
    subst e
    rw [List.drop_length] at h'
    simp only [forM] at h'
    obtain ⟨o, h'⟩ := iff_post h'
    exact .inl ⟨j.stop H' μ' S' gr.w rs' o, h' H' μ' .refl rs' σ' re'⟩

/-! ## while -/
def whileF (c : BD) (d : SD) : Nat → Rho → M Fl
  | 0, _ => stk
  | n + 1, ρ => bnd (c ρ) fun b => if b = true then (bnd (d ρ) fun r => match r with
    | .nx ρ2 => whileF c d n ρ2
    | .ct ρ2 => whileF c d n ρ2
    | .bk ρ2 => ret (.nx ρ2)
    | .rt v => ret (.rt v)) else ret (.nx ρ)
open Classical in
/-- the outcome of the loop, with as many turns as it needs -/
noncomputable def sWhile (c : BD) (d : SD) : SD := fun ρ S => if h : ∃ n, whileF c d n ρ S ≠ .stuck then whileF c d (Classical.choose h) ρ S else .stuck
theorem whileF_more {c : BD} {d : SD} : ∀ (n : Nat) (ρ : Rho) (S : Sto), whileF c d n ρ S ≠ .stuck → whileF c d (n + 1) ρ S = whileF c d n ρ S
  | 0, ρ, S, h => absurd rfl h
  | n + 1, ρ, S, h => by
    rw [whileF] at h
    rw [whileF, whileF]
    unfold bnd at h ⊢
    cases q : c ρ S with
    | stuck => rfl
    | exn _ _ _ => rfl
    | ok b S1 =>
      simp only [q] at h ⊢
      by_cases hb : b = true
      · simp only [hb, if_true] at h ⊢
        cases q2 : d ρ S1 with
        | stuck => rfl
        | exn _ _ _ => rfl
        | ok r S2 =>
          simp only [q2] at h ⊢
          cases r with
          | nx ρ2 => exact whileF_more n ρ2 S2 h
          | ct ρ2 => exact whileF_more n ρ2 S2 h
          | bk ρ2 => rfl
          | rt v => rfl
      · simp only [hb] at h ⊢
        rfl
theorem whileF_le {c : BD} {d : SD} {n m : Nat} {ρ : Rho} {S : Sto} (h : whileF c d n ρ S ≠ .stuck) (hm : n ≤ m) : whileF c d m ρ S = whileF c d n ρ S := by
  induction hm with
  | refl => rfl
  | step _ ih =>
    rw [← ih] at h
    rw [whileF_more _ _ _ h]
    exact ih
theorem sWhile_eq {c : BD} {d : SD} {n : Nat} {ρ : Rho} {S : Sto} (h : whileF c d n ρ S ≠ .stuck) : sWhile c d ρ S = whileF c d n ρ S := by
  have hx : ∃ n, whileF c d n ρ S ≠ .stuck := ⟨n, h⟩
  unfold sWhile
  rw [dif_pos hx]
  have h2 := Classical.choose_spec hx
  rcases Nat.le_total n (Classical.choose hx) with z | z
  · exact whileF_le h z
  · exact (whileF_le h2 z).symm
theorem pms_while {body : List Stmt} {b : BD} (hp : PassesOwn (model X.prog X.w) X.A X.env X.xe) (hc : PB X E c b) (hb : PMB X E body d) : PMS X E (.While c body [] pos) (sWhile b d) := by
  refine PS.imp (ps_while hp hc hb) fun D σ H ⟨ρ, S, μ, re, rs, h⟩ => ?_
  by_cases hx : ∃ n, whileF b d n ρ S ≠ .stuck
  · obtain ⟨n0, h0⟩ := hx
    rw [sWhile_eq h0] at h
    refine ⟨fun n σ' H' => ∃ ρ' S' μ', RelE X.K H' μ' σ' ρ' ∧ RelS X.K H' μ' S' ∧ Post X.K X.mg E H' μ' (whileF b d n ρ' S') (kS X.K D), ⟨n0, ρ, S, μ, re, rs, h⟩, ?_⟩
    rintro n σ' H' ⟨ρ', S', μ', re', rs', h'⟩
    cases n with
    | zero => exact h'.elim
    | succ n =>
      rw [whileF] at h'
      refine stepT re' rs' h' fun k S1 H1 μ1 re1 rs1 g1 h1 => ?_
      by_cases hk : k = true
      · rw [if_pos hk] at h1 ⊢
        refine ⟨fun σ2 H2 => ∃ ρ2 S2 μ2, RelE X.K H2 μ2 σ2 ρ2 ∧ RelS X.K H2 μ2 S2 ∧ Post X.K X.mg E H2 μ2 (whileF b d n ρ2 S2) (kS X.K D), fun σ2 H2 q => ⟨n, Nat.lt_succ_self n, q⟩, ?_⟩
        refine ⟨ρ', S1, μ1, re1, rs1, h1.bnd.mono fun r S4 H4 μ4 g4 rs4 q4 => ?_⟩
        cases r with
        | nx ρ4 => exact fun σ4 re4 => ⟨ρ4, S4, μ4, re4, rs4, q4⟩
        | ct ρ4 => exact fun σ4 re4 => ⟨ρ4, S4, μ4, re4, rs4, q4⟩
        | bk ρ4 => exact fun σ4 re4 => q4 H4 μ4 .refl rs4 σ4 re4
        | rt v => exact fun u ru => q4 H4 μ4 .refl rs4 u ru
      · rw [if_neg hk] at h1 ⊢
        exact h1 H1 μ1 .refl rs1 σ' re1
  · unfold sWhile at h
    rw [dif_neg hx] at h
    exact h.elim
end
end Pm

namespace Pm
open PySem PySem.Spec L2

/-! ## comprehensions -/
def wipeR (ρ : Rho) : List Nat → Rho
  | [] => ρ
  | v :: vs => (wipeR ρ vs).set v none
theorem wipe_len (σ : L2.St) : ∀ vs, (wipe σ vs).length = σ.length
  | [] => rfl
  | v :: vs => by rw [wipe, List.length_set, wipe_len σ vs]
theorem wipe_get (σ : L2.St) (j : Nat) : ∀ vs, (wipe σ vs)[j]? = if j ∈ vs ∧ j < σ.length then some none else σ[j]?
  | [] => by simp [wipe]
  | v :: vs => by
    have ih := wipe_get σ j vs
    rw [wipe, List.getElem?_set]
    by_cases hv : v = j
    · subst hv
      rw [if_pos rfl, wipe_len]
      by_cases hl : v < σ.length
      · rw [if_pos hl, if_pos ⟨List.mem_cons_self, hl⟩]
      · rw [if_neg hl, if_neg fun z => hl z.2, List.getElem?_eq_none (by omega)]
    · rw [if_neg hv, ih]
      by_cases hm : j ∈ vs ∧ j < σ.length
      · rw [if_pos hm, if_pos ⟨List.mem_cons_of_mem _ hm.1, hm.2⟩]
      · rw [if_neg hm, if_neg fun z => hm ⟨(List.mem_cons.mp z.1).resolve_left fun e => hv e.symm, z.2⟩]
theorem wipe_ext {σ σ' : L2.St} {vs : List Nat} (hl : σ.length = σ'.length) (h : ∀ j, j ∉ vs → σ[j]? = σ'[j]?) : wipe σ vs = wipe σ' vs := by
  apply List.ext_getElem?
  intro j
  rw [wipe_get, wipe_get, hl]
  split
  · rfl
  · rename_i z
    by_cases hj : j ∈ vs
    · have : ¬ j < σ'.length := fun q => z ⟨hj, q⟩
      rw [List.getElem?_eq_none (by omega), List.getElem?_eq_none (by omega)]
    · exact h j hj
theorem wipe_set {σ : L2.St} {vs : List Nat} {i : Nat} {x : Option V} (hi : i ∈ vs) : wipe (σ.set i x) vs = wipe σ vs :=
  wipe_ext (by simp) fun j hj => by rw [List.getElem?_set_ne]; intro e; subst e; exact hj hi
theorem wipe_wipe {σ : L2.St} {vs : List Nat} : wipe (wipe σ vs) vs = wipe σ vs :=
  wipe_ext (by rw [wipe_len]) fun j hj => by rw [wipe_get, if_neg fun z => hj z.1]
section
variable {K : PySem.W.Frag} {mg : Str → Option Value} {E : XK} {H H' : Hp} {μ μ' : Mu} {S : Sto} {σ : L2.St} {ρ : Rho}
theorem RelE.wipe (h : RelE K H μ σ ρ) : ∀ vs, RelE K H μ (wipe σ vs) (wipeR ρ vs)
  | [] => h
  | v :: vs => (RelE.wipe h vs).unset v
end
/-- no error comes out -/
def noX {α : Type} (m : M α) : M α := fun S => match m S with
  | .ok a S1 => .ok a S1
  | _ => .stuck
noncomputable section
open Classical
def lcM (ok : Sto → Prop) (g : GD) (t : BD) (m : ED) (ρ : Rho) : List PV → M (List PV)
  | [] => fun S => if ok S then .ok [] S else .stuck
  | p :: ps => fun S => if ok S then (bnd (g p ρ) fun ρ1 => bnd (t ρ1) fun b => if b = true then bnd (m ρ1) fun q => bnd (lcM ok g t m ρ ps) fun qs => ret (q :: qs) else lcM ok g t m ρ ps) S else .stuck
def dLC (im : ID) (g : GD) (t : BD) (m : ED) (vs : List Nat) : ED := fun ρ => bnd (im ρ) fun s => if s.items.length ≤ LIM then bnd (noX (lcM s.ok g t m (wipeR ρ vs) s.items)) fun qs => ret (.lst qs) else stk
end
def bYes : BD := fun _ S => .ok true S
section
variable {X : Cx} {E : XK} {e c : Expr} {es : List Expr} {m n : ED} {as : AD} {pos : Pos}
/-- a target whose slots are all in vs -/
def tGF (K : PySem.W.Frag) (mg : Str → Option Value) (E : XK) (vs : List Nat) (g : GD) : TG := fun v σ H Q => ∃ ρ S μ p, RelE K H μ σ ρ ∧ RelS K H μ S ∧ Rp K H μ v p ∧ Post K mg E H μ (g p ρ S) (fun ρ' _ H' μ' => ∀ σ', RelE K H' μ' σ' ρ' → wipe σ' vs = wipe σ vs → Q σ' H')
def tGsF (K : PySem.W.Frag) (mg : Str → Option Value) (E : XK) (vs : List Nat) (g : GDs) : TGs := fun us σ H Q => ∃ ρ S μ ps, RelE K H μ σ ρ ∧ RelS K H μ S ∧ RpL K H μ us ps ∧ Post K mg E H μ (g ps ρ S) (fun ρ' _ H' μ' => ∀ σ', RelE K H' μ' σ' ρ' → wipe σ' vs = wipe σ vs → Q σ' H')
abbrev PMF (X : Cx) (E : XK) (vs : List Nat) (e : Expr) (g : GD) : Prop := PG X e (tGF X.K X.mg E vs g)
abbrev PMFs (X : Cx) (E : XK) (vs : List Nat) (es : List Expr) (g : GDs) : Prop := PGs X es (tGsF X.K X.mg E vs g)
theorem pmf_name (i : Nat) {vs : List Nat} {x : Str} (hN : X.N.Nodup) (hi : X.N[i]? = some x := by rfl) (hx : Loc X.env.scope x := by first | exact Or.inl rfl | exact Or.inr rfl) (hm : i ∈ vs := by decide) (hf : X.fn x = true ∨ X.env.scope.names.lookup x = some .local := by first | exact .inl rfl | exact .inr rfl | assumption) : PMF X E vs (.Name x pos) (gName i) := by
  refine PG.imp (pg_name hN hi hx hf) fun v σ H Q ⟨ρ, S, μ, p, re, rs, rv, h⟩ => ?_
  exact h H μ .refl rs _ (re.set rv i) (wipe_set hm)
theorem pmfs_nil {vs : List Nat} : PMFs X E vs [] gsNil := by
  refine PGs.imp pgs_nil fun us σ H Q ⟨ρ, S, μ, ps, re, rs, rv, h⟩ => ?_
  cases rv with
  | nil => exact ⟨rfl, h H μ .refl rs σ re rfl⟩
  | cons _ _ => exact h.elim
theorem pmfs_cons {vs : List Nat} {g : GD} {gs : GDs} (h1 : PMF X E vs e g) (h2 : PMFs X E vs es gs) (hs : (assignEach (e :: es) X.env).map (·.2) = assign e X.env :: (assignEach es X.env).map (·.2) := by rfl) : PMFs X E vs (e :: es) (gsCons g gs) := by
  refine PGs.imp (pgs_cons h1 h2 hs) fun us σ H Q ⟨ρ, S, μ, ps, re, rs, rv, h⟩ => ?_
  cases rv with
  | nil => exact h.elim
  | @cons v vs p ps r t =>
    refine ⟨v, vs, rfl, ρ, S, μ, p, re, rs, r, h.bnd.mono fun ρ' S1 H1 μ1 g1 r1 q σ' re' w1 => ?_⟩
    exact ⟨ρ', S1, μ1, ps, re', r1, t.grow g1, q.mono fun ρ2 S2 H2 μ2 _ _ q2 σ2 re2 w2 => q2 σ2 re2 (w2.trans w1)⟩
theorem pmf_tup {k : Nat} {vs : List Nat} {gs : GDs} {n : Nat} (hc : X.calm = true) (h : PMFs X E vs es gs) (hn : (assignEach es X.env).length = n := by rfl) (hst : (assignEach es X.env).findIdx? (·.1) = none := by rfl) : PMF X E vs (.Tuple es k pos) (gTup n gs) := by
  refine PG.imp (pg_tupE hc h hn hst) fun v σ H Q ⟨ρ, S, μ, p, re, rs, rv, h⟩ => ?_
  cases rv with
  | @tup a vs ps hq r =>
    unfold gTup at h
    simp only at h
    by_cases hl : ps.length = n
    · rw [if_pos hl] at h
      exact ⟨a, vs, rfl, .inl hq, r.length.trans hl, ρ, S, μ, ps, re, rs, r, h⟩
    · rw [if_neg hl] at h; exact h.elim
  | @lst a vs ps hn2 hq r =>
    unfold gTup at h
    simp only at h
    by_cases hl : ps.length = n
    · rw [if_pos hl] at h
      exact ⟨a, vs, rfl, .inr (SqL.of hq), r.length.trans hl, ρ, S, μ, ps, re, rs, r, h⟩
    · rw [if_neg hl] at h; exact h.elim
  | _ => exact h.elim
abbrev PBs (X : Cx) (E : XK) (es : List Expr) (m : BD) : Prop := PTs X es (tT X.K X.mg E m)
theorem PTs.imp {es : List Expr} {t t' : TT} (h : PTs X es t) (q : ∀ σ H Q, t' σ H Q → t σ H Q) : PTs X es t' := ⟨fun pins s σ H Q I w => h.run pins s σ H Q I (q σ H Q w)⟩
theorem pbs_nil : PBs X E [] bYes := PTs.imp pts_nil fun σ H Q ⟨ρ, S, μ, re, rs, h⟩ => h H μ .refl rs
theorem pbs_one {b : BD} (h : PB X E c b) : PBs X E [c] b := pts_one h

theorem bnd_inv {α β : Type} {m : M α} {f : α → M β} {S S2 : Sto} {b : β} (h : bnd m f S = .ok b S2) : ∃ a S1, m S = .ok a S1 ∧ f a S1 = .ok b S2 := by
  unfold bnd at h
  cases q : m S with
  | ok a S1 => rw [q] at h; exact ⟨a, S1, rfl, h⟩
  | exn c x S1 => rw [q] at h; cases h
  | stuck => rw [q] at h; cases h
theorem if_ok {α : Type} {c : Prop} [Decidable c] {o : Out α} {a : α} {S : Sto} (h : (if c then o else .stuck) = .ok a S) : c ∧ o = .ok a S := by
  by_cases hc : c
  · rw [if_pos hc] at h; exact ⟨hc, h⟩
  · rw [if_neg hc] at h; cases h
theorem drop_nil_of {α : Type} {l : List α} {i : Nat} (h : ¬ i < l.length) : l.drop i = [] := List.drop_eq_nil_of_le (by omega)
open Classical in
theorem lc_of {im : ID} {g : GD} {t : BD} {vs : List Nat} {σ : L2.St} {H : Hp} {Q : VK} (h : tE X.K X.mg E (dLC im g t m vs) σ H Q) :
    tLc (tI X.K X.mg E im) (tGF X.K X.mg E0 vs g) (tT X.K X.mg E0 t) (tE X.K X.mg E0 m) vs σ H Q := by
  obtain ⟨ρ, S, μ, re, rs, h⟩ := h
  refine stepI re rs h fun s S1 H1 μ1 J re1 rs1 j g1 h1 => ?_
  intro D hD
  by_cases hl : s.items.length ≤ LIM
  case neg => rw [if_neg hl] at h1; exact h1.elim
  case pos =>
    rw [if_pos hl] at h1
    cases qo : lcM s.ok g t m (wipeR ρ vs) s.items S1 with
    | stuck => unfold Pm.bnd noX at h1; rw [qo] at h1; exact h1.elim
    | exn c x S2 => unfold Pm.bnd noX at h1; rw [qo] at h1; exact h1.elim
    | ok rsAll Sf =>
      unfold Pm.bnd noX at h1
      rw [qo] at h1
      have h1' : Post X.K X.mg E H1 μ1 (.ok (.lst rsAll) Sf) (kE X.K Q) := h1
      have ge : GrowW H1 μ1 (upd H1 D (.lst [])) (μ1.hide D) := grow_enter hD
      have rew : RelE X.K (upd H1 D (.lst [])) (μ1.hide D) (L2.wipe σ vs) (wipeR ρ vs) := (re1.wipe vs).growW ge
      have hidD : ∀ a ∈ μ1.hid, a ≠ D := fun a ha z => by
        subst z
        obtain ⟨_, ws, q⟩ := rs1.hids a ha
        rw [hD] at q; cases q
      refine ⟨fun i k H' => k = s.items.length - i ∧ i ≤ s.items.length ∧ ∃ S' μ' acc qs rs, GrowW (upd H1 D (.lst [])) (μ1.hide D) H' μ' ∧ (∀ a ∈ μ1.hid, H' a = H1 a) ∧ RelS X.K H' μ' S' ∧ H' D = some (.lst acc) ∧ RpL X.K H' μ' acc qs ∧ qs.length ≤ i ∧
        lcM s.ok g t m (wipeR ρ vs) (s.items.drop i) S' = .ok rs Sf ∧ qs ++ rs = rsAll,
        ⟨s.items.length, by simp, Nat.zero_le _, S1, μ1.hide D, [], [], rsAll, .refl, fun a ha => upd_ne (hidD a ha), rs1.hide hD, upd_same, .nil, Nat.le_refl _, by rw [List.drop_zero]; exact qo, rfl⟩, ?_⟩
      rintro i k H' ⟨rfl, hi, S', μ', acc, qs, rs, gr, stay, rs', hacc, racc, hq, eo, eall⟩
      have gall := ge.trans gr
      have hidsub : ∀ a, a = D ∨ a ∈ μ1.hid → a ∈ μ'.hid := fun a ha => by
        obtain ⟨hs, e, _⟩ := gr.hid
        rw [e]
        exact List.mem_append_right _ (List.mem_cons.mpr ha)
      have hm : D ∈ μ'.hid := hidsub D (.inl rfl)
      by_cases hlt : i < s.items.length
      · rw [List.drop_eq_getElem_cons hlt] at eo
        simp only [lcM] at eo
        obtain ⟨o, eo⟩ := if_ok eo
        obtain ⟨ρ1, Sa, ea, eo⟩ := bnd_inv eo
        obtain ⟨b, Sb, eb, eo⟩ := bnd_inv eo
        refine .inr ⟨j.go i H' μ' S' hlt gall rs' o, fun H2 => ∃ S2 μ2 acc2 qs2 rs2, GrowW (upd H1 D (.lst [])) (μ1.hide D) H2 μ2 ∧ (∀ a ∈ μ1.hid, H2 a = H1 a) ∧ RelS X.K H2 μ2 S2 ∧ H2 D = some (.lst acc2) ∧ RpL X.K H2 μ2 acc2 qs2 ∧ qs2.length ≤ i + 1 ∧
          lcM s.ok g t m (wipeR ρ vs) (s.items.drop (i + 1)) S2 = .ok rs2 Sf ∧ qs2 ++ rs2 = rsAll, fun H2 q => ⟨s.items.length - (i + 1), by omega, rfl, hlt, q⟩, fun x H2 y => ?_⟩
        obtain ⟨p, ep, g2, rs2, rx⟩ := j.yld i H' μ' S' x H2 hlt gall rs' o y
        have ep' : p = s.items[i] := by rw [List.getElem?_eq_getElem hlt] at ep; exact (Option.some.inj ep).symm
        subst ep'
        refine ⟨wipeR ρ vs, S', μ', _, (rew.growW gr).grow g2, rs2, rx, ?_⟩
        rw [ea]
        intro H3 μ3 g3 rs3 σ3 re3 w3
        refine ⟨w3.trans wipe_wipe, ρ1, Sa, μ3, re3, rs3, ?_⟩
        rw [eb]
        intro H4 μ4 g4 rs4
        have g24 := (g2.trans g3).trans g4
        by_cases hb : b = true
        · rw [if_pos hb] at eo
          show if b = true then _ else _
          rw [if_pos hb]
          obtain ⟨q, Sc, ec, eo⟩ := bnd_inv eo
          obtain ⟨rs5, Sd, ed, eo⟩ := bnd_inv eo
          have e6 : q :: rs5 = rs ∧ Sd = Sf := by
            unfold ret at eo
            injection eo with x1 x2
            exact ⟨x1, x2⟩
          obtain ⟨e7, e8⟩ := e6
          subst e7 e8
          refine ⟨ρ1, Sb, μ4, re3.grow g4, rs4, ?_⟩
          rw [ec]
          intro H5 μ5 g5 rs5' u ru
          have g25 := g24.trans g5
          have hm5 : D ∈ μ5.hid := by
            obtain ⟨hs, e, _⟩ := g25.w.hid
            rw [e]
            exact List.mem_append_right _ hm
          have hacc5 : H5 D = some (.lst acc) := by rw [g25.stay D hm]; exact hacc
          have gw : GrowW H5 μ5 (upd H5 D (.lst (acc ++ [u]))) μ5 := grow_hid hm5 rs5'
          refine ⟨acc, hacc5, ?_, Sc, μ5, acc ++ [u], qs ++ [q], rs5, (gr.trans g25.w).trans gw, fun a ha => ?_, rs5'.putHid hm5, upd_same, ((racc.grow g25).append (.cons ru .nil)).growW gw, ?_, ed, by rw [List.append_assoc]; exact eall⟩
          · rw [racc.length]
            exact lim_lt (by omega)
          · rw [upd_ne (hidD a ha), g25.stay a (hidsub a (.inr ha)), stay a ha]
          · rw [List.length_append]
            have : [q].length = 1 := rfl
            omega
        · rw [if_neg hb] at eo
          show if b = true then _ else _
          rw [if_neg hb]
          refine ⟨Sb, μ4, acc, qs, rs, gr.trans g24.w, fun a ha => ?_, rs4, by rw [g24.stay D hm]; exact hacc, racc.grow g24, by omega, eo, eall⟩
          rw [g24.stay a (hidsub a (.inr ha)), stay a ha]
      · have e : i = s.items.length := by omega
        subst e
        rw [List.drop_length] at eo
        simp only [lcM] at eo
        obtain ⟨o, eo⟩ := if_ok eo
        have e6 : rs = [] ∧ S' = Sf := by
          injection eo with x1 x2
          exact ⟨x1.symm, x2⟩
        obtain ⟨e7, e8⟩ := e6
        subst e7 e8
        rw [List.append_nil] at eall
        subst eall
        have gx : Grow H1 μ1 H' ⟨μ'.ls, μ1.hid⟩ := ⟨gall.drop, stay⟩
        have hs2 : ∀ a ∈ (⟨μ'.ls, μ1.hid⟩ : Mu).hid, a ∈ μ'.hid := fun a ha => hidsub a (.inr ha)
        refine .inl ⟨j.stop H' μ' S' gall rs' o, h1' H' ⟨μ'.ls, μ1.hid⟩ gx (rs'.show_ rfl hs2) _ (.lst (fun z => ?_) hacc (RpL.show_ (μ := μ') (μ' := ⟨μ'.ls, μ1.hid⟩) rfl hs2 racc))⟩
        rcases z with z | z
        · exact (rs'.hids D hm).1 z
        · exact hidD D z rfl
theorem pm_lc {elt tg iter : Expr} {ifs : List Expr} {scope : Scope} (own : List (Str × Nat)) {im : ID} {g : GD} {t : BD} (hc : X.calm = true) (hN : X.N.Nodup) (ok : BlkOk X.N X.env.scope scope own) (hi : PMI X E tg iter im)
    (hg : ∀ (s : Shared) (H : Hp) (C : Addr) (cl : List (Str × Addr)) (fp : List Addr), PMF (X.blk s H scope (compEnvC scope cl C X.env) fp) E0 (own.map (·.2)) tg g) (ht : ∀ (s : Shared) (H : Hp) (C : Addr) (cl : List (Str × Addr)) (fp : List Addr), PBs (X.blk s H scope (compEnvC scope cl C X.env) fp) E0 ifs t)
    (he : ∀ (s : Shared) (H : Hp) (C : Addr) (cl : List (Str × Addr)) (fp : List Addr), PM (X.blk s H scope (compEnvC scope cl C X.env) fp) E0 elt m) (hs : ∀ x, foldedSetIterable iter X.env x = pure x := by intro _; rfl) :
    PM X E (.ListComp elt [⟨tg, iter, ifs, 0⟩] scope pos) (dLC im g t m (own.map (·.2))) :=
  PE.imp (pe_lc (te := tE X.K X.mg E0 m) (tt := tT X.K X.mg E0 t) (g := tGF X.K X.mg E0 (own.map (·.2)) g) hc hN hi ok hg ht he hs) fun σ H Q h => lc_of h
theorem pms_setLc (i : Nat) {y : Str} {py : Pos} {elt tg iter : Expr} {ifs : List Expr} {scope : Scope} (own : List (Str × Nat)) {spos : Pos} {im : ID} {g : GD} {t : BD} (hc : X.calm = true) (hN : X.N.Nodup) (ok : BlkOk X.N X.env.scope scope own)
    (hsw : swapsWith (.ListComp elt [⟨tg, iter, ifs, 0⟩] scope pos) (some (.Name y py)) spos.line X.env = pure true) (hi : PMI X E tg iter im)
    (hg : ∀ (s : Shared) (H : Hp) (C : Addr) (cl : List (Str × Addr)) (fp : List Addr), PMF (X.blk s H scope (compEnvC scope cl C X.env) fp) E0 (own.map (·.2)) tg g) (ht : ∀ (s : Shared) (H : Hp) (C : Addr) (cl : List (Str × Addr)) (fp : List Addr), PBs (X.blk s H scope (compEnvC scope cl C X.env) fp) E0 ifs t)
    (he : ∀ (s : Shared) (H : Hp) (C : Addr) (cl : List (Str × Addr)) (fp : List Addr), PM (X.blk s H scope (compEnvC scope cl C X.env) fp) E0 elt m) (hy : X.N[i]? = some y := by rfl) (hyl : X.env.scope.names.lookup y = some .local := by rfl) (hs : ∀ x, foldedSetIterable iter X.env x = pure x := by intro _; rfl) :
    PMS X E (.Assign [.Name y py] (.ListComp elt [⟨tg, iter, ifs, 0⟩] scope pos) spos) (sAsg (dLC im g t m (own.map (·.2))) (Pm.gName i)) := by
  refine PS.imp (ps_setLc (te := tE X.K X.mg E0 m) (tt := tT X.K X.mg E0 t) (g := tGF X.K X.mg E0 (own.map (·.2)) g) hc hN hy hyl hsw hi ok hg ht he hs) fun D σ H ⟨ρ, S, μ, re, rs, h⟩ => ?_
  have h' := h.bnd
  refine lc_of (Q := fun x H' => L2.gName i x σ H' D.nx) ⟨ρ, S, μ, re, rs, h'.mono fun p S1 H1 μ1 g r q v rv => ?_⟩
  exact q H1 μ1 .refl r _ ((re.grow g).set rv i)
end
end Pm

namespace Pm
open PySem PySem.Spec L2

/-! ## a def's promise, where no text is being shown -/
structure FnG (P : Program) (w : World) (K : PySem.W.Frag) (mg : Str → Option Value) (base : Heap) (k : Nat) (f : Addr) (fd : FuncData) (ps : List Str) (sp : Sp) : Prop where
  len : ∀ vs H Q E, sp vs H Q E → vs.length = ps.length
  run : ∀ (A : Around) (outer : List Env) (s : Shared) (H : Hp) (args : Args) (us : List Value) (vs : List V) (Q : VK) (E : XK), Room k A → A.guards = some [] → Env0 P w K mg base A outer s H → BindsTo s fd args (ps.zip us) →
    Vals vs us → sp vs H Q E → codeAny (model P w) A (.call (.ref f) args) (CR (L2.CX P w) outer P w H s Q E) s
/-- what a def does, over pure values -/
def spF (K : PySem.W.Frag) (mg : Str → Option Value) (n : Nat) (sem : List PV → M PV) : Sp := fun vs H Q E => vs.length = n ∧ ∃ ps S μ, RelS K H μ S ∧ RpL K H μ vs ps ∧ Post K mg E H μ (sem ps S) (kE K Q)
/-- the names' values at the entry -/
def rho0 (n : Nat) (ps : List PV) : Rho := ps.map some ++ List.replicate (n - ps.length) none
theorem relE_start {K : PySem.W.Frag} {H : Hp} {μ : Mu} {N : List Str} {vs : List V} {ps : List PV} (r : RpL K H μ vs ps) : RelE K H μ (L2.start N vs) (rho0 N.length ps) := by
  refine ⟨by simp [L2.start, rho0, r.length], fun i p e => ?_⟩
  unfold rho0 at e
  unfold L2.start
  by_cases hi : i < ps.length
  · rw [List.getElem?_append_left (by simpa using hi)] at e
    rw [List.getElem?_map] at e
    cases q : ps[i]? with
    | none => rw [q] at e; cases e
    | some p' =>
      rw [q] at e
      have e' : p' = p := by simpa using e
      subst e'
      obtain ⟨v, e1, rv⟩ := r.get q
      exact ⟨v, by rw [List.getElem?_append_left (by simpa [r.length] using hi), List.getElem?_map, e1]; rfl, rv⟩
  · rw [List.getElem?_append_right (by simpa using hi)] at e
    rw [List.getElem?_replicate] at e
    split at e <;> cases e
/-! what is in no place from n on -/
mutual
def PV.inn (n : Nat) : PV → Bool
  | .tup xs => innL n xs
  | .lst xs => innL n xs
  | .frz xs => innL n xs
  | .loc k => decide (k < n)
  | _ => true
def innL (n : Nat) : List PV → Bool
  | [] => true
  | p :: ps => PV.inn n p && innL n ps
end
def Ent.inn (n : Nat) : Ent → Bool
  | .lst ps => innL n ps
def mapO (f : PV → Option PV) : List PV → Option (List PV)
  | [] => some []
  | p :: ps => match f p, mapO f ps with
    | some q, some qs => some (q :: qs)
    | _, _ => none
/-- a value that leaves: lists made within are lists for good -/
def fzV (S : Sto) (n : Nat) : Nat → PV → Option PV
  | 0, _ => none
  | _ + 1, .non => some .non
  | _ + 1, .bl b => some (.bl b)
  | _ + 1, .int i => some (.int i)
  | _ + 1, .str x => some (.str x)
  | _ + 1, .dct => some .dct
  | k + 1, .tup xs => (mapO (fzV S n k) xs).map .tup
  | k + 1, .lst xs => (mapO (fzV S n k) xs).map .lst
  | k + 1, .frz xs => (mapO (fzV S n k) xs).map .frz
  | k + 1, .loc m => if m < n then some (.loc m) else match S[m]? with
    | some (.lst xs) => (mapO (fzV S n k) xs).map .lst
    | none => none
/-- the end of a def: the places made within are given up -/
def fin (n : Nat) (o : Out PV) : Out PV := match o with
  | .ok p S => if S.length = n then .ok p S else match fzV S n 20 p with
    | some p' => if (S.take n).all (Ent.inn n) = true ∧ n ≤ S.length then .ok p' (S.take n) else .stuck
    | none => .stuck
  | .exn c x S => if S.length = n then .exn c x S else .stuck
  | .stuck => .stuck
def bodyR (d : SD) : ED := fun ρ => bnd (d ρ) fun r => match r with
  | .nx _ => ret .non
  | .rt p => ret p
  | _ => stk
/-- a def whose new places are given up at its end -/
def defM (a n : Nat) (d : SD) : List PV → M PV := fun ps S => if ps.length = a then fin S.length (bodyR d (rho0 n ps) S) else .stuck
/-- a def whose new places stay -/
def defK (a n : Nat) (d : SD) : List PV → M PV := fun ps S => if ps.length = a then bodyR d (rho0 n ps) S else .stuck
def Ar (a : Nat) (sem : List PV → M PV) : Prop := ∀ qs S, sem qs S = .stuck ∨ qs.length = a
theorem defM_ar {a n : Nat} {d : SD} : Ar a (defM a n d) := fun qs S => by
  by_cases h : qs.length = a
  · exact .inr h
  · exact .inl (if_neg h)
theorem defK_ar {a n : Nat} {d : SD} : Ar a (defK a n d) := fun qs S => by
  by_cases h : qs.length = a
  · exact .inr h
  · exact .inl (if_neg h)
def SemOk (K : PySem.W.Frag) (mg : Str → Option Value) (n : Nat) (sem : List PV → M PV) (d : SD) : Prop := ∀ {H : Hp} {μ : Mu} {S : Sto} {qs : List PV} {Q : VK} {E : XK}, RelS K H μ S → Post K mg E H μ (sem qs S) (kE K Q) → Post K mg E H μ (bodyR d (rho0 n qs) S) (kE K Q)
section
variable {K : PySem.W.Frag} {mg : Str → Option Value} {E : XK} {H : Hp} {μ : Mu} {S : Sto}
abbrev Mu.cut (μ : Mu) (n : Nat) : Mu := ⟨μ.ls.take n, μ.hid⟩
theorem cut_has {n : Nat} {a : Addr} (h : ¬ μ.has a) : ¬ (μ.cut n).has a := fun z => h (z.elim (fun z => .inl (List.mem_of_mem_take z)) .inr)
mutual
theorem Rp.cut {n : Nat} : ∀ {v : V} {p : PV}, Rp K H μ v p → p.inn n = true → Rp K H (μ.cut n) v p
  | _, _, .non, _ => .non
  | _, _, .bl b, _ => .bl b
  | _, _, .int i, _ => .int i
  | _, _, .str x, _ => .str x
  | _, _, .dct m h, _ => .dct (cut_has m) h
  | _, _, .tup h r, e => .tup h (RpL.cut r (by simpa [PV.inn] using e))
  | _, _, .lst m h r, e => .lst (cut_has m) h (RpL.cut r (by simpa [PV.inn] using e))
  | _, _, .frz h r, e => .frz h (RpL.cut r (by simpa [PV.inn] using e))
  | _, _, .loc h, e => .loc (by
    have e' := of_decide_eq_true e
    rw [List.getElem?_take_of_lt e']
    exact h)
theorem RpL.cut {n : Nat} : ∀ {vs : List V} {ps : List PV}, RpL K H μ vs ps → innL n ps = true → RpL K H (μ.cut n) vs ps
  | _, _, .nil, _ => .nil
  | _, _, .cons h r, e => by
    simp only [innL, Bool.and_eq_true] at e
    exact .cons (Rp.cut h e.1) (RpL.cut r e.2)
end
theorem mapM_fz {n k : Nat} (ih : ∀ {v : V} {p p' : PV}, Rp K H μ v p → fzV S n k p = some p' → Rp K H (μ.cut n) v p') : ∀ {vs : List V} {ps ps' : List PV}, RpL K H μ vs ps → mapO (fzV S n k) ps = some ps' → RpL K H (μ.cut n) vs ps'
  | _, _, _, .nil, e => by simp [mapO] at e; subst e; exact .nil
  | _, _, _, .cons h r, e => by
    simp only [mapO] at e
    split at e
    · rename_i p1 ps1 q1 q2
      cases e
      exact .cons (ih h q1) (mapM_fz ih r q2)
    · cases e
theorem fz_ok (rs : RelS K H μ S) {n : Nat} : ∀ {k : Nat} {v : V} {p p' : PV}, Rp K H μ v p → fzV S n k p = some p' → Rp K H (μ.cut n) v p'
  | 0, _, _, _, _, e => by simp [fzV] at e
  | k + 1, _, _, _, .non, e => by simp [fzV] at e; subst e; exact .non
  | k + 1, _, _, _, .bl b, e => by simp [fzV] at e; subst e; exact .bl b
  | k + 1, _, _, _, .int b, e => by simp [fzV] at e; subst e; exact .int b
  | k + 1, _, _, _, .str b, e => by simp [fzV] at e; subst e; exact .str b
  | k + 1, _, _, _, .dct m h, e => by simp [fzV] at e; subst e; exact .dct (cut_has m) h
  | k + 1, _, _, _, .tup h r, e => by
    simp only [fzV, Option.map_eq_some_iff] at e
    obtain ⟨ps', e1, rfl⟩ := e
    exact .tup h (mapM_fz (fun a b => fz_ok rs a b) r e1)
  | k + 1, _, _, _, .lst m h r, e => by
    simp only [fzV, Option.map_eq_some_iff] at e
    obtain ⟨ps', e1, rfl⟩ := e
    exact .lst (cut_has m) h (mapM_fz (fun a b => fz_ok rs a b) r e1)
  | k + 1, _, _, _, .frz h r, e => by
    simp only [fzV, Option.map_eq_some_iff] at e
    obtain ⟨ps', e1, rfl⟩ := e
    exact .frz h (mapM_fz (fun a b => fz_ok rs a b) r e1)
  | k + 1, _, _, _, .loc (n := m) (a := a) h, e => by
    simp only [fzV] at e
    split at e
    · rename_i hm
      cases e
      exact .loc (by rw [List.getElem?_take_of_lt hm]; exact h)
    · rename_i hm
      split at e
      · rename_i xs q
        simp only [Option.map_eq_some_iff] at e
        obtain ⟨ps', e1, rfl⟩ := e
        obtain ⟨vs, hv, rl⟩ := rs.at_ m _ a q h
        refine .lst (fun z => ?_) hv (mapM_fz (fun a b => fz_ok rs a b) rl e1)
        rcases z with z | z
        · obtain ⟨j, hj, ej⟩ := List.getElem_of_mem z
          have hj2 : j < n := by simp at hj; omega
          have ej2 : μ.ls[j]? = some a := by
            rw [← List.getElem?_take_of_lt hj2, List.getElem?_eq_getElem hj, ej]
          obtain ⟨h1, q1⟩ := List.getElem?_eq_some_iff.mp h
          obtain ⟨h2, q2⟩ := List.getElem?_eq_some_iff.mp ej2
          have := (List.getElem_inj rs.nd).mp (q1.trans q2.symm)
          omega
        · exact (rs.hids a z).1 (List.mem_of_getElem? h)
      · cases e
theorem RelS.cut (rs : RelS K H μ S) {n : Nat} (hn : n ≤ S.length) (hb : (S.take n).all (Ent.inn n) = true) : RelS K H (μ.cut n) (S.take n) := by
  refine ⟨by simp [rs.len], ?_, fun a ha => ⟨fun z => (rs.hids a ha).1 (List.mem_of_mem_take z), (rs.hids a ha).2⟩, fun i e a e1 e2 => ?_⟩
  · exact List.Nodup.sublist (List.take_sublist n μ.ls) rs.nd
  · have hi : i < n := by
      have := (List.getElem?_eq_some_iff.mp e1).1
      simp at this
      omega
    have eb := List.all_eq_true.mp hb e (List.mem_of_getElem? e1)
    rw [List.getElem?_take_of_lt hi] at e1 e2
    have := rs.at_ i e a e1 e2
    cases e with
    | lst ps =>
      obtain ⟨vs, h1, r⟩ := this
      exact ⟨vs, h1, r.cut (by simpa [Ent.inn] using eb)⟩
theorem fin_post {n : Nat} {o : Out PV} {Q : VK} (hn : μ.ls.length = n) (h : Post K mg E H μ (fin n o) (kE K Q)) : Post K mg E H μ o (kE K Q) := by
  cases o with
  | stuck => exact h
  | exn c x S1 =>
    unfold fin at h
    simp only at h
    split at h
    · exact h
    · exact h.elim
  | ok p S1 =>
    unfold fin at h
    simp only at h
    split at h
    · exact h
    · split at h
      · rename_i p' q
        split at h
        · rename_i hc
          intro H1 μ1 g r v rv
          have hcut : (μ1.cut n).ls = μ.ls := by
            obtain ⟨ν, e, _⟩ := g.w.ext
            show μ1.ls.take n = μ.ls
            rw [e, List.take_append_of_le_length (by omega), List.take_of_length_le (by omega)]
          have gc : Grow H μ H1 (μ1.cut n) := ⟨⟨⟨[], by rw [hcut]; simp, by simp⟩, g.w.hid, g.w.keep, g.w.there⟩, g.stay⟩
          exact h H1 (μ1.cut n) gc (r.cut hc.2 hc.1) v (fz_ok r rv q)
        · exact h.elim
      · exact h.elim
end
theorem defM_ok {K : PySem.W.Frag} {mg : Str → Option Value} {a n : Nat} {d : SD} : SemOk K mg n (defM a n d) d := fun {H μ S qs Q E} rs h => by
  unfold defM at h
  by_cases hl : qs.length = a
  · rw [if_pos hl] at h; exact fin_post rs.len h
  · rw [if_neg hl] at h; exact h.elim
theorem defK_ok {K : PySem.W.Frag} {mg : Str → Option Value} {a n : Nat} {d : SD} : SemOk K mg n (defK a n d) d := fun {H μ S qs Q E} rs h => by
  unfold defK at h
  by_cases hl : qs.length = a
  · rw [if_pos hl] at h; exact h
  · rw [if_neg hl] at h; exact h.elim
section
variable {P : Program} {w : World} {K : PySem.W.Frag} {mg : Str → Option Value} {base : Heap} {x : Str} {st : Stmt} {f : Addr} {fd : FuncData}
/-- a def stands under its name, as the text has it -/
abbrev FunT (K : PySem.W.Frag) (x : Str) (st : Stmt) (f : Addr) (fd : FuncData) : Prop := FunD K x x (defArgs st) (defBody st) (defScope st) [] [] f fd
/-- the context of a def's body -/
structure At (X : Cx) (P : Program) (w : World) (K : PySem.W.Frag) (mg : Str → Option Value) (base : Heap) (k : Nat) (E : XK) : Prop where
  prog : X.prog = P
  w : X.w = w
  K : X.K = K
  mg : X.mg = mg
  base : X.base = base
  room : Room k X.A
  guards : X.A.guards = some []
  pass : Passes (L2.CX X.prog X.w) X E
theorem body_post {d : SD} {H : Hp} {μ : Mu} {S : Sto} {ρ : Rho} {Q : VK} {E : XK} (h : Post K mg E H μ (bodyR d ρ S) (kE K Q)) : Post K mg E H μ (d ρ S) (kS K { nx := fun _ H' => Q .non H', rt := Q }) := by
  refine h.bnd.mono fun r S1 H1 μ1 g r1 q => ?_
  cases r with
  | nx ρ' => exact fun σ' _ => q H1 μ1 .refl r1 .non .non
  | rt p => exact fun v rv => q H1 μ1 .refl r1 v rv
  | bk ρ' => exact q.elim
  | ct ρ' => exact q.elim
/-- THE RULE: a def by its body -/
theorem fnG_of {N ps : List Str} {k : Nat} {sem : List PV → M PV} {d : SD} (F : FunT K x st f fd) (Sc : FnScope N ps (defScope st))
    (hsem : SemOk K mg N.length sem d)
    (hb : ∀ (cdv : Value) (A : Around) (outer : List Env) (s : Shared) (H : Hp) (E : XK), At (cxOf (L2.CX P w) P w K mg base N x (defScope st) f cdv A outer s H E) P w K mg base k E → PMB (cxOf (L2.CX P w) P w K mg base N x (defScope st) f cdv A outer s H E) E (defBody st) d) :
    FnG P w K mg base (k + 1) f fd ps (spF K mg ps.length sem) := by
  refine ⟨fun vs H Q E h => h.1, fun A outer s H args us vs Q E hr hg e0 hbi r hsp => ?_⟩
  obtain ⟨oc, od, dV, kV, doc, pm, an, cdv, ct, osl, rfl, lk, hcd, _, _⟩ := F.ex
  obtain ⟨hl, qs, S, μ, rs, rq, hq⟩ := hsp
  have inK : K.In s.heap := PySem.W.Frag.In.keeps e0.mod.kin fun b o e => (e0.bs b o e).1
  have noL : s.heap.NoLimit := Heap.NoLimit.keeps e0.mod.nolimit fun b o e => (e0.bs b o e).1
  refine codeAny_call_function hr.depth (inK _ _ lk) rfl Sc.co Sc.gen rfl (PySem.W.codeRec_of inK hcd) (hbi _ _ _ _ ?_)
  refine wpAny_newFunctionEnv_cells Sc.kind (fun ⟨n, v⟩ hy => ?_) fun env he s1 z => ?_
  · rcases Sc.par n (List.of_mem_zip hy).1 with q | q
    · exact .inl q
    · exact .inr ⟨q, PySem.W.cellsFrom_some _ _ _ (.inl q)⟩
  · subst he
    refine ⟨noL.keeps z.toInCall.keep, codeAny_func ?_⟩
    have tk := takes_of (X := cxOf (L2.CX P w) P w K mg base N x (defScope st) f cdv A outer s H E) (E := E) rfl rfl rfl rfl
    have I0 := inv_start (CX := L2.CX P w) (cd := cdv) (qual := x) (f := f) (E := E) Sc hr.hd e0 hl r z
    have body := hb cdv A outer s H E ⟨rfl, rfl, rfl, rfl, rfl, hr.deeper _, hg, passes_call tk fun _ _ _ _ h => h⟩
    refine wpAny_mono (body.run [] s1 (L2.start N vs) H { nx := fun _ H' => Q .non H', rt := Q } I0 ⟨rho0 N.length qs, S, μ, relE_start rq, rs, body_post (hsem rs hq)⟩) (fun fl s' hs => ?_) fun e s' hs => hs
    cases fl with
    | ret u => obtain ⟨v, σ', H', J, rv, q⟩ := hs; exact ⟨v, H', J.os, J.bare, J.base, J.hok, rv, q⟩
    | next => obtain ⟨σ', H', J, q⟩ := hs; exact ⟨.non, H', J.os, J.bare, J.base, J.hok, rfl, q⟩
    | brk => obtain ⟨_, _, _, q⟩ := hs; exact q.elim
    | cont => obtain ⟨_, _, _, q⟩ := hs; exact q.elim
end
end Pm

namespace Pm
open PySem PySem.Spec L2

/-! ## calls of defs -/
/-- a def of the module: where it stands, what it does -/
structure Df (P : Program) (w : World) (K : PySem.W.Frag) (mg : Str → Option Value) (base : Heap) (x : Str) (st : Stmt) (k : Nat) (ps : List Str) (sem : List PV → M PV) : Prop where
  ar : Ar ps.length sem
  ex : ∃ f fd, FunT K x st f fd ∧ mg x = some (.ref f) ∧ FnG P w K mg base k f fd ps (spF K mg ps.length sem)
/-- how positional arguments bind -/
def BindP (x : Str) (st : Stmt) (ps : List Str) : Prop := ∀ (kV doc pm : Value) (an : Option Addr) (cdv ct : Value) (us : List Value), us.length = ps.length → bindArgs (PySem.W.fnOf x x (defArgs st) (defBody st) (defScope st) .none kV doc pm an cdv ct) ⟨us, []⟩ = pure (ps.zip us)
/-- how n positional ones and keywords bind; g puts them in the parameters' order -/
def BindK (x : Str) (st : Stmt) (ps : List Str) (n : Nat) (ks : List Str) (g : {α : Type} → List α → List α → List α) : Prop := ∀ (kV doc pm : Value) (an : Option Addr) (cdv ct : Value) (us ws : List Value), us.length = n → ws.length = ks.length → bindArgs (PySem.W.fnOf x x (defArgs st) (defBody st) (defScope st) .none kV doc pm an cdv ct) ⟨us, ks.zip ws⟩ = pure (ps.zip (g us ws))
def sNever : SD := fun _ _ => .stuck
section
variable {X : Cx} {E : XK} {e c : Expr} {es : List Expr} {m n : ED} {as bs : AD} {pos p : Pos} {P : Program} {w : World} {K : PySem.W.Frag} {mg : Str → Option Value} {base : Heap} {j k : Nat} {x : Str} {st : Stmt} {ps : List Str} {sem : List PV → M PV}
theorem pms_never : PMS X E st sNever := PS.imp ps_never fun D σ H ⟨ρ, S, μ, re, rs, h⟩ => h
theorem Vals.toL {ks : List Str} {vs : List V} {us : List Value} (r : Vals vs us) : vs.length = us.length := r.length
/-- the callee runs -/
theorem run_G {f : Addr} {fd : FuncData} {sp : Sp} {pins : List (Addr × Obj)} {σ : L2.St} {H : Hp} {s : Shared} {Q : VK} {us zs : List Value} {kw : List (Str × Value)} {vs : List V} (F : FnG X.prog X.w X.K X.mg X.base k f fd ps sp) (hr : Room k X.A) (hg : X.A.guards = some []) (hx : Passes (L2.CX X.prog X.w) X E)
    (I : Inv X pins σ H s) (hb : BindsTo s fd ⟨us, kw⟩ (ps.zip zs)) (r : Vals vs zs) (h : sp vs H Q E) : wpAny (model X.prog X.w) X.A (call (.ref f) us kw) (EP X pins σ Q) X.xe s := by
  refine wpAny_call (codeAny_mono (F.run X.A X.stack s H ⟨us, kw⟩ zs vs Q E hr hg I.env0 hb r h) fun o s' hq => ?_)
  cases o with
  | error e => exact hx pins σ H s e s' I hq
  | ok fl =>
    cases fl with
    | ret u => exact I.after hq
    | next => exact hq.elim
    | brk => exact hq.elim
    | cont => exact hq.elim
theorem sp_of (ar : Ar ps.length sem) {Q : VK} {H1 : Hp} {μ1 : Mu} {S1 : Sto} {vs : List V} {qs : List PV} (rs1 : RelS K H1 μ1 S1) (rv : RpL K H1 μ1 vs qs) (h1 : Post K mg E H1 μ1 (sem qs S1) (kE K Q)) : spF K mg ps.length sem vs H1 Q E := by
  rcases ar qs S1 with z | z
  · rw [z] at h1; exact h1.elim
  · exact ⟨rv.length.trans z, qs, S1, μ1, rs1, rv, h1⟩
theorem pm_call (A : At X P w K mg base j E) (F : Df P w K mg base x st k ps sem) (b : BindP x st ps) (hk : k ≤ j) (ha : PAs X E (e :: es) as) (hg : Gl X x := by rfl) (hdb : (x == ("__debug__" : Str)) = false := by decide)
    (he : starEach (e :: es) X.env = (false, eval e X.env) :: starEach es X.env := by rfl) (hpl : (backTo pos (starEach es X.env)).any (·.1) = false := by rfl) : PM X E (.Call (.Name x p) (e :: es) [] pos) (dAp sem as) := by
  obtain ⟨hP, hw, hK, hmg, hbase, hr, hgd, hx⟩ := A
  subst hP hw hK hmg hbase
  obtain ⟨f, fd, FT, gm, FG⟩ := F.ex
  refine ⟨fun pins s σ H Q I ⟨ρ, S, μ, re, rs, h⟩ => ?_⟩
  refine wpAny_Call_Name_kw (ld_glob I hg gm ?_ hdb)
  have hsp : tA X.K X.mg E as σ H (fun vs H1 => spF X.K X.mg ps.length sem vs H1 Q E) := stepA re rs h fun vs qs S1 H1 μ1 re1 rs1 rv g1 h1 => sp_of F.ar rs1 rv h1
  refine PySem.W.callWith_K (h₀ := X.base) I.ok.mod.kin FT.kp (thn (ha.run pos pins s σ H _ I hsp) fun us s1 ⟨vs, H1, I1, r, q⟩ => ⟨I1.kIn, ?_⟩) he hpl
  have bt := (FunD.bindsN FT b) s1 us I1.kIn (by rw [List.append_nil, ← r.length]; exact q.1)
  rw [List.append_nil] at bt
  exact run_G FG (hr.mono hk) hgd hx I1 bt r q
theorem pm_call0 (A : At X P w K mg base j E) (F : Df P w K mg base x st k ps sem) (b : BindP x st ps) (hk : k ≤ j) (hg : Gl X x := by rfl) (hdb : (x == ("__debug__" : Str)) = false := by decide) : PM X E (.Call (.Name x p) [] [] pos) (dAp sem dNil) := by
  obtain ⟨hP, hw, hK, hmg, hbase, hr, hgd, hx⟩ := A
  subst hP hw hK hmg hbase
  obtain ⟨f, fd, FT, gm, FG⟩ := F.ex
  refine ⟨fun pins s σ H Q I ⟨ρ, S, μ, re, rs, h⟩ => ?_⟩
  refine wpAny_Call_Name_kw (ld_glob I hg gm ?_ hdb)
  have q : spF X.K X.mg ps.length sem [] H Q E := sp_of F.ar rs .nil h
  have bt := (FunD.bindsN FT b) s [] I.kIn q.1
  exact PySem.W.callWith_K0 I.kIn FT.kp (run_G FG (hr.mono hk) hgd hx I bt .nil q)
/-! ### keywords -/
abbrev PKs (X : Cx) (E : XK) (kws : List Keyword) (m : AD) : Prop := PK X kws (tA X.K X.mg E m)
theorem PK.imp {kws : List Keyword} {t t' : TA} (h : PK X kws t) (q : ∀ σ H Q, t' σ H Q → t σ H Q) : PK X kws t' := ⟨fun pos pins s σ H Q I w => h.run pos pins s σ H Q I (q σ H Q w)⟩
theorem pmk_nil : PKs X E [] dNil := PK.imp pk_nil fun σ H Q ⟨ρ, S, μ, re, rs, h⟩ => h H μ .refl rs [] .nil
theorem pmk_cons {kws : List Keyword} {nm : Option Str} {kpos : Pos} (ha : PM X E e m) (hr : PKs X E kws as) : PKs X E (⟨nm, e, kpos⟩ :: kws) (dCons m as) := by
  refine PK.imp (pk_cons ha hr) fun σ H Q ⟨ρ, S, μ, re, rs, h⟩ => ?_
  refine stepE re rs h fun v p S1 H1 μ1 re1 rs1 rv g1 h1 => ?_
  refine stepA re1 rs1 h1 fun vs ps S2 H2 μ2 re2 rs2 rvs g2 h2 => ?_
  exact h2 H2 μ2 .refl rs2 _ (.cons (rv.grow g2) rvs)
/-- which of n positional and of m keyword values stand at each parameter -/
def kput (ix : List Nat) {α : Type} (us ws : List α) : List α := ix.filterMap fun i => (us ++ ws)[i]?
def dApK (n l : Nat) (ix : List Nat) (sem : List PV → M PV) (as bs : AD) : ED := fun ρ => bnd (as ρ) fun us => bnd (bs ρ) fun ws => if us.length = n ∧ ws.length = l then sem (kput ix us ws) else stk
theorem vals_kput {ix : List Nat} {vs zs : List V} {us ws : List Value} (r1 : Vals vs us) (r2 : Vals zs ws) : Vals (kput ix vs zs) (kput ix us ws) := by
  have r := r1.append r2
  unfold kput
  induction ix with
  | nil => exact .nil
  | cons i ix ih =>
    rw [List.filterMap_cons, List.filterMap_cons]
    cases q : (vs ++ zs)[i]? with
    | none => rw [r.none_of q]; exact ih
    | some v =>
      obtain ⟨u, e, ru⟩ := r.get q
      rw [e]
      exact .cons ru ih
theorem rp_kput {ix : List Nat} {H : Hp} {μ : Mu} {vs zs : List V} {us ws : List PV} (r1 : RpL K H μ vs us) (r2 : RpL K H μ zs ws) : RpL K H μ (kput ix vs zs) (kput ix us ws) := by
  have r := r1.append r2
  unfold kput
  induction ix with
  | nil => exact .nil
  | cons i ix ih =>
    rw [List.filterMap_cons, List.filterMap_cons]
    cases q : (us ++ ws)[i]? with
    | none =>
      have : (vs ++ zs)[i]? = none := by
        rw [List.getElem?_eq_none_iff] at q ⊢
        rw [r.length]; exact q
      rw [this]; exact ih
    | some v =>
      obtain ⟨u, e, ru⟩ := r.get q
      rw [e]
      exact .cons ru ih
theorem pm_callK (n : Nat) (ks : List Str) (ix : List Nat) {kws : List Keyword} (A : At X P w K mg base j E) (F : Df P w K mg base x st k ps sem) (b : BindK x st ps n ks (kput ix)) (hk : k ≤ j) (ha : PAs X E (e :: es) as) (hkw : PKs X E kws bs) (hg : Gl X x := by rfl)
    (hall : (backToKw pos (keywordEach kws X.env)).all (·.1.isSome) = true := by rfl) (hks : (backToKw pos (keywordEach kws X.env)).filterMap (·.1) = ks := by rfl)
    (hdb : (x == ("__debug__" : Str)) = false := by decide) (he : starEach (e :: es) X.env = (false, eval e X.env) :: starEach es X.env := by rfl)
    (hpl : ((backTo pos (starEach (e :: es) X.env)).any (·.1) || (backToKw pos (keywordEach kws X.env)).any (·.1.isNone)) = false := by rfl) : PM X E (.Call (.Name x p) (e :: es) kws pos) (dApK n ks.length ix sem as bs) := by
  obtain ⟨hP, hw, hK, hmg, hbase, hr, hgd, hx⟩ := A
  subst hP hw hK hmg hbase
  obtain ⟨f, fd, FT, gm, FG⟩ := F.ex
  refine ⟨fun pins s σ H Q I ⟨ρ, S, μ, re, rs, h⟩ => ?_⟩
  refine wpAny_Call_Name_kw (ld_glob I hg gm ?_ hdb)
  have hsp : tA X.K X.mg E as σ H (fun vs H1 => tA X.K X.mg E bs σ H1 fun zs H2 => vs.length = n ∧ zs.length = ks.length ∧ spF X.K X.mg ps.length sem (kput ix vs zs) H2 Q E) := by
    refine stepA re rs h fun vs qs S1 H1 μ1 re1 rs1 rv g1 h1 => ?_
    refine stepA re1 rs1 h1 fun zs ts S2 H2 μ2 re2 rs2 rz g2 h2 => ?_
    by_cases hl : qs.length = n ∧ ts.length = ks.length
    · rw [if_pos hl] at h2
      exact ⟨rv.length.trans hl.1, rz.length.trans hl.2, sp_of F.ar rs2 (rp_kput (rv.grow g2) rz) h2⟩
    · rw [if_neg hl] at h2; exact h2.elim
  refine PySem.W.callWith_KW (h₀ := X.base) I.ok.mod.kin FT.kp hall (thn (ha.run pos pins s σ H _ I hsp) fun us s1 ⟨vs, H1, I1, r, q⟩ => ?_) hpl he
  refine thn (hkw.run pos pins s1 σ H1 _ I1 q) fun ws s2 ⟨zs, H2, I2, rz, l1, l2, q2⟩ => ⟨I2.kIn, ?_⟩
  rw [hks]
  obtain ⟨oc, od, dV, kV, doc, pm, an, cdv, ct, osl, rfl, lk, hcd, hD, hKD⟩ := FT.ex
  have eD : dV = .none := hD.elim (fun z => z.2) fun z => absurd rfl z.1
  subst eD
  exact run_G FG (hr.mono hk) hgd hx I2 (.of_eq (b kV doc pm an cdv ct us ws (by rw [← r.length]; exact l1) (by rw [← rz.length]; exact l2))) (vals_kput r rz) q2
theorem pm_callK0 (ks : List Str) (ix : List Nat) {kws : List Keyword} (A : At X P w K mg base j E) (F : Df P w K mg base x st k ps sem) (b : BindK x st ps 0 ks (kput ix)) (hk : k ≤ j) (hkw : PKs X E kws bs) (hg : Gl X x := by rfl)
    (hall : (backToKw pos (keywordEach kws X.env)).all (·.1.isSome) = true := by rfl) (hks : (backToKw pos (keywordEach kws X.env)).filterMap (·.1) = ks := by rfl)
    (hdb : (x == ("__debug__" : Str)) = false := by decide)
    (hpl : ((backTo pos (starEach [] X.env)).any (·.1) || (backToKw pos (keywordEach kws X.env)).any (·.1.isNone)) = false := by rfl) : PM X E (.Call (.Name x p) [] kws pos) (dApK 0 ks.length ix sem dNil bs) := by
  obtain ⟨hP, hw, hK, hmg, hbase, hr, hgd, hx⟩ := A
  subst hP hw hK hmg hbase
  obtain ⟨f, fd, FT, gm, FG⟩ := F.ex
  refine ⟨fun pins s σ H Q I ⟨ρ, S, μ, re, rs, h⟩ => ?_⟩
  refine wpAny_Call_Name_kw (ld_glob I hg gm ?_ hdb)
  have hsp : tA X.K X.mg E bs σ H fun zs H2 => zs.length = ks.length ∧ spF X.K X.mg ps.length sem (kput ix [] zs) H2 Q E := by
    refine stepA re rs h fun zs ts S2 H2 μ2 re2 rs2 rz g2 h2 => ?_
    by_cases hl : ([] : List PV).length = 0 ∧ ts.length = ks.length
    · rw [if_pos hl] at h2
      exact ⟨rz.length.trans hl.2, sp_of F.ar rs2 (rp_kput .nil rz) h2⟩
    · rw [if_neg hl] at h2; exact h2.elim
  refine PySem.W.callWith_KW0 (h₀ := X.base) I.ok.mod.kin FT.kp hall (thn (hkw.run pos pins s σ H _ I hsp) fun ws s2 ⟨zs, H2, I2, rz, l2, q2⟩ => ⟨I2.kIn, ?_⟩) hpl
  rw [hks]
  obtain ⟨oc, od, dV, kV, doc, pm, an, cdv, ct, osl, rfl, lk, hcd, hD, hKD⟩ := FT.ex
  have eD : dV = .none := hD.elim (fun z => z.2) fun z => absurd rfl z.1
  subst eD
  exact run_G FG (hr.mono hk) hgd hx I2 (.of_eq (b kV doc pm an cdv ct [] ws rfl (by rw [← rz.length]; exact l2))) (vals_kput .nil rz) q2
theorem df_of {N : List Str} {d : SD} (h : ∃ f fd, FunT K x st f fd ∧ mg x = some (.ref f)) (ar : Ar ps.length sem) (Sc : FnScope N ps (defScope st)) (hsem : SemOk K mg N.length sem d)
    (hb : ∀ (X : Cx) (E : XK), X.N = N → X.env.scope = defScope st → True → At X P w K mg base k E → True) : True := trivial
end
end Pm

namespace Pm
open PySem PySem.Spec L2

/-! ## built-ins, by values -/
def lenM (ps : List PV) : M PV := fun S => match ps with
  | [.str x] => if x.length ≤ LIM then .ok (.int x.length) S else .stuck
  | [.tup xs] => .ok (.int xs.length) S
  | [p] => match asL p S with
    | some xs => .ok (.int xs.length) S
    | none => .stuck
  | _ => .stuck
def boolsL : List PV → Option (List Bool)
  | [] => some []
  | .bl b :: ps => match boolsL ps with
    | some bs => some (b :: bs)
    | none => none
  | _ :: _ => none
def intsL : List PV → Option (List Int)
  | [] => some []
  | .int b :: ps => match intsL ps with
    | some bs => some (b :: bs)
    | none => none
  | _ :: _ => none
def allM (ps : List PV) : M PV := fun S => match ps with
  | [p] => match asL p S with
    | some xs => match boolsL xs with
      | some bs => .ok (.bl (bs.all id)) S
      | none => .stuck
    | none => .stuck
  | _ => .stuck
def anyM (ps : List PV) : M PV := fun S => match ps with
  | [p] => match asL p S with
    | some xs => match boolsL xs with
      | some bs => .ok (.bl (bs.any id)) S
      | none => .stuck
    | none => .stuck
  | _ => .stuck
def sumM (ps : List PV) : M PV := fun S => match ps with
  | [p] => match asL p S with
    | some xs => match intsL xs with
      | some bs => .ok (.int bs.sum) S
      | none => .stuck
    | none => .stuck
  | _ => .stuck
/-- the greatest of ints -/
def maxI : List Int → Int
  | [] => 0
  | [x] => x
  | x :: y :: r => max x (maxI (y :: r))
def maxLM (ps : List PV) : M PV := fun S => match ps with
  | [p] => match asL p S with
    | some xs => match intsL xs with
      | some bs => if bs = [] then .stuck else .ok (.int (maxI bs)) S
      | none => .stuck
    | none => .stuck
  | _ => .stuck
def absM (ps : List PV) : M PV := fun S => match ps with
  | [.int i] => .ok (.int (if i < 0 then -i else i)) S
  | _ => .stuck
def max2M (ps : List PV) : M PV := fun S => match ps with
  | [.int i, .int j] => .ok (.int (if j > i then j else i)) S
  | _ => .stuck
def min2M (ps : List PV) : M PV := fun S => match ps with
  | [.int i, .int j] => .ok (.int (if j < i then j else i)) S
  | _ => .stuck
def intM (ps : List PV) : M PV := fun S => match ps with
  | [.int i] => .ok (.int i) S
  | [.bl k] => .ok (.int (if k then 1 else 0)) S
  | _ => .stuck
def gcdM (ps : List PV) : M PV := fun S => match ps with
  | [.int i, .int j] => .ok (.int (Int.gcd i j)) S
  | _ => .stuck
def isqrtM (ps : List PV) : M PV := fun S => match ps with
  | [.int i] => if 0 ≤ i ∧ i.toNat.log2 < 13000 then .ok (.int ((Float64.isqrt i.toNat : Nat) : Int)) S else .stuck
  | _ => .stuck
def divmodM (ps : List PV) : M PV := fun S => match ps with
  | [.int i, .int j] => if 0 < j ∧ j < 1073741824 then .ok (.tup [.int (i / j), .int (i % j)]) S else .stuck
  | _ => .stuck
def tupleM (ps : List PV) : M PV := fun S => match ps with
  | [.tup xs] => .ok (.tup xs) S
  | [p] => match asL p S with
    | some xs => .ok (.tup xs) S
    | none => .stuck
  | _ => .stuck
def listM (ps : List PV) : M PV := fun S => match ps with
  | [.tup xs] => .ok (.lst xs) S
  | [p] => match asL p S with
    | some xs => .ok (.lst xs) S
    | none => .stuck
  | _ => .stuck
def reprM (ps : List PV) : M PV := fun S => match ps with
  | [p] => match dataS p S with
    | some d => if d.showable = true ∧ SeqAt.shaped d = true ∧ d.shown.length ≤ LIM then .ok (.str d.shown) S else .stuck
    | none => .stuck
  | _ => .stuck
def kindP : PV → String
  | .non => "NoneType"
  | .bl _ => "bool"
  | .int _ => "int"
  | .str _ => "str"
  | .tup _ => "tuple"
  | .dct => "dict"
  | _ => "list"
def isT (T k : String) : Bool := k == T || (T == "int" && k == "bool")
def isiM (T : String) (p : PV) : M PV := ret (.bl (isT T (kindP p)))

section
variable {X : Cx} {E : XK}
def CallM (X : Cx) (E : XK) (r : List V → Hp → VK → Prop) (f : List PV → M PV) : Prop := ∀ vs ps H μ S Q, RelS X.K H μ S → RpL X.K H μ vs ps → Post X.K X.mg E H μ (f ps S) (kE X.K Q) → r vs H Q
section
variable {e : Expr} {es : List Expr} {as : AD} {pos p : Pos} {x : Str} {id T : String} {r : List V → Hp → VK → Prop} {f : List PV → M PV} {m : ED}
theorem tCB_of (hf : CallM X E r f) {σ : L2.St} {H : Hp} {Q : VK} (h : tE X.K X.mg E (dAp f as) σ H Q) : tCB r (tA X.K X.mg E as) σ H Q := by
  obtain ⟨ρ, S, μ, re, rs, h⟩ := h
  exact stepA re rs h fun vs ps S1 H1 μ1 re1 rs1 rv g1 h1 => hf vs ps H1 μ1 S1 Q rs1 rv h1
theorem pm_bi (o : CallR X (.builtin id) r ∧ CallM X E r f) (hm : X.mg x = none) (hv : bootBuiltins x = some (.builtin id)) (ha : PAs X E (e :: es) as) (hg : Gl X x := by rfl) (hn : x ≠ "__name__" := by decide) (hdb : (x == ("__debug__" : Str)) = false := by decide)
    (he : starEach (e :: es) X.env = (false, eval e X.env) :: starEach es X.env := by rfl) (hpl : (backTo pos (starEach es X.env)).any (·.1) = false := by rfl) : PM X E (.Call (.Name x p) (e :: es) [] pos) (dAp f as) :=
  PE.imp (pe_callB o.1 hg hm hv ha hn hdb he hpl) fun σ H Q h => tCB_of o.2 h
theorem pm_ty (o : CallR X (.type T) r ∧ CallM X E r f) (hm : X.mg x = none) (hv : bootBuiltins x = some (.type T)) (ha : PAs X E (e :: es) as) (hg : Gl X x := by rfl) (hn : x ≠ "__name__" := by decide) (hdb : (x == ("__debug__" : Str)) = false := by decide)
    (he : starEach (e :: es) X.env = (false, eval e X.env) :: starEach es X.env := by rfl) (hpl : (backTo pos (starEach es X.env)).any (·.1) = false := by rfl) : PM X E (.Call (.Name x p) (e :: es) [] pos) (dAp f as) :=
  PE.imp (pe_callTy o.1 hg hm hv ha hn hdb he hpl) fun σ H Q h => tCB_of o.2 h
theorem pm_fun (o : CallR X (.builtin id) r ∧ CallM X E r f) (hm : X.mg x = some (.builtin id)) (ha : PAs X E (e :: es) as) (hg : Gl X x := by rfl) (hdb : (x == ("__debug__" : Str)) = false := by decide)
    (he : starEach (e :: es) X.env = (false, eval e X.env) :: starEach es X.env := by rfl) (hpl : (backTo pos (starEach es X.env)).any (·.1) = false := by rfl) : PM X E (.Call (.Name x p) (e :: es) [] pos) (dAp f as) :=
  PE.imp (pe_callBfun o.1 hg hm ha hdb he hpl) fun σ H Q h => tCB_of o.2 h
end
theorem c_len : CallR X (.builtin "len") (fun xs H Q => ∃ x n, xs = [x] ∧ LenV X.K x H n ∧ Q (.int n) H) ∧ CallM X E (fun xs H Q => ∃ x n, xs = [x] ∧ LenV X.K x H n ∧ Q (.int n) H) lenM := by
  refine ⟨call_len, ?_⟩
  intro vs ps H μ S Q rs rv h
  have gen : ∀ {v : V} {p : PV}, Rp X.K H μ v p → Post X.K X.mg E H μ (match asL p S with
    | some xs => .ok (.int xs.length) S
    | none => .stuck) (kE X.K Q) → ∃ n, LenV X.K v H n ∧ Q (.int n) H := by
    intro v p rv h
    split at h
    · rename_i xs e
      obtain ⟨a, ws, rfl, hq, r⟩ := asL_ok e rs rv
      exact ⟨ws.length, .inl ⟨ws, hq, rfl⟩, by rw [r.length]; exact now_ rs (.int _) h⟩
    · exact h.elim
  cases rv with
  | nil => exact h.elim
  | @cons v vs p ps rv t =>
    cases t with
    | cons _ _ => cases rv <;> exact h.elim
    | nil =>
      cases rv with
      | str x =>
        obtain ⟨hl, h⟩ := iff_post h
        exact ⟨_, x.length, rfl, ⟨lim_le hl, rfl⟩, now_ rs (.int _) h⟩
      | @tup a vs ps hq r => exact ⟨_, vs.length, rfl, .inr ⟨vs, hq, rfl⟩, by rw [r.length]; exact now_ rs (.int _) h⟩
      | lst n z r => obtain ⟨n, h1, h2⟩ := gen (.lst n z r) h; exact ⟨_, n, rfl, h1, h2⟩
      | frz z r => obtain ⟨n, h1, h2⟩ := gen (.frz z r) h; exact ⟨_, n, rfl, h1, h2⟩
      | loc z => obtain ⟨n, h1, h2⟩ := gen (.loc z) h; exact ⟨_, n, rfl, h1, h2⟩
      | non => obtain ⟨n, h1, h2⟩ := gen .non h; exact ⟨_, n, rfl, h1, h2⟩
      | bl b => obtain ⟨n, h1, h2⟩ := gen (.bl b) h; exact ⟨_, n, rfl, h1, h2⟩
      | int b => obtain ⟨n, h1, h2⟩ := gen (.int b) h; exact ⟨_, n, rfl, h1, h2⟩
      | dct y z => obtain ⟨n, h1, h2⟩ := gen (.dct y z) h; exact ⟨_, n, rfl, h1, h2⟩
theorem boolsL_ok {K : PySem.W.Frag} {H : Hp} {μ : Mu} : ∀ {vs : List V} {ps : List PV} {bs : List Bool}, RpL K H μ vs ps → boolsL ps = some bs → vs = bs.map V.bl
  | _, _, _, .nil, e => by simp [boolsL] at e; subst e; rfl
  | _, _, _, .cons r t, e => by
    cases r with
    | bl b =>
      simp only [boolsL] at e
      split at e
      · rename_i bs q
        cases e
        rw [boolsL_ok t q]; rfl
      · cases e
    | _ => simp [boolsL] at e
theorem intsL_ok {K : PySem.W.Frag} {H : Hp} {μ : Mu} : ∀ {vs : List V} {ps : List PV} {bs : List Int}, RpL K H μ vs ps → intsL ps = some bs → vs = bs.map V.int
  | _, _, _, .nil, e => by simp [intsL] at e; subst e; rfl
  | _, _, _, .cons r t, e => by
    cases r with
    | int b =>
      simp only [intsL] at e
      split at e
      · rename_i bs q
        cases e
        rw [intsL_ok t q]; rfl
      · cases e
    | _ => simp [intsL] at e
theorem c_all (hc : X.calm = true) : CallR X (.builtin "all") (rAll X.K) ∧ CallM X E (rAll X.K) allM := by
  refine ⟨cr_all hc, ?_⟩
  intro vs ps H μ S Q rs rv h
  cases rv with
  | nil => exact h.elim
  | cons rv t =>
    cases t with
    | cons _ _ => exact h.elim
    | nil =>
      simp only [allM] at h
      split at h
      · rename_i xs e
        split at h
        · rename_i bs q
          obtain ⟨a, ws, rfl, hq, r⟩ := asL_ok e rs rv
          have := boolsL_ok r q
          subst this
          exact ⟨a, bs, rfl, hq, now_ rs (.bl _) h⟩
        · exact h.elim
      · exact h.elim
theorem c_any (hc : X.calm = true) : CallR X (.builtin "any") (rAny X.K) ∧ CallM X E (rAny X.K) anyM := by
  refine ⟨cr_any hc, ?_⟩
  intro vs ps H μ S Q rs rv h
  cases rv with
  | nil => exact h.elim
  | cons rv t =>
    cases t with
    | cons _ _ => exact h.elim
    | nil =>
      simp only [anyM] at h
      split at h
      · rename_i xs e
        split at h
        · rename_i bs q
          obtain ⟨a, ws, rfl, hq, r⟩ := asL_ok e rs rv
          have := boolsL_ok r q
          subst this
          exact ⟨a, bs, rfl, hq, now_ rs (.bl _) h⟩
        · exact h.elim
      · exact h.elim
theorem c_sum (hc : X.calm = true) : CallR X (.builtin "sum") (rSum X.K) ∧ CallM X E (rSum X.K) sumM := by
  refine ⟨cr_sum hc, ?_⟩
  intro vs ps H μ S Q rs rv h
  cases rv with
  | nil => exact h.elim
  | cons rv t =>
    cases t with
    | cons _ _ => exact h.elim
    | nil =>
      simp only [sumM] at h
      split at h
      · rename_i xs e
        split at h
        · rename_i bs q
          obtain ⟨a, ws, rfl, hq, r⟩ := asL_ok e rs rv
          have := intsL_ok r q
          subst this
          exact ⟨a, bs, rfl, hq, now_ rs (.int _) h⟩
        · exact h.elim
      · exact h.elim
theorem maxI_ge : ∀ (l : List Int) (x : Int), x ∈ l → x ≤ maxI l
  | [], _, h => nomatch h
  | [y], x, h => by
    have e : x = y := by simpa using h
    subst e; exact Int.le_refl _
  | y :: z :: r, x, h => by
    rw [maxI]
    rcases List.mem_cons.mp h with e | e
    · subst e; exact Int.le_max_left ..
    · exact Int.le_trans (maxI_ge (z :: r) x e) (Int.le_max_right ..)
theorem maxI_mem : ∀ (l : List Int), l ≠ [] → maxI l ∈ l
  | [], h => absurd rfl h
  | [y], _ => List.mem_cons_self
  | y :: z :: r, _ => by
    rw [maxI]
    by_cases h : maxI (z :: r) ≤ y
    · rw [Int.max_eq_left h]; exact List.mem_cons_self
    · rw [Int.max_eq_right (by omega)]; exact List.mem_cons_of_mem _ (maxI_mem (z :: r) (List.cons_ne_nil _ _))
theorem c_maxL (hc : X.calm = true) : CallR X (.builtin "max") (rMax X.K) ∧ CallM X E (rMax X.K) maxLM := by
  refine ⟨cr_max hc, ?_⟩
  intro vs ps H μ S Q rs rv h
  cases rv with
  | nil => exact h.elim
  | cons rv t =>
    cases t with
    | cons _ _ => exact h.elim
    | nil =>
      simp only [maxLM] at h
      split at h
      · rename_i xs e
        split at h
        · rename_i bs q
          obtain ⟨a, ws, rfl, hq, r⟩ := asL_ok e rs rv
          have := intsL_ok r q
          subst this
          by_cases hb : bs = []
          · rw [if_pos hb] at h; exact h.elim
          · rw [if_neg hb] at h
            refine ⟨a, bs, rfl, hq, List.length_pos_iff.mpr hb, fun m h1 h2 => ?_⟩
            have e1 : m = maxI bs := Int.le_antisymm (maxI_ge bs m h1) (h2 _ (maxI_mem bs hb))
            rw [e1]
            exact now_ rs (.int _) h
        · exact h.elim
      · exact h.elim
theorem callM1 {r : List V → Hp → VK → Prop} {f : List PV → M PV} (h0 : ∀ S, f [] S = .stuck) (h2 : ∀ p q ps S, f (p :: q :: ps) S = .stuck) (h1 : ∀ v p H μ S Q, RelS X.K H μ S → Rp X.K H μ v p → Post X.K X.mg E H μ (f [p] S) (kE X.K Q) → r [v] H Q) : CallM X E r f := by
  intro vs ps H μ S Q rs rv h
  cases rv with
  | nil => rw [h0] at h; exact h.elim
  | cons rv t =>
    cases t with
    | cons _ _ => rw [h2] at h; exact h.elim
    | nil => exact h1 _ _ H μ S Q rs rv h
theorem callM2 {r : List V → Hp → VK → Prop} {f : List PV → M PV} (h0 : ∀ S, f [] S = .stuck) (h1 : ∀ p S, f [p] S = .stuck) (h3 : ∀ p q u ps S, f (p :: q :: u :: ps) S = .stuck) (h2 : ∀ v p w q H μ S Q, RelS X.K H μ S → Rp X.K H μ v p → Rp X.K H μ w q → Post X.K X.mg E H μ (f [p, q] S) (kE X.K Q) → r [v, w] H Q) : CallM X E r f := by
  intro vs ps H μ S Q rs rv h
  cases rv with
  | nil => rw [h0] at h; exact h.elim
  | cons rv t =>
    cases t with
    | nil => rw [h1] at h; exact h.elim
    | cons rw' t =>
      cases t with
      | nil => exact h2 _ _ _ _ H μ S Q rs rv rw' h
      | cons _ _ => rw [h3] at h; exact h.elim
theorem c_abs : CallR X (.builtin "abs") (fun xs H Q => ∃ i, xs = [.int i] ∧ Q (.int (if i < 0 then -i else i)) H) ∧ CallM X E (fun xs H Q => ∃ i, xs = [.int i] ∧ Q (.int (if i < 0 then -i else i)) H) absM := by
  refine ⟨call_abs, callM1 (fun _ => rfl) (fun p q _ _ => by cases p <;> rfl) fun v p H μ S Q rs rv h => ?_⟩
  cases rv with
  | int i => exact ⟨i, rfl, now_ rs (.int _) h⟩
  | _ => exact h.elim
theorem c_int : CallR X (.type "int") (fun xs H Q => (∃ i, xs = [.int i] ∧ Q (.int i) H) ∨ ∃ k, xs = [.bl k] ∧ Q (.int (if k then 1 else 0)) H) ∧ CallM X E (fun xs H Q => (∃ i, xs = [.int i] ∧ Q (.int i) H) ∨ ∃ k, xs = [.bl k] ∧ Q (.int (if k then 1 else 0)) H) intM := by
  refine ⟨call_int1, callM1 (fun _ => rfl) (fun p q _ _ => by cases p <;> rfl) fun v p H μ S Q rs rv h => ?_⟩
  cases rv with
  | int i => exact .inl ⟨i, rfl, now_ rs (.int _) h⟩
  | bl i => exact .inr ⟨i, rfl, now_ rs (.int _) h⟩
  | _ => exact h.elim
theorem c_max2 (hc : X.calm = true) : CallR X (.builtin "max") (fun xs H Q => ∃ i j, xs = [.int i, .int j] ∧ Q (.int (if j > i then j else i)) H) ∧ CallM X E (fun xs H Q => ∃ i j, xs = [.int i, .int j] ∧ Q (.int (if j > i then j else i)) H) max2M := by
  refine ⟨call_max2 hc, callM2 (fun _ => rfl) (fun p _ => by cases p <;> rfl) (fun p q _ _ _ => by cases p <;> cases q <;> rfl) fun v p w q H μ S Q rs rv rw' h => ?_⟩
  cases rv with
  | int i => cases rw' with
    | int j => exact ⟨i, j, rfl, now_ rs (.int _) h⟩
    | _ => exact h.elim
  | _ => cases rw' <;> exact h.elim
theorem c_min2 (hc : X.calm = true) : CallR X (.builtin "min") (fun xs H Q => ∃ i j, xs = [.int i, .int j] ∧ Q (.int (if j < i then j else i)) H) ∧ CallM X E (fun xs H Q => ∃ i j, xs = [.int i, .int j] ∧ Q (.int (if j < i then j else i)) H) min2M := by
  refine ⟨call_min2 hc, callM2 (fun _ => rfl) (fun p _ => by cases p <;> rfl) (fun p q _ _ _ => by cases p <;> cases q <;> rfl) fun v p w q H μ S Q rs rv rw' h => ?_⟩
  cases rv with
  | int i => cases rw' with
    | int j => exact ⟨i, j, rfl, now_ rs (.int _) h⟩
    | _ => exact h.elim
  | _ => cases rw' <;> exact h.elim
theorem c_gcd : CallR X (.builtin "math.gcd") rGcd ∧ CallM X E rGcd gcdM := by
  refine ⟨cr_gcd, callM2 (fun _ => rfl) (fun p _ => by cases p <;> rfl) (fun p q _ _ _ => by cases p <;> cases q <;> rfl) fun v p w q H μ S Q rs rv rw' h => ?_⟩
  cases rv with
  | int i => cases rw' with
    | int j => exact ⟨i, j, rfl, now_ rs (.int _) h⟩
    | _ => exact h.elim
  | _ => cases rw' <;> exact h.elim
theorem c_divmod : CallR X (.builtin "divmod") (fun xs H Q => ∃ i j, xs = [.int i, .int j] ∧ CDiv i j ∧ ∀ p, H p = none → Q (.ref p) (upd H p (.tup [.int (i / j), .int (i % j)]))) ∧ CallM X E (fun xs H Q => ∃ i j, xs = [.int i, .int j] ∧ CDiv i j ∧ ∀ p, H p = none → Q (.ref p) (upd H p (.tup [.int (i / j), .int (i % j)]))) divmodM := by
  refine ⟨call_divmod, callM2 (fun _ => rfl) (fun p _ => by cases p <;> rfl) (fun p q _ _ _ => by cases p <;> cases q <;> rfl) fun v p w q H μ S Q rs rv rw' h => ?_⟩
  cases rv with
  | int i => cases rw' with
    | int j =>
      obtain ⟨hl, h⟩ := iff_post h
      exact ⟨i, j, rfl, hl, fun p hp => new_tup rs (.cons (.int _) (.cons (.int _) .nil)) h p hp⟩
    | _ => exact h.elim
  | _ => cases rw' <;> exact h.elim
def rIsq : List V → Hp → VK → Prop := fun vs H Q => ∃ a : Int, vs = [.int a] ∧ 0 ≤ a ∧ a.toNat.log2 < 13000 ∧ Q (.int ((Float64.isqrt a.toNat : Nat) : Int)) H
theorem cr_isqrt : CallR X (.builtin "math.isqrt") rIsq := by
  intro pins s σ H vs us Q I r h
  obtain ⟨a, rfl, h0, h1, q⟩ := h
  obtain ⟨u, rfl, ru⟩ := vals1 r
  obtain ⟨t, rfl⟩ := ru
  refine PySem.call_function_meets PySem.W.MGF.kind_isqrt PySem.W.MGF.plain_isqrt PySem.W.MGF.entry_isqrt (PySem.W.MGF.args_isqrt _) (PySem.W.mg_run_isqrt a t (by omega) (by omega) (by omega)).meets ?_
  exact ⟨.int _, H, I.tok _, ⟨_, rfl⟩, q⟩
theorem c_isqrt : CallR X (.builtin "math.isqrt") rIsq ∧ CallM X E rIsq isqrtM := by
  refine ⟨cr_isqrt, callM1 (fun _ => rfl) (fun p q _ _ => by cases p <;> rfl) fun v p H μ S Q rs rv h => ?_⟩
  cases rv with
  | int i =>
    obtain ⟨hl, h⟩ := iff_post h
    exact ⟨i, rfl, hl.1, hl.2, now_ rs (.int _) h⟩
  | _ => exact h.elim
theorem seqM_of {K : PySem.W.Frag} {H : Hp} {μ : Mu} {S : Sto} {p : PV} {v : V} {xs : List PV} (e : asL p S = some xs) (rs : RelS K H μ S) (rv : Rp K H μ v p) : ∃ a vs, v = .ref a ∧ SqL K H a vs ∧ RpL K H μ vs xs := asL_ok e rs rv
theorem c_tuple : CallR X (.type "tuple") (fun xs H Q => ∃ p ys, xs = [.ref p] ∧ ((SqL X.K H p ys ∧ ∀ l, H l = none → Q (.ref l) (upd H l (.tup ys))) ∨ (SqT X.K H p ys ∧ Q (.ref p) H))) ∧ CallM X E (fun xs H Q => ∃ p ys, xs = [.ref p] ∧ ((SqL X.K H p ys ∧ ∀ l, H l = none → Q (.ref l) (upd H l (.tup ys))) ∨ (SqT X.K H p ys ∧ Q (.ref p) H))) tupleM := by
  refine ⟨call_tuple_of, callM1 (fun _ => rfl) (fun p q _ _ => by cases p <;> rfl) fun v p H μ S Q rs rv h => ?_⟩
  have gen : ∀ {p : PV}, Rp X.K H μ v p → Post X.K X.mg E H μ (match asL p S with
    | some xs => .ok (.tup xs) S
    | none => .stuck) (kE X.K Q) → ∃ p ys, [v] = [.ref p] ∧ ((SqL X.K H p ys ∧ ∀ l, H l = none → Q (.ref l) (upd H l (.tup ys))) ∨ (SqT X.K H p ys ∧ Q (.ref p) H)) := by
    intro p rv h
    split at h
    · rename_i xs e
      obtain ⟨a, ws, rfl, hq, r⟩ := asL_ok e rs rv
      exact ⟨a, ws, rfl, .inl ⟨hq, fun l hl => new_tup rs r h l hl⟩⟩
    · exact h.elim
  cases rv with
  | @tup a vs ps hq r => exact ⟨a, vs, rfl, .inr ⟨hq, now_ rs (.tup hq r) h⟩⟩
  | non => exact gen .non h
  | bl b => exact gen (.bl b) h
  | int b => exact gen (.int b) h
  | str b => exact gen (.str b) h
  | lst n z r => exact gen (.lst n z r) h
  | frz z r => exact gen (.frz z r) h
  | loc z => exact gen (.loc z) h
  | dct y z => exact gen (.dct y z) h
theorem c_list : CallR X (.type "list") (fun xs H Q => ∃ p ys, xs = [.ref p] ∧ (SqL X.K H p ys ∨ SqT X.K H p ys) ∧ ∀ l, H l = none → Q (.ref l) (upd H l (.lst ys))) ∧ CallM X E (fun xs H Q => ∃ p ys, xs = [.ref p] ∧ (SqL X.K H p ys ∨ SqT X.K H p ys) ∧ ∀ l, H l = none → Q (.ref l) (upd H l (.lst ys))) listM := by
  refine ⟨call_list_of, callM1 (fun _ => rfl) (fun p q _ _ => by cases p <;> rfl) fun v p H μ S Q rs rv h => ?_⟩
  have gen : ∀ {p : PV}, Rp X.K H μ v p → Post X.K X.mg E H μ (match asL p S with
    | some xs => .ok (.lst xs) S
    | none => .stuck) (kE X.K Q) → ∃ p ys, [v] = [.ref p] ∧ (SqL X.K H p ys ∨ SqT X.K H p ys) ∧ ∀ l, H l = none → Q (.ref l) (upd H l (.lst ys)) := by
    intro p rv h
    split at h
    · rename_i xs e
      obtain ⟨a, ws, rfl, hq, r⟩ := asL_ok e rs rv
      exact ⟨a, ws, rfl, .inl hq, fun l hl => new_lst rs r h l hl⟩
    · exact h.elim
  cases rv with
  | @tup a vs ps hq r => exact ⟨a, vs, rfl, .inr hq, fun l hl => new_lst rs r h l hl⟩
  | non => exact gen .non h
  | bl b => exact gen (.bl b) h
  | int b => exact gen (.int b) h
  | str b => exact gen (.str b) h
  | lst n z r => exact gen (.lst n z r) h
  | frz z r => exact gen (.frz z r) h
  | loc z => exact gen (.loc z) h
  | dct y z => exact gen (.dct y z) h

/-! ### repr of data -/
mutual
theorem noDict0 : ∀ d : PyData, d.canLay0 = true → d.hasDict = false
  | .none, _ => by simp [PyData.hasDict]
  | .bool _, _ => by simp [PyData.hasDict]
  | .int _, _ => by simp [PyData.hasDict]
  | .str _, _ => by simp [PyData.hasDict]
  | .list xs, h => by simp only [PyData.hasDict]; exact noDictL0 xs (by simpa [PyData.canLay0] using h)
  | .tuple xs, h => by simp only [PyData.hasDict]; exact noDictL0 xs (by simpa [PyData.canLay0] using h)
  | .dict _, h => by simp [PyData.canLay0] at h
theorem noDictL0 : ∀ xs : List PyData, PyData.canLayAll0 xs = true → PyData.hasDictAll xs = false
  | [], _ => by simp [PyData.hasDictAll]
  | x :: xs, h => by
    simp only [PyData.canLayAll0, Bool.and_eq_true] at h
    simp only [PyData.hasDictAll, noDict0 x h.1, noDictL0 xs h.2, Bool.or_self]
end
def rRepr (K : PySem.W.Frag) : List V → Hp → VK → Prop := fun xs H Q => ∃ x d, xs = [x] ∧ Dp K H x d ∧ d.showable = true ∧ SeqAt.shaped d = true ∧ d.shown.length ≤ sizeLine ∧ Q (.str d.shown) H
theorem cr_reprD (hg : X.A.guards = some []) (hu : X.A.units + 66 < cLine) : CallR X (.builtin "repr") (rRepr X.K) := by
  intro pins s σ H xs us Q I r h
  obtain ⟨x, d, rfl, dp, sh, sp, hz, q⟩ := h
  obtain ⟨u, rfl, ru⟩ := vals1 r
  obtain ⟨c1, c2⟩ := Bool.and_eq_true_iff.mp (show (d.canLay0 && decide (d.depth ≤ 64)) = true from sp)
  have c3 := of_decide_eq_true c2
  obtain ⟨as, rd⟩ := Dp.reads I d x u dp ru
  have big : ∀ a, u = .ref a → wpAny (model X.prog X.w) X.A (call (.builtin "repr") [u]) (EP X pins σ Q) X.xe s := fun a e => by
    subst e
    exact repr_of_reads' rd sh (fun z => by rw [noDict0 d c1] at z; cases z) hg (by omega) (fun _ _ e => e) (fun h' t tk k => ⟨.str d.shown, H, I.kept k, ⟨_, rfl⟩, q⟩) hz
  cases dp with
  | non =>
    obtain rfl : u = Value.none := ru
    exact PySem.P.repr_of_none ⟨.str _, H, I.tok _, ⟨_, rfl⟩, by simpa [PyData.shown] using q⟩
  | bl b =>
    obtain rfl : u = Value.bool b := ru
    exact PySem.P.repr_of_bool ⟨.str _, H, I.tok _, ⟨_, rfl⟩, by simpa [PyData.shown] using q⟩
  | int i =>
    obtain ⟨t, rfl⟩ := ru
    exact PySem.P.repr_of_int (by simpa [PyData.showable] using sh) ⟨.str _, H, I.tok _, ⟨_, rfl⟩, by simpa [PyData.shown] using q⟩
  | str z =>
    obtain ⟨t, rfl⟩ := ru
    exact PySem.P.repr_of_str (x := z) (hsz := by simpa [PyData.shown] using hz) ⟨.str _, H, I.tok _, ⟨_, rfl⟩, by simpa [PyData.shown] using q⟩
  | lst h1 h2 =>
    obtain rfl : u = Value.ref _ := ru
    exact big _ rfl
  | tup h1 h2 =>
    obtain rfl : u = Value.ref _ := ru
    exact big _ rfl
theorem c_repr (hg : X.A.guards = some []) (hu : X.A.units + 66 < cLine) : CallR X (.builtin "repr") (rRepr X.K) ∧ CallM X E (rRepr X.K) reprM := by
  refine ⟨cr_reprD hg hu, callM1 (fun _ => rfl) (fun p q _ _ => rfl) fun v p H μ S Q rs rv h => ?_⟩
  simp only [reprM] at h
  split at h
  · rename_i d e
    obtain ⟨⟨h1, h2, h3⟩, h⟩ := iff_post h
    exact ⟨v, d, rfl, dataS_dp rs rv e, h1, h2, lim_le h3, now_ rs (.str _) h⟩
  · exact h.elim

/-! ### isinstance -/
def kindsP : List String := ["NoneType", "bool", "int", "str", "tuple", "list", "dict"]
theorem kind_mem (p : PV) : kindP p ∈ kindsP := by cases p <;> simp [kindP, kindsP]
theorem ty_of {K : PySem.W.Frag} {H : Hp} {μ : Mu} {S : Sto} {v : V} {p : PV} (rs : RelS K H μ S) (r : Rp K H μ v p) : TyX K H v (.type (kindP p)) := by
  cases r with
  | non => exact .base .non
  | bl b => exact .base (.bl b)
  | int i => exact .base (.int i)
  | str x => exact .base (.str x)
  | tup hq _ =>
    rcases hq with (h | ⟨o, h⟩) | ⟨o, its, n, h1, h2, _⟩
    · exact .base (.tup h)
    · exact .fTuple h
    · exact .kTuple h1 h2
  | lst _ h _ => exact .base (.lst h)
  | frz h _ =>
    rcases h with ⟨o, h⟩ | ⟨o, its, n, h1, h2, _⟩
    · exact .base (.frz h)
    · exact .kList h1 h2
  | @loc a n h =>
    obtain ⟨vs, e⟩ := rs.has (.inl (List.mem_of_getElem? h))
    exact .base (.lst e)
  | dct _ h => exact .base (.dK h)
theorem pm_isi {a : Expr} {m : ED} {T : String} {x : Str} {p p2 pos : Pos} (hT : ∀ k ∈ kindsP, kitB k T = some (isT T k)) (hm : X.mg "isinstance" = none) (hm2 : X.mg x = none) (hv2 : bootBuiltins x = some (.type T)) (ha : PM X E a m) (hg : Gl X "isinstance" := by rfl) (hg2 : Gl X x := by rfl)
    (hn : x ≠ "__name__" := by decide) (hdb : (x == ("__debug__" : Str)) = false := by decide)
    (he : starEach [a, .Name x p2] X.env = (false, eval a X.env) :: starEach [.Name x p2] X.env := by rfl) (he2 : starEach [.Name x p2] X.env = (false, eval (.Name x p2) X.env) :: starEach [] X.env := by rfl) (hpl : (backTo pos (starEach [.Name x p2] X.env)).any (·.1) = false := by rfl) :
    PM X E (.Call (.Name "isinstance" p) [a, .Name x p2] [] pos) (dUn (isiM T) m) := by
  refine PE.imp (pe_callB call_isi hg hm (by decide +kernel) (pa_cons ha (pa_cons (pe_bltn (v := .ty T) hg2 hm2 hv2 rfl hn hdb) pa_nil he2) he) (by decide) (by decide) he hpl) fun σ H Q ⟨ρ, S, μ, re, rs, h⟩ => ?_
  refine stepE re rs h fun v p S1 H1 μ1 re1 rs1 rv g1 h1 => ?_
  exact ⟨v, .ty T, .type (kindP p), .type T, isT T (kindP p), rfl, .ty T, ty_of rs1 rv, kit_ty (hT _ (kind_mem p)), now_ rs1 (.bl _) h1⟩
theorem kit_int : ∀ k ∈ kindsP, kitB k "int" = some (isT "int" k) := by decide +kernel
theorem kit_bool : ∀ k ∈ kindsP, kitB k "bool" = some (isT "bool" k) := by decide +kernel
theorem kit_str : ∀ k ∈ kindsP, kitB k "str" = some (isT "str" k) := by decide +kernel
theorem kit_tuple : ∀ k ∈ kindsP, kitB k "tuple" = some (isT "tuple" k) := by decide +kernel
theorem kit_list : ∀ k ∈ kindsP, kitB k "list" = some (isT "list" k) := by decide +kernel
end

/-! ### append -/
/-- a list of the store gets one more -/
def appM (p q : PV) : M PV := fun S => match p with
  | .loc n => match S[n]? with
    | some (.lst xs) => if xs.length < LIM then .ok .non (S.set n (.lst (xs ++ [q]))) else .stuck
    | none => .stuck
  | _ => .stuck
def dApp (m n : ED) : ED := fun ρ => bnd (m ρ) fun p => match p with
  | .loc k => bnd (n ρ) fun q => appM (.loc k) q
  | _ => stk
theorem pm_append {X : Cx} {E : XK} {o e : Expr} {m n : ED} {apos cpos : Pos} (ho : PM X E o m) (ha : PM X E e n)
    (hp : ∀ {to : TE} {t : TA}, PE X o to → PA X [e] t → PE X (.Call (.Attribute o "append" apos) [e] [] cpos) (tBM X.K "list" rAppend to t) := by intro to t h1 h2; exact pe_bm PySem.F.plainAttrs_list PySem.F.slot_list_append PySem.F.type_list_append mt_append h1 h2)
    (hs : starEach [e] X.env = (false, eval e X.env) :: starEach [] X.env := by rfl) : PM X E (.Call (.Attribute o "append" apos) [e] [] cpos) (dApp m n) := by
  refine PE.imp (hp ho (pa_cons ha pa_nil hs)) fun σ H Q ⟨ρ, S, μ, re, rs, h⟩ => ?_
  refine stepE re rs h fun v p S1 H1 μ1 re1 rs1 rv g1 h1 => ?_
  cases rv with
  | @loc a k hk =>
    obtain ⟨ws, hw⟩ := rs1.has (.inl (List.mem_of_getElem? hk))
    refine ⟨.inl ⟨rfl, ws, SqL.of hw⟩, stepE re1 rs1 h1 fun w q S2 H2 μ2 re2 rs2 rw' g2 h2 => ?_⟩
    simp only [appM] at h2
    split at h2
    · rename_i xs q2
      obtain ⟨hl, h2⟩ := iff_post h2
      have hk2 := g2.pre hk
      obtain ⟨vs, hv, rl⟩ := rs2.at_ k _ a q2 hk2
      refine ⟨a, vs, w, rfl, rfl, hv, by rw [rl.length]; exact lim_lt hl, ?_⟩
      have g := grow_put (o := .lst (vs ++ [w])) rs2 hk2
      exact h2 _ _ g (rs2.put hk2 (rl.append (.cons rw' .nil))) _ .non
    · exact h2.elim
  | _ => exact h1.elim
/-! ## l.index(x) -/
def indexM (p q : PV) : M PV := fun S => match dataS p S, dataS q S with
  | some (.list ds), some d => if SeqAt.shaped (.list ds) = true ∧ SeqAt.shaped d = true then (match ds.findIdx? fun z => PyData.eqv z d with
    | some j => .ok (.int (j : Nat)) S
    | none => .stuck) else .stuck
  | _, _ => .stuck
def dIx (m n : ED) : ED := fun ρ => bnd (m ρ) fun p => match p with
  | .lst ps => bnd (n ρ) fun q => indexM (.lst ps) q
  | .loc k => bnd (n ρ) fun q => indexM (.loc k) q
  | _ => stk
theorem findI {ds : List PyData} {d : PyData} {j : Nat} (e : (ds.findIdx? fun z => PyData.eqv z d) = some j) : ∃ z, ds[j]? = some z ∧ PyData.eqv z d = true ∧ ∀ (m : Nat) (z' : PyData), m < j → ds[m]? = some z' → PyData.eqv z' d = false := by
  obtain ⟨h1, h2, h3⟩ := List.findIdx?_eq_some_iff_getElem.mp e
  refine ⟨ds[j], List.getElem?_eq_getElem h1, h2, fun m z' hm hz => ?_⟩
  obtain ⟨hl, rfl⟩ := List.getElem?_eq_some_iff.mp hz
  have := h3 m hm
  simpa using this
theorem index_of {X : Cx} {E : XK} {H : Hp} {μ : Mu} {S : Sto} {a : Addr} {w : V} {p q : PV} {Q : VK} (rs : RelS X.K H μ S) (rp : Rp X.K H μ (.ref a) p) (rq : Rp X.K H μ w q) (h : Post X.K X.mg E H μ (indexM p q S) (kE X.K Q)) : rIndexD X.K (.ref a) [w] H Q := by
  unfold indexM at h
  split at h
  · rename_i ds d e1 e2
    split at h
    · rename_i sh
      split at h
      · rename_i j ej
        obtain ⟨z, h1, h2, h3⟩ := findI ej
        exact ⟨a, w, d, ds, j, z, rfl, rfl, dataS_dp rs rp e1, dataS_dp rs rq e2, sh.1, sh.2, h1, h2, h3, now_ rs (.int _) h⟩
      · exact h.elim
    · exact h.elim
  · exact h.elim
theorem pm_index {X : Cx} {E : XK} {o e : Expr} {m n : ED} {apos cpos : Pos} (hu : X.A.units + 65 < cLine) (ho : PM X E o m) (ha : PM X E e n)
    (hp : ∀ {to : TE} {t : TA}, MtR X "list.index" (rIndexD X.K) → PE X o to → PA X [e] t → PE X (.Call (.Attribute o "index" apos) [e] [] cpos) (tBM X.K "list" (rIndexD X.K) to t) := by intro to t h0 h1 h2; exact pe_bm PySem.F.plainAttrs_list PySem.F.slot_list_index PySem.F.type_list_index h0 h1 h2)
    (hs : starEach [e] X.env = (false, eval e X.env) :: starEach [] X.env := by rfl) : PM X E (.Call (.Attribute o "index" apos) [e] [] cpos) (dIx m n) := by
  refine PE.imp (hp (mt_indexD hu) ho (pa_cons ha pa_nil hs)) fun σ H Q ⟨ρ, S, μ, re, rs, h⟩ => ?_
  refine stepE re rs h fun v p S1 H1 μ1 re1 rs1 rv g1 h1 => ?_
  cases rv with
  | @loc a k hk =>
    obtain ⟨ws, hw⟩ := rs1.has (.inl (List.mem_of_getElem? hk))
    refine ⟨.inl ⟨rfl, ws, SqL.of hw⟩, stepE re1 rs1 h1 fun w q S2 H2 μ2 re2 rs2 rw' g2 h2 => ?_⟩
    exact index_of rs2 (Rp.grow (.loc hk) g2) rw' h2
  | @lst a vs ps hn hl r =>
    refine ⟨.inl ⟨rfl, _, SqL.of hl⟩, stepE re1 rs1 h1 fun w q S2 H2 μ2 re2 rs2 rw' g2 h2 => ?_⟩
    exact index_of rs2 (Rp.grow (.lst hn hl r) g2) rw' h2
  | _ => exact h1.elim
end Pm

namespace Pm
open PySem PySem.Spec L2

/-! ## contexts -/
section
variable {X : Cx} {P : Program} {w : World} {K : PySem.W.Frag} {mg : Str → Option Value} {base : Heap} {k : Nat} {E : XK}
theorem At.blk (A : At X P w K mg base k E) {s : Shared} {H : Hp} {scope : Scope} {cenv : Env} {fp : List Addr} : At (X.blk s H scope cenv fp) P w K mg base k E0 :=
  ⟨A.prog, A.w, A.K, A.mg, A.base, A.room, A.guards, passL⟩
theorem At.u (A : At X P w K mg base k E) : X.A.units + 64 < cLine := A.room.units
theorem At.u66 (A : At X P w K mg base k E) : X.A.units + 66 < cLine := by have := A.room.un; omega
theorem At.u65 (A : At X P w K mg base k E) : X.A.units + 65 < cLine := by have := A.room.un; omega
end

/-! ## the law's own call -/
open Classical in
/-- only the script is tracked -/
noncomputable def scrH (K : PySem.W.Frag) (a : Addr) (o : Obj) (ns : List Int) : Hp := fun b => if b = a ∧ K.lookup a = none then some (.frz o (.lst (ns.map V.int))) else none
theorem rp_ints {K : PySem.W.Frag} {H : Hp} {μ : Mu} : ∀ ns : List Int, RpL K H μ (ns.map V.int) (ns.map PV.int)
  | [] => .nil
  | n :: ns => .cons (.int n) (rp_ints ns)
open Classical PyProof.Rows in
theorem law_G {P : Program} {w : World} {K : PySem.W.Frag} {mg mb : Str → Option Value} {k : Nat} {fa a : Addr} {fd : FuncData} {x : Str} {s1 : Shared} {vs : List Value} {ns : List Int} {sem : List PV → M PV}
    (KX : K.In s1.heap) (hns : s1.heap.Ns mainGlobals mg) (hb : s1.heap.Ns builtinsNs mb) (hbb : ∀ x : Str, x ≠ "__name__" → mb x = bootBuiltins x) (hlim : s1.heap.NoLimit) (hg : s1.gens = #[])
    (ha : s1.heap.get? a = some { cls := .type "list", data := .seq vs.toArray }) (hi : IntsAre vs ns) (hl : ns.length ≤ sizeLine) (hr : Room k callerA)
    (F : ∀ base : Heap, K.In base → base.Ns mainGlobals mg → FnG P w K mg base k fa fd [x] (spF K mg 1 sem)) (hbind : ∀ (s : Shared) (u : Value), BindsTo s fd ⟨[u], []⟩ [(x, u)])
    (law : ∃ S, sem [.frz (ns.map PV.int)] [] = .ok (.bl true) S) :
    codeAny (model P w) callerA (.call (.ref fa) ⟨[.ref a], []⟩) (fun r s' => r = .ok (.ret (.bool true)) ∧ OldK s1.heap s'.heap ∧ s'.os = s1.os ∧ AllBare s'.gens) s1 := by
  generalize hob : ({ cls := .type "list", data := .seq vs.toArray } : Obj) = ob at ha
  generalize hH : scrH K a ob ns = H
  have vints := vals_ints hi
  have onlyA : ∀ b u, H b = some u → b = a ∧ K.lookup a = none ∧ u = .frz ob (.lst (ns.map V.int)) := fun b u e => by
    rw [← hH] at e
    unfold scrH at e
    split at e
    · rename_i c; cases e; exact ⟨c.1, c.2, rfl⟩
    · cases e
  have okH : HOk P w H s1.heap := fun b u e => by
    obtain ⟨rfl, _, rfl⟩ := onlyA b u e
    show s1.heap.get? b = some ob ∧ _
    refine ⟨ha, ?_⟩
    subst hob
    exact ⟨by rw [List.length_map]; exact hl, vs, _, vints, ha⟩
  have scr : FrzL K H a (ns.map V.int) := by
    cases q : K.lookup a with
    | none => exact .inl ⟨ob, by rw [← hH]; unfold scrH; rw [if_pos ⟨rfl, q⟩]⟩
    | some o =>
      have e := KX a o q
      rw [ha] at e
      cases e
      subst hob
      exact .inr ⟨_, vs.toArray, _, q, rfl, rfl, rfl, by rw [List.size_toArray, hi.length]; exact hl, by simpa using vints⟩
  -- a dict is not the script
  have dictFree : ∀ {b : Addr} {o : Obj} {es : Array DictEntry} {ep : Nat}, s1.heap.get? b = some o → o.data = .dict es ep → H b = none := fun {b o es ep} e1 e2 => by
    cases q : H b with
    | none => rfl
    | some u =>
      obtain ⟨rfl, _, _⟩ := onlyA b u q
      rw [ha] at e1
      cases e1
      subst hob
      cases e2
  have nsH : ∀ {b : Addr} {m : Str → Option Value}, s1.heap.Ns b m → (hidT s1.heap H).Ns b m := fun {b m} ⟨o, es, ep, e1, e2, r⟩ => ⟨o, es, ep, hidT_get e1 (dictFree e1 e2), e2, r⟩
  have inH : K.In (hidT s1.heap H) := fun b o e => hidT_get (KX b o e) (by
    cases q : H b with
    | none => rfl
    | some u =>
      obtain ⟨rfl, z, _⟩ := onlyA b u q
      rw [z] at e; cases e)
  obtain ⟨mc, l1, l2⟩ := hlim
  have e0 : Env0 P w K mg (hidT s1.heap H) callerA [] s1 H := ⟨rfl, ⟨inH, nsH hns, ⟨mb, nsH hb, hbb⟩, ⟨mc, nsH l1, l2⟩⟩, fun b o e => of_hidT e, Nat.le_of_eq (hidT_size _ _), trivial, (fun b hb => nomatch (show b ∈ ([] : List Addr) from hb)), okH, .of_eq hg⟩
  obtain ⟨Sf, hlaw⟩ := law
  have hsp : spF K mg 1 sem [.ref a] H (fun v _ => v = .bl true) E0 := by
    refine ⟨rfl, [.frz (ns.map PV.int)], [], ⟨[], []⟩, ⟨rfl, .nil, fun _ z => (nomatch z), fun _ _ _ z => (by simp at z)⟩, .cons (.frz scr (rp_ints ns)) .nil, ?_⟩
    rw [hlaw]
    intro H' μ' _ _ v rv
    cases rv
    rfl
  refine codeAny_mono ((F _ inH (nsH hns)).run callerA [] s1 H ⟨[.ref a], []⟩ [.ref a] [.ref a] _ _ hr rfl e0 (hbind s1 (.ref a)) (.cons rfl .nil) hsp) fun r s' h => ?_
  cases r with
  | error e =>
    obtain ⟨_, _, _, _, _, _, _, _, _, _, _, _, z⟩ := h
    exact z.elim
  | ok fl =>
    cases fl with
    | ret u =>
      obtain ⟨v, H', os, bare, un, hok', r', q⟩ := h
      obtain rfl : v = .bl true := q
      obtain rfl : u = Value.bool true := r'
      refine ⟨rfl, OldK.of_keep fun b o e => ?_, os, bare⟩
      cases q : H b with
      | none => exact un.keep b o e q (fun z => nomatch (show b ∈ ([] : List Addr) from z)) (fun z => nomatch z)
      | some u =>
        obtain ⟨rfl, _, rfl⟩ := onlyA b u q
        rw [ha] at e
        cases e
        exact (hok' b _ (un.frzs b _ _ q)).1
    | next => exact False.elim h
    | brk => exact False.elim h
    | cont => exact False.elim h
theorem walk_G {l : PySem.W.OpenLaw} {n k : Nat} {q : Program} {loose : List Str} {XP : (Str → Option Value) → Heap → Prop} {YP : World → Heap → Prop} {d : DefRec} {x : Str} {sem : List PV → M PV}
    (hn : l.most = some n) (hn2 : n ≤ sizeLine) (hdf : d.params.defaults = []) (hr : Room k callerA)
    (F : ∀ (w : World) (mg : Str → Option Value) (fa : Addr) (h : Heap), YP w h → h.Ns mainGlobals mg → mg d.name = some (.ref fa) →
      ∃ (K : PySem.W.Frag) (fd : FuncData), K.In h ∧ (∀ (s : Shared) (u : Value), BindsTo s fd ⟨[u], []⟩ [(x, u)]) ∧
        ∀ base : Heap, K.In base → base.Ns mainGlobals mg → FnG l.prog w K mg base k fa fd [x] (spF K mg 1 sem))
    (law : ∀ ns : List Int, ns.length ≤ n → ∃ S, sem [.frz (ns.map PV.int)] [] = .ok (.bl true) S) :
    PySem.W.WalkO q loose XP YP l.row.toRowW d [] (fun f vs => PySem.call f vs) := by
  refine Att.attach_call hn hdf fun w s0 s1 mg mb fa o pm cd doc a vs ns G Y ho hd hcd hmg hobj hints hlen hg => ?_
  obtain ⟨K, fd, KX, hb, hF⟩ := F w mg fa _ Y G.T.g hmg
  exact law_G KX G.T.g G.T.b G.T.builtins G.T.nolimit hg hobj hints (Nat.le_trans hlen hn2) hr hF hb (law ns hlen)

/-! ## the head's facts -/
mutual
def pvB (K : PySem.W.Frag) : Value → PV → Bool
  | .none, .non => true
  | .bool b, .bl c => b == c
  | .int i _, .int j => decide (i = j)
  | .str x _, .str y => decide (x = y)
  | .ref a, .tup ps => match K.lookup a with
    | some ⟨.type c, _, .seq its _, _⟩ => decide (c = "tuple") && (decide (its.size ≤ sizeLine) && pvBL K its.toList ps)
    | _ => false
  | _, _ => false
def pvBL (K : PySem.W.Frag) : List Value → List PV → Bool
  | [], [] => true
  | u :: us, p :: ps => pvB K u p && pvBL K us ps
  | _, _ => false
end
mutual
theorem pvB_ok {K : PySem.W.Frag} : ∀ (u : Value) (p : PV), pvB K u p = true → ∃ v, RelV v u ∧ ∀ H μ, Rp K H μ v p
  | u, .non, h => by cases u <;> simp [pvB] at h; exact ⟨.non, rfl, fun _ _ => .non⟩
  | u, .bl c, h => by cases u <;> simp [pvB] at h; subst h; exact ⟨.bl _, rfl, fun _ _ => .bl _⟩
  | u, .int c, h => by cases u <;> simp [pvB] at h; subst h; exact ⟨.int _, ⟨_, rfl⟩, fun _ _ => .int _⟩
  | u, .str c, h => by cases u <;> simp [pvB] at h; subst h; exact ⟨.str _, ⟨_, rfl⟩, fun _ _ => .str _⟩
  | u, .tup ps, h => by
    cases u with
    | ref a =>
      simp only [pvB] at h
      split at h
      · rename_i c od its n sl q
        simp only [Bool.and_eq_true, decide_eq_true_eq] at h
        obtain ⟨h1, h2, h3⟩ := h
        subst h1
        obtain ⟨vs, r1, r2⟩ := pvBL_ok its.toList ps h3
        exact ⟨.ref a, rfl, fun H μ => .tup (.inr ⟨_, its, n, q, rfl, rfl, h2, r1⟩) (r2 H μ)⟩
      · cases h
    | _ => simp [pvB] at h
  | u, .lst _, h => by cases u <;> simp [pvB] at h
  | u, .frz _, h => by cases u <;> simp [pvB] at h
  | u, .loc _, h => by cases u <;> simp [pvB] at h
  | u, .dct, h => by cases u <;> simp [pvB] at h
theorem pvBL_ok {K : PySem.W.Frag} : ∀ (us : List Value) (ps : List PV), pvBL K us ps = true → ∃ vs, Vals vs us ∧ ∀ H μ, RpL K H μ vs ps
  | [], [], _ => ⟨[], .nil, fun _ _ => .nil⟩
  | [], _ :: _, h => by simp [pvBL] at h
  | _ :: _, [], h => by simp [pvBL] at h
  | u :: us, p :: ps, h => by
    simp only [pvBL, Bool.and_eq_true] at h
    obtain ⟨v, r1, r2⟩ := pvB_ok u p h.1
    obtain ⟨vs, t1, t2⟩ := pvBL_ok us ps h.2
    exact ⟨v :: vs, .cons r1 t1, fun H μ => .cons (r2 H μ) (t2 H μ)⟩
end
def constB (K : PySem.W.Frag) (q : Str × PV) : Bool := match PySem.W.nsIn K mainGlobals q.1 with
  | some (some u) => pvB K u q.2
  | _ => false
theorem constB_ok {K : PySem.W.Frag} {h : Heap} {mg : Str → Option Value} (X : K.In h) (G : h.Ns mainGlobals mg) {x : Str} {p : PV} (c : constB K (x, p) = true) : GlobIs K mg x p := by
  unfold constB at c
  cases q : PySem.W.nsIn K mainGlobals x with
  | none => rw [q] at c; cases c
  | some o =>
    cases o with
    | none => rw [q] at c; cases c
    | some u =>
      rw [q] at c
      obtain ⟨v, r1, r2⟩ := pvB_ok u p c
      exact ⟨u, v, PySem.W.mg_of X G q, r1, r2⟩
def biB (K : PySem.W.Frag) (q : Str × String) : Bool := match PySem.W.nsIn K mainGlobals q.1 with
  | some (some (.builtin id)) => decide (id = q.2)
  | _ => false
theorem biB_ok {K : PySem.W.Frag} {h : Heap} {mg : Str → Option Value} (X : K.In h) (G : h.Ns mainGlobals mg) {x : Str} {id : String} (c : biB K (x, id) = true) : mg x = some (.builtin id) := by
  unfold biB at c
  split at c
  · rename_i i q
    have := of_decide_eq_true c
    subst this
    exact PySem.W.mg_of X G q
  · cases c
/-- a module's dict of whole numbers and texts -/
def entB : List DictEntry → List (Int × Str) → Bool
  | [], [] => true
  | ⟨h, .int k _, .str v _⟩ :: es, (i, y) :: l => decide (h = hashInt i) && (decide (k = i) && (decide (v = y) && entB es l))
  | _, _ => false
def dicB (K : PySem.W.Frag) (q : Str × List (Int × Str)) : Bool := match PySem.W.nsIn K mainGlobals q.1 with
  | some (some (.ref a)) => match K.lookup a with
    | some ⟨.type c, none, .dict es _, sl⟩ => decide (c = "dict") && (decide (sl = #[]) && (decide ((q.2.map (·.1)).Nodup) && entB es.toList q.2))
    | _ => false
  | _ => false
def GlobDict (K : PySem.W.Frag) (mg : Str → Option Value) (x : Str) (l : List (Int × Str)) : Prop := ∃ a o es ep, mg x = some (.ref a) ∧ K.lookup a = some o ∧ o.ExactDict ∧ o.data = .dict es ep ∧ (l.map (·.1)).Nodup ∧ entB es.toList l = true
theorem dicB_ok {K : PySem.W.Frag} {h : Heap} {mg : Str → Option Value} (X : K.In h) (G : h.Ns mainGlobals mg) {x : Str} {l : List (Int × Str)} (c : dicB K (x, l) = true) : GlobDict K mg x l := by
  unfold dicB at c
  split at c
  · rename_i a q
    split at c
    · rename_i c' es ep sl q2
      simp only [Bool.and_eq_true, decide_eq_true_eq] at c
      obtain ⟨h1, h2, h3, h4⟩ := c
      subst h1 h2
      exact ⟨a, _, es, ep, PySem.W.mg_of X G q, q2, ⟨rfl, rfl, rfl⟩, rfl, h3, h4⟩
    · cases c
  · cases c
structure Tell where
  fa : List He.Fa
  fn : List He.DefD
  cs : List (Str × PV)
  bs : List (Str × String)
  ds : List (Str × List (Int × Str))
abbrev AlP : Type := Bool × He.AlD
def obsP (t : Tell) (K : PySem.W.Frag) : AlP := (t.cs.all (constB K) && (t.bs.all (biB K) && t.ds.all (dicB K)), He.obsD t.fa t.fn K)
def valP (t : Tell) : AlP := (true, He.valD t.fn)
def SaysP (t : Tell) (K : PySem.W.Frag) : Prop := obsP t K = valP t
def obsPG (n : Nat) (t : Tell) (g : Addr → Option Obj) : AlP := obsP t (He.frG g (He.asD g n))
def hookP (n : Nat) (t : Tell) : PySem.W.Hook where
  α := AlP
  obs := fun s => obsPG n t s.heap.get?
  val := fun _ => valP t
  says := fun _ h => ∃ K : PySem.W.Frag, K.In h ∧ SaysP t K
  of := fun _ _ e => ⟨_, He.frG_in, e⟩
  keeps := fun _ _ _ ⟨K, h1, c⟩ k => ⟨K, PySem.W.Frag.In.keeps h1 k, c⟩
theorem obsPG_eq {n : Nat} {t : Tell} {g : Addr → Option Obj} {s : Shared} (h : ∀ a, g a = s.heap.get? a) : obsPG n t g = (hookP n t).obs s := by
  obtain rfl : g = s.heap.get? := funext h
  rfl
section
variable {t : Tell} {K : PySem.W.Frag} {h : Heap} {mg : Str → Option Value}
theorem SaysP.d (c : SaysP t K) : He.SaysD t.fa t.fn K := congrArg (fun z : AlP => z.2) c
theorem SaysP.b (c : SaysP t K) : (t.cs.all (constB K) && (t.bs.all (biB K) && t.ds.all (dicB K))) = true := congrArg (fun z : AlP => z.1) c
theorem SaysP.const (c : SaysP t K) (X : K.In h) (G : h.Ns mainGlobals mg) (i : Nat) {x : Str} {p : PV} (e : t.cs[i]? = some (x, p) := by rfl) : GlobIs K mg x p :=
  constB_ok X G (List.all_eq_true.mp (Bool.and_eq_true_iff.mp c.b).1 _ (List.mem_of_getElem? e))
theorem SaysP.bi (c : SaysP t K) (X : K.In h) (G : h.Ns mainGlobals mg) (i : Nat) {x : Str} {id : String} (e : t.bs[i]? = some (x, id) := by rfl) : mg x = some (.builtin id) :=
  biB_ok X G (List.all_eq_true.mp (Bool.and_eq_true_iff.mp (Bool.and_eq_true_iff.mp c.b).2).1 _ (List.mem_of_getElem? e))
theorem SaysP.dic (c : SaysP t K) (X : K.In h) (G : h.Ns mainGlobals mg) (i : Nat) {x : Str} {l : List (Int × Str)} (e : t.ds[i]? = some (x, l) := by rfl) : GlobDict K mg x l :=
  dicB_ok X G (List.all_eq_true.mp (Bool.and_eq_true_iff.mp (Bool.and_eq_true_iff.mp c.b).2).2 _ (List.mem_of_getElem? e))
theorem SaysP.free (c : SaysP t K) (X : K.In h) (G : h.Ns mainGlobals mg) (i : Nat) {x : Str} (e : t.fa[i]? = some (.free x) := by rfl) : mg x = none := He.free_ok X G (c.d.fact i e)
end
end Pm

namespace Pm
open PySem PySem.Spec L2

/-! ## the top's run, looked at in several declarations (each has its own memory) -/
theorem map3 {α β γ δ : Type} {o : Option α} {f : α → β} {g : α → γ} {h : α → δ} {b : β} {c : γ} {d : δ} (e1 : o.map f = some b) (e2 : o.map g = some c) (e3 : o.map h = some d) : o.map (fun x => (f x, g x, h x)) = some (b, c, d) := by
  cases o with
  | none => cases e1
  | some x =>
    simp only [Option.map_some, Option.some.injEq] at e1 e2 e3 ⊢
    rw [e1, e2, e3]
end Pm

namespace Pm
open PySem PySem.Spec L2
open AutoSeq1 (wpAny_loadPart')
open PyProof.Rows
/-! ## enumerate of a tuple or a list -/
theorem en_new {v : Value} {o : Obj} {Z : Heap → Prop} (B : Begins v o Z) : Meets (Builtin.«enumerate.__new__» ⟨[.type "enumerate", v], []⟩) fun _ R s =>
    Z s.heap ∧ R (.ok (.ret (.ref (s.heap.push o).objs.size))) { s with heap := (s.heap.push o).push { cls := .type "enumerate", data := .fields #[.none, .bool false, .ref s.heap.objs.size, rawInt 0, .none, .none] } } := by
  refine .of_wp fun pr w A R s hz => ?_
  obtain ⟨hp, g, dr, tk, os⟩ := s
  obtain ⟨z, hz⟩ := hz
  have sub := sub_enumerate
  have it : ∀ {A' : Around} {E Q : Value → Shared → Prop}, Q (.ref hp.objs.size) ⟨hp.push o, g, dr, tk, os⟩ → wpAny (model pr w) A' (pyIter v) Q E ⟨hp, g, dr, tk, os⟩ := fun q => B.iter pr w _ _ ⟨hp, g, dr, tk, os⟩ _ z q
  wp_walk using it
  refine wpAny_stack_any fun _ => wpAny_pure ?_
  split
  · rename_i c _ _ _ _ _
    cases (c == Value.type "enumerate") <;> (wp_walk using it; exact ⟨_, rfl, hz⟩)
  · wp_walk using it
    exact ⟨_, rfl, hz⟩
theorem en_call {pr : Program} {w : World} {A : Around} {E Q : Value → Shared → Prop} {s : Shared} {v : Value} {o : Obj} {Z : Heap → Prop} (B : Begins v o Z) (z : Z s.heap)
    (q : ∀ h', IsEnum h' (s.heap.objs.size + 1) s.heap.objs.size 0 .none → h'.get? s.heap.objs.size = some o → (∀ b ob, s.heap.get? b = some ob → h'.get? b = some ob) → Q (.ref (s.heap.objs.size + 1)) { s with heap := h' }) :
    wpAny (model pr w) A (call (.type "enumerate") [v]) Q E s := by
  have z1 : (s.heap.push o).objs.size = s.heap.objs.size + 1 := Heap.size_push ..
  have en : IsEnum ((s.heap.push o).push { cls := .type "enumerate", data := .fields #[.none, .bool false, .ref s.heap.objs.size, rawInt 0, .none, .none] }) (s.heap.objs.size + 1) s.heap.objs.size 0 .none := by
    rw [← z1]
    exact Heap.get?_push_size (s.heap.push o) rfl
  have fin := q _ en (Heap.get?_push_of_some _ (Heap.get?_push_size _ B.free)) fun b ob x => Heap.get?_push_of_some _ (Heap.get?_push_of_some _ x)
  refine callType_new F.called_enumerate (by decide) (F.typeCall_enumerate_1 _) (F.newCall_enumerate_1 _)
    (fun ob => F.args_object_init_2 ob _) F.entry_enumerate_new (en_new B) ⟨z, ?_⟩
  rw [z1]
  exact ⟨⟨_, en, rfl⟩, fin⟩
/-- a tuple's things, each in a new pair with its number -/
def ItE (K : PySem.W.Frag) (a : Addr) : It where
  go := fun i H => ∃ vs y, SqT K H a vs ∧ vs[i]? = some y
  yld := fun i H v H2 => ∃ T y, v = .ref T ∧ H T = none ∧ H2 = upd H T (.tup [.int (i : Nat), y]) ∧ ∀ vs, SqT K H a vs → vs[i]? = some y
  stop := fun i H => ∃ vs, SqT K H a vs ∧ vs.length = i
theorem turn_en {P : Program} {w : World} {K : PySem.W.Frag} {es : List Expr} {n : Nat} {tp : Pos} (a e it : Addr) :
    Turn P w K (.Tuple es n tp) (ItE K a) [e, it] e fun i h => (∃ old, IsEnum h e it ((i : Nat) : Int) old) ∧ h.IsTupleIter it a i ∧ e ≠ it ∧ a ≠ e ∧ a ≠ it where
  mem := by simp
  self := fun A i s Q E st q => by obtain ⟨⟨_, en⟩, _⟩ := st; exact wpAny_pyIter_enum en q
  keep := fun i h h2 st k => by
    obtain ⟨⟨old, en⟩, ti, r⟩ := st
    exact ⟨⟨old, k e (by simp) _ en⟩, ti.at fun o q => k it (by simp) o q, r⟩
  obj := fun i h st b hb => by
    obtain ⟨⟨old, en⟩, ⟨o, ho, hc, hd⟩, _⟩ := st
    simp only [List.mem_cons, List.not_mem_nil, or_false] at hb
    rcases hb with rfl | rfl
    · exact ⟨_, en, fun v q => nomatch q⟩
    · exact ⟨o, ho, fun v q => by rw [hd] at q; cases q⟩
  item := by
    intro X hP hw hK hc i pins s σ H E I hf st hg
    subst hP hw hK
    obtain ⟨⟨old, en⟩, ti, n1, n2, n3⟩ := st
    obtain ⟨vs, y, hq, hy⟩ := hg
    obtain ⟨its, rv, p, _⟩ := I.tuple hq
    obtain ⟨u, hu, ru⟩ := rv.get hy
    have le : e < s.heap.objs.size := Heap.lt_size en
    have li : it < s.heap.objs.size := by obtain ⟨_, q, _⟩ := ti; exact Heap.lt_size q
    have D := Draws.tuple (prog := X.prog) (w := X.w) (A := X.A.in1) (show X.A.in1.handled = none from I.ok.hd hc) it a n3 its.toArray
    have hlt : i < its.toArray.size := by
      have := (List.getElem?_eq_some_iff.mp hu).1
      simpa using this
    refine wpAny_pyNext_enum_itemD D en ⟨ti, p⟩ hlt n1 (by simp; exact ⟨n1, Ne.symm n2⟩) fun u' h1 tk pu eo st1 hT hz hk => ?_
    obtain rfl : u' = u := by
      have : its.toArray[i]? = some u := by simpa using hu
      rw [this] at pu; exact (Option.some.inj pu).symm
    refine ⟨_, rfl, wpAny_letOwnedTupleGo_enum (s := { s with heap := h1, toks := tk + 1 }) eo fun h2 en2 sb => ?_⟩
    have hT2 : h2.get? s.heap.objs.size = some { cls := .type "tuple", data := .seq #[.int i tk, u'] } := by rw [sb.2 _ (Nat.ne_of_gt le)]; exact hT
    have ok2 : ObjOk X.prog X.w (upd H s.heap.objs.size (.tup [.int (i : Nat), y])) h2 s.heap.objs.size (.tup [.int (i : Nat), y]) :=
      ⟨by show 2 ≤ sizeLine; decide, [.int i tk, u'], .cons ⟨_, rfl⟩ (.cons ru .nil), ⟨_, hT2, rfl, _, rfl⟩⟩
    have I2 : Inv X pins σ (upd H s.heap.objs.size (.tup [.int (i : Nat), y])) { s with heap := h2, toks := tk + 1 } := by
      refine I.turnedNew (ch := [e, it]) (fun b ob hb q => ?_) hf (Nat.le_refl _) ok2
      have b1 : b ≠ e := fun z => hb (by simp [z])
      have b2 : b ≠ it := fun z => hb (by simp [z])
      rw [sb.2 b b1]
      exact hk b ob b1 b2 q
    refine ⟨.ref s.heap.objs.size, _, I2, rfl, ⟨_, y, rfl, I.hok.fresh (Nat.le_refl _), rfl, fun zs hz => ?_⟩, ⟨⟨u', ?_⟩, ?_, n1, n2, n3⟩, fun b hb => ?_⟩
    · rw [I.tuple_inj hz hq]; exact hy
    · have e1 : ((i + 1 : Nat) : Int) = (i : Int) + 1 := by omega
      rw [e1]
      exact en2
    · exact st1.1.at fun o q => by rw [sb.2 it (Ne.symm n1)]; exact q
    · have lb : b < s.heap.objs.size := by
        simp only [List.mem_cons, List.not_mem_nil, or_false] at hb
        rcases hb with rfl | rfl
        · exact le
        · exact li
      rw [upd_ne (Nat.ne_of_lt lb)]
      exact (hf b hb).1
  done := by
    intro X hP hw hK hc i pins s σ H E I hf st hg
    subst hP hw hK
    obtain ⟨⟨old, en⟩, ti, n1, n2, n3⟩ := st
    obtain ⟨vs, hq, hl⟩ := hg
    obtain ⟨its, rv, p, _⟩ := I.tuple hq
    have D := Draws.tuple (prog := X.prog) (w := X.w) (A := X.A.in1) (show X.A.in1.handled = none from I.ok.hd hc) it a n3 its.toArray
    obtain ⟨f0, f1, f2, f3, f4, f5⟩ := hf it (by simp)
    have hi : i = its.toArray.size := by
      have := rv.length
      simp; omega
    subst hi
    exact wpAny_pyNext_enum_endD D en ⟨ti, p⟩ fun h1 eb => ⟨rfl, I.turned (t' := s.toks) (fun b o hb q => eb b o hb q) f0 f1 f3 f4 f5⟩
/-- what stands behind enumerate(..) -/
def iEnu (K : PySem.W.Frag) (ta : TA) : TI := fun σ H R => ta σ H fun vs H1 => ∃ a, vs = [.ref a] ∧ ((∃ xs, SqT K H1 a xs) ∧ R (ItE K a) H1 ∨ (∃ xs, SqL K H1 a xs) ∧ R (Ite K a) H1)
theorem pi_enu {X : Cx} {e : Expr} {ta : TA} {p pos tp : Pos} {es : List Expr} {n : Nat} (hm : X.mg "enumerate" = none) (hg : Gl X "enumerate") (ha : PA X [e] ta) (hs : starEach [e] X.env = [(false, eval e X.env)]) :
    PI X (.Tuple es n tp) (.Call (.Name "enumerate" p) [e] [] pos) (iEnu X.K ta) := by
  refine ⟨fun pins s σ H R I h => ?_⟩
  refine Call_ (ld_blt I hg hm boot_enumerate (PyProof.Rows.callWith_type1 (thn (ha.run pos pins s σ H _ I h) fun us s1 z => ?_) hs rfl))
  obtain ⟨vs, H1, I1, r1, a, rfl, q1⟩ := z
  cases r1 with
  | cons r rr =>
    cases rr
    cases r
    rcases q1 with ⟨⟨xs, hq⟩, q⟩ | ⟨⟨xs, hq⟩, q⟩
    · obtain ⟨its, rv, pt, _⟩ := I1.tuple hq
      have la : a < s1.heap.objs.size := by obtain ⟨_, x, _⟩ := pt; exact Heap.lt_size x
      refine en_call (begins_tuple a its.toArray) pt fun h' en ht hk => wpAny_pyIter_enum en ?_
      refine ⟨s1.heap.objs.size + 1, [s1.heap.objs.size + 1, s1.heap.objs.size], _, _, H1, rfl, I1.kept (t' := s1.toks) hk, turn_en a (s1.heap.objs.size + 1) s1.heap.objs.size, ⟨⟨.none, en⟩, ⟨_, ht, rfl, rfl⟩, Nat.succ_ne_self _, Nat.ne_of_lt (Nat.lt_succ_of_lt la), Nat.ne_of_lt la⟩, fun b hb => ?_, q⟩
      simp only [List.mem_cons, List.not_mem_nil, or_false] at hb
      have hle : s1.heap.objs.size ≤ b := by
        rcases hb with rfl | rfl
        · exact Nat.le_succ _
        · exact Nat.le_refl _
      exact I1.fpOk hle (I1.hok.fresh hle)
    · obtain ⟨its, rv, pl, _⟩ := I1.list hq
      refine call_enumerate_list pl.isList fun h' en ti _ hk => wpAny_pyIter_enum en ?_
      refine ⟨s1.heap.objs.size + 1, [s1.heap.objs.size + 1, s1.heap.objs.size], _, _, H1, rfl, I1.kept (t' := s1.toks) hk, turn_enum a (s1.heap.objs.size + 1) s1.heap.objs.size, ⟨⟨.none, en⟩, ti, Nat.succ_ne_self _⟩, fun b hb => ?_, q⟩
      simp only [List.mem_cons, List.not_mem_nil, or_false] at hb
      have hle : s1.heap.objs.size ≤ b := by
        rcases hb with rfl | rfl
        · exact Nat.le_succ _
        · exact Nat.le_refl _
      exact I1.fpOk hle (I1.hok.fresh hle)
/-! ### its denotation -/
def enumF : Int → List PV → List PV
  | _, [] => []
  | i, p :: ps => .tup [.int i, p] :: enumF (i + 1) ps
theorem enumF_len : ∀ (i : Int) (ps : List PV), (enumF i ps).length = ps.length
  | _, [] => rfl
  | i, p :: ps => by simp [enumF, enumF_len (i + 1) ps]
theorem enumF_get : ∀ (ps : List PV) (i : Int) (k : Nat), (enumF i ps)[k]? = ps[k]?.map fun p => PV.tup [.int (i + k), p]
  | [], _, _ => by simp [enumF]
  | p :: ps, i, 0 => by simp [enumF]
  | p :: ps, i, k + 1 => by
    simp only [enumF, List.getElem?_cons_succ, enumF_get ps (i + 1) k]
    congr 1
    funext q
    have : i + 1 + (k : Int) = i + ((k + 1 : Nat) : Int) := by omega
    rw [this]
def enumA (ps : List PV) : M Src := fun S => match ps with
  | [.tup xs] => .ok ⟨enumF 0 xs, fun _ => True⟩ S
  | [.lst xs] => .ok ⟨enumF 0 xs, fun _ => True⟩ S
  | [.frz xs] => .ok ⟨enumF 0 xs, fun _ => True⟩ S
  | _ => .stuck
section
variable {X : Cx} {E : XK}
theorem itok_enT {H : Hp} {μ : Mu} {a : Addr} {vs : List V} {ps : List PV} {ok : Sto → Prop} (hq : SqT X.K H a vs) (r : RpL X.K H μ vs ps) : ItOk X.K H μ ok (ItE X.K a) (enumF 0 ps) where
  go := fun i H' μ' S' hi g rs o => by
    rw [enumF_len] at hi
    obtain ⟨v, e, _⟩ := r.get (List.getElem?_eq_getElem hi)
    exact ⟨vs, v, g.sqT hq, e⟩
  yld := fun i H' μ' S' x H2 hi g rs o ⟨T, y, ex, hn, e2, f⟩ => by
    rw [enumF_len] at hi
    obtain ⟨v, e, rv⟩ := r.get (List.getElem?_eq_getElem hi)
    have e3 := f _ (g.sqT hq)
    rw [e] at e3
    cases e3
    subst ex e2
    refine ⟨.tup [.int (i : Nat), ps[i]], by rw [enumF_get, List.getElem?_eq_getElem hi]; simp, grow_new rs hn, rs.new hn, .tup (SqT.of upd_same) ?_⟩
    exact .cons (.int _) (.cons ((rv.growW g).grow (grow_new rs hn)) .nil)
  stop := fun H' μ' S' g rs o => ⟨vs, g.sqT hq, by rw [enumF_len, r.length]⟩
theorem itok_enL {H : Hp} {μ : Mu} {a : Addr} {vs : List V} {ps : List PV} {ok : Sto → Prop} (hq : ∀ H' μ', GrowW H μ H' μ' → SqL X.K H' a vs) (r : RpL X.K H μ vs ps) : ItOk X.K H μ ok (Ite X.K a) (enumF 0 ps) where
  go := fun i H' μ' S' hi g rs o => by
    rw [enumF_len] at hi
    obtain ⟨v, e, _⟩ := r.get (List.getElem?_eq_getElem hi)
    exact ⟨vs, v, hq _ _ g, e⟩
  yld := fun i H' μ' S' x H2 hi g rs o ⟨T, y, ex, hn, e2, f⟩ => by
    rw [enumF_len] at hi
    obtain ⟨v, e, rv⟩ := r.get (List.getElem?_eq_getElem hi)
    have e3 := f _ (hq _ _ g)
    rw [e] at e3
    cases e3
    subst ex e2
    refine ⟨.tup [.int (i : Nat), ps[i]], by rw [enumF_get, List.getElem?_eq_getElem hi]; simp, grow_new rs hn, rs.new hn, .tup (SqT.of upd_same) ?_⟩
    exact .cons (.int _) (.cons ((rv.growW g).grow (grow_new rs hn)) .nil)
  stop := fun H' μ' S' g rs o => ⟨vs, hq _ _ g, by rw [enumF_len, r.length]; exact Nat.le_refl _⟩
theorem pmi_enum {as : AD} {a : Expr} {p pos tp : Pos} {es : List Expr} {n : Nat} (hm : X.mg "enumerate" = none) (ha : PAs X E [a] as) (hg : Gl X "enumerate" := by rfl) (hs : starEach [a] X.env = [(false, eval a X.env)] := by rfl) : PMI X E (.Tuple es n tp) (.Call (.Name "enumerate" p) [a] [] pos) (iAp enumA as) := by
  refine PI.imp (pi_enu hm hg ha hs) fun σ H R ⟨ρ, S, μ, re, rs, h⟩ => ?_
  refine stepA re rs h fun vs ps S1 H1 μ1 re1 rs1 rv g1 h1 => ?_
  cases rv with
  | nil => exact h1.elim
  | cons r t =>
    cases t with
    | cons _ _ => cases r <;> exact h1.elim
    | nil =>
      cases r with
      | @tup b vs xs hq rl => exact ⟨b, rfl, .inl ⟨⟨vs, hq⟩, h1 H1 μ1 .refl rs1 _ (itok_enT hq rl)⟩⟩
      | @lst b vs xs nh hq rl => exact ⟨b, rfl, .inr ⟨⟨vs, SqL.of hq⟩, h1 H1 μ1 .refl rs1 _ (itok_enL (fun H' μ' g => SqL.of (g.keep _ _ hq (.inl nh))) rl)⟩⟩
      | @frz b vs xs hq rl => exact ⟨b, rfl, .inr ⟨⟨vs, hq.sqL⟩, h1 H1 μ1 .refl rs1 _ (itok_enL (fun H' μ' g => (g.frz hq).sqL) rl)⟩⟩
      | _ => exact h1.elim
end
end Pm

namespace Pm
open PySem PySem.Spec L2
/-! ## starred things in a tuple's display; zip of two tuples or lists -/
def dStar (m : ED) (as : AD) : AD := fun ρ => bnd (m ρ) fun p => match p with
  | .lst xs => bnd (as ρ) fun ps => ret (xs ++ ps)
  | .tup xs => bnd (as ρ) fun ps => ret (xs ++ ps)
  | _ => stk
theorem rpL_app {K : PySem.W.Frag} {H : Hp} {μ : Mu} : ∀ {vs ws : List V} {ps qs : List PV}, RpL K H μ vs ps → RpL K H μ ws qs → RpL K H μ (vs ++ ws) (ps ++ qs)
  | _, _, _, _, .nil, h => h
  | _, _, _, _, .cons r rs, h => .cons r (rpL_app rs h)
section
variable {X : Cx} {E : XK}
theorem pma_star {m : ED} {as : AD} {e : Expr} {p : Pos} {es : List Expr} (ha : PM X E e m) (hr : PAs X E es as) (hs : starEach (.Starred e p :: es) X.env = (true, eval e X.env) :: starEach es X.env := by rfl) : PAs X E (.Starred e p :: es) (dStar m as) := by
  refine PA.imp (StX.pa_star ha hr hs) fun σ H Q ⟨ρ, S, μ, re, rs, h⟩ => ?_
  refine stepE re rs h fun v q S1 H1 μ1 re1 rs1 rv g1 h1 => ?_
  cases rv with
  | tup hq rl =>
    refine ⟨_, _, rfl, .inl hq, ?_⟩
    exact stepA re1 rs1 h1 fun vs ps S2 H2 μ2 re2 rs2 rvs g2 h2 => h2 H2 μ2 .refl rs2 _ (rpL_app (rl.grow g2) rvs)
  | lst nh hq rl =>
    refine ⟨_, _, rfl, .inr (SqL.of hq), ?_⟩
    exact stepA re1 rs1 h1 fun vs ps S2 H2 μ2 re2 rs2 rvs g2 h2 => h2 H2 μ2 .refl rs2 _ (rpL_app (rl.grow g2) rvs)
  | _ => exact h1.elim
/-! ### zip -/
def zipF : List PV → List PV → List PV
  | p :: ps, q :: qs => .tup [p, q] :: zipF ps qs
  | _, _ => []
theorem zipF_get : ∀ (ps qs : List PV) (k : Nat), (zipF ps qs)[k]? = ps[k]?.bind fun p => qs[k]?.map fun q => PV.tup [p, q]
  | [], _, _ => by simp [zipF]
  | _ :: _, [], _ => by simp [zipF]
  | p :: ps, q :: qs, 0 => by simp [zipF]
  | p :: ps, q :: qs, k + 1 => by simp [zipF, zipF_get ps qs k]
theorem zipF_len : ∀ (ps qs : List PV), (zipF ps qs).length = min ps.length qs.length
  | [], _ => by simp [zipF]
  | _ :: _, [] => by simp [zipF]
  | p :: ps, q :: qs => by simp [zipF, zipF_len ps qs]
def zipA (ps : List PV) : M Src := fun S => match ps with
  | [.tup xs, .tup ys] => .ok ⟨zipF xs ys, fun _ => True⟩ S
  | _ => .stuck
theorem itok_zipT {H : Hp} {μ : Mu} {a b : Addr} {vs ws : List V} {ps qs : List PV} {ok : Sto → Prop} (hq : SqT X.K H a vs) (hq2 : SqT X.K H b ws) (r : RpL X.K H μ vs ps) (r2 : RpL X.K H μ ws qs) : ItOk X.K H μ ok (RZ.ItzT X.K a b) (zipF ps qs) where
  go := fun i H' μ' S' hi g rs o => by
    rw [zipF_len] at hi
    obtain ⟨v, e, _⟩ := r.get (List.getElem?_eq_getElem (show i < ps.length by omega))
    obtain ⟨w, e2, _⟩ := r2.get (List.getElem?_eq_getElem (show i < qs.length by omega))
    exact ⟨vs, ws, v, w, g.sqT hq, g.sqT hq2, e, e2⟩
  yld := fun i H' μ' S' x H2 hi g rs o ⟨T, y, z, ex, hn, eh, f, f2⟩ => by
    rw [zipF_len] at hi
    obtain ⟨v, e, rv⟩ := r.get (List.getElem?_eq_getElem (show i < ps.length by omega))
    obtain ⟨w, e2, rw2⟩ := r2.get (List.getElem?_eq_getElem (show i < qs.length by omega))
    have e3 := f _ (g.sqT hq)
    have e4 := f2 _ (g.sqT hq2)
    rw [e] at e3
    rw [e2] at e4
    cases e3
    cases e4
    subst ex eh
    refine ⟨.tup [ps[i], qs[i]], by rw [zipF_get, List.getElem?_eq_getElem (show i < ps.length by omega), List.getElem?_eq_getElem (show i < qs.length by omega)]; rfl, grow_new rs hn, rs.new hn, .tup (SqT.of upd_same) ?_⟩
    exact .cons ((rv.growW g).grow (grow_new rs hn)) (.cons ((rw2.growW g).grow (grow_new rs hn)) .nil)
  stop := fun H' μ' S' g rs o => ⟨vs, ws, g.sqT hq, g.sqT hq2, by rw [zipF_len, r.length, r2.length]; omega⟩
theorem pmi_zip {as : AD} {a b : Expr} {p pos tp : Pos} {es : List Expr} {n : Nat} (hm : X.mg "zip" = none) (ha : PAs X E [a, b] as) (hg : Gl X "zip" := by rfl)
    (hs : starEach [a, b] X.env = (false, eval a X.env) :: starEach [b] X.env := by rfl) (hpl : (backTo pos (starEach [b] X.env)).any (·.1) = false := by rfl) : PMI X E (.Tuple es n tp) (.Call (.Name "zip" p) [a, b] [] pos) (iAp zipA as) := by
  refine PI.imp (RZ.pi_zipA hg hm ha hs hpl) fun σ H R ⟨ρ, S, μ, re, rs, h⟩ => ?_
  refine stepA re rs h fun vs ps S1 H1 μ1 re1 rs1 rv g1 h1 => ?_
  cases rv with
  | nil => exact h1.elim
  | cons r t =>
    cases t with
    | nil => cases r <;> exact h1.elim
    | cons r2 t2 =>
      cases t2 with
      | cons _ _ => cases r <;> cases r2 <;> exact h1.elim
      | nil =>
        cases r with
        | @tup a1 v1 x1 hq rl =>
          cases r2 with
          | @tup a2 v2 x2 hq2 rl2 => exact ⟨a1, a2, v1, v2, rfl, .inr ⟨hq, hq2, h1 H1 μ1 .refl rs1 _ (itok_zipT hq hq2 rl rl2)⟩⟩
          | _ => exact h1.elim
        | _ => cases r2 <;> exact h1.elim
end
end Pm

namespace Pm
open PySem PySem.Spec L2
/-! ## x.bit_length() -/
def bitsM (p : PV) : M PV := fun S => match p with
  | .int i => .ok (.int (Builtin.Int.intBits i : Nat)) S
  | _ => .stuck
theorem pm_bits {X : Cx} {E : XK} {o : Expr} {m : ED} {apos pos : Pos} (ho : PM X E o m) (hbase : attributeBase o "bit_length" X.env (eval o X.env) = eval o X.env := by rfl) (hline : (apos.endLine == pos.line) = true := by rfl) :
    PM X E (.Call (.Attribute o "bit_length" apos) [] [] pos) (dUn bitsM m) := by
  refine PE.imp (pe_bits ho hbase hline) fun σ H Q ⟨ρ, S, μ, re, rs, h⟩ => ?_
  refine stepE re rs h fun v p S1 H1 μ1 re1 rs1 rv g1 h1 => ?_
  cases rv with
  | int i => exact ⟨i, rfl, now_ rs1 (.int _) h1⟩
  | _ => exact h1.elim
/-! ## a comprehension kept under a name that others see: no swap -/
theorem sw_cell {elt : Expr} {gs : List Comprehension} {scope : Scope} {pos py : Pos} {y : Str} {l : Nat} {env : Env} (hy : env.scope.names.lookup y = some .cell) : swapsWith (.ListComp elt gs scope pos) (some (.Name y py)) l env = pure false := by
  have ky : env.kindOf y = some .cell := hy
  unfold swapsWith
  simp only [ky]
  rw [show (some NameKind.cell == some NameKind.local) = false from rfl, Bool.and_false, Bool.false_and, Bool.false_and]
end Pm

namespace Pm
open PySem PySem.Spec L2
/-! ## a module's dict: D[i] -/
def dixM (l : List (Int × Str)) (p : PV) : M PV := fun S => match p with
  | .int i => match l.lookup i with
    | some y => .ok (.str y) S
    | none => .stuck
  | _ => .stuck
theorem ent_val {P : Program} {w : World} : ∀ {es : List DictEntry} {l : List (Int × Str)}, entB es l = true → ∃ kvs : List (Key × Value), Pairs (mixKind P w) es kvs ∧ kvs.map (·.1) = l.map (fun x => Sum.inl x.1) ∧ (∀ e ∈ es, ∃ k, (mixKind P w).is k e.key = true ∧ e.hash = (mixKind P w).hash k) ∧
    ∀ i y, l.lookup i = some y → ∃ t, valueAt kvs (Sum.inl i) = some (.str y t)
  | [], [], _ => ⟨[], .nil, rfl, (fun e he => nomatch he), (fun i y h => nomatch h)⟩
  | [], _ :: _, h => by simp [entB] at h
  | e :: es, [], h => by
    obtain ⟨h', k, v⟩ := e
    unfold entB at h
    split at h <;> simp_all
  | e :: es, (i, y) :: l, h => by
    obtain ⟨h', k, v⟩ := e
    unfold entB at h
    split at h
    · contradiction
    · rename_i h0 k0 t0 v0 t1 es0 i0 y0 l0 q1 q2
      cases q1
      cases q2
      simp only [Bool.and_eq_true, decide_eq_true_eq] at h
      obtain ⟨rfl, rfl, rfl, h4⟩ := h
      obtain ⟨kvs, a1, a2, a3, a4⟩ := ent_val (P := P) (w := w) h4
      refine ⟨(Sum.inl k0, .str v0 t1) :: kvs, .cons (keyIs_int k0 t0) rfl a1, by rw [List.map_cons, List.map_cons, a2], fun e he => ?_, fun j z hj => ?_⟩
      · rcases List.mem_cons.mp he with rfl | he
        · exact ⟨Sum.inl k0, keyIs_int _ t0, rfl⟩
        · exact a3 e he
      · unfold valueAt
        rw [List.find?_cons]
        rw [List.lookup_cons] at hj
        by_cases c : j = k0
        · subst c
          simp only [beq_self_eq_true] at hj
          cases hj
          simp
        · have c1 : (j == k0) = false := by simpa using c
          have c2 : decide ((Sum.inl k0 : Key) = Sum.inl j) = false := decide_eq_false fun q => c (Sum.inl.inj q).symm
          rw [c1] at hj
          simp only [c2]
          exact a4 j z hj
    · cases h
theorem nodup_inl {l : List (Int × Str)} (h : (l.map (·.1)).Nodup) : (l.map fun x => (Sum.inl x.1 : Key)).Nodup := by
  have e : (l.map fun x => (Sum.inl x.1 : Key)) = (l.map (·.1)).map Sum.inl := by rw [List.map_map]; rfl
  rw [e]
  exact List.Pairwise.map _ (fun a b hab q => hab (Sum.inl.inj q)) h
theorem pe_gdix {X : Cx} {x : Str} {l : List (Int × Str)} {i : Expr} {ty : TE} {p0 pos : Pos} (g : GlobDict X.K X.mg x l) (hg : Gl X x) (hi : PE X i ty) (hs : NoSl i) (hd : (x == ("__debug__" : Str)) = false) :
    PE X (.Subscript (.Name x p0) i pos) (fun σ H Q => ty σ H fun y H1 => ∃ k v, y = .int k ∧ l.lookup k = some v ∧ Q (.str v) H1) := by
  obtain ⟨a, o, es, ep, hm, hk, ho, hdt, hn, he⟩ := g
  refine ⟨fun pins s σ H Q I h => ?_⟩
  refine subD_of PySem.F.slot_dict_getitem.lookup hs (thn ((pe_glob (v := .ref a) hg hm rfl hd).run pins s σ H (fun v H1 => v = .ref a ∧ ty σ H1 fun y H2 => ∃ k v, y = .int k ∧ l.lookup k = some v ∧ Q (.str v) H2) I ⟨rfl, h⟩) fun u s1 ⟨x, H1, I1, rx, ex, q1⟩ => thn (hi.run pins s1 σ H1 _ I1 q1) fun iv s2 ⟨y, H2, I2, ry, k, v, ey, hl, q2⟩ => ?_)
  subst ex ey
  obtain rfl : u = Value.ref a := rx
  obtain ⟨kvs, a1, a2, a3, a4⟩ := ent_val (P := X.prog) (w := X.w) he
  have dd : s2.heap.DictOf (mixKind X.prog X.w) a kvs := ⟨o, es, ep, I2.kIn a o hk, ho, hdt, fun e hx => a3 e (by simpa using hx), a1, by rw [a2]; exact nodup_inl hn⟩
  obtain ⟨t, hv⟩ := a4 k v hl
  exact ⟨dd.typeIs, wpAny_getItem_of (kV_is (k := .inl k) ry) dd.mapOf hv ⟨.str v, H2, I2.tok _, ⟨_, rfl⟩, q2⟩⟩
theorem pm_gdix {X : Cx} {E : XK} {x : Str} {l : List (Int × Str)} {i : Expr} {m : ED} {p0 pos : Pos} (g : GlobDict X.K X.mg x l) (hg : Gl X x) (hi : PM X E i m) (hs : NoSl i := by exact fun _ _ => rfl) (hd : (x == ("__debug__" : Str)) = false := by decide) :
    PM X E (.Subscript (.Name x p0) i pos) (dUn (dixM l) m) := by
  refine PE.imp (pe_gdix g hg hi hs hd) fun σ H Q ⟨ρ, S, μ, re, rs, h⟩ => ?_
  refine stepE re rs h fun v p S1 H1 μ1 re1 rs1 rv g1 h1 => ?_
  cases rv with
  | int i =>
    unfold dixM at h1
    cases e : l.lookup i with
    | none =>
      simp only [e] at h1
      exact h1.elim
    | some y =>
      simp only [e] at h1
      exact ⟨i, y, rfl, e, now_ rs1 (.str _) h1⟩
  | _ => exact h1.elim
end Pm

namespace Pm
open PySem PySem.Spec L2

/-! ## running a denotation to its end -/
def Ob {α : Type} (o : Out α) (Q : α → Sto → Prop) : Prop := match o with
  | .ok a S => Q a S
  | _ => False
section
variable {α β : Type} {S : Sto} {ρ : Rho}
theorem Ob.mono {o : Out α} {Q R : α → Sto → Prop} (h : Ob o Q) (k : ∀ a S, Q a S → R a S) : Ob o R := by
  cases o with
  | ok a S => exact k a S h
  | exn => exact h.elim
  | stuck => exact h.elim
theorem Ob.ex {o : Out α} {Q : α → Sto → Prop} (h : Ob o Q) : ∃ a S, o = .ok a S ∧ Q a S := by
  cases o with
  | ok a S => exact ⟨a, S, rfl, h⟩
  | exn => exact h.elim
  | stuck => exact h.elim
theorem Ob.eq {o : Out α} {v : α} (h : Ob o fun a S' => a = v ∧ S' = S) : o = .ok v S := by
  obtain ⟨a, S', e, rfl, rfl⟩ := h.ex
  exact e
theorem Ob_ok {a : α} {Q : α → Sto → Prop} : Ob (.ok a S) Q = Q a S := rfl
theorem Ob_ret {a : α} {Q : α → Sto → Prop} : Ob (ret a S) Q = Q a S := rfl
theorem Ob_bnd {m : M α} {f : α → M β} {Q : β → Sto → Prop} : Ob (bnd m f S) Q = Ob (m S) fun a S1 => Ob (f a S1) Q := by
  unfold bnd
  cases m S <;> rfl
theorem Ob_dVar {i : Nat} {Q : PV → Sto → Prop} : Ob (dVar i ρ S) Q = (match ρ[i]? with
  | some (some p) => Q p S
  | _ => False) := by
  unfold dVar
  cases hr : ρ[i]? with
  | none => first | rfl | (simp only [hr]; rfl)
  | some x => cases x with
    | none => first | rfl | (simp only [hr]; rfl)
    | some p => first | rfl | (simp only [hr]; rfl)
theorem Ob_dC {p : PV} {Q : PV → Sto → Prop} : Ob (dC p ρ S) Q = Q p S := rfl
theorem Ob_dNil {Q : List PV → Sto → Prop} : Ob (dNil ρ S) Q = Q [] S := rfl
theorem Ob_dCons {m : ED} {as : AD} {Q : List PV → Sto → Prop} : Ob (dCons m as ρ S) Q = Ob (m ρ S) fun p S1 => Ob (as ρ S1) fun ps S2 => Q (p :: ps) S2 := by
  unfold dCons
  simp only [Ob_bnd, Ob_ret]
theorem Ob_mkTup {ps : List PV} {Q : PV → Sto → Prop} : Ob (mkTup ps S) Q = (ps.length ≤ LIM ∧ Q (.tup ps) S) := by
  unfold mkTup
  split <;> simp [Ob, *]
theorem Ob_mkLst {ps : List PV} {Q : PV → Sto → Prop} : Ob (mkLst ps S) Q = (ps.length ≤ LIM ∧ Q (.lst ps) S) := by
  unfold mkLst
  split <;> simp [Ob, *]
theorem Ob_mkLoc {ps : List PV} {Q : PV → Sto → Prop} : Ob (mkLoc ps S) Q = (ps.length ≤ LIM ∧ Q (.loc S.length) (S ++ [.lst ps])) := by
  unfold mkLoc
  split <;> simp [Ob, *]
theorem Ob_dAp {f : List PV → M PV} {as : AD} {Q : PV → Sto → Prop} : Ob (dAp f as ρ S) Q = Ob (as ρ S) fun ps S1 => Ob (f ps S1) Q := Ob_bnd
theorem Ob_dApK {f : List PV → M PV} {n l : Nat} {ix : List Nat} {as bs : AD} {Q : PV → Sto → Prop} : Ob (dApK n l ix f as bs ρ S) Q = Ob (as ρ S) fun us S1 => Ob (bs ρ S1) fun ws S2 => us.length = n ∧ ws.length = l ∧ Ob (f (kput ix us ws) S2) Q := by
  unfold dApK
  simp only [Ob_bnd]
  congr 1; funext us S1
  congr 1; funext ws S2
  split <;> rename_i h
  · simp [h]
  · simp only [Ob, stk, eq_iff_iff, false_iff]
    exact fun ⟨a, b, _⟩ => h ⟨a, b⟩
theorem Ob_dOp {g : PV → PV → M PV} {m n : ED} {Q : PV → Sto → Prop} : Ob (dOp g m n ρ S) Q = Ob (m ρ S) fun x S1 => Ob (n ρ S1) fun y S2 => Ob (g x y S2) Q := by
  unfold dOp
  simp only [Ob_bnd]
theorem Ob_dUn {g : PV → M PV} {m : ED} {Q : PV → Sto → Prop} : Ob (dUn g m ρ S) Q = Ob (m ρ S) fun x S1 => Ob (g x S1) Q := Ob_bnd
theorem Ob_ite {c : Prop} [Decidable c] {m n : M α} {Q : α → Sto → Prop} : Ob ((if c then m else n) S) Q = if c then Ob (m S) Q else Ob (n S) Q := by
  split <;> rfl
theorem Ob_dIf {c : BD} {m n : ED} {Q : PV → Sto → Prop} : Ob (dIf c m n ρ S) Q = Ob (c ρ S) fun b S1 => if b = true then Ob (m ρ S1) Q else Ob (n ρ S1) Q := by
  unfold dIf
  simp only [Ob_bnd, Ob_ite]
theorem Ob_asB {b : Bool} {Q : Bool → Sto → Prop} : Ob (asB (.bl b) S) Q = Q b S := rfl
theorem Ob_tru_bl {b : Bool} {Q : Bool → Sto → Prop} : Ob (truM (.bl b) S) Q = Q b S := rfl
theorem Ob_tru_int {b : Int} {Q : Bool → Sto → Prop} : Ob (truM (.int b) S) Q = Q (b != 0) S := rfl
theorem Ob_tru_non {Q : Bool → Sto → Prop} : Ob (truM .non S) Q = Q false S := rfl
theorem Ob_tru_tup {xs : List PV} {Q : Bool → Sto → Prop} : Ob (truM (.tup xs) S) Q = Q (!xs.isEmpty) S := rfl
theorem Ob_tru_lst {xs : List PV} {Q : Bool → Sto → Prop} : Ob (truM (.lst xs) S) Q = Q (!xs.isEmpty) S := rfl
theorem Ob_bTru {m : ED} {Q : Bool → Sto → Prop} : Ob (bTru m ρ S) Q = Ob (m ρ S) fun p S1 => Ob (truM p S1) Q := Ob_bnd
theorem Ob_bCmp {m : ED} {Q : Bool → Sto → Prop} : Ob (bCmp m ρ S) Q = Ob (m ρ S) fun p S1 => Ob (asB p S1) Q := Ob_bnd
theorem Ob_bNot {c : BD} {Q : Bool → Sto → Prop} : Ob (bNot c ρ S) Q = Ob (c ρ S) fun b S1 => Q (!b) S1 := by
  unfold bNot
  simp only [Ob_bnd, Ob_ret]
theorem Ob_bYes {Q : Bool → Sto → Prop} : Ob (bYes ρ S) Q = Q true S := rfl
theorem Ob_bAnd {c d : BD} {Q : Bool → Sto → Prop} : Ob (bAnd c d ρ S) Q = Ob (c ρ S) fun b S1 => if b = true then Ob (d ρ S1) Q else Q false S1 := by
  unfold bAnd
  simp only [Ob_bnd, Ob_ite, Ob_ret]
theorem Ob_bOr {c d : BD} {Q : Bool → Sto → Prop} : Ob (bOr c d ρ S) Q = Ob (c ρ S) fun b S1 => if b = true then Q true S1 else Ob (d ρ S1) Q := by
  unfold bOr
  simp only [Ob_bnd, Ob_ite, Ob_ret]
theorem Ob_dAnd {m n : ED} {Q : PV → Sto → Prop} : Ob (dAnd m n ρ S) Q = Ob (m ρ S) fun x S1 => Ob (truM x S1) fun b S2 => if b = true then Ob (n ρ S2) Q else Q x S2 := by
  unfold dAnd
  simp only [Ob_bnd, Ob_ite, Ob_ret]
theorem Ob_dOr {m n : ED} {Q : PV → Sto → Prop} : Ob (dOr m n ρ S) Q = Ob (m ρ S) fun x S1 => Ob (truM x S1) fun b S2 => if b = true then Q x S2 else Ob (n ρ S2) Q := by
  unfold dOr
  simp only [Ob_bnd, Ob_ite, Ob_ret]
theorem Ob_dNot {m : ED} {Q : PV → Sto → Prop} : Ob (dNot m ρ S) Q = Ob (m ρ S) fun x S1 => Ob (truM x S1) fun b S2 => Q (.bl (!b)) S2 := by
  unfold dNot
  simp only [Ob_bnd, Ob_ret]
theorem Ob_dChain {g h : PV → PV → M PV} {a b c : ED} {Q : PV → Sto → Prop} : Ob (dChain g h a b c ρ S) Q = Ob (a ρ S) fun x S1 => Ob (b ρ S1) fun y S2 => Ob (g x y S2) fun z S3 => Ob (asB z S3) fun k S4 => if k = true then Ob (c ρ S4) fun w S5 => Ob (h y w S5) Q else Q (.bl false) S4 := by
  unfold dChain
  simp only [Ob_bnd, Ob_ite, Ob_ret]
/-! operations -/
theorem Ob_add_int {i j : Int} {Q : PV → Sto → Prop} : Ob (addM (.int i) (.int j) S) Q = Q (.int (i + j)) S := rfl
theorem Ob_add_lst {x y : List PV} {Q : PV → Sto → Prop} : Ob (addM (.lst x) (.lst y) S) Q = (x.length + y.length ≤ LIM ∧ Q (.lst (x ++ y)) S) := by
  show Ob (if x.length + y.length ≤ LIM then .ok (.lst (x ++ y)) S else .stuck) Q = _
  split <;> simp [Ob, *]
theorem Ob_add_tup {x y : List PV} {Q : PV → Sto → Prop} : Ob (addM (.tup x) (.tup y) S) Q = (x.length + y.length ≤ LIM ∧ Q (.tup (x ++ y)) S) := by
  show Ob (if x.length + y.length ≤ LIM then .ok (.tup (x ++ y)) S else .stuck) Q = _
  split <;> simp [Ob, *]
theorem Ob_sub {i j : Int} {Q : PV → Sto → Prop} : Ob (subM (.int i) (.int j) S) Q = Q (.int (i - j)) S := rfl
theorem Ob_mul_int {i j : Int} {Q : PV → Sto → Prop} : Ob (mulM (.int i) (.int j) S) Q = (i.natAbs.log2 + j.natAbs.log2 < 1000000 ∧ Q (.int (i * j)) S) := by
  show Ob (if i.natAbs.log2 + j.natAbs.log2 < 1000000 then .ok (.int (i * j)) S else .stuck) Q = _
  split <;> simp [Ob, *]
theorem Ob_mul_lst {x : List PV} {k : Int} {Q : PV → Sto → Prop} : Ob (mulM (.lst x) (.int k) S) Q = ((-1000 ≤ k ∧ k ≤ 1000 ∧ x.length ≤ 100) ∧ Q (.lst (repL k x)) S) := by
  show Ob (if -1000 ≤ k ∧ k ≤ 1000 ∧ x.length ≤ 100 then .ok (.lst (repL k x)) S else .stuck) Q = _
  split <;> simp [Ob, *]
theorem Ob_fdiv {i j : Int} {Q : PV → Sto → Prop} : Ob (fdivM (.int i) (.int j) S) Q = ((j ≠ 0 ∧ j.natAbs.log2 < 9000) ∧ Q (.int (i.fdiv j)) S) := by
  show Ob (if j ≠ 0 ∧ j.natAbs.log2 < 9000 then .ok (.int (i.fdiv j)) S else .stuck) Q = _
  split <;> simp [Ob, *]
theorem Ob_mod {i j : Int} {Q : PV → Sto → Prop} : Ob (modM (.int i) (.int j) S) Q = (j ≠ 0 ∧ Q (.int (i.fmod j)) S) := by
  show Ob (if j ≠ 0 then .ok (.int (i.fmod j)) S else .stuck) Q = _
  split <;> simp [Ob, *]
theorem Ob_pow {i j : Int} {Q : PV → Sto → Prop} : Ob (powM (.int i) (.int j) S) Q = ((0 ≤ j ∧ j ≤ 1000000 ∧ i.natAbs < 2 ^ 64) ∧ Q (.int (i ^ j.toNat)) S) := by
  show Ob (if 0 ≤ j ∧ j ≤ 1000000 ∧ i.natAbs < 2 ^ 64 then .ok (.int (i ^ j.toNat)) S else .stuck) Q = _
  split <;> simp [Ob, *]
theorem Ob_neg {i : Int} {Q : PV → Sto → Prop} : Ob (negM (.int i) S) Q = Q (.int (-i)) S := rfl
theorem Ob_lt {i j : Int} {Q : PV → Sto → Prop} : Ob (ltM (.int i) (.int j) S) Q = Q (.bl (decide (i < j))) S := rfl
theorem Ob_le {i j : Int} {Q : PV → Sto → Prop} : Ob (leM (.int i) (.int j) S) Q = Q (.bl (decide (i ≤ j))) S := rfl
theorem Ob_gt {i j : Int} {Q : PV → Sto → Prop} : Ob (gtM (.int i) (.int j) S) Q = Q (.bl (decide (j < i))) S := rfl
theorem Ob_ge {i j : Int} {Q : PV → Sto → Prop} : Ob (geM (.int i) (.int j) S) Q = Q (.bl (decide (j ≤ i))) S := rfl
theorem Ob_isB {a b : Bool} {Q : PV → Sto → Prop} : Ob (isBM (.bl a) (.bl b) S) Q = Q (.bl (decide (a = b))) S := rfl
theorem Ob_notB {a b : Bool} {Q : PV → Sto → Prop} : Ob (notBM (.bl a) (.bl b) S) Q = Q (.bl (!decide (a = b))) S := rfl
theorem Ob_isi {T : String} {p : PV} {Q : PV → Sto → Prop} : Ob (isiM T p S) Q = Q (.bl (isT T (kindP p))) S := rfl
theorem Ob_eq_int {i j : Int} {Q : PV → Sto → Prop} : Ob (eqM (.int i) (.int j) S) Q = Q (.bl (i == j)) S := rfl
theorem Ob_ne_int {i j : Int} {Q : PV → Sto → Prop} : Ob (neM (.int i) (.int j) S) Q = Q (.bl (!(i == j))) S := rfl
theorem Ob_eq_bl {i j : Bool} {Q : PV → Sto → Prop} : Ob (eqM (.bl i) (.bl j) S) Q = Q (.bl (i == j)) S := rfl
theorem Ob_ne_bl {i j : Bool} {Q : PV → Sto → Prop} : Ob (neM (.bl i) (.bl j) S) Q = Q (.bl (!(i == j))) S := rfl
theorem Ob_eq_str {i j : Str} {Q : PV → Sto → Prop} : Ob (eqM (.str i) (.str j) S) Q = Q (.bl (i == j)) S := rfl
theorem Ob_ne_str {i j : Str} {Q : PV → Sto → Prop} : Ob (neM (.str i) (.str j) S) Q = Q (.bl (!(i == j))) S := rfl
theorem Ob_ix_tup {xs : List PV} {i : Int} {Q : PV → Sto → Prop} : Ob (ixM (.tup xs) (.int i) S) Q = (match atI xs i with
  | some p => Q p S
  | none => False) := by
  show Ob (match atI xs i with | some p => .ok p S | none => .stuck) Q = _
  split <;> rfl
theorem Ob_ix_lst {xs : List PV} {i : Int} {Q : PV → Sto → Prop} : Ob (ixM (.lst xs) (.int i) S) Q = (match atI xs i with
  | some p => Q p S
  | none => False) := by
  show Ob (match atI xs i with | some p => .ok p S | none => .stuck) Q = _
  split <;> rfl
theorem Ob_ix_frz {xs : List PV} {i : Int} {Q : PV → Sto → Prop} : Ob (ixM (.frz xs) (.int i) S) Q = (match atI xs i with
  | some p => Q p S
  | none => False) := by
  show Ob (match atI xs i with | some p => .ok p S | none => .stuck) Q = _
  split <;> rfl
theorem Ob_ix_loc {n : Nat} {i : Int} {Q : PV → Sto → Prop} : Ob (ixM (.loc n) (.int i) S) Q = (match S[n]? with
  | some (.lst xs) => (match atI xs i with
    | some p => Q p S
    | none => False)
  | none => False) := by
  unfold ixM
  simp only [asL]
  cases h : S[n]? with
  | none => rfl
  | some e => cases e with
    | lst xs =>
      simp only
      cases atI xs i <;> rfl
theorem Ob_dSl {m : ED} {lo hi : OD} {Q : PV → Sto → Prop} : Ob (dSl m lo hi ρ S) Q = Ob (m ρ S) fun p S1 => Ob (lo ρ S1) fun l S2 => Ob (hi ρ S2) fun h S3 => Ob (slM p l h S3) Q := by
  unfold dSl
  simp only [Ob_bnd]
theorem Ob_oNone {Q : Option Int → Sto → Prop} : Ob (oNone ρ S) Q = Q none S := rfl
theorem Ob_oSome {m : ED} {Q : Option Int → Sto → Prop} : Ob (oSome m ρ S) Q = Ob (m ρ S) fun p S1 => match p with
  | .int i => Q (some i) S1
  | _ => False := by
  unfold oSome
  rw [Ob_bnd]
  congr 1; funext p S1
  cases p <;> rfl
theorem Ob_sl_frz {xs : List PV} {l h : Option Int} {Q : PV → Sto → Prop} : Ob (slM (.frz xs) l h S) Q = Q (.lst (cutP xs l h)) S := rfl
theorem Ob_sl_lst {xs : List PV} {l h : Option Int} {Q : PV → Sto → Prop} : Ob (slM (.lst xs) l h S) Q = Q (.lst (cutP xs l h)) S := rfl
theorem Ob_sl_tup {xs : List PV} {l h : Option Int} {Q : PV → Sto → Prop} : Ob (slM (.tup xs) l h S) Q = Q (.tup (cutP xs l h)) S := rfl
/-! statements -/
theorem Ob_sNil {Q : Fl → Sto → Prop} : Ob (sNil ρ S) Q = Q (.nx ρ) S := rfl
theorem Ob_sSeq {d f : SD} {Q : Fl → Sto → Prop} : Ob (sSeq d f ρ S) Q = Ob (d ρ S) fun r S1 => match r with
  | .nx ρ' => Ob (f ρ' S1) Q
  | r => Q r S1 := by
  unfold sSeq
  rw [Ob_bnd]
  congr 1; funext r S1
  cases r <;> rfl
theorem Ob_sRet {m : ED} {Q : Fl → Sto → Prop} : Ob (sRet m ρ S) Q = Ob (m ρ S) fun p S1 => Q (.rt p) S1 := by
  unfold sRet
  simp only [Ob_bnd, Ob_ret]
theorem Ob_sRetN {Q : Fl → Sto → Prop} : Ob (sRetN ρ S) Q = Q (.rt .non) S := rfl
theorem Ob_sExpr {m : ED} {Q : Fl → Sto → Prop} : Ob (sExpr m ρ S) Q = Ob (m ρ S) fun p S1 => Q (.nx ρ) S1 := by
  unfold sExpr
  simp only [Ob_bnd, Ob_ret]
theorem Ob_sIf {c : BD} {d f : SD} {Q : Fl → Sto → Prop} : Ob (sIf c d f ρ S) Q = Ob (c ρ S) fun b S1 => if b = true then Ob (d ρ S1) Q else Ob (f ρ S1) Q := by
  unfold sIf
  simp only [Ob_bnd, Ob_ite]
theorem Ob_sBrk {Q : Fl → Sto → Prop} : Ob (sBrk ρ S) Q = Q (.bk ρ) S := rfl
theorem Ob_sCt {Q : Fl → Sto → Prop} : Ob (sCt ρ S) Q = Q (.ct ρ) S := rfl
theorem Ob_sNever {Q : Fl → Sto → Prop} : Ob (sNever ρ S) Q = False := rfl
theorem Ob_gName {i : Nat} {p : PV} {Q : Rho → Sto → Prop} : Ob (gName i p ρ S) Q = Q (ρ.set i (some p)) S := rfl
theorem Ob_sAsg {m : ED} {g : GD} {Q : Fl → Sto → Prop} : Ob (sAsg m g ρ S) Q = Ob (m ρ S) fun p S1 => Ob (g p ρ S1) fun ρ' S2 => Q (.nx ρ') S2 := by
  unfold sAsg
  simp only [Ob_bnd, Ob_ret]
theorem Ob_gsNil {Q : Rho → Sto → Prop} : Ob (gsNil [] ρ S) Q = Q ρ S := rfl
theorem Ob_gsCons {g : GD} {gs : GDs} {p : PV} {ps : List PV} {Q : Rho → Sto → Prop} : Ob (gsCons g gs (p :: ps) ρ S) Q = Ob (g p ρ S) fun ρ' S1 => Ob (gs ps ρ' S1) Q := Ob_bnd
theorem Ob_gTup {n : Nat} {gs : GDs} {ps : List PV} {Q : Rho → Sto → Prop} : Ob (gTup n gs (.tup ps) ρ S) Q = (ps.length = n ∧ Ob (gs ps ρ S) Q) := by
  show Ob ((if ps.length = n then gs ps ρ else stk) S) Q = _
  split <;> simp [Ob, stk, *]
theorem Ob_gTup_lst {n : Nat} {gs : GDs} {ps : List PV} {Q : Rho → Sto → Prop} : Ob (gTup n gs (.lst ps) ρ S) Q = (ps.length = n ∧ Ob (gs ps ρ S) Q) := by
  show Ob ((if ps.length = n then gs ps ρ else stk) S) Q = _
  split <;> simp [Ob, stk, *]
theorem Ob_gSub {mo mi : ED} {p : PV} {Q : Rho → Sto → Prop} : Ob (gSub mo mi p ρ S) Q = Ob (mo ρ S) fun o S1 => Ob (mi ρ S1) fun i S2 => match o, i with
  | .loc n, .int k => (match S2[n]? with
    | some (.lst xs) => (match ixN xs.length k with
      | some j => Q ρ (S2.set n (.lst (xs.set j p)))
      | none => False)
    | none => False)
  | _, _ => False := by
  unfold gSub
  simp only [Ob_bnd]
  congr 1; funext o S1
  congr 1; funext i S2
  cases o with
  | loc n => cases i with
    | int k =>
      cases h : S2[n]? with
      | none => first | rfl | (simp only [h]; rfl)
      | some e => cases e with
        | lst xs =>
          cases h2 : ixN xs.length k with
          | none => first | rfl | (simp only [h, h2]; rfl)
          | some j => first | rfl | (simp only [h, h2]; rfl)
    | _ => rfl
  | _ => rfl
theorem Ob_sPar {i j : Nat} {as : AD} {Q : Fl → Sto → Prop} : Ob (sPar i j as ρ S) Q = Ob (as ρ S) fun ps S1 => match ps with
  | [p, q] => Q (.nx ((ρ.set i (some p)).set j (some q))) S1
  | _ => False := by
  unfold sPar
  rw [Ob_bnd]
  congr 1; funext ps S1
  match ps with
  | [] => rfl
  | [_] => rfl
  | [_, _] => rfl
  | _ :: _ :: _ :: _ => rfl
theorem Ob_sPar3 {i j l : Nat} {as : AD} {Q : Fl → Sto → Prop} : Ob (sPar3 i j l as ρ S) Q = Ob (as ρ S) fun ps S1 => match ps with
  | [p, q, r] => Q (.nx (((ρ.set i (some p)).set j (some q)).set l (some r))) S1
  | _ => False := by
  unfold sPar3
  rw [Ob_bnd]
  congr 1; funext ps S1
  match ps with
  | [] => rfl
  | [_] => rfl
  | [_, _] => rfl
  | [_, _, _] => rfl
  | _ :: _ :: _ :: _ :: _ => rfl
/-! walks -/
theorem Ob_iSeq {m : ED} {Q : Src → Sto → Prop} : Ob (iSeq m ρ S) Q = Ob (m ρ S) fun p S1 => Ob (seqSrc p S1) Q := Ob_bnd
theorem Ob_src_tup {ps : List PV} {Q : Src → Sto → Prop} : Ob (seqSrc (.tup ps) S) Q = Q ⟨ps, fun _ => True⟩ S := rfl
theorem Ob_src_lst {ps : List PV} {Q : Src → Sto → Prop} : Ob (seqSrc (.lst ps) S) Q = Q ⟨ps, fun _ => True⟩ S := rfl
theorem Ob_src_frz {ps : List PV} {Q : Src → Sto → Prop} : Ob (seqSrc (.frz ps) S) Q = Q ⟨ps, fun _ => True⟩ S := rfl
theorem Ob_iAp {f : List PV → M Src} {as : AD} {Q : Src → Sto → Prop} : Ob (iAp f as ρ S) Q = Ob (as ρ S) fun ps S1 => Ob (f ps S1) Q := Ob_bnd
theorem Ob_rng1 {j : Int} {Q : Src → Sto → Prop} : Ob (rng1 [.int j] S) Q = ((-(2 ^ 62) ≤ j ∧ j < 2 ^ 62) ∧ Q ⟨rngL 0 j.toNat, fun _ => True⟩ S) := by
  show Ob (if -(2 ^ 62) ≤ j ∧ j < 2 ^ 62 then .ok ⟨rngL 0 j.toNat, fun _ => True⟩ S else .stuck) Q = _
  split <;> simp only [Ob, true_and, false_and, *]
theorem Ob_rng2 {i j : Int} {Q : Src → Sto → Prop} : Ob (rng2 [.int i, .int j] S) Q = ((-(2 ^ 62) ≤ i ∧ i < 2 ^ 62 ∧ -(2 ^ 62) ≤ j ∧ j < 2 ^ 62) ∧ Q ⟨rngL i (j - i).toNat, fun _ => True⟩ S) := by
  show Ob (if -(2 ^ 62) ≤ i ∧ i < 2 ^ 62 ∧ -(2 ^ 62) ≤ j ∧ j < 2 ^ 62 then .ok ⟨rngL i (j - i).toNat, fun _ => True⟩ S else .stuck) Q = _
  split <;> simp only [Ob, true_and, false_and, *]
theorem Ob_sFor {im : ID} {g : GD} {d : SD} {Q : Fl → Sto → Prop} : Ob (sFor im g d ρ S) Q = Ob (im ρ S) fun s S1 => Ob (forM s.ok g d s.items ρ S1) Q := Ob_bnd
theorem Ob_for_nil {g : GD} {d : SD} {Q : Fl → Sto → Prop} : Ob (forM (fun _ => True) g d [] ρ S) Q = Q (.nx ρ) S := by
  simp [forM, Ob]
theorem Ob_for_cons {g : GD} {d : SD} {p : PV} {ps : List PV} {Q : Fl → Sto → Prop} : Ob (forM (fun _ => True) g d (p :: ps) ρ S) Q = Ob (g p ρ S) fun ρ1 S1 => Ob (d ρ1 S1) fun r S2 => match r with
  | .nx ρ2 => Ob (forM (fun _ => True) g d ps ρ2 S2) Q
  | .ct ρ2 => Ob (forM (fun _ => True) g d ps ρ2 S2) Q
  | .bk ρ2 => Q (.nx ρ2) S2
  | .rt v => Q (.rt v) S2 := by
  conv => lhs; unfold forM
  simp only [if_true]
  rw [Ob_bnd]
  congr 1; funext ρ1 S1
  rw [Ob_bnd]
  congr 1; funext r S2
  cases r <;> rfl
/-- a walk with what holds between two turns -/
theorem Ob_for {g : GD} {d : SD} {Q : Fl → Sto → Prop} {its : List PV} (I : Nat → Rho → Sto → Prop) (h0 : I 0 ρ S)
    (st : ∀ (i : Nat) p ρ S, its[i]? = some p → I i ρ S → Ob (g p ρ S) fun ρ1 S1 => Ob (d ρ1 S1) fun r S2 => match r with
      | .nx ρ2 => I (i + 1) ρ2 S2
      | .ct ρ2 => I (i + 1) ρ2 S2
      | .bk ρ2 => Q (.nx ρ2) S2
      | .rt v => Q (.rt v) S2) (hq : ∀ ρ S, I its.length ρ S → Q (.nx ρ) S) : Ob (forM (fun _ => True) g d its ρ S) Q := by
  induction its generalizing ρ S I with
  | nil => rw [Ob_for_nil]; exact hq ρ S h0
  | cons p ps ih =>
    rw [Ob_for_cons]
    refine (st 0 p ρ S rfl h0).mono fun ρ1 S1 h1 => h1.mono fun r S2 h2 => ?_
    have go : ∀ ρ2, I 1 ρ2 S2 → Ob (forM (fun _ => True) g d ps ρ2 S2) Q := fun ρ2 h2 =>
      ih (fun i => I (i + 1)) h2 (fun i p ρ S e hi => st (i + 1) p ρ S e hi) (fun ρ S h => hq ρ S h)
    cases r with
    | nx ρ2 => exact go ρ2 h2
    | ct ρ2 => exact go ρ2 h2
    | bk ρ2 => exact h2
    | rt v => exact h2
theorem Ob_forK {ok : Sto → Prop} {g : GD} {d : SD} {Q : Fl → Sto → Prop} {its : List PV} (I : Nat → Rho → Sto → Prop) (h0 : I 0 ρ S) (hI : ∀ i ρ S, I i ρ S → ok S)
    (st : ∀ (i : Nat) p ρ S, its[i]? = some p → I i ρ S → Ob (g p ρ S) fun ρ1 S1 => Ob (d ρ1 S1) fun r S2 => match r with
      | .nx ρ2 => I (i + 1) ρ2 S2
      | .ct ρ2 => I (i + 1) ρ2 S2
      | .bk ρ2 => Q (.nx ρ2) S2
      | .rt v => Q (.rt v) S2) (hq : ∀ ρ S, I its.length ρ S → Q (.nx ρ) S) : Ob (forM ok g d its ρ S) Q := by
  induction its generalizing ρ S I with
  | nil =>
    unfold forM
    rw [if_pos (hI 0 ρ S h0)]
    exact hq ρ S h0
  | cons p ps ih =>
    unfold forM
    rw [if_pos (hI 0 ρ S h0), Ob_bnd]
    refine (st 0 p ρ S rfl h0).mono fun ρ1 S1 h1 => ?_
    rw [Ob_bnd]
    refine h1.mono fun r S2 h2 => ?_
    have go : ∀ ρ2, I 1 ρ2 S2 → Ob (forM ok g d ps ρ2 S2) Q := fun ρ2 h2 =>
      ih (fun i => I (i + 1)) h2 (fun i ρ S h => hI (i + 1) ρ S h) (fun i p ρ S e hi => st (i + 1) p ρ S e hi) (fun ρ S h => hq ρ S h)
    cases r with
    | nx ρ2 => exact go ρ2 h2
    | ct ρ2 => exact go ρ2 h2
    | bk ρ2 => exact h2
    | rt v => exact h2
theorem Ob_src_loc {n : Nat} {Q : Src → Sto → Prop} : Ob (seqSrc (.loc n) S) Q = (match S[n]? with
  | some (.lst ps) => Q ⟨ps, fun S' => S'[n]? = some (.lst ps)⟩ S
  | none => False) := by
  unfold seqSrc
  cases h : S[n]? with
  | none => first | rfl | (simp only [h]; rfl)
  | some e => cases e with
    | lst xs => first | rfl | (simp only [h]; rfl)
theorem Ob_noX {m : M α} {Q : α → Sto → Prop} : Ob (noX m S) Q = Ob (m S) Q := by
  unfold noX
  cases m S <;> rfl
theorem Ob_dLC {im : ID} {g : GD} {t : BD} {m : ED} {vs : List Nat} {Q : PV → Sto → Prop} : Ob (dLC im g t m vs ρ S) Q = Ob (im ρ S) fun s S1 => s.items.length ≤ LIM ∧ Ob (lcM s.ok g t m (wipeR ρ vs) s.items S1) fun qs S2 => Q (.lst qs) S2 := by
  unfold dLC
  rw [Ob_bnd]
  congr 1; funext s S1
  split <;> rename_i h
  · simp only [h, true_and, Ob_bnd, Ob_noX, Ob_ret]
  · simp only [h, false_and]
    rfl
theorem Ob_lc_nil {g : GD} {t : BD} {m : ED} {Q : List PV → Sto → Prop} : Ob (lcM (fun _ => True) g t m ρ [] S) Q = Q [] S := by
  simp [lcM, Ob]
theorem Ob_lc_cons {g : GD} {t : BD} {m : ED} {p : PV} {ps : List PV} {Q : List PV → Sto → Prop} : Ob (lcM (fun _ => True) g t m ρ (p :: ps) S) Q = Ob (g p ρ S) fun ρ1 S1 => Ob (t ρ1 S1) fun b S2 => if b = true then Ob (m ρ1 S2) fun q S3 => Ob (lcM (fun _ => True) g t m ρ ps S3) fun qs S4 => Q (q :: qs) S4 else Ob (lcM (fun _ => True) g t m ρ ps S2) Q := by
  conv => lhs; unfold lcM
  simp only [if_true]
  simp only [Ob_bnd, Ob_ite, Ob_ret]
/-- a comprehension with a name and no test, each turn told -/
theorem Ob_lc {m : ED} {i : Nat} {its : List PV} {Q : List PV → Sto → Prop} (J : Sto → Prop) (P : Nat → PV → Prop) (h0 : J S)
    (st : ∀ (k : Nat) p S, its[k]? = some p → J S → Ob (m (ρ.set i (some p)) S) fun q S' => P k q ∧ J S')
    (hq : ∀ qs S, qs.length = its.length → (∀ (k : Nat) q, qs[k]? = some q → P k q) → J S → Q qs S) : Ob (lcM (fun _ => True) (gName i) bYes m ρ its S) Q := by
  induction its generalizing S Q P with
  | nil => rw [Ob_lc_nil]; exact hq [] S rfl (fun k q h => by simp at h) h0
  | cons p ps ih =>
    rw [Ob_lc_cons, Ob_gName, Ob_bYes, if_pos rfl]
    refine (st 0 p S rfl h0).mono fun q S3 ⟨hp, hj⟩ => ?_
    refine ih (fun k => P (k + 1)) hj (fun k p S e => st (k + 1) p S e) fun qs S' hl hh hj' => ?_
    refine hq _ _ (by simp [hl]) (fun k r e => ?_) hj'
    cases k with
    | zero => simp at e; subst e; exact hp
    | succ k => exact hh k r (by simpa using e)
/-- a while with a measure -/
theorem Ob_while {c : BD} {d : SD} {Q : Fl → Sto → Prop} (I : Nat → Rho → Sto → Prop)
    (st : ∀ n ρ S, I n ρ S → Ob (c ρ S) fun b S1 => if b = true then Ob (d ρ S1) fun r S2 => match r with
      | .nx ρ2 => ∃ m, m < n ∧ I m ρ2 S2
      | .ct ρ2 => ∃ m, m < n ∧ I m ρ2 S2
      | .bk ρ2 => Q (.nx ρ2) S2
      | .rt v => Q (.rt v) S2 else Q (.nx ρ) S1) (n : Nat) (h0 : I n ρ S) : Ob (sWhile c d ρ S) Q := by
  have key : ∀ n ρ S, I n ρ S → Ob (whileF c d (n + 1) ρ S) Q := by
    intro n
    induction n using Nat.strongRecOn with
    | ind n ih =>
      intro ρ S h
      unfold whileF
      rw [Ob_bnd]
      refine (st n ρ S h).mono fun b S1 h1 => ?_
      rw [Ob_ite]
      split <;> rename_i hb
      · rw [if_pos hb] at h1
        rw [Ob_bnd]
        refine h1.mono fun r S2 h2 => ?_
        have go : ∀ ρ2, (∃ m, m < n ∧ I m ρ2 S2) → Ob (whileF c d n ρ2 S2) Q := fun ρ2 ⟨m, hm, hi⟩ => by
          obtain ⟨a, S3, e, q⟩ := (ih m hm ρ2 S2 hi).ex
          have hs : whileF c d (m + 1) ρ2 S2 ≠ .stuck := by rw [e]; simp
          have : whileF c d n ρ2 S2 = whileF c d (m + 1) ρ2 S2 := by
            exact whileF_le hs (by omega)
          rw [this, e]
          exact q
        cases r with
        | nx ρ2 => exact go ρ2 h2
        | ct ρ2 => exact go ρ2 h2
        | bk ρ2 => exact h2
        | rt v => exact h2
      · rw [if_neg hb] at h1
        exact h1
  obtain ⟨a, S3, e, q⟩ := (key n ρ S h0).ex
  rw [sWhile_eq (n := n + 1) (by rw [e]; simp), e]
  exact q
/-! defs -/
theorem Ob_bodyR {d : SD} {Q : PV → Sto → Prop} : Ob (bodyR d ρ S) Q = Ob (d ρ S) fun r S1 => match r with
  | .nx _ => Q .non S1
  | .rt p => Q p S1
  | _ => False := by
  unfold bodyR
  rw [Ob_bnd]
  congr 1; funext r S1
  cases r <;> rfl
theorem Ob_defM {a n : Nat} {d : SD} {ps : List PV} {Q : PV → Sto → Prop} (hl : ps.length = a) (h : Ob (d (rho0 n ps) S) fun r S1 => match r with
  | .nx _ => S1.length = S.length ∧ Q .non S1
  | .rt p => S1.length = S.length ∧ Q p S1
  | _ => False) : Ob (defM a n d ps S) Q := by
  unfold defM
  rw [if_pos hl]
  have h2 : Ob (bodyR d (rho0 n ps) S) fun p S1 => S1.length = S.length ∧ Q p S1 := by
    rw [Ob_bodyR]
    exact h
  obtain ⟨p, S1, e, l, q⟩ := h2.ex
  rw [e]
  have : fin S.length (.ok p S1) = .ok p S1 := by simp only [fin, if_pos l]
  rw [this]
  exact q
theorem Ob_defK {a n : Nat} {d : SD} {ps : List PV} {Q : PV → Sto → Prop} (hl : ps.length = a) (h : Ob (d (rho0 n ps) S) fun r S1 => match r with
  | .nx _ => Q .non S1
  | .rt p => Q p S1
  | _ => False) : Ob (defK a n d ps S) Q := by
  unfold defK
  rw [if_pos hl, Ob_bodyR]
  exact h
end
/-! built-ins -/
section
variable {S : Sto} {Q : PV → Sto → Prop}
theorem Ob_len_tup {xs : List PV} : Ob (lenM [.tup xs] S) Q = Q (.int xs.length) S := rfl
theorem Ob_len_lst {xs : List PV} : Ob (lenM [.lst xs] S) Q = Q (.int xs.length) S := rfl
theorem Ob_len_frz {xs : List PV} : Ob (lenM [.frz xs] S) Q = Q (.int xs.length) S := rfl
theorem Ob_int {i : Int} : Ob (intM [.int i] S) Q = Q (.int i) S := rfl
theorem Ob_int_bl {b : Bool} : Ob (intM [.bl b] S) Q = Q (.int (if b then 1 else 0)) S := rfl
theorem Ob_abs {i : Int} : Ob (absM [.int i] S) Q = Q (.int (if i < 0 then -i else i)) S := rfl
theorem Ob_max2 {i j : Int} : Ob (max2M [.int i, .int j] S) Q = Q (.int (if j > i then j else i)) S := rfl
theorem Ob_min2 {i j : Int} : Ob (min2M [.int i, .int j] S) Q = Q (.int (if j < i then j else i)) S := rfl
theorem Ob_gcd {i j : Int} : Ob (gcdM [.int i, .int j] S) Q = Q (.int (Int.gcd i j)) S := rfl
theorem Ob_tuple_lst {xs : List PV} : Ob (tupleM [.lst xs] S) Q = Q (.tup xs) S := rfl
theorem Ob_tuple_tup {xs : List PV} : Ob (tupleM [.tup xs] S) Q = Q (.tup xs) S := rfl
theorem Ob_list_lst {xs : List PV} : Ob (listM [.lst xs] S) Q = Q (.lst xs) S := rfl
theorem Ob_list_tup {xs : List PV} : Ob (listM [.tup xs] S) Q = Q (.lst xs) S := rfl
theorem Ob_divmod {i j : Int} : Ob (divmodM [.int i, .int j] S) Q = ((0 < j ∧ j < 1073741824) ∧ Q (.tup [.int (i / j), .int (i % j)]) S) := by
  show Ob (if 0 < j ∧ j < 1073741824 then .ok (.tup [.int (i / j), .int (i % j)]) S else .stuck) Q = _
  split <;> simp only [Ob, true_and, false_and, *]
theorem bools_map (bs : List Bool) : boolsL (bs.map PV.bl) = some bs := by
  induction bs with
  | nil => rfl
  | cons b bs ih => simp only [List.map_cons, boolsL, ih]
theorem ints_map (bs : List Int) : intsL (bs.map PV.int) = some bs := by
  induction bs with
  | nil => rfl
  | cons b bs ih => simp only [List.map_cons, intsL, ih]
theorem Ob_all {xs : List PV} {bs : List Bool} (h : boolsL xs = some bs) : Ob (allM [.lst xs] S) Q = Q (.bl (bs.all id)) S := by
  unfold allM
  simp only [asL, h]
  rfl
theorem Ob_any {xs : List PV} {bs : List Bool} (h : boolsL xs = some bs) : Ob (anyM [.lst xs] S) Q = Q (.bl (bs.any id)) S := by
  unfold anyM
  simp only [asL, h]
  rfl
theorem Ob_sum {xs : List PV} {bs : List Int} (h : intsL xs = some bs) : Ob (sumM [.lst xs] S) Q = Q (.int bs.sum) S := by
  unfold sumM
  simp only [asL, h]
  rfl
theorem all_true {xs : List PV} (h : ∀ p ∈ xs, p = .bl true) : boolsL xs = some (xs.map fun _ => true) := by
  induction xs with
  | nil => rfl
  | cons p ps ih =>
    rw [h p (by simp)]
    simp only [boolsL, ih fun q hq => h q (by simp [hq]), List.map_cons]
theorem Ob_all_true {xs : List PV} (h : ∀ p ∈ xs, p = .bl true) : Ob (allM [.lst xs] S) Q = Q (.bl true) S := by
  rw [Ob_all (all_true h)]
  congr 2
  rw [List.all_eq_true]
  intro b hb
  simp at hb
  show b = true
  exact hb.2
end
end Pm

namespace Pm
open PySem PySem.Spec L2
/-- a rest that simp leaves alone -/
inductive Tag {α : Type} (Q : α → Sto → Prop) : Type where
  | mk
def Ok {α : Type} (o : Out α) (Q : α → Sto → Prop) (u : Tag Q := Tag.mk) : Prop := Ob o Q
section
variable {α β : Type} {S : Sto} {ρ : Rho}
theorem Ok.mono {o : Out α} {Q R : α → Sto → Prop} (h : Ok o Q) (k : ∀ a S, Q a S → R a S) : Ok o R := Ob.mono h k
theorem Ok.ex {o : Out α} {Q : α → Sto → Prop} (h : Ok o Q) : ∃ a S, o = .ok a S ∧ Q a S := Ob.ex h
theorem Ok.eq {o : Out α} {v : α} (h : Ok o fun a S' => a = v ∧ S' = S) : o = .ok v S := Ob.eq h
theorem zaa {a : α} {Q : α → Sto → Prop} : Ok (.ok a S) Q = Q a S := Ob_ok
theorem zab {a : α} {Q : α → Sto → Prop} : Ok (ret a S) Q = Q a S := Ob_ret
theorem zac {m : M α} {f : α → M β} {Q : β → Sto → Prop} : Ok (bnd m f S) Q = Ok (m S) fun a S1 => Ok (f a S1) Q := Ob_bnd
theorem zad {i : Nat} {Q : PV → Sto → Prop} : Ok (dVar i ρ S) Q = (match ρ[i]? with
  | some (some p) => Q p S
  | _ => False) := Ob_dVar
theorem zae {p : PV} {Q : PV → Sto → Prop} : Ok (dC p ρ S) Q = Q p S := Ob_dC
theorem zaf {Q : List PV → Sto → Prop} : Ok (dNil ρ S) Q = Q [] S := Ob_dNil
theorem zag {m : ED} {as : AD} {Q : List PV → Sto → Prop} : Ok (dCons m as ρ S) Q = Ok (m ρ S) fun p S1 => Ok (as ρ S1) fun ps S2 => Q (p :: ps) S2 := Ob_dCons
theorem zah {ps : List PV} {Q : PV → Sto → Prop} : Ok (mkTup ps S) Q = (ps.length ≤ LIM ∧ Q (.tup ps) S) := Ob_mkTup
theorem zai {ps : List PV} {Q : PV → Sto → Prop} : Ok (mkLst ps S) Q = (ps.length ≤ LIM ∧ Q (.lst ps) S) := Ob_mkLst
theorem zbc {ps : List PV} {Q : PV → Sto → Prop} : Ok (mkLoc ps S) Q = (ps.length ≤ LIM ∧ Q (.loc S.length) (S ++ [.lst ps])) := Ob_mkLoc
theorem zaj {f : List PV → M PV} {as : AD} {Q : PV → Sto → Prop} : Ok (dAp f as ρ S) Q = Ok (as ρ S) fun ps S1 => Ok (f ps S1) Q := Ob_dAp
theorem zak {f : List PV → M PV} {n l : Nat} {ix : List Nat} {as bs : AD} {Q : PV → Sto → Prop} : Ok (dApK n l ix f as bs ρ S) Q = Ok (as ρ S) fun us S1 => Ok (bs ρ S1) fun ws S2 => us.length = n ∧ ws.length = l ∧ Ok (f (kput ix us ws) S2) Q := Ob_dApK
theorem zal {g : PV → PV → M PV} {m n : ED} {Q : PV → Sto → Prop} : Ok (dOp g m n ρ S) Q = Ok (m ρ S) fun x S1 => Ok (n ρ S1) fun y S2 => Ok (g x y S2) Q := Ob_dOp
theorem zam {g : PV → M PV} {m : ED} {Q : PV → Sto → Prop} : Ok (dUn g m ρ S) Q = Ok (m ρ S) fun x S1 => Ok (g x S1) Q := Ob_dUn
theorem Ok_ite {c : Prop} [Decidable c] {m n : M α} {Q : α → Sto → Prop} : Ok ((if c then m else n) S) Q = if c then Ok (m S) Q else Ok (n S) Q := Ob_ite
theorem zan {c : BD} {m n : ED} {Q : PV → Sto → Prop} : Ok (dIf c m n ρ S) Q = Ok (c ρ S) fun b S1 => if b = true then Ok (m ρ S1) Q else Ok (n ρ S1) Q := Ob_dIf
theorem zao {b : Bool} {Q : Bool → Sto → Prop} : Ok (asB (.bl b) S) Q = Q b S := Ob_asB
theorem zap {b : Bool} {Q : Bool → Sto → Prop} : Ok (truM (.bl b) S) Q = Q b S := Ob_tru_bl
theorem zaq {b : Int} {Q : Bool → Sto → Prop} : Ok (truM (.int b) S) Q = Q (b != 0) S := Ob_tru_int
theorem zar {Q : Bool → Sto → Prop} : Ok (truM .non S) Q = Q false S := Ob_tru_non
theorem zas {xs : List PV} {Q : Bool → Sto → Prop} : Ok (truM (.tup xs) S) Q = Q (!xs.isEmpty) S := Ob_tru_tup
theorem zat {xs : List PV} {Q : Bool → Sto → Prop} : Ok (truM (.lst xs) S) Q = Q (!xs.isEmpty) S := Ob_tru_lst
theorem zau {m : ED} {Q : Bool → Sto → Prop} : Ok (bTru m ρ S) Q = Ok (m ρ S) fun p S1 => Ok (truM p S1) Q := Ob_bTru
theorem zav {m : ED} {Q : Bool → Sto → Prop} : Ok (bCmp m ρ S) Q = Ok (m ρ S) fun p S1 => Ok (asB p S1) Q := Ob_bCmp
theorem zaw {c : BD} {Q : Bool → Sto → Prop} : Ok (bNot c ρ S) Q = Ok (c ρ S) fun b S1 => Q (!b) S1 := Ob_bNot
theorem zax {Q : Bool → Sto → Prop} : Ok (bYes ρ S) Q = Q true S := Ob_bYes
theorem zay {c d : BD} {Q : Bool → Sto → Prop} : Ok (bAnd c d ρ S) Q = Ok (c ρ S) fun b S1 => if b = true then Ok (d ρ S1) Q else Q false S1 := Ob_bAnd
theorem zaz {c d : BD} {Q : Bool → Sto → Prop} : Ok (bOr c d ρ S) Q = Ok (c ρ S) fun b S1 => if b = true then Q true S1 else Ok (d ρ S1) Q := Ob_bOr
theorem zaA {m n : ED} {Q : PV → Sto → Prop} : Ok (dAnd m n ρ S) Q = Ok (m ρ S) fun x S1 => Ok (truM x S1) fun b S2 => if b = true then Ok (n ρ S2) Q else Q x S2 := Ob_dAnd
theorem zaB {m n : ED} {Q : PV → Sto → Prop} : Ok (dOr m n ρ S) Q = Ok (m ρ S) fun x S1 => Ok (truM x S1) fun b S2 => if b = true then Q x S2 else Ok (n ρ S2) Q := Ob_dOr
theorem zaC {m : ED} {Q : PV → Sto → Prop} : Ok (dNot m ρ S) Q = Ok (m ρ S) fun x S1 => Ok (truM x S1) fun b S2 => Q (.bl (!b)) S2 := Ob_dNot
theorem zaD {g h : PV → PV → M PV} {a b c : ED} {Q : PV → Sto → Prop} : Ok (dChain g h a b c ρ S) Q = Ok (a ρ S) fun x S1 => Ok (b ρ S1) fun y S2 => Ok (g x y S2) fun z S3 => Ok (asB z S3) fun k S4 => if k = true then Ok (c ρ S4) fun w S5 => Ok (h y w S5) Q else Q (.bl false) S4 := Ob_dChain
theorem zaE {i j : Int} {Q : PV → Sto → Prop} : Ok (addM (.int i) (.int j) S) Q = Q (.int (i + j)) S := Ob_add_int
theorem zaF {x y : List PV} {Q : PV → Sto → Prop} : Ok (addM (.lst x) (.lst y) S) Q = (x.length + y.length ≤ LIM ∧ Q (.lst (x ++ y)) S) := Ob_add_lst
theorem zaG {x y : List PV} {Q : PV → Sto → Prop} : Ok (addM (.tup x) (.tup y) S) Q = (x.length + y.length ≤ LIM ∧ Q (.tup (x ++ y)) S) := Ob_add_tup
theorem zaH {i j : Int} {Q : PV → Sto → Prop} : Ok (subM (.int i) (.int j) S) Q = Q (.int (i - j)) S := Ob_sub
theorem zaI {i j : Int} {Q : PV → Sto → Prop} : Ok (mulM (.int i) (.int j) S) Q = (i.natAbs.log2 + j.natAbs.log2 < 1000000 ∧ Q (.int (i * j)) S) := Ob_mul_int
theorem zaJ {x : List PV} {k : Int} {Q : PV → Sto → Prop} : Ok (mulM (.lst x) (.int k) S) Q = ((-1000 ≤ k ∧ k ≤ 1000 ∧ x.length ≤ 100) ∧ Q (.lst (repL k x)) S) := Ob_mul_lst
theorem zaK {i j : Int} {Q : PV → Sto → Prop} : Ok (fdivM (.int i) (.int j) S) Q = ((j ≠ 0 ∧ j.natAbs.log2 < 9000) ∧ Q (.int (i.fdiv j)) S) := Ob_fdiv
theorem zaL {i j : Int} {Q : PV → Sto → Prop} : Ok (modM (.int i) (.int j) S) Q = (j ≠ 0 ∧ Q (.int (i.fmod j)) S) := Ob_mod
theorem zaM {i j : Int} {Q : PV → Sto → Prop} : Ok (powM (.int i) (.int j) S) Q = ((0 ≤ j ∧ j ≤ 1000000 ∧ i.natAbs < 2 ^ 64) ∧ Q (.int (i ^ j.toNat)) S) := Ob_pow
theorem zaN {i : Int} {Q : PV → Sto → Prop} : Ok (negM (.int i) S) Q = Q (.int (-i)) S := Ob_neg
theorem zaO {i j : Int} {Q : PV → Sto → Prop} : Ok (ltM (.int i) (.int j) S) Q = Q (.bl (decide (i < j))) S := Ob_lt
theorem zaP {i j : Int} {Q : PV → Sto → Prop} : Ok (leM (.int i) (.int j) S) Q = Q (.bl (decide (i ≤ j))) S := Ob_le
theorem zaQ {i j : Int} {Q : PV → Sto → Prop} : Ok (gtM (.int i) (.int j) S) Q = Q (.bl (decide (j < i))) S := Ob_gt
theorem zaR {i j : Int} {Q : PV → Sto → Prop} : Ok (geM (.int i) (.int j) S) Q = Q (.bl (decide (j ≤ i))) S := Ob_ge
theorem zaY {a b : Bool} {Q : PV → Sto → Prop} : Ok (isBM (.bl a) (.bl b) S) Q = Q (.bl (decide (a = b))) S := Ob_isB
theorem zaZ {a b : Bool} {Q : PV → Sto → Prop} : Ok (notBM (.bl a) (.bl b) S) Q = Q (.bl (!decide (a = b))) S := Ob_notB
theorem za0 {T : String} {p : PV} {Q : PV → Sto → Prop} : Ok (isiM T p S) Q = Q (.bl (isT T (kindP p))) S := Ob_isi
theorem za1 {i j : Int} {Q : PV → Sto → Prop} : Ok (eqM (.int i) (.int j) S) Q = Q (.bl (i == j)) S := Ob_eq_int
theorem za2 {i j : Int} {Q : PV → Sto → Prop} : Ok (neM (.int i) (.int j) S) Q = Q (.bl (!(i == j))) S := Ob_ne_int
theorem za3 {i j : Bool} {Q : PV → Sto → Prop} : Ok (eqM (.bl i) (.bl j) S) Q = Q (.bl (i == j)) S := Ob_eq_bl
theorem za4 {i j : Bool} {Q : PV → Sto → Prop} : Ok (neM (.bl i) (.bl j) S) Q = Q (.bl (!(i == j))) S := Ob_ne_bl
theorem za5 {i j : Str} {Q : PV → Sto → Prop} : Ok (eqM (.str i) (.str j) S) Q = Q (.bl (i == j)) S := Ob_eq_str
theorem za6 {i j : Str} {Q : PV → Sto → Prop} : Ok (neM (.str i) (.str j) S) Q = Q (.bl (!(i == j))) S := Ob_ne_str
theorem za7 {xs : List PV} {i : Int} {Q : PV → Sto → Prop} : Ok (ixM (.tup xs) (.int i) S) Q = (match atI xs i with
  | some p => Q p S
  | none => False) := Ob_ix_tup
theorem za8 {xs : List PV} {i : Int} {Q : PV → Sto → Prop} : Ok (ixM (.lst xs) (.int i) S) Q = (match atI xs i with
  | some p => Q p S
  | none => False) := Ob_ix_lst
theorem za9 {xs : List PV} {i : Int} {Q : PV → Sto → Prop} : Ok (ixM (.frz xs) (.int i) S) Q = (match atI xs i with
  | some p => Q p S
  | none => False) := Ob_ix_frz
theorem zba {n : Nat} {i : Int} {Q : PV → Sto → Prop} : Ok (ixM (.loc n) (.int i) S) Q = (match S[n]? with
  | some (.lst xs) => (match atI xs i with
    | some p => Q p S
    | none => False)
  | none => False) := Ob_ix_loc
theorem zbd {m : ED} {lo hi : OD} {Q : PV → Sto → Prop} : Ok (dSl m lo hi ρ S) Q = Ok (m ρ S) fun p S1 => Ok (lo ρ S1) fun l S2 => Ok (hi ρ S2) fun h S3 => Ok (slM p l h S3) Q := Ob_dSl
theorem zbe {Q : Option Int → Sto → Prop} : Ok (oNone ρ S) Q = Q none S := Ob_oNone
theorem zbf {m : ED} {Q : Option Int → Sto → Prop} : Ok (oSome m ρ S) Q = Ok (m ρ S) fun p S1 => match p with
  | .int i => Q (some i) S1
  | _ => False := Ob_oSome
theorem zbg {xs : List PV} {l h : Option Int} {Q : PV → Sto → Prop} : Ok (slM (.frz xs) l h S) Q = Q (.lst (cutP xs l h)) S := Ob_sl_frz
theorem zbh {xs : List PV} {l h : Option Int} {Q : PV → Sto → Prop} : Ok (slM (.lst xs) l h S) Q = Q (.lst (cutP xs l h)) S := Ob_sl_lst
theorem zbi {xs : List PV} {l h : Option Int} {Q : PV → Sto → Prop} : Ok (slM (.tup xs) l h S) Q = Q (.tup (cutP xs l h)) S := Ob_sl_tup
theorem zbj {Q : Fl → Sto → Prop} : Ok (sNil ρ S) Q = Q (.nx ρ) S := Ob_sNil
theorem zbk {d f : SD} {Q : Fl → Sto → Prop} : Ok (sSeq d f ρ S) Q = Ok (d ρ S) fun r S1 => match r with
  | .nx ρ' => Ok (f ρ' S1) Q
  | r => Q r S1 := Ob_sSeq
theorem zbl {m : ED} {Q : Fl → Sto → Prop} : Ok (sRet m ρ S) Q = Ok (m ρ S) fun p S1 => Q (.rt p) S1 := Ob_sRet
theorem zbm {Q : Fl → Sto → Prop} : Ok (sRetN ρ S) Q = Q (.rt .non) S := Ob_sRetN
theorem zbn {m : ED} {Q : Fl → Sto → Prop} : Ok (sExpr m ρ S) Q = Ok (m ρ S) fun p S1 => Q (.nx ρ) S1 := Ob_sExpr
theorem zbo {c : BD} {d f : SD} {Q : Fl → Sto → Prop} : Ok (sIf c d f ρ S) Q = Ok (c ρ S) fun b S1 => if b = true then Ok (d ρ S1) Q else Ok (f ρ S1) Q := Ob_sIf
theorem zbp {Q : Fl → Sto → Prop} : Ok (sBrk ρ S) Q = Q (.bk ρ) S := Ob_sBrk
theorem zbq {Q : Fl → Sto → Prop} : Ok (sCt ρ S) Q = Q (.ct ρ) S := Ob_sCt
theorem zbr {Q : Fl → Sto → Prop} : Ok (sNever ρ S) Q = False := Ob_sNever
theorem zbs {i : Nat} {p : PV} {Q : Rho → Sto → Prop} : Ok (gName i p ρ S) Q = Q (ρ.set i (some p)) S := Ob_gName
theorem zbt {m : ED} {g : GD} {Q : Fl → Sto → Prop} : Ok (sAsg m g ρ S) Q = Ok (m ρ S) fun p S1 => Ok (g p ρ S1) fun ρ' S2 => Q (.nx ρ') S2 := Ob_sAsg
theorem zbu {Q : Rho → Sto → Prop} : Ok (gsNil [] ρ S) Q = Q ρ S := Ob_gsNil
theorem zbv {g : GD} {gs : GDs} {p : PV} {ps : List PV} {Q : Rho → Sto → Prop} : Ok (gsCons g gs (p :: ps) ρ S) Q = Ok (g p ρ S) fun ρ' S1 => Ok (gs ps ρ' S1) Q := Ob_gsCons
theorem zbw {n : Nat} {gs : GDs} {ps : List PV} {Q : Rho → Sto → Prop} : Ok (gTup n gs (.tup ps) ρ S) Q = (ps.length = n ∧ Ok (gs ps ρ S) Q) := Ob_gTup
theorem zbx {n : Nat} {gs : GDs} {ps : List PV} {Q : Rho → Sto → Prop} : Ok (gTup n gs (.lst ps) ρ S) Q = (ps.length = n ∧ Ok (gs ps ρ S) Q) := Ob_gTup_lst
theorem zbb {mo mi : ED} {p : PV} {Q : Rho → Sto → Prop} : Ok (gSub mo mi p ρ S) Q = Ok (mo ρ S) fun o S1 => Ok (mi ρ S1) fun i S2 => match o, i with
  | .loc n, .int k => (match S2[n]? with
    | some (.lst xs) => (match ixN xs.length k with
      | some j => Q ρ (S2.set n (.lst (xs.set j p)))
      | none => False)
    | none => False)
  | _, _ => False := Ob_gSub
theorem zby {i j : Nat} {as : AD} {Q : Fl → Sto → Prop} : Ok (sPar i j as ρ S) Q = Ok (as ρ S) fun ps S1 => match ps with
  | [p, q] => Q (.nx ((ρ.set i (some p)).set j (some q))) S1
  | _ => False := Ob_sPar
theorem zbz {i j l : Nat} {as : AD} {Q : Fl → Sto → Prop} : Ok (sPar3 i j l as ρ S) Q = Ok (as ρ S) fun ps S1 => match ps with
  | [p, q, r] => Q (.nx (((ρ.set i (some p)).set j (some q)).set l (some r))) S1
  | _ => False := Ob_sPar3
theorem zbA {m : ED} {Q : Src → Sto → Prop} : Ok (iSeq m ρ S) Q = Ok (m ρ S) fun p S1 => Ok (seqSrc p S1) Q := Ob_iSeq
theorem zbB {ps : List PV} {Q : Src → Sto → Prop} : Ok (seqSrc (.tup ps) S) Q = Q ⟨ps, fun _ => True⟩ S := Ob_src_tup
theorem zbC {ps : List PV} {Q : Src → Sto → Prop} : Ok (seqSrc (.lst ps) S) Q = Q ⟨ps, fun _ => True⟩ S := Ob_src_lst
theorem zbD {ps : List PV} {Q : Src → Sto → Prop} : Ok (seqSrc (.frz ps) S) Q = Q ⟨ps, fun _ => True⟩ S := Ob_src_frz
theorem zbF {f : List PV → M Src} {as : AD} {Q : Src → Sto → Prop} : Ok (iAp f as ρ S) Q = Ok (as ρ S) fun ps S1 => Ok (f ps S1) Q := Ob_iAp
theorem zbG {j : Int} {Q : Src → Sto → Prop} : Ok (rng1 [.int j] S) Q = ((-(2 ^ 62) ≤ j ∧ j < 2 ^ 62) ∧ Q ⟨rngL 0 j.toNat, fun _ => True⟩ S) := Ob_rng1
theorem zbH {i j : Int} {Q : Src → Sto → Prop} : Ok (rng2 [.int i, .int j] S) Q = ((-(2 ^ 62) ≤ i ∧ i < 2 ^ 62 ∧ -(2 ^ 62) ≤ j ∧ j < 2 ^ 62) ∧ Q ⟨rngL i (j - i).toNat, fun _ => True⟩ S) := Ob_rng2
theorem zbI {im : ID} {g : GD} {d : SD} {Q : Fl → Sto → Prop} : Ok (sFor im g d ρ S) Q = Ok (im ρ S) fun s S1 => Ok (forM s.ok g d s.items ρ S1) Q := Ob_sFor
theorem zdh {g : GD} {d : SD} {Q : Fl → Sto → Prop} : Ok (forM (fun _ => True) g d [] ρ S) Q = Q (.nx ρ) S := Ob_for_nil
theorem zdg {g : GD} {d : SD} {p : PV} {ps : List PV} {Q : Fl → Sto → Prop} : Ok (forM (fun _ => True) g d (p :: ps) ρ S) Q = Ok (g p ρ S) fun ρ1 S1 => Ok (d ρ1 S1) fun r S2 => match r with
  | .nx ρ2 => Ok (forM (fun _ => True) g d ps ρ2 S2) Q
  | .ct ρ2 => Ok (forM (fun _ => True) g d ps ρ2 S2) Q
  | .bk ρ2 => Q (.nx ρ2) S2
  | .rt v => Q (.rt v) S2 := Ob_for_cons
theorem Ok_for {g : GD} {d : SD} {Q : Fl → Sto → Prop} {its : List PV} (I : Nat → Rho → Sto → Prop) (h0 : I 0 ρ S)
    (st : ∀ (i : Nat) p ρ S, its[i]? = some p → I i ρ S → Ok (g p ρ S) fun ρ1 S1 => Ok (d ρ1 S1) fun r S2 => match r with
      | .nx ρ2 => I (i + 1) ρ2 S2
      | .ct ρ2 => I (i + 1) ρ2 S2
      | .bk ρ2 => Q (.nx ρ2) S2
      | .rt v => Q (.rt v) S2) (hq : ∀ ρ S, I its.length ρ S → Q (.nx ρ) S) : Ok (forM (fun _ => True) g d its ρ S) Q := Ob_for I h0 st hq
theorem Ok_forK {ok : Sto → Prop} {g : GD} {d : SD} {Q : Fl → Sto → Prop} {its : List PV} (I : Nat → Rho → Sto → Prop) (h0 : I 0 ρ S) (hI : ∀ i ρ S, I i ρ S → ok S)
    (st : ∀ (i : Nat) p ρ S, its[i]? = some p → I i ρ S → Ok (g p ρ S) fun ρ1 S1 => Ok (d ρ1 S1) fun r S2 => match r with
      | .nx ρ2 => I (i + 1) ρ2 S2
      | .ct ρ2 => I (i + 1) ρ2 S2
      | .bk ρ2 => Q (.nx ρ2) S2
      | .rt v => Q (.rt v) S2) (hq : ∀ ρ S, I its.length ρ S → Q (.nx ρ) S) : Ok (forM ok g d its ρ S) Q := Ob_forK I h0 hI st hq
theorem zbE {n : Nat} {Q : Src → Sto → Prop} : Ok (seqSrc (.loc n) S) Q = (match S[n]? with
  | some (.lst ps) => Q ⟨ps, fun S' => S'[n]? = some (.lst ps)⟩ S
  | none => False) := Ob_src_loc
theorem Ok_noX {m : M α} {Q : α → Sto → Prop} : Ok (noX m S) Q = Ok (m S) Q := Ob_noX
theorem zdd {im : ID} {g : GD} {t : BD} {m : ED} {vs : List Nat} {Q : PV → Sto → Prop} : Ok (dLC im g t m vs ρ S) Q = Ok (im ρ S) fun s S1 => s.items.length ≤ LIM ∧ Ok (lcM s.ok g t m (wipeR ρ vs) s.items S1) fun qs S2 => Q (.lst qs) S2 := Ob_dLC
theorem zdf {g : GD} {t : BD} {m : ED} {Q : List PV → Sto → Prop} : Ok (lcM (fun _ => True) g t m ρ [] S) Q = Q [] S := Ob_lc_nil
theorem zde {g : GD} {t : BD} {m : ED} {p : PV} {ps : List PV} {Q : List PV → Sto → Prop} : Ok (lcM (fun _ => True) g t m ρ (p :: ps) S) Q = Ok (g p ρ S) fun ρ1 S1 => Ok (t ρ1 S1) fun b S2 => if b = true then Ok (m ρ1 S2) fun q S3 => Ok (lcM (fun _ => True) g t m ρ ps S3) fun qs S4 => Q (q :: qs) S4 else Ok (lcM (fun _ => True) g t m ρ ps S2) Q := Ob_lc_cons
theorem Ok_lc {m : ED} {i : Nat} {its : List PV} {Q : List PV → Sto → Prop} (J : Sto → Prop) (P : Nat → PV → Prop) (h0 : J S)
    (st : ∀ (k : Nat) p S, its[k]? = some p → J S → Ok (m (ρ.set i (some p)) S) fun q S' => P k q ∧ J S')
    (hq : ∀ qs S, qs.length = its.length → (∀ (k : Nat) q, qs[k]? = some q → P k q) → J S → Q qs S) : Ok (lcM (fun _ => True) (gName i) bYes m ρ its S) Q := Ob_lc J P h0 st hq
theorem Ok_while {c : BD} {d : SD} {Q : Fl → Sto → Prop} (I : Nat → Rho → Sto → Prop)
    (st : ∀ n ρ S, I n ρ S → Ok (c ρ S) fun b S1 => if b = true then Ok (d ρ S1) fun r S2 => match r with
      | .nx ρ2 => ∃ m, m < n ∧ I m ρ2 S2
      | .ct ρ2 => ∃ m, m < n ∧ I m ρ2 S2
      | .bk ρ2 => Q (.nx ρ2) S2
      | .rt v => Q (.rt v) S2 else Q (.nx ρ) S1) (n : Nat) (h0 : I n ρ S) : Ok (sWhile c d ρ S) Q := Ob_while I st n h0
theorem Ok_bodyR {d : SD} {Q : PV → Sto → Prop} : Ok (bodyR d ρ S) Q = Ok (d ρ S) fun r S1 => match r with
  | .nx _ => Q .non S1
  | .rt p => Q p S1
  | _ => False := Ob_bodyR
theorem Ok_defM {a n : Nat} {d : SD} {ps : List PV} {Q : PV → Sto → Prop} (hl : ps.length = a) (h : Ok (d (rho0 n ps) S) fun r S1 => match r with
  | .nx _ => S1.length = S.length ∧ Q .non S1
  | .rt p => S1.length = S.length ∧ Q p S1
  | _ => False) : Ok (defM a n d ps S) Q := Ob_defM hl h
theorem Ok_defK {a n : Nat} {d : SD} {ps : List PV} {Q : PV → Sto → Prop} (hl : ps.length = a) (h : Ok (d (rho0 n ps) S) fun r S1 => match r with
  | .nx _ => Q .non S1
  | .rt p => Q p S1
  | _ => False) : Ok (defK a n d ps S) Q := Ob_defK hl h
end
section
variable {S : Sto} {Q : PV → Sto → Prop}
theorem zbJ {xs : List PV} : Ok (lenM [.tup xs] S) Q = Q (.int xs.length) S := Ob_len_tup
theorem zbK {xs : List PV} : Ok (lenM [.lst xs] S) Q = Q (.int xs.length) S := Ob_len_lst
theorem zbL {xs : List PV} : Ok (lenM [.frz xs] S) Q = Q (.int xs.length) S := Ob_len_frz
theorem zbM {i : Int} : Ok (intM [.int i] S) Q = Q (.int i) S := Ob_int
theorem zbN {b : Bool} : Ok (intM [.bl b] S) Q = Q (.int (if b then 1 else 0)) S := Ob_int_bl
theorem zbO {i : Int} : Ok (absM [.int i] S) Q = Q (.int (if i < 0 then -i else i)) S := Ob_abs
theorem zbP {i j : Int} : Ok (max2M [.int i, .int j] S) Q = Q (.int (if j > i then j else i)) S := Ob_max2
theorem zbQ {i j : Int} : Ok (min2M [.int i, .int j] S) Q = Q (.int (if j < i then j else i)) S := Ob_min2
theorem zbR {i j : Int} : Ok (gcdM [.int i, .int j] S) Q = Q (.int (Int.gcd i j)) S := Ob_gcd
theorem zbS {xs : List PV} : Ok (tupleM [.lst xs] S) Q = Q (.tup xs) S := Ob_tuple_lst
theorem zbT {xs : List PV} : Ok (tupleM [.tup xs] S) Q = Q (.tup xs) S := Ob_tuple_tup
theorem zbU {xs : List PV} : Ok (listM [.lst xs] S) Q = Q (.lst xs) S := Ob_list_lst
theorem zbV {xs : List PV} : Ok (listM [.tup xs] S) Q = Q (.lst xs) S := Ob_list_tup
theorem Ok_divmod {i j : Int} : Ok (divmodM [.int i, .int j] S) Q = ((0 < j ∧ j < 1073741824) ∧ Q (.tup [.int (i / j), .int (i % j)]) S) := Ob_divmod
theorem Ok_all {xs : List PV} {bs : List Bool} (h : boolsL xs = some bs) : Ok (allM [.lst xs] S) Q = Q (.bl (bs.all id)) S := Ob_all h
theorem Ok_any {xs : List PV} {bs : List Bool} (h : boolsL xs = some bs) : Ok (anyM [.lst xs] S) Q = Q (.bl (bs.any id)) S := Ob_any h
theorem Ok_sum {xs : List PV} {bs : List Int} (h : intsL xs = some bs) : Ok (sumM [.lst xs] S) Q = Q (.int bs.sum) S := Ob_sum h
theorem Ok_all_true {xs : List PV} (h : ∀ p ∈ xs, p = .bl true) : Ok (allM [.lst xs] S) Q = Q (.bl true) S := Ob_all_true h
end
end Pm

namespace Pm
open PySem PySem.Spec L2

theorem dataS_of {p : PV} {S : Sto} {d : PyData} (h : p.data = some d) : dataS p S = some d := by
  have e : deref p S = p := by
    cases p with
    | loc n => simp [PV.data] at h
    | _ => rfl
  unfold dataS
  rw [e, h]
/-! ## fractions -/
def rv (q : Rat) : PV := .tup [.int q.num, .int q.den]
/-- how long a fraction's two numbers are -/
class Sz (q : Rat) (k : outParam Nat) : Prop where
  n : q.num.natAbs < 2 ^ k
  d : q.den < 2 ^ k
theorem den_le (a b : Int) (hb : b ≠ 0) : (Rat.divInt a b).den ≤ b.natAbs := by
  rw [Rat.den_divInt, if_neg hb]
  exact Nat.div_le_self ..
theorem num_le (a b : Int) : (Rat.divInt a b).num.natAbs ≤ a.natAbs := by
  rw [Rat.num_divInt]
  by_cases hb : b = 0
  · subst hb; simp
  rw [Int.natAbs_ediv_of_dvd]
  · refine Nat.le_trans (Nat.div_le_self ..) ?_
    rw [Int.natAbs_mul, Int.natAbs_sign_of_ne_zero hb, Nat.one_mul]
    exact Nat.le_refl _
  · exact Int.dvd_mul_of_dvd_right (Int.gcd_dvd_right ..)
theorem sz_fr {a b : Int} {k : Nat} (hb : b ≠ 0) (ha : a.natAbs < 2 ^ k) (hk : b.natAbs < 2 ^ k) : Sz (Rat.divInt a b) k := ⟨Nat.lt_of_le_of_lt (num_le a b) ha, Nat.lt_of_le_of_lt (den_le a b hb) hk⟩
theorem add_fr (q r : Rat) : q + r = Rat.divInt (q.num * r.den + r.num * q.den) (q.den * r.den) := by
  rw [Rat.add_def', ← Rat.divInt_ofNat, Int.natCast_mul]
theorem sub_fr (q r : Rat) : q - r = Rat.divInt (q.num * r.den - r.num * q.den) (q.den * r.den) := by
  rw [Rat.sub_def', ← Rat.divInt_ofNat, Int.natCast_mul]
theorem mul_fr (q r : Rat) : q * r = Rat.divInt (q.num * r.num) (q.den * r.den) := by
  rw [Rat.mul_def', ← Rat.divInt_ofNat, Int.natCast_mul]
theorem div_fr (q r : Rat) : q / r = Rat.divInt (q.num * r.den) (q.den * r.num) := by
  rw [Rat.div_def, Rat.inv_def]
  conv => lhs; rw [← Rat.num_divInt_den q]
  rw [Rat.divInt_mul_divInt]
theorem den_nz (q : Rat) : (q.den : Int) ≠ 0 := by have := q.den_pos; omega
theorem num_nz {q : Rat} (h : q ≠ 0) : q.num ≠ 0 := fun e => h (Rat.num_eq_zero.mp e)
theorem prod_lt {a b k l : Nat} (ha : a < 2 ^ k) (hb : b < 2 ^ l) : a * b < 2 ^ (k + l) := by
  rw [Nat.pow_add]
  exact Nat.mul_lt_mul'' ha hb
theorem sum_lt {a b c d k l : Nat} (ha : a < 2 ^ k) (hb : b < 2 ^ l) (hc : c < 2 ^ l) (hd : d < 2 ^ k) : a * b + c * d < 2 ^ (k + l + 1) := by
  have h1 := prod_lt ha hb
  have h2 := prod_lt hd hc
  rw [Nat.mul_comm d c] at h2
  rw [Nat.pow_succ]
  omega
theorem Sz.pos {q : Rat} {k : Nat} (h : Sz q k) : 1 ≤ k := by
  have h1 := h.d
  have h2 := q.den_pos
  cases k with
  | zero => simp at h1; omega
  | succ k => omega
theorem Sz.le {q : Rat} {k l : Nat} (h : Sz q k) (hl : k ≤ l) : Sz q l := ⟨Nat.lt_of_lt_of_le h.n (Nat.pow_le_pow_right (by decide) hl), Nat.lt_of_lt_of_le h.d (Nat.pow_le_pow_right (by decide) hl)⟩
theorem natAbs_add_le2 (a b : Int) : (a + b).natAbs ≤ a.natAbs + b.natAbs := Int.natAbs_add_le a b
section
variable {q r : Rat} {k l : Nat}
theorem nAdd (h : Sz q k) (g : Sz r l) : (q.num * r.den + r.num * q.den).natAbs < 2 ^ (k + l + 1) := by
  refine Nat.lt_of_le_of_lt (Int.natAbs_add_le _ _) ?_
  rw [Int.natAbs_mul, Int.natAbs_mul]
  exact sum_lt h.n g.d g.n h.d
theorem nSub (h : Sz q k) (g : Sz r l) : (q.num * r.den - r.num * q.den).natAbs < 2 ^ (k + l + 1) := by
  refine Nat.lt_of_le_of_lt (Int.natAbs_sub_le _ _) ?_
  rw [Int.natAbs_mul, Int.natAbs_mul]
  exact sum_lt h.n g.d g.n h.d
theorem nMul (h : Sz q k) (g : Sz r l) : (q.num * r.num).natAbs < 2 ^ (k + l) := by
  rw [Int.natAbs_mul]
  exact prod_lt h.n g.n
theorem nDen (h : Sz q k) (g : Sz r l) : ((q.den : Int) * r.den).natAbs < 2 ^ (k + l) := by
  rw [Int.natAbs_mul]
  exact prod_lt h.d g.d
theorem nDiv (h : Sz q k) (g : Sz r l) : (q.num * r.den).natAbs < 2 ^ (k + l) := by
  rw [Int.natAbs_mul]
  exact prod_lt h.n g.d
theorem nDivD (h : Sz q k) (g : Sz r l) : (q.den * r.num).natAbs < 2 ^ (k + l) := by
  rw [Int.natAbs_mul]
  exact prod_lt h.d g.n
theorem dd_nz (q r : Rat) : (q.den : Int) * r.den ≠ 0 := Int.mul_ne_zero (den_nz q) (den_nz r)
instance Sz.add [h : Sz q k] [g : Sz r l] : Sz (q + r) (k + l + 1) := by
  rw [add_fr]
  exact sz_fr (dd_nz q r) (nAdd h g) (Nat.lt_trans (nDen h g) (Nat.pow_lt_pow_right (by decide) (by omega)))
instance Sz.sub [h : Sz q k] [g : Sz r l] : Sz (q - r) (k + l + 1) := by
  rw [sub_fr]
  exact sz_fr (dd_nz q r) (nSub h g) (Nat.lt_trans (nDen h g) (Nat.pow_lt_pow_right (by decide) (by omega)))
instance Sz.mul [h : Sz q k] [g : Sz r l] : Sz (q * r) (k + l) := by
  rw [mul_fr]
  exact sz_fr (dd_nz q r) (nMul h g) (nDen h g)
instance Sz.div [h : Sz q k] [g : Sz r l] : Sz (q / r) (k + l) := by
  by_cases hr : r = 0
  · subst hr
    have e : q / 0 = 0 := by rw [Rat.div_def, Rat.inv_zero, Rat.mul_zero]
    rw [e]
    have : 1 < 2 ^ (k + l) := Nat.one_lt_pow (by have := h.pos; omega) (by decide)
    exact ⟨by simpa using Nat.two_pow_pos _, by simpa using this⟩
  rw [div_fr]
  exact sz_fr (Int.mul_ne_zero (den_nz q) (num_nz hr)) (nDiv h g) (nDivD h g)
instance Sz.neg [h : Sz q k] : Sz (-q) k := ⟨by simpa using h.n, by simpa using h.d⟩
instance Sz.zero : Sz 0 1 := ⟨by decide, by decide⟩
instance Sz.one : Sz 1 1 := ⟨by decide, by decide⟩
instance Sz.two : Sz 2 2 := ⟨by decide, by decide⟩
instance Sz.three : Sz 3 2 := ⟨by decide, by decide⟩
instance Sz.four : Sz 4 3 := ⟨by decide, by decide⟩
end
theorem fdiv_of_dvd {a b : Int} (h : b ∣ a) : a.fdiv b = a / b := Int.fdiv_eq_ediv_of_dvd h
/-- a whole by the sign of what stands under it -/
theorem fr_num {a b : Int} (hb : b ≠ 0) : a.fdiv (if 0 < b then (Int.gcd a b : Int) else -(Int.gcd a b : Int)) = (Rat.divInt a b).num := by
  rw [Rat.num_divInt, Int.gcd_comm b a]
  have h1 : (Int.gcd a b : Int) ∣ a := Int.gcd_dvd_left ..
  split <;> rename_i h
  · rw [fdiv_of_dvd h1, Int.sign_eq_one_of_pos h, Int.one_mul]
  · have h2 : b < 0 := by omega
    rw [fdiv_of_dvd (Int.neg_dvd.mpr h1), Int.ediv_neg, Int.sign_eq_neg_one_of_neg h2, Int.neg_mul, Int.one_mul, Int.neg_ediv_of_dvd h1]
theorem fr_den {a b : Int} (hb : b ≠ 0) : b.fdiv (if 0 < b then (Int.gcd a b : Int) else -(Int.gcd a b : Int)) = ((Rat.divInt a b).den : Int) := by
  rw [Rat.den_divInt, if_neg hb, Int.gcd_comm b a]
  have h1 : (Int.gcd a b : Int) ∣ b := Int.gcd_dvd_right ..
  have h3 : ((b.natAbs / Int.gcd a b : Nat) : Int) = (b.natAbs : Int) / (Int.gcd a b : Int) := Int.natCast_ediv ..
  rw [h3]
  split <;> rename_i h
  · rw [fdiv_of_dvd h1]
    congr 1
    omega
  · have h2 : b < 0 := by omega
    rw [fdiv_of_dvd (Int.neg_dvd.mpr h1), Int.ediv_neg]
    have : (b.natAbs : Int) = -b := by omega
    rw [this, Int.neg_ediv_of_dvd h1]
theorem gcd_nz {a b : Int} (hb : b ≠ 0) : (Int.gcd a b : Int) ≠ 0 := by
  have := Int.gcd_pos_of_ne_zero_right a hb
  omega
theorem log_of_lt {a k : Nat} (h : a < 2 ^ k) (hk : 1 ≤ k) : a.log2 < k := by
  by_cases h0 : a = 0
  · subst h0; simp; omega
  · exact (Nat.log2_lt h0).mpr h
theorem log_gcd {a b : Int} {k : Nat} (hb : b ≠ 0) (h : b.natAbs < 2 ^ k) : (Int.gcd a b).log2 < k := by
  refine log_of_lt (Nat.lt_of_le_of_lt ?_ h) ?_
  · rw [Int.gcd_comm]
    exact Nat.le_of_dvd (by omega) (Int.gcd_dvd_natAbs_left ..)
  · cases k with
    | zero => simp at h; omega
    | succ => omega
theorem coprime_int (q : Rat) : Int.gcd q.num q.den = 1 := q.reduced
/-! equal, told by data -/
section
variable {S : Sto} {Q : PV → Sto → Prop}
theorem rv_inj {q r : Rat} : rv q = rv r ↔ q = r := by
  constructor
  · intro h
    simp only [rv, PV.tup.injEq, List.cons.injEq, PV.int.injEq, and_true] at h
    exact Rat.ext h.1 (by omega)
  · rintro rfl; rfl
theorem eqD_rv (q r : Rat) : eqB (rv q) (rv r) S = some (decide (q = r)) := by
  have e : eqB (rv q) (rv r) S = some ((q.num == r.num) && ((q.den : Int) == (r.den : Int) && true)) := rfl
  rw [e]
  congr 1
  rw [Bool.eq_iff_iff]
  simp only [Bool.and_eq_true, beq_iff_eq, and_true, decide_eq_true_eq]
  constructor
  · intro ⟨a, b⟩
    exact Rat.ext a (by omega)
  · rintro rfl
    exact ⟨rfl, rfl⟩
theorem zbX {q r : Rat} : Ok (eqM (rv q) (rv r) S) Q = Q (.bl (decide (q = r))) S := by
  unfold eqM
  rw [eqD_rv]
  rfl
theorem zbY {q r : Rat} : Ok (neM (rv q) (rv r) S) Q = Q (.bl (!decide (q = r))) S := by
  unfold neM
  rw [eqD_rv]
  rfl
end
end Pm

namespace Pm
open PySem PySem.Spec L2

/-! ## data without truth values: equal just if the same -/
mutual
def PV.pln : PV → Bool
  | .non => true
  | .int _ => true
  | .str x => PyData.canLay0 (.str x)
  | .tup xs => plnL xs
  | .lst xs => plnL xs
  | .bl _ => false
  | .frz _ => false
  | .loc _ => false
  | .dct => false
def plnL : List PV → Bool
  | [] => true
  | p :: ps => PV.pln p && plnL ps
end
mutual
def PV.dep : PV → Nat
  | .tup xs => depL xs + 1
  | .lst xs => depL xs + 1
  | .non => 0
  | .int _ => 0
  | .str _ => 0
  | .bl _ => 0
  | .frz _ => 0
  | .loc _ => 0
  | .dct => 0
def depL : List PV → Nat
  | [] => 0
  | p :: ps => max (PV.dep p) (depL ps)
end
mutual
theorem pln_data : ∀ p : PV, p.pln = true → ∃ d, p.data = some d ∧ d.canLay0 = true ∧ d.depth = p.dep
  | .non, _ => ⟨.none, by simp [PV.data], by simp [PyData.canLay0], by simp [PyData.depth, PV.dep]⟩
  | .int i, _ => ⟨.int i, by simp [PV.data], by simp [PyData.canLay0], by simp [PyData.depth, PV.dep]⟩
  | .str x, h => ⟨.str x, by simp [PV.data], by simpa [PV.pln] using h, by simp [PyData.depth, PV.dep]⟩
  | .tup xs, h => by
    obtain ⟨ds, h1, h2, h3⟩ := pln_dataL xs (by simpa [PV.pln] using h)
    exact ⟨.tuple ds, by simp [PV.data, h1], by simpa [PyData.canLay0] using h2, by simp [PyData.depth, PV.dep, h3]⟩
  | .lst xs, h => by
    obtain ⟨ds, h1, h2, h3⟩ := pln_dataL xs (by simpa [PV.pln] using h)
    exact ⟨.list ds, by simp [PV.data, h1], by simpa [PyData.canLay0] using h2, by simp [PyData.depth, PV.dep, h3]⟩
  | .bl _, h => by simp [PV.pln] at h
  | .frz _, h => by simp [PV.pln] at h
  | .loc _, h => by simp [PV.pln] at h
  | .dct, h => by simp [PV.pln] at h
theorem pln_dataL : ∀ ps : List PV, plnL ps = true → ∃ ds, dataL ps = some ds ∧ PyData.canLayAll0 ds = true ∧ PyData.depthAll ds = depL ps
  | [], _ => ⟨[], by simp [dataL], by simp [PyData.canLayAll0], by simp [PyData.depthAll, depL]⟩
  | p :: ps, h => by
    simp only [plnL, Bool.and_eq_true] at h
    obtain ⟨d, a1, a2, a3⟩ := pln_data p h.1
    obtain ⟨ds, b1, b2, b3⟩ := pln_dataL ps h.2
    exact ⟨d :: ds, by simp [dataL, a1, b1], by simp [PyData.canLayAll0, a2, b2], by simp [PyData.depthAll, depL, a3, b3]⟩
end
mutual
theorem pln_eqv : ∀ (p q : PV) (d e : PyData), p.pln = true → q.pln = true → p.data = some d → q.data = some e → (PyData.eqv d e = true ↔ p = q)
  | .non, q, d, e, hp, hq, h1, h2 => by
    simp only [PV.data, Option.some.injEq] at h1; subst h1
    cases q with
    | non => simp only [PV.data, Option.some.injEq] at h2; subst h2; simp [PyData.eqv]
    | int j => simp only [PV.data, Option.some.injEq] at h2; subst h2; simp [PyData.eqv]
    | str j => simp only [PV.data, Option.some.injEq] at h2; subst h2; simp [PyData.eqv]
    | tup ys => obtain ⟨es, b1, b2, b3⟩ := pln_dataL ys (by simpa [PV.pln] using hq); simp only [PV.data, b1, Option.some.injEq] at h2; subst h2; simp [PyData.eqv]
    | lst ys => obtain ⟨es, b1, b2, b3⟩ := pln_dataL ys (by simpa [PV.pln] using hq); simp only [PV.data, b1, Option.some.injEq] at h2; subst h2; simp [PyData.eqv]
    | bl _ => simp [PV.pln] at hq
    | frz _ => simp [PV.pln] at hq
    | loc _ => simp [PV.pln] at hq
    | dct => simp [PV.pln] at hq
  | .int i, q, d, e, hp, hq, h1, h2 => by
    simp only [PV.data, Option.some.injEq] at h1; subst h1
    cases q with
    | non => simp only [PV.data, Option.some.injEq] at h2; subst h2; simp [PyData.eqv]
    | int j => simp only [PV.data, Option.some.injEq] at h2; subst h2; simp [PyData.eqv]
    | str j => simp only [PV.data, Option.some.injEq] at h2; subst h2; simp [PyData.eqv]
    | tup ys => obtain ⟨es, b1, b2, b3⟩ := pln_dataL ys (by simpa [PV.pln] using hq); simp only [PV.data, b1, Option.some.injEq] at h2; subst h2; simp [PyData.eqv]
    | lst ys => obtain ⟨es, b1, b2, b3⟩ := pln_dataL ys (by simpa [PV.pln] using hq); simp only [PV.data, b1, Option.some.injEq] at h2; subst h2; simp [PyData.eqv]
    | bl _ => simp [PV.pln] at hq
    | frz _ => simp [PV.pln] at hq
    | loc _ => simp [PV.pln] at hq
    | dct => simp [PV.pln] at hq
  | .str x, q, d, e, hp, hq, h1, h2 => by
    simp only [PV.data, Option.some.injEq] at h1; subst h1
    cases q with
    | non => simp only [PV.data, Option.some.injEq] at h2; subst h2; simp [PyData.eqv]
    | int j => simp only [PV.data, Option.some.injEq] at h2; subst h2; simp [PyData.eqv]
    | str j => simp only [PV.data, Option.some.injEq] at h2; subst h2; simp [PyData.eqv]
    | tup ys => obtain ⟨es, b1, b2, b3⟩ := pln_dataL ys (by simpa [PV.pln] using hq); simp only [PV.data, b1, Option.some.injEq] at h2; subst h2; simp [PyData.eqv]
    | lst ys => obtain ⟨es, b1, b2, b3⟩ := pln_dataL ys (by simpa [PV.pln] using hq); simp only [PV.data, b1, Option.some.injEq] at h2; subst h2; simp [PyData.eqv]
    | bl _ => simp [PV.pln] at hq
    | frz _ => simp [PV.pln] at hq
    | loc _ => simp [PV.pln] at hq
    | dct => simp [PV.pln] at hq
  | .tup xs, q, d, e, hp, hq, h1, h2 => by
    have hp' : plnL xs = true := by simpa [PV.pln] using hp
    obtain ⟨ds, a1, a2, a3⟩ := pln_dataL xs hp'
    simp only [PV.data, a1, Option.some.injEq] at h1; subst h1
    cases q with
    | non => simp only [PV.data, Option.some.injEq] at h2; subst h2; simp [PyData.eqv]
    | int j => simp only [PV.data, Option.some.injEq] at h2; subst h2; simp [PyData.eqv]
    | str j => simp only [PV.data, Option.some.injEq] at h2; subst h2; simp [PyData.eqv]
    | tup ys =>
      have hq' : plnL ys = true := by simpa [PV.pln] using hq
      obtain ⟨es, b1, b2, b3⟩ := pln_dataL ys hq'
      simp only [PV.data, b1, Option.some.injEq] at h2; subst h2
      simp only [PyData.eqv, PV.tup.injEq]
      exact pln_eqvL xs ys ds es hp' hq' a1 b1
    | lst ys => obtain ⟨es, b1, b2, b3⟩ := pln_dataL ys (by simpa [PV.pln] using hq); simp only [PV.data, b1, Option.some.injEq] at h2; subst h2; simp [PyData.eqv]
    | bl _ => simp [PV.pln] at hq
    | frz _ => simp [PV.pln] at hq
    | loc _ => simp [PV.pln] at hq
    | dct => simp [PV.pln] at hq
  | .lst xs, q, d, e, hp, hq, h1, h2 => by
    have hp' : plnL xs = true := by simpa [PV.pln] using hp
    obtain ⟨ds, a1, a2, a3⟩ := pln_dataL xs hp'
    simp only [PV.data, a1, Option.some.injEq] at h1; subst h1
    cases q with
    | non => simp only [PV.data, Option.some.injEq] at h2; subst h2; simp [PyData.eqv]
    | int j => simp only [PV.data, Option.some.injEq] at h2; subst h2; simp [PyData.eqv]
    | str j => simp only [PV.data, Option.some.injEq] at h2; subst h2; simp [PyData.eqv]
    | lst ys =>
      have hq' : plnL ys = true := by simpa [PV.pln] using hq
      obtain ⟨es, b1, b2, b3⟩ := pln_dataL ys hq'
      simp only [PV.data, b1, Option.some.injEq] at h2; subst h2
      simp only [PyData.eqv, PV.lst.injEq]
      exact pln_eqvL xs ys ds es hp' hq' a1 b1
    | tup ys => obtain ⟨es, b1, b2, b3⟩ := pln_dataL ys (by simpa [PV.pln] using hq); simp only [PV.data, b1, Option.some.injEq] at h2; subst h2; simp [PyData.eqv]
    | bl _ => simp [PV.pln] at hq
    | frz _ => simp [PV.pln] at hq
    | loc _ => simp [PV.pln] at hq
    | dct => simp [PV.pln] at hq
  | .bl _, _, _, _, h, _, _, _ => by simp [PV.pln] at h
  | .frz _, _, _, _, h, _, _, _ => by simp [PV.pln] at h
  | .loc _, _, _, _, h, _, _, _ => by simp [PV.pln] at h
  | .dct, _, _, _, h, _, _, _ => by simp [PV.pln] at h
theorem pln_eqvL : ∀ (ps qs : List PV) (ds es : List PyData), plnL ps = true → plnL qs = true → dataL ps = some ds → dataL qs = some es → (PyData.eqvAll ds es = true ↔ ps = qs)
  | [], [], ds, es, _, _, h1, h2 => by
    simp only [dataL, Option.some.injEq] at h1 h2; subst h1; subst h2
    simp [PyData.eqvAll]
  | [], q :: qs, ds, es, _, hq, h1, h2 => by
    obtain ⟨es', b1, _, _⟩ := pln_dataL (q :: qs) hq
    simp only [dataL, Option.some.injEq] at h1; subst h1
    cases es with
    | nil => rw [h2] at b1; simp only [plnL, Bool.and_eq_true] at hq; obtain ⟨d, c1, _⟩ := pln_data q hq.1; obtain ⟨ds, c2, _⟩ := pln_dataL qs hq.2; simp [dataL, c1, c2] at h2
    | cons => simp [PyData.eqvAll]
  | p :: ps, [], ds, es, hp, _, h1, h2 => by
    simp only [dataL, Option.some.injEq] at h2; subst h2
    simp only [plnL, Bool.and_eq_true] at hp
    obtain ⟨d, c1, _⟩ := pln_data p hp.1
    obtain ⟨ds', c2, _⟩ := pln_dataL ps hp.2
    simp only [dataL, c1, c2, Option.some.injEq] at h1; subst h1
    simp [PyData.eqvAll]
  | p :: ps, q :: qs, ds, es, hp, hq, h1, h2 => by
    simp only [plnL, Bool.and_eq_true] at hp hq
    obtain ⟨d, c1, _⟩ := pln_data p hp.1
    obtain ⟨ds', c2, _⟩ := pln_dataL ps hp.2
    obtain ⟨e, k1, _⟩ := pln_data q hq.1
    obtain ⟨es', k2, _⟩ := pln_dataL qs hq.2
    simp only [dataL, c1, c2, Option.some.injEq] at h1; subst h1
    simp only [dataL, k1, k2, Option.some.injEq] at h2; subst h2
    simp only [PyData.eqvAll, Bool.and_eq_true, List.cons.injEq]
    rw [pln_eqv p q d e hp.1 hq.1 c1 k1, pln_eqvL ps qs ds' es' hp.2 hq.2 c2 k2]
end
class Pln (p : PV) (d : outParam Nat) : Prop where
  ok : p.pln = true ∧ p.dep ≤ d
class PlnL (ps : List PV) (d : outParam Nat) : Prop where
  ok : plnL ps = true ∧ depL ps ≤ d
instance Pln.non : Pln .non 0 := ⟨by simp [PV.pln, PV.dep]⟩
instance Pln.int {i : Int} : Pln (.int i) 0 := ⟨by simp [PV.pln, PV.dep]⟩
instance PlnL.nil : PlnL [] 0 := ⟨by simp [plnL, depL]⟩
instance PlnL.cons {p : PV} {ps : List PV} {d e : Nat} [h : Pln p d] [g : PlnL ps e] : PlnL (p :: ps) (max d e) := ⟨by
  have h1 := h.ok
  have h2 := g.ok
  simp only [plnL, depL, h1.1, h2.1, Bool.and_self, true_and]
  omega⟩
instance Pln.tup {ps : List PV} {d : Nat} [h : PlnL ps d] : Pln (.tup ps) (d + 1) := ⟨by
  have h1 := h.ok
  simp only [PV.pln, PV.dep, h1.1, true_and]
  omega⟩
instance Pln.lst {ps : List PV} {d : Nat} [h : PlnL ps d] : Pln (.lst ps) (d + 1) := ⟨by
  have h1 := h.ok
  simp only [PV.pln, PV.dep, h1.1, true_and]
  omega⟩
instance Pln.rv {q : Rat} : Pln (Pm.rv q) 1 := ⟨by simp [Pm.rv, PV.pln, PV.dep, plnL, depL]⟩
section
variable {S : Sto} {Q : PV → Sto → Prop}
open Classical in
theorem eqB_pln {p q : PV} {d e : Nat} [h : Pln p d] [g : Pln q e] (hd : d ≤ 64) (he : e ≤ 64) : eqB p q S = some (decide (p = q)) := by
  obtain ⟨x, a1, a2, a3⟩ := pln_data p h.ok.1
  obtain ⟨y, b1, b2, b3⟩ := pln_data q g.ok.1
  have hv := pln_eqv p q x y h.ok.1 g.ok.1 a1 b1
  have s1 : SeqAt.shaped x = true := by
    unfold SeqAt.shaped
    rw [a2, Bool.true_and]
    have := h.ok.2
    exact decide_eq_true (by omega)
  have s2 : SeqAt.shaped y = true := by
    unfold SeqAt.shaped
    rw [b2, Bool.true_and]
    have := g.ok.2
    exact decide_eq_true (by omega)
  have e1 : dataS p S = some x := dataS_of a1
  have e2 : dataS q S = some y := dataS_of b1
  unfold eqB
  cases ht : twoStr p q with
  | some b =>
    unfold twoStr at ht
    split at ht
    · cases ht
      simp only [Option.some.injEq]
      rw [Bool.eq_iff_iff]
      simp
    · cases ht
  | none =>
    simp only [eqD, e1, e2]
    rw [if_pos ⟨s1, s2⟩]
    congr 1
    rw [Bool.eq_iff_iff, hv, decide_eq_true_eq]
open Classical in
theorem zca {p q : PV} {d e : Nat} [h : Pln p d] [g : Pln q e] (hde : 3 ≤ d + e) (hd : d ≤ 64) (he : e ≤ 64) : Ok (eqM p q S) Q = Q (.bl (decide (p = q))) S := by
  unfold eqM
  rw [eqB_pln hd he]
  rfl
open Classical in
theorem zcb {p q : PV} {d e : Nat} [h : Pln p d] [g : Pln q e] (hde : 3 ≤ d + e) (hd : d ≤ 64) (he : e ≤ 64) : Ok (neM p q S) Q = Q (.bl (!decide (p = q))) S := by
  unfold neM
  rw [eqB_pln hd he]
  rfl
end
end Pm

namespace Pm
open PySem PySem.Spec L2

/-! ## places: three wholes, reduced -/
def g3 (a b w : Int) : Nat := Int.gcd (Int.gcd a b) w
theorem g3_a (a b w : Int) : (g3 a b w : Int) ∣ a := Int.dvd_trans (Int.gcd_dvd_left ..) (Int.gcd_dvd_left ..)
theorem g3_b (a b w : Int) : (g3 a b w : Int) ∣ b := Int.dvd_trans (Int.gcd_dvd_left ..) (Int.gcd_dvd_right ..)
theorem g3_w (a b w : Int) : (g3 a b w : Int) ∣ w := Int.gcd_dvd_right ..
theorem g3_of_dvd {a b w : Int} {k : Nat} (ha : (k : Int) ∣ a) (hb : (k : Int) ∣ b) (hw : (k : Int) ∣ w) : k ∣ g3 a b w := Int.dvd_gcd (Int.dvd_coe_gcd ha hb) hw
theorem g3_pos {a b w : Int} (h : w ≠ 0) : 0 < g3 a b w := by
  unfold g3
  exact Int.gcd_pos_of_ne_zero_right _ h
theorem g3_mul (a b w : Int) (k : Nat) : g3 (k * a) (k * b) (k * w) = k * g3 a b w := by
  unfold g3
  rw [Int.gcd_mul_left, Int.natAbs_natCast, Int.natCast_mul, Int.gcd_mul_left, Int.natAbs_natCast]
/-- reduced triples of one ratio are the same -/
theorem trip_uniq {a b w a' b' w' : Int} (hw : 0 < w) (hw' : 0 < w') (hg : g3 a b w = 1) (hg' : g3 a' b' w' = 1) (ha : a * w' = a' * w) (hb : b * w' = b' * w) : a = a' ∧ b = b' ∧ w = w' := by
  have half : ∀ {a b w a' b' w' : Int}, 0 < w → 0 < w' → g3 a b w = 1 → a * w' = a' * w → b * w' = b' * w → w ∣ w' := by
    intro a b w a' b' w' hw hw' hg ha hb
    obtain ⟨n, rfl⟩ : ∃ n : Nat, w = n := ⟨w.toNat, by omega⟩
    obtain ⟨m, rfl⟩ : ∃ m : Nat, w' = m := ⟨w'.toNat, by omega⟩
    have h1 : n ∣ g3 (m * a) (m * b) (m * n) := g3_of_dvd ⟨a', by rw [Int.mul_comm, ha, Int.mul_comm]⟩ ⟨b', by rw [Int.mul_comm, hb, Int.mul_comm]⟩ ⟨m, by rw [Int.mul_comm]⟩
    rw [g3_mul, hg, Nat.mul_one] at h1
    exact Int.natCast_dvd_natCast.mpr h1
  have h1 := half hw hw' hg ha hb
  have h2 := half hw' hw hg' ha.symm hb.symm
  have e : w = w' := Int.dvd_antisymm (by omega) (by omega) h1 h2
  subst e
  exact ⟨Int.eq_of_mul_eq_mul_right (by omega) ha, Int.eq_of_mul_eq_mul_right (by omega) hb, rfl⟩
def t3 (a b w : Int) : PV := .tup [.int a, .int b, .int w]
/-- the reduced triple -/
def red3 (a b w : Int) : PV := t3 (a / g3 a b w) (b / g3 a b w) (w / g3 a b w)
theorem red3_g (a b w : Int) (hw : w ≠ 0) : g3 (a / g3 a b w) (b / g3 a b w) (w / g3 a b w) = 1 := by
  have hp := g3_pos (a := a) (b := b) hw
  have h := g3_mul (a / g3 a b w) (b / g3 a b w) (w / g3 a b w) (g3 a b w)
  rw [Int.mul_ediv_cancel' (g3_a a b w), Int.mul_ediv_cancel' (g3_b a b w), Int.mul_ediv_cancel' (g3_w a b w)] at h
  have h2 : g3 a b w * 1 = g3 a b w * g3 (a / g3 a b w) (b / g3 a b w) (w / g3 a b w) := by rw [Nat.mul_one]; exact h
  exact (Nat.eq_of_mul_eq_mul_left hp h2).symm
theorem red3_w {a b w : Int} (hw : 0 < w) : 0 < w / g3 a b w := Int.ediv_pos_of_pos_of_dvd hw (by omega) (g3_w a b w)
/-- the place of a distance and a height -/
def pl (x y : Rat) : PV := red3 (x.num * y.den) (y.num * x.den) (x.den * y.den)
def pX (x y : Rat) : Int := x.num * y.den / g3 (x.num * y.den) (y.num * x.den) (x.den * y.den)
def pY (x y : Rat) : Int := y.num * x.den / g3 (x.num * y.den) (y.num * x.den) (x.den * y.den)
def pW (x y : Rat) : Int := x.den * y.den / g3 (x.num * y.den) (y.num * x.den) (x.den * y.den)
theorem pl_eq (x y : Rat) : pl x y = t3 (pX x y) (pY x y) (pW x y) := rfl
theorem dd_pos (x y : Rat) : 0 < (x.den : Int) * y.den := Int.mul_pos (by have := x.den_pos; omega) (by have := y.den_pos; omega)
theorem pW_pos (x y : Rat) : 0 < pW x y := red3_w (dd_pos x y)
theorem p_g (x y : Rat) : g3 (pX x y) (pY x y) (pW x y) = 1 := red3_g _ _ _ (dd_nz x y)
theorem quo_div {a w : Int} {g : Nat} (hg : 0 < g) (ha : (g : Int) ∣ a) (hw : (g : Int) ∣ w) : Rat.divInt (a / g) (w / g) = Rat.divInt a w := by
  have h := Rat.divInt_mul_left (n := a / g) (d := w / g) (a := (g : Int)) (by omega)
  rw [Int.mul_ediv_cancel' ha, Int.mul_ediv_cancel' hw] at h
  exact h.symm
theorem p_far (x y : Rat) : Rat.divInt (pX x y) (pW x y) = x := by
  unfold pX pW
  rw [quo_div (g3_pos (dd_nz x y)) (g3_a ..) (g3_w ..)]
  rw [Rat.divInt_mul_right (den_nz y)]
  exact Rat.num_divInt_den x
theorem p_tall (x y : Rat) : Rat.divInt (pY x y) (pW x y) = y := by
  unfold pY pW
  rw [quo_div (g3_pos (dd_nz x y)) (g3_b ..) (g3_w ..)]
  rw [Int.mul_comm (x.den : Int), Rat.divInt_mul_right (den_nz x)]
  exact Rat.num_divInt_den y
/-- any reduced triple is a place -/
theorem t3_pl {a b w : Int} (hw : 0 < w) (hg : g3 a b w = 1) : t3 a b w = pl (Rat.divInt a w) (Rat.divInt b w) := by
  have hp := pW_pos (Rat.divInt a w) (Rat.divInt b w)
  have h1 := p_far (Rat.divInt a w) (Rat.divInt b w)
  have h2 := p_tall (Rat.divInt a w) (Rat.divInt b w)
  rw [Rat.divInt_eq_divInt_iff (by omega) (by omega)] at h1 h2
  obtain ⟨e1, e2, e3⟩ := trip_uniq hw hp hg (p_g _ _) h1.symm h2.symm
  rw [pl_eq, ← e1, ← e2, ← e3]
theorem red3_pl {a b w : Int} (hw : 0 < w) : red3 a b w = pl (Rat.divInt a w) (Rat.divInt b w) := by
  have hg := g3_pos (a := a) (b := b) (w := w) (by omega)
  have := t3_pl (red3_w (a := a) (b := b) hw) (red3_g a b w (by omega))
  rw [quo_div hg (g3_a ..) (g3_w ..), quo_div hg (g3_b ..) (g3_w ..)] at this
  exact this
theorem pl_inj {x y x' y' : Rat} : pl x y = pl x' y' ↔ x = x' ∧ y = y' := by
  constructor
  · intro h
    rw [pl_eq, pl_eq] at h
    simp only [t3, PV.tup.injEq, List.cons.injEq, PV.int.injEq, and_true] at h
    obtain ⟨e1, e2, e3⟩ := h
    exact ⟨by rw [← p_far x y, e1, e3, p_far], by rw [← p_tall x y, e2, e3, p_tall]⟩
  · rintro ⟨rfl, rfl⟩; rfl
instance Pln.pl {x y : Rat} : Pln (Pm.pl x y) 1 := ⟨by simp [Pm.pl, red3, t3, PV.pln, PV.dep, plnL, depL]⟩
theorem pX_pos {x y : Rat} (h : 0 < x) : 0 < pX x y := by
  have h1 := p_far x y
  have h2 := pW_pos x y
  have h3 : 0 < x.num := by
    have h1 := Rat.num_nonneg.mpr (Rat.le_of_lt h)
    have h2 := num_nz (Rat.ne_of_gt h)
    omega
  unfold pX
  exact Int.ediv_pos_of_pos_of_dvd (Int.mul_pos h3 (by have := y.den_pos; omega)) (by omega) (g3_a ..)
theorem p_castX (x y : Rat) : ((pX x y : Int) : Rat) = x * ((pW x y : Int) : Rat) := by
  have h := p_far x y
  rw [Rat.divInt_eq_div] at h
  have hw : ((pW x y : Int) : Rat) ≠ 0 := Rat.ne_of_gt (Rat.intCast_pos.mpr (pW_pos x y))
  grind
theorem p_castY (x y : Rat) : ((pY x y : Int) : Rat) = y * ((pW x y : Int) : Rat) := by
  have h := p_tall x y
  rw [Rat.divInt_eq_div] at h
  have hw : ((pW x y : Int) : Rat) ≠ 0 := Rat.ne_of_gt (Rat.intCast_pos.mpr (pW_pos x y))
  grind
theorem p_lt (x y x' y' : Rat) : pX x y * pW x' y' < pX x' y' * pW x y ↔ x < x' := by
  have h1 : (0 : Rat) < ((pW x y : Int) : Rat) := Rat.intCast_pos.mpr (pW_pos x y)
  have h2 : (0 : Rat) < ((pW x' y' : Int) : Rat) := Rat.intCast_pos.mpr (pW_pos x' y')
  have h3 := Rat.mul_pos h1 h2
  rw [← Rat.intCast_lt_intCast, Rat.intCast_mul, Rat.intCast_mul, p_castX, p_castX]
  have e1 : x * ((pW x y : Int) : Rat) * ((pW x' y' : Int) : Rat) = x * (((pW x y : Int) : Rat) * ((pW x' y' : Int) : Rat)) := by grind
  have e2 : x' * ((pW x' y' : Int) : Rat) * ((pW x y : Int) : Rat) = x' * (((pW x y : Int) : Rat) * ((pW x' y' : Int) : Rat)) := by grind
  rw [e1, e2]
  exact Rat.mul_lt_mul_right h3
theorem pX_pos_iff {x y : Rat} : 0 < pX x y ↔ 0 < x := by
  constructor
  · intro h
    have h1 : (0 : Rat) < ((pX x y : Int) : Rat) := Rat.intCast_pos.mpr h
    have h2 : (0 : Rat) < ((pW x y : Int) : Rat) := Rat.intCast_pos.mpr (pW_pos x y)
    rw [p_castX] at h1
    exact (Rat.mul_pos_iff_of_pos_right h2).mp h1
  · exact pX_pos
section
variable {x y : Rat} {k l : Nat}
theorem ediv_abs_le (a : Int) (g : Nat) : (a / (g : Int)).natAbs ≤ a.natAbs := Int.natAbs_ediv_le_natAbs a g
theorem pX_lt (h : Sz x k) (g : Sz y l) : (pX x y).natAbs < 2 ^ (k + l) := Nat.lt_of_le_of_lt (ediv_abs_le _ _) (nDiv h g)
theorem pY_lt (h : Sz x k) (g : Sz y l) : (pY x y).natAbs < 2 ^ (k + l) := by
  have := nDiv g h
  rw [Nat.add_comm l k] at this
  exact Nat.lt_of_le_of_lt (ediv_abs_le _ _) this
theorem pW_lt (h : Sz x k) (g : Sz y l) : (pW x y).natAbs < 2 ^ (k + l) := Nat.lt_of_le_of_lt (ediv_abs_le _ _) (nDen h g)
end
end Pm

namespace Pm
open PySem PySem.Spec L2

/-! ## roots -/
abbrev rt (n : Nat) : Nat := Float64.isqrt n
theorem rt_spec (n : Nat) : rt n * rt n ≤ n ∧ n < (rt n + 1) * (rt n + 1) := Float64.isqrt_spec n
theorem sq_lt_sq {a b : Nat} (h : a * a < b * b) : a < b := by
  rcases Nat.lt_or_ge a b with h1 | h1
  · exact h1
  · have := Nat.mul_le_mul h1 h1
    omega
theorem rt_uniq {n k : Nat} (h1 : k * k ≤ n) (h2 : n < (k + 1) * (k + 1)) : rt n = k := by
  obtain ⟨a1, a2⟩ := rt_spec n
  have b1 : rt n < k + 1 := sq_lt_sq (by omega)
  have b2 : k < rt n + 1 := sq_lt_sq (by omega)
  omega
theorem rt_sq (k : Nat) : rt (k * k) = k := rt_uniq (Nat.le_refl _) (Nat.mul_lt_mul_of_lt_of_lt (by omega) (by omega))
theorem rt_le (n : Nat) : rt n ≤ n := by
  have := (rt_spec n).1
  rcases Nat.eq_zero_or_pos (rt n) with h | h
  · omega
  · exact Nat.le_trans (Nat.le_mul_of_pos_left _ h) this
/-- the root of a fraction that has one -/
def sq? (q : Rat) : Option Rat := if rt q.num.toNat * rt q.num.toNat = q.num.toNat ∧ rt q.den * rt q.den = q.den then some (Rat.divInt (rt q.num.toNat) (rt q.den)) else none
theorem num_mul_self (r : Rat) : (r * r).num = r.num * r.num := by
  have h : r * r = r ^ 2 := by grind
  rw [h, Rat.num_pow]
  grind
theorem den_mul_self (r : Rat) : (r * r).den = r.den * r.den := by
  have h : r * r = r ^ 2 := by grind
  rw [h, Rat.den_pow]
  grind
theorem toNat_nonneg {q : Rat} (h : 0 ≤ q) : (q.num.toNat : Int) = q.num := by
  have := Rat.num_nonneg.mpr h
  omega
theorem sq?_mul {r : Rat} (h : 0 ≤ r) : sq? (r * r) = some r := by
  have e1 : (r * r).num.toNat = r.num.toNat * r.num.toNat := by
    rw [num_mul_self, ← toNat_nonneg h]
    generalize r.num.toNat = a
    rw [← Int.natCast_mul, Int.toNat_natCast]; simp
  unfold sq?
  rw [e1, den_mul_self, rt_sq, rt_sq, if_pos ⟨rfl, rfl⟩, toNat_nonneg h, Rat.num_divInt_den]
theorem sq?_some {q r : Rat} (h : 0 ≤ q) (e : sq? q = some r) : r * r = q ∧ 0 ≤ r := by
  unfold sq? at e
  split at e
  · rename_i c
    cases e
    have hd : (rt q.den : Int) ≠ 0 := by
      intro z
      have z : rt q.den = 0 := by omega
      rw [z] at c
      have := q.den_pos
      omega
    refine ⟨?_, Rat.divInt_nonneg (by omega) (by omega)⟩
    rw [Rat.divInt_mul_divInt]
    have c1 : ((rt q.num.toNat : Nat) : Int) * (rt q.num.toNat : Nat) = q.num := by rw [← Int.natCast_mul, c.1]; exact toNat_nonneg h
    have c2 : ((rt q.den : Nat) : Int) * (rt q.den : Nat) = q.den := by rw [← Int.natCast_mul, c.2]
    rw [c1, c2]
    exact Rat.num_divInt_den q
  · cases e
theorem sq?_none {q : Rat} (h : 0 ≤ q) (e : sq? q = none) (r : Rat) : r * r ≠ q := by
  intro k
  rcases Rat.le_total (a := 0) (b := r) with z | z
  · rw [← k, sq?_mul z] at e; cases e
  · have : (-r) * (-r) = q := by grind
    rw [← this, sq?_mul (by grind)] at e; cases e
theorem sq?_zero : sq? 0 = some 0 := by
  have := sq?_mul (r := 0) (by decide)
  rwa [Rat.mul_zero] at this
theorem sq?_scale {q n : Rat} (h : 0 ≤ q) (hn : n ≠ 0) (e : sq? q = none) : sq? (n * n * q) = none := by
  cases k : sq? (n * n * q) with
  | none => rfl
  | some r =>
    exfalso
    have hs : 0 ≤ n * n * q := Rat.mul_nonneg (by
      rcases Rat.le_total (a := 0) (b := n) with z | z
      · exact Rat.mul_nonneg z z
      · have := Rat.mul_nonneg (show 0 ≤ -n by grind) (show 0 ≤ -n by grind)
        grind) h
    obtain ⟨k1, k2⟩ := sq?_some hs k
    exact sq?_none h e (r / n) (by grind)
theorem rt_red {q r : Rat} (h : 0 ≤ q) (e : sq? q = some r) : r.num = (rt q.num.toNat : Nat) ∧ r.den = rt q.den := by
  obtain ⟨e1, e2⟩ := sq?_some h e
  subst e1
  have e1 : (r * r).num.toNat = r.num.toNat * r.num.toNat := by
    rw [num_mul_self, ← toNat_nonneg e2]
    generalize r.num.toNat = a
    rw [← Int.natCast_mul, Int.toNat_natCast]; simp
  rw [e1, den_mul_self, rt_sq, rt_sq]
  exact ⟨(toNat_nonneg e2).symm, rfl⟩
/-! ## membership of data in a tuple -/
section
variable {S : Sto} {Q : PV → Sto → Prop}
theorem any_eqv {x : PV} {d : PyData} (hx : x.pln = true) (hd : x.data = some d) : ∀ (ps : List PV) (ds : List PyData), plnL ps = true → dataL ps = some ds → ((ds.any fun z => PyData.eqv z d) = true ↔ x ∈ ps)
  | [], ds, _, h => by
    simp only [dataL, Option.some.injEq] at h
    subst h; simp
  | p :: ps, ds, hp, h => by
    simp only [plnL, Bool.and_eq_true] at hp
    obtain ⟨e, a1, _, _⟩ := pln_data p hp.1
    obtain ⟨es, b1, _, _⟩ := pln_dataL ps hp.2
    simp only [dataL, a1, b1, Option.some.injEq] at h
    subst h
    rw [List.any_cons, Bool.or_eq_true, any_eqv hx hd ps es hp.2 b1, List.mem_cons, pln_eqv p x e d hp.1 hx a1 hd]
    exact ⟨fun h => h.imp Eq.symm id, fun h => h.imp Eq.symm id⟩
open Classical in
theorem inB_tup {x : PV} {ps : List PV} {d e : Nat} [h : Pln x d] [g : PlnL ps e] (hx : flatP x = none) (hd : d ≤ 60) (he : e ≤ 60) : inB x (.tup ps) S = some (decide (x ∈ ps)) := by
  obtain ⟨y, a1, a2, a3⟩ := pln_data x h.ok.1
  obtain ⟨ys, b1, b2, b3⟩ := pln_dataL ps g.ok.1
  have hv := any_eqv h.ok.1 a1 ps ys g.ok.1 b1
  have s1 : SeqAt.shaped y = true := by
    unfold SeqAt.shaped
    rw [a2, Bool.true_and]
    have := h.ok.2
    exact decide_eq_true (by omega)
  have s2 : SeqAt.shaped (.list ys) = true := by
    unfold SeqAt.shaped
    rw [show (PyData.list ys).canLay0 = true from by simpa [PyData.canLay0] using b2, Bool.true_and]
    have := g.ok.2
    exact decide_eq_true (by simp only [PyData.depth]; omega)
  have e1 : dataS x S = some y := dataS_of a1
  have e2 : dataS (.tup ps) S = some (.tuple ys) := dataS_of (by simp [PV.data, b1])
  have e3 : inFl x ps = none := by unfold inFl; rw [hx]
  unfold inB
  simp only [e3, e1, e2]
  rw [if_pos ⟨s1, s2⟩]
  congr 1
  rw [Bool.eq_iff_iff, hv, decide_eq_true_eq]
open Classical in
theorem Ok_in_tup {x : PV} {ps : List PV} {d e : Nat} [h : Pln x d] [g : PlnL ps e] (hx : flatP x = none) (hd : d ≤ 60) (he : e ≤ 60) : Ok (inM x (.tup ps) S) Q = Q (.bl (decide (x ∈ ps))) S := by
  unfold inM
  rw [inB_tup hx hd he]
  rfl
open Classical in
theorem Ok_nin_tup {x : PV} {ps : List PV} {d e : Nat} [h : Pln x d] [g : PlnL ps e] (hx : flatP x = none) (hd : d ≤ 60) (he : e ≤ 60) : Ok (ninM x (.tup ps) S) Q = Q (.bl (!decide (x ∈ ps))) S := by
  unfold ninM
  rw [inB_tup hx hd he]
  rfl
end
end Pm

namespace Pm
open PySem PySem.Spec L2
theorem zcn {n : Nat} : (n ≤ LIM) = (n ≤ 100000) := rfl
theorem zci {a : PV} {xs : List PV} : atI (a :: xs) 0 = some a := by
  unfold atI ixN
  simp [show ((0 : Int) < (xs.length : Int) + 1) by omega]
theorem zcj {a b : PV} {xs : List PV} : atI (a :: b :: xs) 1 = some b := by
  unfold atI ixN
  simp [show ((1 : Int) < (xs.length : Int) + 1 + 1) by omega]
theorem zck {a b c : PV} {xs : List PV} : atI (a :: b :: c :: xs) 2 = some c := by
  unfold atI ixN
  simp [show ((2 : Int) < (xs.length : Int) + 1 + 1 + 1) by omega]
/-! texts -/
class Shw (p : PV) (w dp : outParam Nat) : Prop where
  ex : w ≤ 50 → ∃ d, p.data = some d ∧ d.showable = true ∧ d.canLay0 = true ∧ d.leavesShort 1921 = true ∧ d.depth ≤ dp ∧ d.bulk ≤ w
class ShwL (ps : List PV) (w dp : outParam Nat) : Prop where
  ex : w ≤ 50 → ∃ ds, dataL ps = some ds ∧ PyData.showableAll ds = true ∧ PyData.canLayAll0 ds = true ∧ PyData.leavesShortAll 1921 ds = true ∧ PyData.depthAll ds ≤ dp ∧ PyData.bulkAll ds ≤ w
instance ShwL.nil : ShwL [] 0 0 := ⟨fun _ => ⟨[], by simp [dataL], by simp [PyData.showableAll], by simp [PyData.canLayAll0], by simp [PyData.leavesShortAll], by simp [PyData.depthAll], by simp [PyData.bulkAll]⟩⟩
instance ShwL.cons {p : PV} {ps : List PV} {w dp v dq : Nat} [h : Shw p w dp] [g : ShwL ps v dq] : ShwL (p :: ps) (w + 1 + v) (max dp dq) := by
  refine ⟨fun hw => ?_⟩
  obtain ⟨d, h1, h2, h3, h4, h5, h6⟩ := h.ex (by omega)
  obtain ⟨ds, g1, g2, g3, g4, g5, g6⟩ := g.ex (by omega)
  refine ⟨d :: ds, by simp [dataL, h1, g1], by simp [PyData.showableAll, h2, g2], by simp [PyData.canLayAll0, h3, g3], by simp [PyData.leavesShortAll, h4, g4], ?_, ?_⟩
  · simp only [PyData.depthAll]; omega
  · simp only [PyData.bulkAll]; omega
instance Shw.lst {ps : List PV} {w dp : Nat} [h : ShwL ps w dp] : Shw (.lst ps) w (dp + 1) := by
  refine ⟨fun hw => ?_⟩
  obtain ⟨ds, g1, g2, g3, g4, g5, g6⟩ := h.ex hw
  refine ⟨.list ds, by simp [PV.data, g1], by simpa [PyData.showable] using g2, by simpa [PyData.canLay0] using g3, by simpa [PyData.leavesShort] using g4, ?_, ?_⟩
  · simp only [PyData.depth]; omega
  · simp only [PyData.bulk]; omega
instance Shw.tup {ps : List PV} {w dp : Nat} [h : ShwL ps w dp] : Shw (.tup ps) w (dp + 1) := by
  refine ⟨fun hw => ?_⟩
  obtain ⟨ds, g1, g2, g3, g4, g5, g6⟩ := h.ex hw
  refine ⟨.tuple ds, by simp [PV.data, g1], by simpa [PyData.showable] using g2, by simpa [PyData.canLay0] using g3, by simpa [PyData.leavesShort] using g4, ?_, ?_⟩
  · simp only [PyData.depth]; omega
  · simp only [PyData.bulk]; omega
instance Shw.non : Shw .non 0 0 := ⟨fun _ => ⟨.none, by simp [PV.data], by simp [PyData.showable], by simp [PyData.canLay0], by simp [PyData.leavesShort], by simp [PyData.depth], by simp [PyData.bulk]⟩⟩
instance Shw.bl {b : Bool} : Shw (.bl b) 0 0 := ⟨fun _ => ⟨.bool b, by simp [PV.data], by simp [PyData.showable], by simp [PyData.canLay0], by simp [PyData.leavesShort], by simp [PyData.depth], by simp [PyData.bulk]⟩⟩
theorem Shw.int {i : Int} (h : i.natAbs.log2 < 1920) : Shw (.int i) 0 0 := by
  refine ⟨fun _ => ⟨.int i, by simp [PV.data], by simpa [PyData.showable] using h, by simp [PyData.canLay0], ?_, by simp [PyData.depth], by simp [PyData.bulk]⟩⟩
  simp only [PyData.leavesShort, PyData.shown]
  exact decide_eq_true (PyProof.Rows.int_text_len_1921 h)
def txt (p : PV) : Str := match p.data with
  | some d => d.shown
  | none => ""
theorem zbW {p : PV} {w dp : Nat} {S : Sto} {Q : PV → Sto → Prop} [h : Shw p w dp] (hw : w ≤ 50) (hd : dp ≤ 64) : Ok (reprM [p] S) Q = Q (.str (txt p)) S := by
  obtain ⟨d, h1, h2, h3, h4, h5, h6⟩ := h.ex hw
  have e1 : dataS p S = some d := dataS_of h1
  have l1 := PyData.shown_le_bulk 1921 (by decide) d h4
  have l2 : d.shown.length ≤ LIM := by
    rw [show LIM = 100000 from rfl]
    have : (1921 + 2) * d.bulk ≤ 1923 * 50 := Nat.mul_le_mul_left _ (by omega)
    omega
  have l3 : SeqAt.shaped d = true := by
    unfold SeqAt.shaped
    rw [h3, Bool.true_and]
    exact decide_eq_true (by omega)
  unfold reprM txt
  simp only [e1, h1]
  rw [if_pos ⟨h2, l3, l2⟩]
  rfl
instance Shw.rv {q : Rat} {k : Nat} [h : Sz q k] : Shw (rv q) (2 + 1000 * (k - 1920)) 1 := by
  refine ⟨fun hw => ?_⟩
  have hk : k ≤ 1920 := by omega
  have : ShwL [.int q.num, .int q.den] (0 + 1 + (0 + 1 + 0)) (max 0 (max 0 0)) := @ShwL.cons _ _ _ _ _ _ (Shw.int (log_of_lt (Nat.lt_of_lt_of_le h.n (Nat.pow_le_pow_right (by decide) hk)) (by decide))) (@ShwL.cons _ _ _ _ _ _ (Shw.int (log_of_lt (Nat.lt_of_lt_of_le h.d (Nat.pow_le_pow_right (by decide) hk)) (by decide))) ShwL.nil)
  obtain ⟨d, h1, h2, h3, h4, h5, h6⟩ := (@Shw.tup _ _ _ this).ex (by decide)
  exact ⟨d, h1, h2, h3, h4, by omega, by omega⟩
theorem zcl {n : Nat} : rho0 n [] = List.replicate n none := by simp [rho0]
theorem zcm {n : Nat} {p : PV} {ps : List PV} : rho0 (n + 1) (p :: ps) = some p :: rho0 n ps := by simp [rho0]
theorem zco {α : Type} {ix : List Nat} {us ws : List α} : kput ix us ws = ix.filterMap fun i => (us ++ ws)[i]? := rfl
theorem zcp  : isT "int" (kindP .non) = false := (by decide : isT "int" "NoneType" = false)
theorem zcq {b : Bool} : isT "int" (kindP (.bl b)) = true := (by decide : isT "int" "bool" = true)
theorem zcr {i : Int} : isT "int" (kindP (.int i)) = true := (by decide : isT "int" "int" = true)
theorem zcs {x : Str} : isT "int" (kindP (.str x)) = false := (by decide : isT "int" "str" = false)
theorem zct {xs : List PV} : isT "int" (kindP (.tup xs)) = false := (by decide : isT "int" "tuple" = false)
theorem zcu {xs : List PV} : isT "int" (kindP (.lst xs)) = false := (by decide : isT "int" "list" = false)
theorem zcv {q : Rat} : isT "int" (kindP (rv q)) = false := (by decide : isT "int" "tuple" = false)
theorem zcw  : isT "bool" (kindP .non) = false := (by decide : isT "bool" "NoneType" = false)
theorem zcx {b : Bool} : isT "bool" (kindP (.bl b)) = true := (by decide : isT "bool" "bool" = true)
theorem zcy {i : Int} : isT "bool" (kindP (.int i)) = false := (by decide : isT "bool" "int" = false)
theorem zcz {x : Str} : isT "bool" (kindP (.str x)) = false := (by decide : isT "bool" "str" = false)
theorem zcA {xs : List PV} : isT "bool" (kindP (.tup xs)) = false := (by decide : isT "bool" "tuple" = false)
theorem zcB {xs : List PV} : isT "bool" (kindP (.lst xs)) = false := (by decide : isT "bool" "list" = false)
theorem zcC {q : Rat} : isT "bool" (kindP (rv q)) = false := (by decide : isT "bool" "tuple" = false)
theorem zcD  : isT "str" (kindP .non) = false := (by decide : isT "str" "NoneType" = false)
theorem zcE {b : Bool} : isT "str" (kindP (.bl b)) = false := (by decide : isT "str" "bool" = false)
theorem zcF {i : Int} : isT "str" (kindP (.int i)) = false := (by decide : isT "str" "int" = false)
theorem zcG {x : Str} : isT "str" (kindP (.str x)) = true := (by decide : isT "str" "str" = true)
theorem zcH {xs : List PV} : isT "str" (kindP (.tup xs)) = false := (by decide : isT "str" "tuple" = false)
theorem zcI {xs : List PV} : isT "str" (kindP (.lst xs)) = false := (by decide : isT "str" "list" = false)
theorem zcJ {q : Rat} : isT "str" (kindP (rv q)) = false := (by decide : isT "str" "tuple" = false)
theorem zcK  : isT "tuple" (kindP .non) = false := (by decide : isT "tuple" "NoneType" = false)
theorem zcL {b : Bool} : isT "tuple" (kindP (.bl b)) = false := (by decide : isT "tuple" "bool" = false)
theorem zcM {i : Int} : isT "tuple" (kindP (.int i)) = false := (by decide : isT "tuple" "int" = false)
theorem zcN {x : Str} : isT "tuple" (kindP (.str x)) = false := (by decide : isT "tuple" "str" = false)
theorem zcO {xs : List PV} : isT "tuple" (kindP (.tup xs)) = true := (by decide : isT "tuple" "tuple" = true)
theorem zcP {xs : List PV} : isT "tuple" (kindP (.lst xs)) = false := (by decide : isT "tuple" "list" = false)
theorem zcQ {q : Rat} : isT "tuple" (kindP (rv q)) = true := (by decide : isT "tuple" "tuple" = true)
theorem zcR  : isT "list" (kindP .non) = false := (by decide : isT "list" "NoneType" = false)
theorem zcS {b : Bool} : isT "list" (kindP (.bl b)) = false := (by decide : isT "list" "bool" = false)
theorem zcT {i : Int} : isT "list" (kindP (.int i)) = false := (by decide : isT "list" "int" = false)
theorem zcU {x : Str} : isT "list" (kindP (.str x)) = false := (by decide : isT "list" "str" = false)
theorem zcV {xs : List PV} : isT "list" (kindP (.tup xs)) = false := (by decide : isT "list" "tuple" = false)
theorem zcW {xs : List PV} : isT "list" (kindP (.lst xs)) = true := (by decide : isT "list" "list" = true)
theorem zcY : isT "int" (kindP .dct) = false := (by decide : isT "int" "dict" = false)
theorem zc1 : isT "bool" (kindP .dct) = false := (by decide : isT "bool" "dict" = false)
theorem zc4 : isT "str" (kindP .dct) = false := (by decide : isT "str" "dict" = false)
theorem zc7 : isT "tuple" (kindP .dct) = false := (by decide : isT "tuple" "dict" = false)
theorem zda : isT "list" (kindP .dct) = false := (by decide : isT "list" "dict" = false)
theorem zcZ {n : Nat} : isT "int" (kindP (.loc n)) = false := (by decide : isT "int" "list" = false)
theorem zc0 {xs : List PV} : isT "int" (kindP (.frz xs)) = false := (by decide : isT "int" "list" = false)
theorem zc2 {n : Nat} : isT "bool" (kindP (.loc n)) = false := (by decide : isT "bool" "list" = false)
theorem zc3 {xs : List PV} : isT "bool" (kindP (.frz xs)) = false := (by decide : isT "bool" "list" = false)
theorem zc5 {n : Nat} : isT "str" (kindP (.loc n)) = false := (by decide : isT "str" "list" = false)
theorem zc6 {xs : List PV} : isT "str" (kindP (.frz xs)) = false := (by decide : isT "str" "list" = false)
theorem zc8 {n : Nat} : isT "tuple" (kindP (.loc n)) = false := (by decide : isT "tuple" "list" = false)
theorem zc9 {xs : List PV} : isT "tuple" (kindP (.frz xs)) = false := (by decide : isT "tuple" "list" = false)
theorem zdb {n : Nat} : isT "list" (kindP (.loc n)) = true := (by decide : isT "list" "list" = true)
theorem zdc {xs : List PV} : isT "list" (kindP (.frz xs)) = true := (by decide : isT "list" "list" = true)
theorem zcX {q : Rat} : isT "list" (kindP (rv q)) = false := (by decide : isT "list" "tuple" = false)
/-- a place of wholes alone -/
def IntE (e : Ent) : Prop := ∃ is : List Int, e = .lst (is.map PV.int)
def IntS (S : Sto) (n : Nat) : Prop := ∀ i e, i ≤ n → S[i]? = some e → IntE e
/-- a vat of draws: a place of three wholes, m draws at most behind it; no place before it holds anything but wholes -/
def Vat (m : Nat) (S : Sto) (n : Nat) : Prop := (∃ c ch k : Int, S[n]? = some (.lst [.int c, .int ch, .int k]) ∧ 0 ≤ c ∧ 0 ≤ ch ∧ ch < 2147483489 ∧ 0 ≤ k ∧ k ≤ m) ∧ IntS S n
theorem Vat.lt {m : Nat} {S : Sto} {n : Nat} (h : Vat m S n) : n < S.length := by
  obtain ⟨⟨c, ch, k, e, _⟩, _⟩ := h
  exact (List.getElem?_eq_some_iff.mp e).1
theorem Vat.le {m l : Nat} {S : Sto} {n : Nat} (h : Vat m S n) (hl : m ≤ l) : Vat l S n := by
  obtain ⟨⟨c, ch, k, e, a1, a2, a3, a4, a5⟩, hi⟩ := h
  exact ⟨⟨c, ch, k, e, a1, a2, a3, a4, by omega⟩, hi⟩
theorem IntS.set {S : Sto} {n : Nat} (h : IntS S n) (a b c : Int) : IntS (S.set n (.lst [.int a, .int b, .int c])) n := by
  intro i e hi he
  by_cases hin : i = n
  · subst hin
    have hlt : i < (S.set i (.lst [.int a, .int b, .int c])).length := (List.getElem?_eq_some_iff.mp he).1
    rw [List.length_set] at hlt
    rw [List.getElem?_set_self hlt] at he
    cases he
    exact ⟨[a, b, c], rfl⟩
  · rw [List.getElem?_set_ne (fun z => hin z.symm)] at he
    exact h i e hi he
theorem Vat.app {m : Nat} {S T : Sto} {n : Nat} (h : Vat m S n) : Vat m (S ++ T) n := by
  have hl := h.lt
  obtain ⟨⟨c, ch, k, e, a⟩, hi⟩ := h
  refine ⟨⟨c, ch, k, by rw [List.getElem?_append_left hl]; exact e, a⟩, fun i e hin he => ?_⟩
  rw [List.getElem?_append_left (by omega)] at he
  exact hi i e hin he
theorem inn_int {e : Ent} {n : Nat} (h : IntE e) : Ent.inn n e = true := by
  obtain ⟨is, rfl⟩ := h
  simp only [Ent.inn]
  induction is with
  | nil => rfl
  | cons i is ih => simp only [List.map_cons, innL, PV.inn, Bool.true_and]; exact ih
theorem IntS.all {S : Sto} {n : Nat} (h : IntS S n) : (S.take (n + 1)).all (Ent.inn (n + 1)) = true := by
  rw [List.all_eq_true]
  intro e he
  obtain ⟨i, hi⟩ := List.getElem?_of_mem he
  have hlt : i < n + 1 := by
    have := (List.getElem?_eq_some_iff.mp hi).1
    simp at this
    omega
  rw [List.getElem?_take_of_lt hlt] at hi
  exact inn_int (h i e (by omega) hi)
/-- a def that ends with a truth value, its own places given up -/
theorem Ok_defM_bl {a n : Nat} {d : SD} {ps : List PV} {S : Sto} {Q : PV → Sto → Prop} {j : Nat} (hl : ps.length = a) (hj : S.length = j + 1) (h : Ok (d (rho0 n ps) S) fun r S1 => match r with
  | .rt p => ∃ b, p = .bl b ∧ j < S1.length ∧ IntS S1 j ∧ ∀ S2, S2.length = j + 1 → IntS S2 j → Q p S2
  | _ => False) : Ok (defM a n d ps S) Q := by
  unfold defM
  rw [if_pos hl]
  obtain ⟨r, S1, e, q⟩ := h.ex
  cases r with
  | nx _ => exact q.elim
  | bk _ => exact q.elim
  | ct _ => exact q.elim
  | rt p =>
    obtain ⟨b, rfl, h1, h2, h3⟩ := q
    have e2 : bodyR d (rho0 n ps) S = .ok (.bl b) S1 := by
      unfold bodyR bnd
      rw [e]
      rfl
    rw [e2, hj]
    have e3 : fzV S1 (j + 1) 20 (.bl b) = some (.bl b) := by simp [fzV]
    by_cases hlen : S1.length = j + 1
    · have : fin (j + 1) (.ok (.bl b) S1) = .ok (.bl b) S1 := by simp only [fin, if_pos hlen]
      rw [this]
      exact h3 S1 hlen h2
    · have : fin (j + 1) (.ok (.bl b) S1) = .ok (.bl b) (S1.take (j + 1)) := by
        simp only [fin, if_neg hlen, e3]
        rw [if_pos ⟨h2.all, by omega⟩]
      rw [this]
      refine h3 _ (by simp; omega) fun i e hi he => ?_
      rw [List.getElem?_take_of_lt (by omega)] at he
      exact h2 i e hi he
/-- the end of a law's own look -/
def Fin1 (n : Nat) (r : Fl) (S : Sto) : Prop := r = .rt (.bl true) ∧ n < S.length ∧ IntS S n
def Right (n : Nat) (p : PV) (S : Sto) : Prop := p = .bl true ∧ S.length = n + 1 ∧ IntS S n
theorem right_of {N n : Nat} {d : SD} {S : Sto} (hS : S.length = n + 1) (h : Ok (d (rho0 N [.loc n]) S) (Fin1 n)) : Ok (defM 1 N d [.loc n] S) (Right n) := by
  refine Ok_defM_bl rfl hS (h.mono fun r S1 ⟨e, h1, h2⟩ => ?_)
  subst e
  exact ⟨true, rfl, h1, h2, fun S2 a b => ⟨rfl, a, b⟩⟩
theorem log_le {a k : Nat} (h : a < 2 ^ k) : a.log2 ≤ k := by
  by_cases h0 : a = 0
  · subst h0; simp
  · exact Nat.le_of_lt ((Nat.log2_lt h0).mpr h)
theorem lg {a b : Int} {k l : Nat} (ha : a.natAbs < 2 ^ k) (hb : b.natAbs < 2 ^ l) (h : k + l < 1000000) : a.natAbs.log2 + b.natAbs.log2 < 1000000 := by
  have h1 := log_le ha
  have h2 := log_le hb
  omega
section
variable {S : Sto} {ρ : Rho}
theorem cut_ints (ns : List Int) (l h : Option Int) : ∃ zs : List Int, cutP (ns.map PV.int) l h = zs.map PV.int ∧ zs.length ≤ ns.length := by
  refine ⟨(ns.drop (HT.sIx ns.length 0 l)).take (HT.sIx ns.length ns.length h - HT.sIx ns.length 0 l), ?_, ?_⟩
  · simp [cutP, List.map_take, List.map_drop]
  · simp
    omega
end
theorem Ok_check {S : Sto} {ρ : Rho} {d : SD} {K : Fl → Sto → Prop} (h : Ok (d ρ S) fun r S' => S' = S ∧ r = .nx ρ) (k : K (.nx ρ) S) : Ok (d ρ S) K := h.mono fun r S' ⟨e1, e2⟩ => by rw [e1, e2]; exact k
section
variable {S : Sto} {Q : PV → Sto → Prop}
theorem zcc {q : Rat} : Ok (ixM (rv q) (.int 0) S) Q = Q (.int q.num) S := by
  unfold rv
  rw [za7, zci]
theorem zch {q : Rat} : Ok (ixM (rv q) (.int 1) S) Q = Q (.int q.den) S := by
  unfold rv
  rw [za7, zcj]
theorem zcd {x y : Rat} : Ok (ixM (pl x y) (.int 0) S) Q = Q (.int (pX x y)) S := by
  rw [pl_eq]; unfold t3
  rw [za7, zci]
theorem zce {x y : Rat} : Ok (ixM (pl x y) (.int 1) S) Q = Q (.int (pY x y)) S := by
  rw [pl_eq]; unfold t3
  rw [za7, zcj]
theorem zcf {x y : Rat} : Ok (ixM (pl x y) (.int 2) S) Q = Q (.int (pW x y)) S := by
  rw [pl_eq]; unfold t3
  rw [za7, zck]
theorem zcg {x y : Rat} : isT "tuple" (kindP (pl x y)) = true := (by decide : isT "tuple" "tuple" = true)
theorem Shw_t3 {a b w : Int} {k : Nat} (ha : a.natAbs < 2 ^ k) (hb : b.natAbs < 2 ^ k) (hw : w.natAbs < 2 ^ k) : Shw (t3 a b w) (3 + 1000 * (k - 1920)) 1 := by
  refine ⟨fun hk => ?_⟩
  have hk : k ≤ 1920 := by omega
  have lo : ∀ {a : Int}, a.natAbs < 2 ^ k → Shw (.int a) 0 0 := fun h => Shw.int (log_of_lt (Nat.lt_of_lt_of_le h (Nat.pow_le_pow_right (by decide) hk)) (by decide))
  have : ShwL [.int a, .int b, .int w] (0 + 1 + (0 + 1 + (0 + 1 + 0))) (max 0 (max 0 (max 0 0))) := @ShwL.cons _ _ _ _ _ _ (lo ha) (@ShwL.cons _ _ _ _ _ _ (lo hb) (@ShwL.cons _ _ _ _ _ _ (lo hw) ShwL.nil))
  obtain ⟨d, h1, h2, h3, h4, h5, h6⟩ := (@Shw.tup _ _ _ this).ex (by decide)
  exact ⟨d, h1, h2, h3, h4, by omega, by omega⟩
instance Shw.pl {x y : Rat} {k l : Nat} [h : Sz x k] [g : Sz y l] : Shw (pl x y) (3 + 1000 * (k + l - 1920)) 1 := Shw_t3 (pX_lt h g) (pY_lt h g) (pW_lt h g)
theorem zaS {p q : PV} : Ok (isNM p q S) Q = Q (.bl (isN p)) S := rfl
theorem zaT {p q : PV} : Ok (notNM p q S) Q = Q (.bl (!isN p)) S := rfl
theorem zaU : isN .non = true := rfl
theorem zaV {xs : List PV} : isN (.tup xs) = false := rfl
theorem zaW {q : Rat} : isN (rv q) = false := rfl
theorem zaX {x y : Rat} : isN (pl x y) = false := rfl
instance Shw.ite {c : Prop} [Decidable c] {p q : PV} {w dp v dq : Nat} [h : Shw p w dp] [g : Shw q v dq] : Shw (if c then p else q) (max w v) (max dp dq) := by
  refine ⟨fun hw => ?_⟩
  split
  · obtain ⟨d, h1, h2, h3, h4, h5, h6⟩ := h.ex (by omega)
    exact ⟨d, h1, h2, h3, h4, by omega, by omega⟩
  · obtain ⟨d, h1, h2, h3, h4, h5, h6⟩ := g.ex (by omega)
    exact ⟨d, h1, h2, h3, h4, by omega, by omega⟩
theorem num_pos_iff {q : Rat} : 0 < q.num ↔ 0 < q := by
  constructor
  · intro h
    have h1 : 0 ≤ q := Rat.num_nonneg.mp (by omega)
    exact Rat.lt_of_le_of_ne h1 fun e => by rw [← e] at h; simp at h
  · intro h
    have h1 := Rat.num_nonneg.mpr (Rat.le_of_lt h)
    have h2 := num_nz (Rat.ne_of_gt h)
    omega
theorem Ok_ifb {c : Prop} [Decidable c] {p q : PV} {Q : PV → Sto → Prop} : (if decide c = true then Q p S else Q q S) = Q (if c then p else q) S := by
  by_cases h : c <;> simp [h]
theorem eqD_pl (x y x' y' : Rat) : eqB (pl x y) (pl x' y') S = some (decide (x = x' ∧ y = y')) := by
  rw [eqB_pln (by decide) (by decide)]
  congr 1
  rw [Bool.eq_iff_iff]
  simp only [decide_eq_true_eq, pl_inj]
theorem zbZ {x y x' y' : Rat} : Ok (eqM (pl x y) (pl x' y') S) Q = Q (.bl (decide (x = x' ∧ y = y'))) S := by
  unfold eqM
  rw [eqD_pl]
  rfl
theorem zb0 {x y x' y' : Rat} : Ok (neM (pl x y) (pl x' y') S) Q = Q (.bl (!decide (x = x' ∧ y = y'))) S := by
  unfold neM
  rw [eqD_pl]
  rfl
theorem zb6 : Ok (neM (.lst []) (.lst []) S) Q = Q (.bl false) S := rfl
theorem zb5 : Ok (eqM (.lst []) (.lst []) S) Q = Q (.bl true) S := rfl
open Classical in
theorem zb8 {xs ys : List PV} {d e : Nat} [h : PlnL xs d] [g : PlnL ys e] (hd : d < 64) (he : e < 64) : Ok (eqM (.lst xs) (.lst ys) S) Q = Q (.bl (decide (PV.lst xs = PV.lst ys))) S := by
  unfold eqM
  rw [eqB_pln (by omega) (by omega)]
  rfl
open Classical in
theorem zb9 {xs ys : List PV} {d e : Nat} [h : PlnL xs d] [g : PlnL ys e] (hd : d < 64) (he : e < 64) : Ok (neM (.lst xs) (.lst ys) S) Q = Q (.bl (!decide (PV.lst xs = PV.lst ys))) S := by
  unfold neM
  rw [eqB_pln (by omega) (by omega)]
  rfl
/-- a word of the texts -/
class Wrd (x : Str) (w : outParam Nat) : Prop where
  ok : x.cps.size = w ∧ PyData.canLay0 (.str x) = true ∧ PyData.leavesShort 1921 (.str x) = true
instance Shw.str {x : Str} {w : Nat} [h : Wrd x w] : Shw (.str x) w 0 := ⟨fun _ => ⟨.str x, by simp [PV.data], by simp [PyData.showable], h.ok.2.1, h.ok.2.2, by simp [PyData.depth], by simp [PyData.bulk, h.ok.1]⟩⟩
instance Pln.str {x : Str} {w : Nat} [h : Wrd x w] : Pln (.str x) 0 := ⟨by simp [PV.pln, PV.dep, h.ok.2.1]⟩
theorem Ok_isqrt {i : Int} : Ok (isqrtM [.int i] S) Q = ((0 ≤ i ∧ i.toNat.log2 < 13000) ∧ Q (.int (rt i.toNat : Nat)) S) := by
  show Ok (if 0 ≤ i ∧ i.toNat.log2 < 13000 then .ok (.int ((Float64.isqrt i.toNat : Nat) : Int)) S else .stuck) Q = _
  split <;> rename_i h
  · rw [eq_iff_iff]; exact ⟨fun k => ⟨h, k⟩, fun k => k.2⟩
  · rw [eq_iff_iff]; exact ⟨fun k => k.elim, fun k => h k.1⟩
theorem zb7 : Ok (neM (.lst [.bl true, .bl true]) (.lst [.bl true, .bl true]) S) Q = Q (.bl false) S := rfl
theorem Ok_q {α : Type} {o : Out α} {Q R : α → Sto → Prop} (h : ∀ a S, Q a S = R a S) : Ok o Q = Ok o R := by
  have e : Q = R := funext fun a => funext fun S => h a S
  subst e; rfl
theorem zb1 {m n : ED} {ρ : Rho} : Ok (dApp m n ρ S) Q = Ok (m ρ S) fun p S1 => match p with
  | .loc k => Ok (n ρ S1) fun q S2 => Ok (appM (.loc k) q S2) Q
  | _ => False := by
  unfold dApp
  rw [zac]
  refine Ok_q fun a S1 => ?_
  cases a with
  | loc k => exact zac
  | _ => rfl
theorem zb2 {k : Nat} {q : PV} : Ok (appM (.loc k) q S) Q = (match S[k]? with
  | some (.lst xs) => xs.length < LIM ∧ Q .non (S.set k (.lst (xs ++ [q])))
  | none => False) := by
  unfold appM
  cases h : S[k]? with
  | none => first | rfl | (simp only [h]; rfl)
  | some e => cases e with
    | lst xs =>
      simp only [h]
      split <;> rename_i c
      · rw [eq_iff_iff]; exact ⟨fun k => ⟨c, k⟩, fun k => k.2⟩
      · rw [eq_iff_iff]; exact ⟨fun k => k.elim, fun k => c k.1⟩
theorem zb3 {S : Sto} {e f : Ent} : (S ++ [e]).set S.length f = S ++ [f] := by simp
theorem zb4 {S : Sto} {e : Ent} : (S ++ [e])[S.length]? = some e := by simp
mutual
theorem dataF_of : ∀ (k : Nat) (p : PV) (d : PyData), p.data = some d → d.depth < k → dataF S k p = some d
  | 0, _, _, _, h => absurd h (by omega)
  | k + 1, .non, d, e, _ => by simpa [dataF, PV.data] using e
  | k + 1, .bl b, d, e, _ => by simpa [dataF, PV.data] using e
  | k + 1, .int b, d, e, _ => by simpa [dataF, PV.data] using e
  | k + 1, .str b, d, e, _ => by simpa [dataF, PV.data] using e
  | k + 1, .loc n, d, e, _ => by simp [PV.data] at e
  | k + 1, .tup xs, d, e, h => by
    simp only [PV.data] at e
    split at e
    · rename_i ds q
      cases e
      simp only [PyData.depth] at h
      simp only [dataF, mapD_of k xs ds q (by omega), Option.map_some]
    · cases e
  | k + 1, .lst xs, d, e, h => by
    simp only [PV.data] at e
    split at e
    · rename_i ds q
      cases e
      simp only [PyData.depth] at h
      simp only [dataF, mapD_of k xs ds q (by omega), Option.map_some]
    · cases e
  | k + 1, .frz xs, d, e, h => by
    simp only [PV.data] at e
    split at e
    · rename_i ds q
      cases e
      simp only [PyData.depth] at h
      simp only [dataF, mapD_of k xs ds q (by omega), Option.map_some]
    · cases e
theorem mapD_of : ∀ (k : Nat) (ps : List PV) (ds : List PyData), dataL ps = some ds → PyData.depthAll ds < k → mapD (dataF S k) ps = some ds
  | _, [], ds, e, _ => by simpa [mapD, dataL] using e
  | k, p :: ps, ds, e, h => by
    simp only [dataL] at e
    split at e
    · rename_i d ds' q1 q2
      cases e
      simp only [PyData.depthAll] at h
      simp only [mapD, dataF_of k p d q1 (by omega), mapD_of k ps ds' q2 (by omega)]
    · cases e
end
theorem Ok_repr_2loc {a : Nat} {xs : List PV} {w dp : Nat} [h : ShwL xs w dp] (e : S[a]? = some (.lst xs)) (hw : w ≤ 20) (hd : dp ≤ 5) : Ok (reprM [.lst [.loc a, .loc a]] S) Q = Q (.str (txt (.lst [.lst xs, .lst xs]))) S := by
  have i1 : Shw (.lst [.lst xs, .lst xs]) (w + 1 + (w + 1 + 0)) (max (dp + 1) (max (dp + 1) 0) + 1) := inferInstance
  obtain ⟨d, h1, h2, h3, h4, h5, h6⟩ := i1.ex (by omega)
  obtain ⟨ds, g1, g2, g3, g4, g5, g6⟩ := h.ex (by omega)
  have ed : d = .list [.list ds, .list ds] := by
    simp only [PV.data, dataL, g1] at h1
    cases h1; rfl
  have e0 : mapD (dataF S 6) xs = some ds := mapD_of 6 xs ds g1 (by omega)
  have e1 : dataS (.lst [.loc a, .loc a]) S = some d := by
    have : (deref (.lst [.loc a, .loc a]) S).data = none := by simp [deref, PV.data, dataL]
    unfold dataS
    rw [this, ed]
    simp only [dataF, mapD, e, e0, Option.map_some]
  have l1 := PyData.shown_le_bulk 1921 (by decide) d h4
  have l2 : d.shown.length ≤ LIM := by
    rw [show LIM = 100000 from rfl]
    have : (1921 + 2) * d.bulk ≤ 1923 * 50 := Nat.mul_le_mul_left _ (by omega)
    omega
  have l3 : SeqAt.shaped d = true := by
    unfold SeqAt.shaped
    rw [h3, Bool.true_and]
    exact decide_eq_true (by omega)
  unfold reprM txt
  simp only [e1, h1]
  rw [if_pos ⟨h2, l3, l2⟩]
  rfl
end
end Pm

namespace Pm.L
open PySem PySem.Spec L2 Pm
abbrev v_ZERO : PV := .tup [.int 0, .int 1]
abbrev v_EMPTY : PV := .tup [.tup [.int 0, .int 1], .tup [.int 0, .int 1], .tup [.int 0, .int 1]]
abbrev dl_FIRSTS : List (Int × Str) := [(-1, "first"), (0, "both"), (1, "other")]
/-! is_whole: 0:value -/
@[reducible] noncomputable def d_is_whole : SD := (sRet (dAnd (dUn (isiM "int") (dVar 0)) (dNot (dUn (isiM "bool") (dVar 0)))))
noncomputable def m_is_whole : List PV → M PV := defM 1 1 d_is_whole
/-! are_wholes: 0:value 1:many 2:number -/
@[reducible] noncomputable def d_are_wholes : SD := (sRet (dAnd (dUn (isiM "tuple") (dVar 0)) (dAnd (dOp eqM (dAp lenM (dCons (dVar 0) dNil)) (dVar 1)) (dAp allM (dCons (dLC (iSeq (dVar 0)) (gName 2) bYes (dAp m_is_whole (dCons (dVar 2) dNil)) [2]) dNil)))))
noncomputable def m_are_wholes : List PV → M PV := defM 2 3 d_are_wholes
/-! is_between: 0:value 1:low 2:high -/
@[reducible] noncomputable def d_is_between : SD := (sRet (dAnd (dAp m_is_whole (dCons (dVar 0) dNil)) (dChain leM leM (dVar 1) (dVar 0) (dVar 2))))
noncomputable def m_is_between : List PV → M PV := defM 3 3 d_is_between
/-! divisor_of: 0:numbers 1:found 2:number -/
@[reducible] noncomputable def d_divisor_of : SD := (sSeq (sAsg (dC (.int 0)) (gName 1))
    (sSeq (sFor (iSeq (dVar 0)) (gName 2) (sAsg (dAp gcdM (dCons (dVar 1) (dCons (dVar 2) dNil))) (gName 1)))
    (sRet (dVar 1))))
noncomputable def m_divisor_of : List PV → M PV := defM 1 3 d_divisor_of
/-! is_reduced: 0:numbers -/
@[reducible] noncomputable def d_is_reduced : SD := (sRet (dOp eqM (dAp m_divisor_of (dCons (dVar 0) dNil)) (dC (.int 1))))
noncomputable def m_is_reduced : List PV → M PV := defM 1 1 d_is_reduced
/-! sign_of: 0:number -/
@[reducible] noncomputable def d_sign_of : SD := (sRet (dIf (bCmp (dOp gtM (dVar 0) (dC (.int 0)))) (dC (.int 1)) (dIf (bCmp (dOp ltM (dVar 0) (dC (.int 0)))) (dUn negM (dC (.int 1))) (dC (.int 0)))))
noncomputable def m_sign_of : List PV → M PV := defM 1 1 d_sign_of
/-! is_ratio: 0:value -/
@[reducible] noncomputable def d_is_ratio : SD := (sRet (dAnd (dAp m_are_wholes (dCons (dVar 0) (dCons (dC (.int 2)) dNil))) (dAnd (dOp gtM (dOp ixM (dVar 0) (dC (.int 1))) (dC (.int 0))) (dAp m_is_reduced (dCons (dVar 0) dNil)))))
noncomputable def m_is_ratio : List PV → M PV := defM 1 1 d_is_ratio
/-! ratio: 0:number 1:under 2:part -/
@[reducible] noncomputable def d_ratio : SD := (sSeq (sAsg (dAp m_divisor_of (dCons (dAp mkTup (dCons (dVar 0) (dCons (dVar 1) dNil))) dNil)) (gName 2))
    (sSeq (sAsg (dIf (bCmp (dOp gtM (dVar 1) (dC (.int 0)))) (dVar 2) (dUn negM (dVar 2))) (gName 2))
    (sRet (dAp mkTup (dCons (dOp fdivM (dVar 0) (dVar 2)) (dCons (dOp fdivM (dVar 1) (dVar 2)) dNil))))))
noncomputable def m_ratio : List PV → M PV := defM 2 3 d_ratio
/-! ratio_sum: 0:one 1:two -/
@[reducible] noncomputable def d_ratio_sum : SD := (sRet (dAp m_ratio (dCons (dOp addM (dOp mulM (dOp ixM (dVar 0) (dC (.int 0))) (dOp ixM (dVar 1) (dC (.int 1)))) (dOp mulM (dOp ixM (dVar 1) (dC (.int 0))) (dOp ixM (dVar 0) (dC (.int 1))))) (dCons (dOp mulM (dOp ixM (dVar 0) (dC (.int 1))) (dOp ixM (dVar 1) (dC (.int 1)))) dNil))))
noncomputable def m_ratio_sum : List PV → M PV := defM 2 2 d_ratio_sum
/-! ratio_less: 0:one 1:two -/
@[reducible] noncomputable def d_ratio_less : SD := (sRet (dAp m_ratio (dCons (dOp subM (dOp mulM (dOp ixM (dVar 0) (dC (.int 0))) (dOp ixM (dVar 1) (dC (.int 1)))) (dOp mulM (dOp ixM (dVar 1) (dC (.int 0))) (dOp ixM (dVar 0) (dC (.int 1))))) (dCons (dOp mulM (dOp ixM (dVar 0) (dC (.int 1))) (dOp ixM (dVar 1) (dC (.int 1)))) dNil))))
noncomputable def m_ratio_less : List PV → M PV := defM 2 2 d_ratio_less
/-! ratio_product: 0:one 1:two -/
@[reducible] noncomputable def d_ratio_product : SD := (sRet (dAp m_ratio (dCons (dOp mulM (dOp ixM (dVar 0) (dC (.int 0))) (dOp ixM (dVar 1) (dC (.int 0)))) (dCons (dOp mulM (dOp ixM (dVar 0) (dC (.int 1))) (dOp ixM (dVar 1) (dC (.int 1)))) dNil))))
noncomputable def m_ratio_product : List PV → M PV := defM 2 2 d_ratio_product
/-! ratio_back: 0:one -/
@[reducible] noncomputable def d_ratio_back : SD := (sRet (dAp mkTup (dCons (dUn negM (dOp ixM (dVar 0) (dC (.int 0)))) (dCons (dOp ixM (dVar 0) (dC (.int 1))) dNil))))
noncomputable def m_ratio_back : List PV → M PV := defM 1 1 d_ratio_back
/-! is_lower: 0:one 1:two -/
@[reducible] noncomputable def d_is_lower : SD := (sRet (dOp ltM (dOp mulM (dOp ixM (dVar 0) (dC (.int 0))) (dOp ixM (dVar 1) (dC (.int 1)))) (dOp mulM (dOp ixM (dVar 1) (dC (.int 0))) (dOp ixM (dVar 0) (dC (.int 1))))))
noncomputable def m_is_lower : List PV → M PV := defM 2 2 d_is_lower
/-! is_spot: 0:value -/
@[reducible] noncomputable def d_is_spot : SD := (sRet (dAnd (dAp m_are_wholes (dCons (dVar 0) (dCons (dC (.int 3)) dNil))) (dAnd (dOp gtM (dOp ixM (dVar 0) (dC (.int 2))) (dC (.int 0))) (dAp m_is_reduced (dCons (dVar 0) dNil)))))
noncomputable def m_is_spot : List PV → M PV := defM 1 1 d_is_spot
/-! square_root: 0:number 1:top 2:below -/
@[reducible] noncomputable def d_square_root : SD := (sSeq (sPar 1 2 (dCons (dAp isqrtM (dCons (dOp ixM (dVar 0) (dC (.int 0))) dNil)) (dCons (dAp isqrtM (dCons (dOp ixM (dVar 0) (dC (.int 1))) dNil)) dNil)))
    (sRet (dIf (bAnd (bCmp (dOp eqM (dOp mulM (dVar 1) (dVar 1)) (dOp ixM (dVar 0) (dC (.int 0))))) (bCmp (dOp eqM (dOp mulM (dVar 2) (dVar 2)) (dOp ixM (dVar 0) (dC (.int 1)))))) (dAp mkTup (dCons (dVar 1) (dCons (dVar 2) dNil))) (dC .non))))
noncomputable def m_square_root : List PV → M PV := defM 1 3 d_square_root
/-! plain: 0:number -/
@[reducible] noncomputable def d_plain : SD := (sRet (dAp mkTup (dCons (dVar 0) (dCons (dC (.int 0)) (dCons (dC v_ZERO) dNil)))))
noncomputable def m_plain : List PV → M PV := defM 1 1 d_plain
/-! surd_from: 0:part 1:factor 2:square 3:whole 4:root 5:way -/
@[reducible] noncomputable def d_surd_from : SD := (sSeq (sAsg (dAp m_ratio_product (dCons (dAp m_ratio_product (dCons (dVar 1) (dCons (dVar 1) dNil))) (dCons (dVar 2) dNil))) (gName 3))
    (sSeq (sPar 4 5 (dCons (dAp m_square_root (dCons (dVar 3) dNil)) (dCons (dAp m_sign_of (dCons (dOp ixM (dVar 1) (dC (.int 0))) dNil)) dNil)))
    (sSeq (sIf (bCmp (dOp (fun p q => match q with | .non => isNM p q | _ => stk) (dVar 4) (dC .non))) (sRet (dAp mkTup (dCons (dVar 0) (dCons (dVar 5) (dCons (dVar 3) dNil))))) sNil)
    (sRet (dAp m_plain (dCons (dAp m_ratio_sum (dCons (dVar 0) (dCons (dAp mkTup (dCons (dOp mulM (dVar 5) (dOp ixM (dVar 4) (dC (.int 0)))) (dCons (dOp ixM (dVar 4) (dC (.int 1))) dNil))) dNil))) dNil))))))
noncomputable def m_surd_from : List PV → M PV := defM 3 6 d_surd_from
/-! sign_of_one: 0:p 1:q 2:r 3:first 4:second -/
@[reducible] noncomputable def d_sign_of_one : SD := (sSeq (sPar 3 4 (dCons (dAp m_sign_of (dCons (dVar 0) dNil)) (dCons (dIf (bCmp (dOp gtM (dVar 2) (dC (.int 0)))) (dAp m_sign_of (dCons (dVar 1) dNil)) (dC (.int 0))) dNil)))
    (sSeq (sIf (bOr (bCmp (dOp eqM (dVar 3) (dC (.int 0)))) (bOr (bCmp (dOp eqM (dVar 4) (dC (.int 0)))) (bCmp (dOp eqM (dVar 3) (dVar 4))))) (sRet (dIf (bCmp (dOp neM (dVar 3) (dC (.int 0)))) (dVar 3) (dVar 4))) sNil)
    (sRet (dOp mulM (dVar 3) (dAp m_sign_of (dCons (dOp subM (dOp mulM (dVar 0) (dVar 0)) (dOp mulM (dOp mulM (dVar 1) (dVar 1)) (dVar 2))) dNil))))))
noncomputable def m_sign_of_one : List PV → M PV := defM 3 5 d_sign_of_one
/-! sign_of_two: 0:p 1:q 2:r 3:s 4:t 5:first 6:second -/
@[reducible] noncomputable def d_sign_of_two : SD := (sSeq (sPar 5 6 (dCons (dAp m_sign_of_one (dCons (dVar 0) (dCons (dVar 1) (dCons (dVar 2) dNil)))) (dCons (dIf (bCmp (dOp gtM (dVar 4) (dC (.int 0)))) (dAp m_sign_of (dCons (dVar 3) dNil)) (dC (.int 0))) dNil)))
    (sSeq (sIf (bOr (bCmp (dOp eqM (dVar 5) (dC (.int 0)))) (bOr (bCmp (dOp eqM (dVar 6) (dC (.int 0)))) (bCmp (dOp eqM (dVar 5) (dVar 6))))) (sRet (dIf (bCmp (dOp neM (dVar 5) (dC (.int 0)))) (dVar 5) (dVar 6))) sNil)
    (sRet (dOp mulM (dVar 5) (dAp m_sign_of_one (dCons (dOp subM (dOp addM (dOp mulM (dVar 0) (dVar 0)) (dOp mulM (dOp mulM (dVar 1) (dVar 1)) (dVar 2))) (dOp mulM (dOp mulM (dVar 3) (dVar 3)) (dVar 4))) (dCons (dOp mulM (dOp mulM (dC (.int 2)) (dVar 0)) (dVar 1)) (dCons (dVar 2) dNil))))))))
noncomputable def m_sign_of_two : List PV → M PV := defM 5 7 d_sign_of_two
/-! compared: 0:one 1:two 2:p 3:q 4:e 5:r 6:s 7:k 8:m 9:f 10:u 11:v -/
@[reducible] noncomputable def d_compared : SD := (sSeq (sAsg (dVar 0) (gTup 3 (gsCons (gTup 2 (gsCons (gName 2) (gsCons (gName 3) gsNil))) (gsCons (gName 4) (gsCons (gTup 2 (gsCons (gName 5) (gsCons (gName 6) gsNil))) gsNil)))))
    (sSeq (sAsg (dVar 1) (gTup 3 (gsCons (gTup 2 (gsCons (gName 7) (gsCons (gName 8) gsNil))) (gsCons (gName 9) (gsCons (gTup 2 (gsCons (gName 10) (gsCons (gName 11) gsNil))) gsNil)))))
    (sSeq (sIf (bAnd (bCmp (dOp eqM (dVar 4) (dC (.int 0)))) (bCmp (dOp eqM (dVar 9) (dC (.int 0))))) (sRet (dAp m_sign_of (dCons (dOp subM (dOp mulM (dVar 2) (dVar 8)) (dOp mulM (dVar 7) (dVar 3))) dNil))) sNil)
    (sRet (dAp m_sign_of_two (dCons (dOp mulM (dOp mulM (dOp subM (dOp mulM (dVar 2) (dVar 8)) (dOp mulM (dVar 7) (dVar 3))) (dVar 6)) (dVar 11)) (dCons (dOp mulM (dOp mulM (dOp mulM (dVar 4) (dVar 3)) (dVar 8)) (dVar 11)) (dCons (dOp mulM (dVar 5) (dVar 6)) (dCons (dOp mulM (dOp mulM (dOp mulM (dUn negM (dVar 9)) (dVar 3)) (dVar 8)) (dVar 6)) (dCons (dOp mulM (dVar 10) (dVar 11)) dNil))))))))))
noncomputable def m_compared : List PV → M PV := defM 2 12 d_compared
/-! bent_value: 0:bent 1:surd 2:first 3:second 4:third 5:part 6:way 7:square 8:both 9:fixed 10:factor -/
@[reducible] noncomputable def d_bent_value : SD := (sSeq (sAsg (dVar 0) (gTup 3 (gsCons (gName 2) (gsCons (gName 3) (gsCons (gName 4) gsNil)))))
    (sSeq (sAsg (dVar 1) (gTup 3 (gsCons (gName 5) (gsCons (gName 6) (gsCons (gName 7) gsNil)))))
    (sSeq (sAsg (dAp m_ratio_sum (dCons (dAp m_ratio_product (dCons (dVar 5) (dCons (dVar 5) dNil))) (dCons (dAp m_ratio_product (dCons (dAp mkTup (dCons (dOp mulM (dVar 6) (dVar 6)) (dCons (dC (.int 1)) dNil))) (dCons (dVar 7) dNil))) dNil))) (gName 8))
    (sSeq (sAsg (dAp m_ratio_sum (dCons (dAp m_ratio_sum (dCons (dVar 2) (dCons (dAp m_ratio_product (dCons (dVar 3) (dCons (dVar 5) dNil))) dNil))) (dCons (dAp m_ratio_product (dCons (dVar 4) (dCons (dVar 8) dNil))) dNil))) (gName 9))
    (sSeq (sAsg (dAp m_ratio_sum (dCons (dVar 3) (dCons (dAp m_ratio_product (dCons (dAp m_ratio_product (dCons (dAp mkTup (dCons (dC (.int 2)) (dCons (dC (.int 1)) dNil))) (dCons (dVar 4) dNil))) (dCons (dVar 5) dNil))) dNil))) (gName 10))
    (sRet (dAp m_surd_from (dCons (dVar 9) (dCons (dAp m_ratio_product (dCons (dVar 10) (dCons (dAp mkTup (dCons (dVar 6) (dCons (dC (.int 1)) dNil))) dNil))) (dCons (dVar 7) dNil))))))))))
noncomputable def m_bent_value : List PV → M PV := defM 2 11 d_bent_value
/-! bent_ratio: 0:bent 1:number -/
@[reducible] noncomputable def d_bent_ratio : SD := (sRet (dAp m_ratio_sum (dCons (dOp ixM (dVar 0) (dC (.int 0))) (dCons (dAp m_ratio_product (dCons (dVar 1) (dCons (dAp m_ratio_sum (dCons (dOp ixM (dVar 0) (dC (.int 1))) (dCons (dAp m_ratio_product (dCons (dOp ixM (dVar 0) (dC (.int 2))) (dCons (dVar 1) dNil))) dNil))) dNil))) dNil))))
noncomputable def m_bent_ratio : List PV → M PV := defM 2 2 d_bent_ratio
/-! bent_less: 0:one 1:two 2:first 3:second -/
@[reducible] noncomputable def d_bent_less : SD := (sRet (dAp tupleM (dCons (dLC (iAp zipA (dCons (dVar 0) (dCons (dVar 1) dNil))) (gTup 2 (gsCons (gName 2) (gsCons (gName 3) gsNil))) bYes (dAp m_ratio_sum (dCons (dVar 2) (dCons (dAp mkTup (dCons (dUn negM (dOp ixM (dVar 3) (dC (.int 0)))) (dCons (dOp ixM (dVar 3) (dC (.int 1))) dNil))) dNil))) [2, 3]) dNil)))
noncomputable def m_bent_less : List PV → M PV := defM 2 4 d_bent_less
/-! roots_of: 0:bent 1:c 2:k 3:d 4:l 5:e 6:m 7:a 8:b 9:f 10:under 11:found 12:way -/
@[reducible] noncomputable def d_roots_of : SD := (sSeq (sAsg (dVar 0) (gTup 3 (gsCons (gTup 2 (gsCons (gName 1) (gsCons (gName 2) gsNil))) (gsCons (gTup 2 (gsCons (gName 3) (gsCons (gName 4) gsNil))) (gsCons (gTup 2 (gsCons (gName 5) (gsCons (gName 6) gsNil))) gsNil)))))
    (sSeq (sIf (bCmp (dOp eqM (dVar 5) (dC (.int 0)))) (sRet (dIf (bCmp (dOp eqM (dVar 3) (dC (.int 0)))) (dAp mkLst dNil) (dAp mkLst (dCons (dAp m_plain (dCons (dAp m_ratio (dCons (dOp mulM (dUn negM (dVar 1)) (dVar 4)) (dCons (dOp mulM (dVar 2) (dVar 3)) dNil))) dNil)) dNil)))) sNil)
    (sSeq (sAsg (dAp mkTup (dCons (dOp mulM (dOp mulM (dVar 5) (dVar 2)) (dVar 4)) (dCons (dOp mulM (dOp mulM (dVar 3) (dVar 2)) (dVar 6)) (dCons (dOp mulM (dOp mulM (dVar 1) (dVar 4)) (dVar 6)) dNil)))) (gTup 3 (gsCons (gName 7) (gsCons (gName 8) (gsCons (gName 9) gsNil)))))
    (sSeq (sAsg (dOp subM (dOp mulM (dVar 8) (dVar 8)) (dOp mulM (dOp mulM (dC (.int 4)) (dVar 7)) (dVar 9))) (gName 10))
    (sSeq (sIf (bCmp (dOp ltM (dVar 10) (dC (.int 0)))) (sRet (dAp mkLst dNil)) sNil)
    (sSeq (sIf (bCmp (dOp eqM (dVar 10) (dC (.int 0)))) (sRet (dAp mkLst (dCons (dAp m_plain (dCons (dAp m_ratio (dCons (dUn negM (dVar 8)) (dCons (dOp mulM (dC (.int 2)) (dVar 7)) dNil))) dNil)) dNil))) sNil)
    (sSeq (sAsg (dLC (iSeq (dAp mkTup (dCons (dUn negM (dC (.int 1))) (dCons (dC (.int 1)) dNil)))) (gName 12) bYes (dAp m_surd_from (dCons (dAp m_ratio (dCons (dUn negM (dVar 8)) (dCons (dOp mulM (dC (.int 2)) (dVar 7)) dNil))) (dCons (dAp mkTup (dCons (dVar 12) (dCons (dC (.int 1)) dNil))) (dCons (dAp m_ratio (dCons (dVar 10) (dCons (dOp mulM (dOp mulM (dC (.int 4)) (dVar 7)) (dVar 7)) dNil))) dNil)))) [12]) (gName 11))
    (sRet (dVar 11)))))))))
noncomputable def m_roots_of : List PV → M PV := defM 1 13 d_roots_of
/-! is_in: 0:low 1:high 2:surd -/
@[reducible] noncomputable def d_is_in : SD := (sRet (dAnd (dOr (dOp (fun p q => match q with | .non => isNM p q | _ => stk) (dVar 0) (dC .non)) (dOp leM (dAp m_compared (dCons (dVar 0) (dCons (dVar 2) dNil))) (dC (.int 0)))) (dOr (dOp (fun p q => match q with | .non => isNM p q | _ => stk) (dVar 1) (dC .non)) (dOp leM (dAp m_compared (dCons (dVar 2) (dCons (dVar 1) dNil))) (dC (.int 0))))))
noncomputable def m_is_in : List PV → M PV := defM 3 3 d_is_in
/-! is_stream_pair: 0:value -/
@[reducible] noncomputable def d_is_stream_pair : SD := (sSeq (sIf (bOr (bNot (bTru (dUn (isiM "tuple") (dVar 0)))) (bCmp (dOp neM (dAp lenM (dCons (dVar 0) dNil)) (dC (.int 2))))) (sRet (dC (.bl false))) sNil)
    (sRet (dAnd (dAp m_is_ratio (dCons (dOp ixM (dVar 0) (dC (.int 0))) dNil)) (dAnd (dAp m_is_ratio (dCons (dOp ixM (dVar 0) (dC (.int 1))) dNil)) (dOp gtM (dOp ixM (dOp ixM (dVar 0) (dC (.int 1))) (dC (.int 0))) (dC (.int 0)))))))
noncomputable def m_is_stream_pair : List PV → M PV := defM 1 1 d_is_stream_pair
/-! check_fraction: 0:value -/
@[reducible] noncomputable def d_check_fraction : SD := (sIf (bNot (bTru (dAp m_is_ratio (dCons (dVar 0) dNil)))) sNever sNil)
noncomputable def m_check_fraction : List PV → M PV := defM 1 1 d_check_fraction
/-! is_stream: 0:value -/
@[reducible] noncomputable def d_is_stream : SD := (sSeq (sIf (bOr (bNot (bTru (dUn (isiM "tuple") (dVar 0)))) (bOr (bCmp (dOp neM (dAp lenM (dCons (dVar 0) dNil)) (dC (.int 3)))) (bOr (bNot (bTru (dAp m_is_spot (dCons (dOp ixM (dVar 0) (dC (.int 0))) dNil)))) (bNot (bTru (dAp m_is_stream_pair (dCons (dOp ixM (dVar 0) (dC (.int 2))) dNil))))))) (sRet (dC (.bl false))) sNil)
    (sRet (dAnd (dAp m_is_whole (dCons (dOp ixM (dVar 0) (dC (.int 1))) dNil)) (dOp inM (dOp ixM (dVar 0) (dC (.int 1))) (dAp mkTup (dCons (dC (.int 1)) (dCons (dUn negM (dC (.int 1))) dNil)))))))
noncomputable def m_is_stream : List PV → M PV := defM 1 1 d_is_stream
/-! check_stream: 0:value -/
@[reducible] noncomputable def d_check_stream : SD := (sIf (bNot (bTru (dAp m_is_stream (dCons (dVar 0) dNil)))) sNever sNil)
noncomputable def m_check_stream : List PV → M PV := defM 1 1 d_check_stream
/-! start_of: 0:stream 1:x 2:y 3:w -/
@[reducible] noncomputable def d_start_of : SD := (sSeq (sAsg (dOp ixM (dVar 0) (dC (.int 0))) (gTup 3 (gsCons (gName 1) (gsCons (gName 2) (gsCons (gName 3) gsNil)))))
    (sRet (dAp mkTup (dCons (dAp m_ratio (dCons (dVar 1) (dCons (dVar 3) dNil))) (dCons (dAp m_ratio (dCons (dVar 2) (dCons (dVar 3) dNil))) dNil)))))
noncomputable def m_start_of : List PV → M PV := defM 1 4 d_start_of
/-! heights_of: 0:stream 1:begin 2:tall 3:slope 4:bend 5:steep 6:square 7:first -/
@[reducible] noncomputable def d_heights_of : SD := (sSeq (sAsg (dAp mkTup (dCons (dAp m_start_of (dCons (dVar 0) dNil)) (dCons (dOp ixM (dVar 0) (dC (.int 2))) dNil))) (gTup 2 (gsCons (gTup 2 (gsCons (gName 1) (gsCons (gName 2) gsNil))) (gsCons (gTup 2 (gsCons (gName 3) (gsCons (gName 4) gsNil))) gsNil))))
    (sSeq (sAsg (dAp m_ratio_product (dCons (dAp mkTup (dCons (dOp ixM (dVar 0) (dC (.int 1))) (dCons (dC (.int 1)) dNil))) (dCons (dVar 3) dNil))) (gName 5))
    (sSeq (sAsg (dAp m_ratio_product (dCons (dVar 4) (dCons (dAp m_ratio_product (dCons (dVar 1) (dCons (dVar 1) dNil))) dNil))) (gName 6))
    (sSeq (sAsg (dAp m_ratio_less (dCons (dAp m_ratio_less (dCons (dVar 2) (dCons (dAp m_ratio_product (dCons (dVar 5) (dCons (dVar 1) dNil))) dNil))) (dCons (dVar 6) dNil))) (gName 7))
    (sRet (dAp mkTup (dCons (dVar 7) (dCons (dAp m_ratio_sum (dCons (dVar 5) (dCons (dAp m_ratio_product (dCons (dAp mkTup (dCons (dC (.int 2)) (dCons (dC (.int 1)) dNil))) (dCons (dAp m_ratio_product (dCons (dVar 4) (dCons (dVar 1) dNil))) dNil))) dNil))) (dCons (dAp m_ratio_back (dCons (dVar 4) dNil)) dNil)))))))))
noncomputable def m_heights_of : List PV → M PV := defM 1 8 d_heights_of
/-! times_of: 0:stream 1:begin 2:bend 3:there -/
@[reducible] noncomputable def d_times_of : SD := (sSeq (sPar 1 2 (dCons (dOp ixM (dAp m_start_of (dCons (dVar 0) dNil)) (dC (.int 0))) (dCons (dOp ixM (dOp ixM (dVar 0) (dC (.int 2))) (dC (.int 1))) dNil)))
    (sSeq (sAsg (dAp m_ratio_product (dCons (dVar 2) (dCons (dVar 1) dNil))) (gName 3))
    (sRet (dAp mkTup (dCons (dAp m_ratio_product (dCons (dVar 3) (dCons (dVar 1) dNil))) (dCons (dAp m_ratio_product (dCons (dAp mkTup (dCons (dUn negM (dC (.int 2))) (dCons (dC (.int 1)) dNil))) (dCons (dVar 3) dNil))) (dCons (dVar 2) dNil)))))))
noncomputable def m_times_of : List PV → M PV := defM 1 4 d_times_of
/-! reach_of: 0:streams 1:low 2:high 3:stream 4:begin -/
@[reducible] noncomputable def d_reach_of : SD := (sSeq (sAsg (dAp mkTup (dCons (dC .non) (dCons (dC .non) dNil))) (gTup 2 (gsCons (gName 1) (gsCons (gName 2) gsNil))))
    (sSeq (sFor (iSeq (dVar 0)) (gName 3) (sSeq (sAsg (dOp ixM (dAp m_start_of (dCons (dVar 3) dNil)) (dC (.int 0))) (gName 4))
    (sIf (bCmp (dOp eqM (dOp ixM (dVar 3) (dC (.int 1))) (dC (.int 1)))) (sAsg (dIf (bOr (bCmp (dOp (fun p q => match q with | .non => isNM p q | _ => stk) (dVar 1) (dC .non))) (bTru (dAp m_is_lower (dCons (dVar 1) (dCons (dVar 4) dNil))))) (dVar 4) (dVar 1)) (gName 1)) (sAsg (dIf (bOr (bCmp (dOp (fun p q => match q with | .non => isNM p q | _ => stk) (dVar 2) (dC .non))) (bTru (dAp m_is_lower (dCons (dVar 4) (dCons (dVar 2) dNil))))) (dVar 4) (dVar 2)) (gName 2)))))
    (sRet (dAp mkTup (dCons (dVar 1) (dCons (dVar 2) dNil))))))
noncomputable def m_reach_of : List PV → M PV := defM 1 5 d_reach_of
/-! water_at: 0:stream 1:fraction 2:low 3:high -/
@[reducible] noncomputable def d_water_at : SD := (sSeq (sExpr (dAp m_check_stream (dCons (dVar 0) dNil)))
    (sSeq (sExpr (dAp m_check_fraction (dCons (dVar 1) dNil)))
    (sSeq (sAsg (dAp m_reach_of (dCons (dAp mkLst (dCons (dVar 0) dNil)) dNil)) (gTup 2 (gsCons (gName 2) (gsCons (gName 3) gsNil))))
    (sSeq (sIf (bOr (bAnd (bCmp (dOp (fun p q => match q with | .non => notNM p q | _ => stk) (dVar 2) (dC .non))) (bTru (dAp m_is_lower (dCons (dVar 1) (dCons (dVar 2) dNil))))) (bAnd (bCmp (dOp (fun p q => match q with | .non => notNM p q | _ => stk) (dVar 3) (dC .non))) (bTru (dAp m_is_lower (dCons (dVar 3) (dCons (dVar 1) dNil)))))) (sRet (dC .non)) sNil)
    (sRet (dAp m_bent_ratio (dCons (dAp m_heights_of (dCons (dVar 0) dNil)) (dCons (dVar 1) dNil))))))))
noncomputable def m_water_at : List PV → M PV := defM 2 4 d_water_at
/-! met_at: 0:stream 1:other 2:low 3:high 4:gap 5:ends 6:end 7:root -/
@[reducible] noncomputable def d_met_at : SD := (sSeq (sAsg (dAp m_reach_of (dCons (dAp mkLst (dCons (dVar 0) (dCons (dVar 1) dNil))) dNil)) (gTup 2 (gsCons (gName 2) (gsCons (gName 3) gsNil))))
    (sSeq (sIf (bAnd (bCmp (dOp (fun p q => match q with | .non => notNM p q | _ => stk) (dVar 2) (dC .non))) (bAnd (bCmp (dOp (fun p q => match q with | .non => notNM p q | _ => stk) (dVar 3) (dC .non))) (bTru (dAp m_is_lower (dCons (dVar 3) (dCons (dVar 2) dNil)))))) (sRet (dAp mkLst dNil)) sNil)
    (sSeq (sAsg (dAp m_bent_less (dCons (dAp m_heights_of (dCons (dVar 0) dNil)) (dCons (dAp m_heights_of (dCons (dVar 1) dNil)) dNil))) (gName 4))
    (sSeq (sIf (bCmp (dOp eqM (dVar 4) (dC v_EMPTY))) (sRet (dIf (bAnd (bCmp (dOp (fun p q => match q with | .non => notNM p q | _ => stk) (dVar 2) (dC .non))) (bCmp (dOp eqM (dVar 2) (dVar 3)))) (dAp mkLst (dCons (dAp m_plain (dCons (dVar 2) dNil)) dNil)) (dC .non))) sNil)
    (sSeq (sAsg (dLC (iSeq (dAp mkTup (dCons (dVar 2) (dCons (dVar 3) dNil)))) (gName 6) bYes (dIf (bCmp (dOp (fun p q => match q with | .non => isNM p q | _ => stk) (dVar 6) (dC .non))) (dC .non) (dAp m_plain (dCons (dVar 6) dNil))) [6]) (gName 5))
    (sRet (dLC (iSeq (dAp m_roots_of (dCons (dVar 4) dNil))) (gName 7) (bTru (dAp m_is_in (dCons (dOp ixM (dVar 5) (dC (.int 0))) (dCons (dOp ixM (dVar 5) (dC (.int 1))) (dCons (dVar 7) dNil))))) (dVar 7) [7])))))))
noncomputable def m_met_at : List PV → M PV := defM 2 8 d_met_at
/-! check_both: 0:stream 1:other -/
@[reducible] noncomputable def d_check_both : SD := (sSeq (sExpr (dAp m_check_stream (dCons (dVar 0) dNil)))
    (sExpr (dAp m_check_stream (dCons (dVar 1) dNil))))
noncomputable def m_check_both : List PV → M PV := defM 2 2 d_check_both
/-! meetings: 0:stream 1:other 2:found 3:root -/
@[reducible] noncomputable def d_meetings : SD := (sSeq (sExpr (dAp m_check_both (dCons (dVar 0) (dCons (dVar 1) dNil))))
    (sSeq (sAsg (dAp m_met_at (dCons (dVar 0) (dCons (dVar 1) dNil))) (gName 2))
    (sSeq (sIf (bCmp (dOp (fun p q => match q with | .non => isNM p q | _ => stk) (dVar 2) (dC .non))) (sRet (dC .non)) sNil)
    (sRet (dAp tupleM (dCons (dLC (iSeq (dVar 2)) (gName 3) bYes (dAp mkTup (dCons (dVar 3) (dCons (dAp m_bent_value (dCons (dAp m_heights_of (dCons (dVar 0) dNil)) (dCons (dVar 3) dNil))) dNil))) [3]) dNil))))))
noncomputable def m_meetings : List PV → M PV := defM 2 4 d_meetings
/-! order_at: 0:stream 1:other 2:root -/
@[reducible] noncomputable def d_order_at : SD := (sRet (dAp m_compared (dCons (dAp m_bent_value (dCons (dAp m_times_of (dCons (dVar 0) dNil)) (dCons (dVar 2) dNil))) (dCons (dAp m_bent_value (dCons (dAp m_times_of (dCons (dVar 1) dNil)) (dCons (dVar 2) dNil))) dNil))))
noncomputable def m_order_at : List PV → M PV := defM 3 3 d_order_at
/-! first_there: 0:stream 1:other 2:index 3:found -/
@[reducible] noncomputable def d_first_there : SD := (sSeq (sExpr (dAp m_check_both (dCons (dVar 0) (dCons (dVar 1) dNil))))
    (sSeq (sAsg (dAp m_met_at (dCons (dVar 0) (dCons (dVar 1) dNil))) (gName 3))
    (sSeq (sIf (bOr (bCmp (dOp (fun p q => match q with | .non => isNM p q | _ => stk) (dVar 3) (dC .non))) (bNot (bTru (dAp m_is_between (dCons (dVar 2) (dCons (dC (.int 0)) (dCons (dOp subM (dAp lenM (dCons (dVar 3) dNil)) (dC (.int 1))) dNil))))))) sNever sNil)
    (sRet (dUn (dixM dl_FIRSTS) (dAp m_order_at (dCons (dVar 0) (dCons (dVar 1) (dCons (dOp ixM (dVar 3) (dVar 2)) dNil)))))))))
noncomputable def m_first_there : List PV → M PV := defM 3 4 d_first_there
/-! drops_meet: 0:stream 1:other 2:found 3:root -/
@[reducible] noncomputable def d_drops_meet : SD := (sSeq (sExpr (dAp m_check_both (dCons (dVar 0) (dCons (dVar 1) dNil))))
    (sSeq (sAsg (dAp m_met_at (dCons (dVar 0) (dCons (dVar 1) dNil))) (gName 2))
    (sSeq (sIf (bCmp (dOp (fun p q => match q with | .non => isNM p q | _ => stk) (dVar 2) (dC .non))) (sRet (dOr (dOp neM (dOp ixM (dVar 0) (dC (.int 1))) (dOp ixM (dVar 1) (dC (.int 1)))) (dOp eqM (dOp ixM (dVar 0) (dC (.int 0))) (dOp ixM (dVar 1) (dC (.int 0)))))) sNil)
    (sRet (dAp anyM (dCons (dLC (iSeq (dVar 2)) (gName 3) bYes (dOp eqM (dAp m_order_at (dCons (dVar 0) (dCons (dVar 1) (dCons (dVar 3) dNil)))) (dC (.int 0))) [3]) dNil))))))
noncomputable def m_drops_meet : List PV → M PV := defM 2 4 d_drops_meet
/-! _law_well: 0:script 1:turn 2:stirred 3:cell 4:own 5:great -/
@[reducible] noncomputable def d__law_well : SD := (sSeq (sAsg (dOp addM (dC (.int 700001)) (dOp mulM (dC (.int 9241)) (dVar 1))) (gName 2))
    (sSeq (sFor (iSeq (dSl (dVar 0) oNone (oSome (dC (.int 63))))) (gName 3) (sAsg (dOp modM (dAp intM (dCons (dOp addM (dOp addM (dOp mulM (dVar 2) (dC (.int 44497))) (dOp modM (dAp intM (dCons (dVar 3) dNil)) (dC (.int 536870909)))) (dC (.int 61))) dNil)) (dC (.int 1000000123))) (gName 2)))
    (sSeq (sAsg (dIf (bCmp (dOp ltM (dVar 1) (dAp lenM (dCons (dVar 0) dNil)))) (dAp intM (dCons (dOp ixM (dVar 0) (dVar 1)) dNil)) (dC (.int 0))) (gName 4))
    (sSeq (sAsg (dIf (bCmp (dOp geM (dAp absM (dCons (dVar 4) dNil)) (dOp powM (dC (.int 10)) (dC (.int 18))))) (dAp absM (dCons (dVar 4) dNil)) (dC (.int 0))) (gName 5))
    (sRet (dAp mkLoc (dCons (dVar 5) (dCons (dOp modM (dAp intM (dCons (dOp addM (dVar 2) (dOp mulM (dC (.int 13)) (dOp modM (dAp intM (dCons (dVar 4) dNil)) (dC (.int 59999999))))) dNil)) (dC (.int 1000000123))) (dCons (dC (.int 0)) dNil)))))))))
noncomputable def m__law_well : List PV → M PV := defK 2 6 d__law_well
/-! _law_draw: 0:well_here 1:many 2:mixed 3:digit -/
@[reducible] noncomputable def d__law_draw : SD := (sSeq (sIf (bCmp (dOp gtM (dOp ixM (dVar 0) (dC (.int 0))) (dC (.int 0)))) (sSeq (sAsg (dAp divmodM (dCons (dOp ixM (dVar 0) (dC (.int 0))) (dCons (dVar 1) dNil))) (gTup 2 (gsCons (gSub (dVar 0) (dC (.int 0))) (gsCons (gName 3) gsNil))))
    (sRet (dVar 3))) sNil)
    (sSeq (sAsg (dOp addM (dOp ixM (dVar 0) (dC (.int 2))) (dC (.int 1))) (gSub (dVar 0) (dC (.int 2))))
    (sSeq (sAsg (dOp modM (dAp intM (dCons (dOp addM (dOp addM (dOp mulM (dOp ixM (dVar 0) (dC (.int 1))) (dC (.int 37))) (dOp mulM (dC (.int 80021)) (dOp ixM (dVar 0) (dC (.int 2))))) (dC (.int 11))) dNil)) (dC (.int 1000000123))) (gName 2))
    (sSeq (sAsg (dOp modM (dAp intM (dCons (dOp addM (dOp mulM (dVar 2) (dOp addM (dOp modM (dAp intM (dCons (dVar 2) dNil)) (dC (.int 6961))) (dC (.int 21001)))) (dOp mulM (dC (.int 29)) (dOp ixM (dVar 0) (dC (.int 2))))) dNil)) (dC (.int 1000000123))) (gSub (dVar 0) (dC (.int 1))))
    (sRet (dOp modM (dAp intM (dCons (dOp fdivM (dOp ixM (dVar 0) (dC (.int 1))) (dC (.int 191))) dNil)) (dVar 1)))))))
noncomputable def m__law_draw : List PV → M PV := defM 2 4 d__law_draw
/-! _law_rounds: 0:script 1:least 2:most -/
@[reducible] noncomputable def d__law_rounds : SD := (sRet (dAp max2M (dCons (dVar 1) (dCons (dAp min2M (dCons (dAp lenM (dCons (dVar 0) dNil)) (dCons (dVar 2) dNil))) dNil))))
noncomputable def m__law_rounds : List PV → M PV := defM 3 3 d__law_rounds
/-! _law_pick: 0:well_here 1:some -/
@[reducible] noncomputable def d__law_pick : SD := (sRet (dOp ixM (dVar 1) (dAp m__law_draw (dCons (dVar 0) (dCons (dAp lenM (dCons (dVar 1) dNil)) dNil)))))
noncomputable def m__law_pick : List PV → M PV := defM 2 2 d__law_pick
/-! _law_common: 0:numbers 1:found 2:number 3:one 4:two 5:step -/
@[reducible] noncomputable def d__law_common : SD := (sSeq (sAsg (dC (.int 0)) (gName 1))
    (sSeq (sFor (iSeq (dVar 0)) (gName 2) (sSeq (sPar 3 4 (dCons (dVar 1) (dCons (dAp absM (dCons (dVar 2) dNil)) dNil)))
    (sSeq (sFor (iAp rng1 (dCons (dOp addM (dOp mulM (dC (.int 2)) (dUn bitsM (dAp absM (dCons (dVar 2) dNil)))) (dC (.int 2))) dNil)) (gName 5) (sSeq (sIf (bCmp (dOp eqM (dVar 4) (dC (.int 0)))) sBrk sNil)
    (sPar 3 4 (dCons (dVar 4) (dCons (dOp modM (dAp intM (dCons (dVar 3) dNil)) (dVar 4)) dNil)))))
    (sAsg (dVar 3) (gName 1)))))
    (sRet (dVar 1))))
noncomputable def m__law_common : List PV → M PV := defM 1 6 d__law_common
/-! _law_lean: 0:numbers 1:by 2:number -/
@[reducible] noncomputable def d__law_lean : SD := (sSeq (sAsg (dAp max2M (dCons (dC (.int 1)) (dCons (dAp m__law_common (dCons (dVar 0) dNil)) dNil))) (gName 1))
    (sRet (dAp tupleM (dCons (dLC (iSeq (dVar 0)) (gName 2) bYes (dOp fdivM (dVar 2) (dVar 1)) [2]) dNil))))
noncomputable def m__law_lean : List PV → M PV := defM 1 3 d__law_lean
/-! _law_ratio: 0:n 1:m -/
@[reducible] noncomputable def d__law_ratio : SD := (sRet (dIf (bCmp (dOp gtM (dVar 1) (dC (.int 0)))) (dAp m__law_lean (dCons (dAp mkTup (dCons (dVar 0) (dCons (dVar 1) dNil))) dNil)) (dAp m__law_lean (dCons (dAp mkTup (dCons (dOp subM (dC (.int 0)) (dVar 0)) (dCons (dOp subM (dC (.int 0)) (dVar 1)) dNil))) dNil))))
noncomputable def m__law_ratio : List PV → M PV := defM 2 2 d__law_ratio
/-! _law_plus: 0:one 1:two -/
@[reducible] noncomputable def d__law_plus : SD := (sRet (dAp m__law_ratio (dCons (dOp addM (dOp mulM (dOp ixM (dVar 0) (dC (.int 0))) (dOp ixM (dVar 1) (dC (.int 1)))) (dOp mulM (dOp ixM (dVar 1) (dC (.int 0))) (dOp ixM (dVar 0) (dC (.int 1))))) (dCons (dOp mulM (dOp ixM (dVar 0) (dC (.int 1))) (dOp ixM (dVar 1) (dC (.int 1)))) dNil))))
noncomputable def m__law_plus : List PV → M PV := defM 2 2 d__law_plus
/-! _law_less: 0:one 1:two -/
@[reducible] noncomputable def d__law_less : SD := (sRet (dAp m__law_ratio (dCons (dOp subM (dOp mulM (dOp ixM (dVar 0) (dC (.int 0))) (dOp ixM (dVar 1) (dC (.int 1)))) (dOp mulM (dOp ixM (dVar 1) (dC (.int 0))) (dOp ixM (dVar 0) (dC (.int 1))))) (dCons (dOp mulM (dOp ixM (dVar 0) (dC (.int 1))) (dOp ixM (dVar 1) (dC (.int 1)))) dNil))))
noncomputable def m__law_less : List PV → M PV := defM 2 2 d__law_less
/-! _law_times: 0:one 1:two -/
@[reducible] noncomputable def d__law_times : SD := (sRet (dAp m__law_ratio (dCons (dOp mulM (dOp ixM (dVar 0) (dC (.int 0))) (dOp ixM (dVar 1) (dC (.int 0)))) (dCons (dOp mulM (dOp ixM (dVar 0) (dC (.int 1))) (dOp ixM (dVar 1) (dC (.int 1)))) dNil))))
noncomputable def m__law_times : List PV → M PV := defM 2 2 d__law_times
/-! _law_sign: 0:number -/
@[reducible] noncomputable def d__law_sign : SD := (sRet (dOp subM (dAp intM (dCons (dOp gtM (dVar 0) (dC (.int 0))) dNil)) (dAp intM (dCons (dOp ltM (dVar 0) (dC (.int 0))) dNil))))
noncomputable def m__law_sign : List PV → M PV := defM 1 1 d__law_sign
/-! _law_order: 0:one 1:two -/
@[reducible] noncomputable def d__law_order : SD := (sRet (dAp m__law_sign (dCons (dOp subM (dOp mulM (dOp ixM (dVar 0) (dC (.int 0))) (dOp ixM (dVar 1) (dC (.int 1)))) (dOp mulM (dOp ixM (dVar 1) (dC (.int 0))) (dOp ixM (dVar 0) (dC (.int 1))))) dNil)))
noncomputable def m__law_order : List PV → M PV := defM 2 2 d__law_order
/-! _law_apart: 0:place -/
@[reducible] noncomputable def d__law_apart : SD := (sRet (dAp mkTup (dCons (dAp m__law_ratio (dCons (dOp ixM (dVar 0) (dC (.int 0))) (dCons (dOp ixM (dVar 0) (dC (.int 2))) dNil))) (dCons (dAp m__law_ratio (dCons (dOp ixM (dVar 0) (dC (.int 1))) (dCons (dOp ixM (dVar 0) (dC (.int 2))) dNil))) dNil))))
noncomputable def m__law_apart : List PV → M PV := defM 1 1 d__law_apart
/-! _law_size: 0:well_here 1:way -/
@[reducible] noncomputable def d__law_size : SD := (sSeq (sAsg (dAp m__law_draw (dCons (dVar 0) (dCons (dC (.int 4)) dNil))) (gName 1))
    (sSeq (sIf (bCmp (dOp ltM (dVar 1) (dC (.int 3)))) (sRet (dAp m__law_pick (dCons (dVar 0) (dCons (dAp mkTup (dCons (dAp mkTup (dCons (dC (.int 1)) (dCons (dC (.int 1)) dNil))) (dCons (dAp mkTup (dCons (dC (.int 1)) (dCons (dC (.int 2)) dNil))) (dCons (dAp mkTup (dCons (dC (.int 2)) (dCons (dC (.int 1)) dNil))) (dCons (dAp mkTup (dCons (dC (.int 3)) (dCons (dC (.int 2)) dNil))) (dCons (dAp mkTup (dCons (dC (.int 1)) (dCons (dC (.int 4)) dNil))) (dCons (dAp mkTup (dCons (dC (.int 3)) (dCons (dC (.int 4)) dNil))) (dCons (dAp mkTup (dCons (dC (.int 3)) (dCons (dC (.int 1)) dNil))) (dCons (dAp mkTup (dCons (dC (.int 4)) (dCons (dC (.int 1)) dNil))) dNil))))))))) dNil)))) sNil)
    (sRet (dAp m__law_ratio (dCons (dOp addM (dC (.int 1)) (dAp m__law_draw (dCons (dVar 0) (dCons (dC (.int 9)) dNil)))) (dCons (dOp addM (dC (.int 1)) (dAp m__law_draw (dCons (dVar 0) (dCons (dC (.int 5)) dNil)))) dNil))))))
noncomputable def m__law_size : List PV → M PV := defM 1 2 d__law_size
/-! _law_part: 0:well_here 1:size_here -/
@[reducible] noncomputable def d__law_part : SD := (sSeq (sAsg (dAp m__law_pick (dCons (dVar 0) (dCons (dAp mkTup (dCons (dAp mkTup (dCons (dC (.int 0)) (dCons (dC (.int 1)) dNil))) (dCons (dAp mkTup (dCons (dC (.int 1)) (dCons (dC (.int 1)) dNil))) (dCons (dAp mkTup (dCons (dC (.int 1)) (dCons (dC (.int 2)) dNil))) (dCons (dAp mkTup (dCons (dC (.int 2)) (dCons (dC (.int 1)) dNil))) (dCons (dC .non) (dCons (dC .non) (dCons (dC .non) dNil)))))))) dNil))) (gName 1))
    (sSeq (sAsg (dIf (bCmp (dOp (fun p q => match q with | .non => isNM p q | _ => stk) (dVar 1) (dC .non))) (dAp m__law_size (dCons (dVar 0) dNil)) (dVar 1)) (gName 1))
    (sRet (dIf (bCmp (dOp ltM (dAp m__law_draw (dCons (dVar 0) (dCons (dC (.int 5)) dNil))) (dC (.int 3)))) (dVar 1) (dAp mkTup (dCons (dOp subM (dC (.int 0)) (dOp ixM (dVar 1) (dC (.int 0)))) (dCons (dOp ixM (dVar 1) (dC (.int 1))) dNil)))))))
noncomputable def m__law_part : List PV → M PV := defM 1 2 d__law_part
/-! _law_jet: 0:well_here 1:way -/
@[reducible] noncomputable def d__law_jet : SD := (sSeq (sAsg (dAp m__law_draw (dCons (dVar 0) (dCons (dC (.int 4)) dNil))) (gName 1))
    (sSeq (sIf (bCmp (dOp ltM (dVar 1) (dC (.int 2)))) (sRet (dAp m__law_pick (dCons (dVar 0) (dCons (dAp mkTup (dCons (dAp mkTup (dCons (dAp mkTup (dCons (dC (.int 1)) (dCons (dC (.int 1)) dNil))) (dCons (dAp mkTup (dCons (dC (.int 1)) (dCons (dC (.int 4)) dNil))) dNil))) (dCons (dAp mkTup (dCons (dAp mkTup (dCons (dC (.int 1)) (dCons (dC (.int 1)) dNil))) (dCons (dAp mkTup (dCons (dC (.int 1)) (dCons (dC (.int 2)) dNil))) dNil))) (dCons (dAp mkTup (dCons (dAp mkTup (dCons (dC (.int 2)) (dCons (dC (.int 1)) dNil))) (dCons (dAp mkTup (dCons (dC (.int 1)) (dCons (dC (.int 1)) dNil))) dNil))) (dCons (dAp mkTup (dCons (dAp mkTup (dCons (dC (.int 0)) (dCons (dC (.int 1)) dNil))) (dCons (dAp mkTup (dCons (dC (.int 1)) (dCons (dC (.int 4)) dNil))) dNil))) (dCons (dAp mkTup (dCons (dAp mkTup (dCons (dC (.int 2)) (dCons (dC (.int 1)) dNil))) (dCons (dAp mkTup (dCons (dC (.int 5)) (dCons (dC (.int 4)) dNil))) dNil))) dNil)))))) dNil)))) sNil)
    (sRet (dAp mkTup (dCons (dAp m__law_part (dCons (dVar 0) dNil)) (dCons (dAp m__law_size (dCons (dVar 0) dNil)) dNil))))))
noncomputable def m__law_jet : List PV → M PV := defM 1 2 d__law_jet
/-! _law_point: 0:x 1:y -/
@[reducible] noncomputable def d__law_point : SD := (sRet (dAp m__law_lean (dCons (dAp mkTup (dCons (dOp mulM (dOp ixM (dVar 0) (dC (.int 0))) (dOp ixM (dVar 1) (dC (.int 1)))) (dCons (dOp mulM (dOp ixM (dVar 1) (dC (.int 0))) (dOp ixM (dVar 0) (dC (.int 1)))) (dCons (dOp mulM (dOp ixM (dVar 0) (dC (.int 1))) (dOp ixM (dVar 1) (dC (.int 1)))) dNil)))) dNil)))
noncomputable def m__law_point : List PV → M PV := defM 2 2 d__law_point
/-! _law_curve: 0:stream_here 1:point_here 2:way 3:jet_here 4:x 5:y 6:slope 7:bend 8:b 9:a -/
@[reducible] noncomputable def d__law_curve : SD := (sSeq (sAsg (dVar 0) (gTup 3 (gsCons (gName 1) (gsCons (gName 2) (gsCons (gName 3) gsNil)))))
    (sSeq (sAsg (dAp m__law_apart (dCons (dVar 1) dNil)) (gTup 2 (gsCons (gName 4) (gsCons (gName 5) gsNil))))
    (sSeq (sPar 6 7 (dCons (dAp mkTup (dCons (dOp mulM (dVar 2) (dOp ixM (dOp ixM (dVar 3) (dC (.int 0))) (dC (.int 0)))) (dCons (dOp ixM (dOp ixM (dVar 3) (dC (.int 0))) (dC (.int 1))) dNil))) (dCons (dOp ixM (dVar 3) (dC (.int 1))) dNil)))
    (sSeq (sAsg (dAp m__law_plus (dCons (dVar 6) (dCons (dAp m__law_times (dCons (dAp mkTup (dCons (dC (.int 2)) (dCons (dC (.int 1)) dNil))) (dCons (dAp m__law_times (dCons (dVar 7) (dCons (dVar 4) dNil))) dNil))) dNil))) (gName 8))
    (sSeq (sAsg (dAp m__law_less (dCons (dAp m__law_less (dCons (dVar 5) (dCons (dAp m__law_times (dCons (dVar 6) (dCons (dVar 4) dNil))) dNil))) (dCons (dAp m__law_times (dCons (dVar 7) (dCons (dAp m__law_times (dCons (dVar 4) (dCons (dVar 4) dNil))) dNil))) dNil))) (gName 9))
    (sRet (dAp mkTup (dCons (dVar 9) (dCons (dVar 8) (dCons (dAp mkTup (dCons (dOp subM (dC (.int 0)) (dOp ixM (dVar 7) (dC (.int 0)))) (dCons (dOp ixM (dVar 7) (dC (.int 1))) dNil))) dNil))))))))))
noncomputable def m__law_curve : List PV → M PV := defM 1 10 d__law_curve
/-! _law_stream: 0:well_here 1:point_here -/
@[reducible] noncomputable def d__law_stream : SD := (sSeq (sAsg (dAp m__law_point (dCons (dAp m__law_part (dCons (dVar 0) dNil)) (dCons (dAp m__law_part (dCons (dVar 0) dNil)) dNil))) (gName 1))
    (sRet (dAp mkTup (dCons (dVar 1) (dCons (dOp subM (dC (.int 1)) (dOp mulM (dC (.int 2)) (dAp m__law_draw (dCons (dVar 0) (dCons (dC (.int 2)) dNil))))) (dCons (dAp m__law_jet (dCons (dVar 0) dNil)) dNil))))))
noncomputable def m__law_stream : List PV → M PV := defM 1 2 d__law_stream
/-! _law_far_x: 0:well_here 1:stream_here 2:x -/
@[reducible] noncomputable def d__law_far_x : SD := (sSeq (sAsg (dOp ixM (dAp m__law_apart (dCons (dOp ixM (dVar 1) (dC (.int 0))) dNil)) (dC (.int 0))) (gName 2))
    (sRet (dIf (bCmp (dOp eqM (dOp ixM (dVar 1) (dC (.int 1))) (dC (.int 1)))) (dAp m__law_plus (dCons (dVar 2) (dCons (dAp m__law_size (dCons (dVar 0) dNil)) dNil))) (dAp m__law_less (dCons (dVar 2) (dCons (dAp m__law_size (dCons (dVar 0) dNil)) dNil))))))
noncomputable def m__law_far_x : List PV → M PV := defM 2 3 d__law_far_x
/-! _law_on_curve: 0:stream_here 1:x 2:way 3:a 4:b 5:c 6:slope 7:y -/
@[reducible] noncomputable def d__law_on_curve : SD := (sSeq (sAsg (dAp m__law_curve (dCons (dVar 0) dNil)) (gTup 3 (gsCons (gName 3) (gsCons (gName 4) (gsCons (gName 5) gsNil)))))
    (sSeq (sAsg (dAp m__law_plus (dCons (dVar 4) (dCons (dAp m__law_times (dCons (dAp mkTup (dCons (dC (.int 2)) (dCons (dC (.int 1)) dNil))) (dCons (dAp m__law_times (dCons (dVar 5) (dCons (dVar 1) dNil))) dNil))) dNil))) (gName 6))
    (sSeq (sAsg (dAp m__law_plus (dCons (dVar 3) (dCons (dAp m__law_times (dCons (dVar 1) (dCons (dAp m__law_plus (dCons (dVar 4) (dCons (dAp m__law_times (dCons (dVar 5) (dCons (dVar 1) dNil))) dNil))) dNil))) dNil))) (gName 7))
    (sRet (dAp mkTup (dCons (dAp m__law_point (dCons (dVar 1) (dCons (dVar 7) dNil))) (dCons (dVar 2) (dCons (dAp mkTup (dCons (dAp mkTup (dCons (dOp mulM (dVar 2) (dOp ixM (dVar 6) (dC (.int 0)))) (dCons (dOp ixM (dVar 6) (dC (.int 1))) dNil))) (dCons (dOp ixM (dOp ixM (dVar 0) (dC (.int 2))) (dC (.int 1))) dNil))) dNil))))))))
noncomputable def m__law_on_curve : List PV → M PV := defM 3 8 d__law_on_curve
/-! _law_right: 0:well_here 1:one 2:begin 3:x 4:two 5:told 6:way 7:point_here 8:due 9:same 10:half -/
@[reducible] noncomputable def d__law_right : SD := (sSeq (sAsg (dAp m__law_stream (dCons (dVar 0) dNil)) (gName 1))
    (sSeq (sAsg (dOp ixM (dAp m__law_apart (dCons (dOp ixM (dVar 1) (dC (.int 0))) dNil)) (dC (.int 0))) (gName 2))
    (sSeq (sAsg (dAp m__law_pick (dCons (dVar 0) (dCons (dAp mkLst (dCons (dAp m__law_far_x (dCons (dVar 0) (dCons (dVar 1) dNil))) (dCons (dVar 2) (dCons (dAp m__law_less (dCons (dVar 2) (dCons (dAp m__law_size (dCons (dVar 0) dNil)) dNil))) (dCons (dAp m__law_plus (dCons (dVar 2) (dCons (dAp m__law_size (dCons (dVar 0) dNil)) dNil))) dNil))))) dNil))) (gName 3))
    (sSeq (sAsg (dAp m__law_on_curve (dCons (dVar 1) (dCons (dVar 3) (dCons (dOp subM (dC (.int 1)) (dOp mulM (dC (.int 2)) (dAp m__law_draw (dCons (dVar 0) (dCons (dC (.int 2)) dNil))))) dNil)))) (gName 4))
    (sSeq (sPar 5 6 (dCons (dAp mkLst (dCons (dAp m_meetings (dCons (dVar 1) (dCons (dVar 4) dNil))) (dCons (dApK 0 2 [0, 1] m_meetings dNil (dCons (dVar 4) (dCons (dVar 1) dNil))) dNil))) (dCons (dOp mulM (dAp m__law_order (dCons (dVar 3) (dCons (dVar 2) dNil))) (dOp ixM (dVar 1) (dC (.int 1)))) dNil)))
    (sSeq (sIf (bCmp (dOp eqM (dOp ixM (dVar 4) (dC (.int 1))) (dOp ixM (dVar 1) (dC (.int 1))))) (sSeq (sAsg (dAp m_drops_meet (dCons (dVar 1) (dCons (dVar 4) dNil))) (gName 9))
    (sRet (dAnd (dOp eqM (dAp reprM (dCons (dVar 5) dNil)) (dC (.str "[None, None]"))) (dAnd (dOp eqM (dAp reprM (dCons (dVar 9) dNil)) (dAp reprM (dCons (dOp eqM (dVar 6) (dC (.int 0))) dNil))) (dOr (dOp neM (dVar 6) (dC (.int 0))) (dOp eqM (dVar 1) (dVar 4))))))) sNil)
    (sSeq (sIf (bCmp (dOp gtM (dVar 6) (dC (.int 0)))) (sSeq (sAsg (dAp m__law_times (dCons (dAp mkTup (dCons (dC (.int 1)) (dCons (dC (.int 2)) dNil))) (dCons (dAp m__law_plus (dCons (dVar 2) (dCons (dVar 3) dNil))) dNil))) (gName 10))
    (sSeq (sIf (bOr (bCmp (dOp neM (dAp reprM (dCons (dAp m_water_at (dCons (dVar 1) (dCons (dVar 10) dNil))) dNil)) (dAp reprM (dCons (dAp m_water_at (dCons (dVar 4) (dCons (dVar 10) dNil))) dNil)))) (bCmp (dOp (fun p q => match q with | .non => isNM p q | _ => stk) (dAp m_water_at (dCons (dVar 1) (dCons (dVar 10) dNil))) (dC .non)))) (sRet (dC (.bl false))) sNil)
    (sRet (dAnd (dOp eqM (dAp reprM (dCons (dVar 5) dNil)) (dC (.str "[None, None]"))) (dOp isBM (dAp m_drops_meet (dCons (dVar 1) (dCons (dVar 4) dNil))) (dC (.bl true))))))) sNil)
    (sSeq (sIf (bCmp (dOp ltM (dVar 6) (dC (.int 0)))) (sRet (dAnd (dOp eqM (dAp reprM (dCons (dVar 5) dNil)) (dC (.str "[(), ()]"))) (dOp isBM (dAp m_drops_meet (dCons (dVar 1) (dCons (dVar 4) dNil))) (dC (.bl false))))) sNil)
    (sSeq (sAsg (dAp m__law_apart (dCons (dOp ixM (dVar 1) (dC (.int 0))) dNil)) (gName 7))
    (sSeq (sAsg (dAp mkTup (dCons (dAp mkTup (dCons (dAp mkTup (dCons (dOp ixM (dVar 7) (dC (.int 0))) (dCons (dC (.int 0)) (dCons (dAp mkTup (dCons (dC (.int 0)) (dCons (dC (.int 1)) dNil))) dNil)))) (dCons (dAp mkTup (dCons (dOp ixM (dVar 7) (dC (.int 1))) (dCons (dC (.int 0)) (dCons (dAp mkTup (dCons (dC (.int 0)) (dCons (dC (.int 1)) dNil))) dNil)))) dNil))) dNil)) (gName 8))
    (sSeq (sIf (bCmp (dOp neM (dAp reprM (dCons (dVar 5) dNil)) (dAp reprM (dCons (dAp mkLst (dCons (dVar 8) (dCons (dVar 8) dNil))) dNil)))) (sRet (dC (.bl false))) sNil)
    (sRet (dAnd (dOp eqM (dAp m_first_there (dCons (dVar 1) (dCons (dVar 4) (dCons (dC (.int 0)) dNil)))) (dC (.str "both"))) (dOp isBM (dAp m_drops_meet (dCons (dVar 4) (dCons (dVar 1) dNil))) (dC (.bl true))))))))))))))))
noncomputable def m__law_right : List PV → M PV := defM 1 11 d__law_right
/-! law: 0:script 1:turn -/
@[reducible] noncomputable def d_law : SD := (sRet (dAp allM (dCons (dLC (iAp rng1 (dCons (dAp m__law_rounds (dCons (dVar 0) (dCons (dC (.int 2)) (dCons (dC (.int 5)) dNil)))) dNil)) (gName 1) bYes (dAp m__law_right (dCons (dAp m__law_well (dCons (dVar 0) (dCons (dVar 1) dNil))) dNil)) [1]) dNil)))
noncomputable def m_law : List PV → M PV := defM 1 2 d_law
def topS (i : Nat) : Stmt := PySem.Challenge.pw_spoutlines_k85_whole_streams_on_one_curv.main.body.getD i (.Pass ⟨0, 0, 0, 0⟩)
structure Top (K : PySem.W.Frag) (mg : Str → Option Value) : Prop where
  has_is_whole : ∃ f fd, FunT K "is_whole" (topS 2) f fd ∧ mg "is_whole" = some (.ref f)
  has_are_wholes : ∃ f fd, FunT K "are_wholes" (topS 3) f fd ∧ mg "are_wholes" = some (.ref f)
  has_is_between : ∃ f fd, FunT K "is_between" (topS 4) f fd ∧ mg "is_between" = some (.ref f)
  has_divisor_of : ∃ f fd, FunT K "divisor_of" (topS 5) f fd ∧ mg "divisor_of" = some (.ref f)
  has_is_reduced : ∃ f fd, FunT K "is_reduced" (topS 6) f fd ∧ mg "is_reduced" = some (.ref f)
  has_sign_of : ∃ f fd, FunT K "sign_of" (topS 7) f fd ∧ mg "sign_of" = some (.ref f)
  has_is_ratio : ∃ f fd, FunT K "is_ratio" (topS 10) f fd ∧ mg "is_ratio" = some (.ref f)
  has_ratio : ∃ f fd, FunT K "ratio" (topS 11) f fd ∧ mg "ratio" = some (.ref f)
  has_ratio_sum : ∃ f fd, FunT K "ratio_sum" (topS 12) f fd ∧ mg "ratio_sum" = some (.ref f)
  has_ratio_less : ∃ f fd, FunT K "ratio_less" (topS 13) f fd ∧ mg "ratio_less" = some (.ref f)
  has_ratio_product : ∃ f fd, FunT K "ratio_product" (topS 14) f fd ∧ mg "ratio_product" = some (.ref f)
  has_ratio_back : ∃ f fd, FunT K "ratio_back" (topS 15) f fd ∧ mg "ratio_back" = some (.ref f)
  has_is_lower : ∃ f fd, FunT K "is_lower" (topS 16) f fd ∧ mg "is_lower" = some (.ref f)
  has_is_spot : ∃ f fd, FunT K "is_spot" (topS 18) f fd ∧ mg "is_spot" = some (.ref f)
  has_square_root : ∃ f fd, FunT K "square_root" (topS 20) f fd ∧ mg "square_root" = some (.ref f)
  has_plain : ∃ f fd, FunT K "plain" (topS 21) f fd ∧ mg "plain" = some (.ref f)
  has_surd_from : ∃ f fd, FunT K "surd_from" (topS 22) f fd ∧ mg "surd_from" = some (.ref f)
  has_sign_of_one : ∃ f fd, FunT K "sign_of_one" (topS 23) f fd ∧ mg "sign_of_one" = some (.ref f)
  has_sign_of_two : ∃ f fd, FunT K "sign_of_two" (topS 24) f fd ∧ mg "sign_of_two" = some (.ref f)
  has_compared : ∃ f fd, FunT K "compared" (topS 25) f fd ∧ mg "compared" = some (.ref f)
  has_bent_value : ∃ f fd, FunT K "bent_value" (topS 26) f fd ∧ mg "bent_value" = some (.ref f)
  has_bent_ratio : ∃ f fd, FunT K "bent_ratio" (topS 27) f fd ∧ mg "bent_ratio" = some (.ref f)
  has_bent_less : ∃ f fd, FunT K "bent_less" (topS 28) f fd ∧ mg "bent_less" = some (.ref f)
  has_roots_of : ∃ f fd, FunT K "roots_of" (topS 29) f fd ∧ mg "roots_of" = some (.ref f)
  has_is_in : ∃ f fd, FunT K "is_in" (topS 30) f fd ∧ mg "is_in" = some (.ref f)
  has_is_stream_pair : ∃ f fd, FunT K "is_stream_pair" (topS 32) f fd ∧ mg "is_stream_pair" = some (.ref f)
  has_check_fraction : ∃ f fd, FunT K "check_fraction" (topS 39) f fd ∧ mg "check_fraction" = some (.ref f)
  has_is_stream : ∃ f fd, FunT K "is_stream" (topS 43) f fd ∧ mg "is_stream" = some (.ref f)
  has_check_stream : ∃ f fd, FunT K "check_stream" (topS 44) f fd ∧ mg "check_stream" = some (.ref f)
  has_start_of : ∃ f fd, FunT K "start_of" (topS 45) f fd ∧ mg "start_of" = some (.ref f)
  has_heights_of : ∃ f fd, FunT K "heights_of" (topS 46) f fd ∧ mg "heights_of" = some (.ref f)
  has_times_of : ∃ f fd, FunT K "times_of" (topS 47) f fd ∧ mg "times_of" = some (.ref f)
  has_reach_of : ∃ f fd, FunT K "reach_of" (topS 48) f fd ∧ mg "reach_of" = some (.ref f)
  has_water_at : ∃ f fd, FunT K "water_at" (topS 49) f fd ∧ mg "water_at" = some (.ref f)
  has_met_at : ∃ f fd, FunT K "met_at" (topS 50) f fd ∧ mg "met_at" = some (.ref f)
  has_check_both : ∃ f fd, FunT K "check_both" (topS 51) f fd ∧ mg "check_both" = some (.ref f)
  has_meetings : ∃ f fd, FunT K "meetings" (topS 52) f fd ∧ mg "meetings" = some (.ref f)
  has_order_at : ∃ f fd, FunT K "order_at" (topS 53) f fd ∧ mg "order_at" = some (.ref f)
  has_first_there : ∃ f fd, FunT K "first_there" (topS 54) f fd ∧ mg "first_there" = some (.ref f)
  has_drops_meet : ∃ f fd, FunT K "drops_meet" (topS 55) f fd ∧ mg "drops_meet" = some (.ref f)
  has__law_well : ∃ f fd, FunT K "_law_well" (topS 57) f fd ∧ mg "_law_well" = some (.ref f)
  has__law_draw : ∃ f fd, FunT K "_law_draw" (topS 58) f fd ∧ mg "_law_draw" = some (.ref f)
  has__law_rounds : ∃ f fd, FunT K "_law_rounds" (topS 59) f fd ∧ mg "_law_rounds" = some (.ref f)
  has__law_pick : ∃ f fd, FunT K "_law_pick" (topS 60) f fd ∧ mg "_law_pick" = some (.ref f)
  has__law_common : ∃ f fd, FunT K "_law_common" (topS 61) f fd ∧ mg "_law_common" = some (.ref f)
  has__law_lean : ∃ f fd, FunT K "_law_lean" (topS 62) f fd ∧ mg "_law_lean" = some (.ref f)
  has__law_ratio : ∃ f fd, FunT K "_law_ratio" (topS 63) f fd ∧ mg "_law_ratio" = some (.ref f)
  has__law_plus : ∃ f fd, FunT K "_law_plus" (topS 64) f fd ∧ mg "_law_plus" = some (.ref f)
  has__law_less : ∃ f fd, FunT K "_law_less" (topS 65) f fd ∧ mg "_law_less" = some (.ref f)
  has__law_times : ∃ f fd, FunT K "_law_times" (topS 66) f fd ∧ mg "_law_times" = some (.ref f)
  has__law_sign : ∃ f fd, FunT K "_law_sign" (topS 68) f fd ∧ mg "_law_sign" = some (.ref f)
  has__law_order : ∃ f fd, FunT K "_law_order" (topS 67) f fd ∧ mg "_law_order" = some (.ref f)
  has__law_apart : ∃ f fd, FunT K "_law_apart" (topS 69) f fd ∧ mg "_law_apart" = some (.ref f)
  has__law_size : ∃ f fd, FunT K "_law_size" (topS 70) f fd ∧ mg "_law_size" = some (.ref f)
  has__law_part : ∃ f fd, FunT K "_law_part" (topS 71) f fd ∧ mg "_law_part" = some (.ref f)
  has__law_jet : ∃ f fd, FunT K "_law_jet" (topS 72) f fd ∧ mg "_law_jet" = some (.ref f)
  has__law_point : ∃ f fd, FunT K "_law_point" (topS 73) f fd ∧ mg "_law_point" = some (.ref f)
  has__law_curve : ∃ f fd, FunT K "_law_curve" (topS 74) f fd ∧ mg "_law_curve" = some (.ref f)
  has__law_stream : ∃ f fd, FunT K "_law_stream" (topS 75) f fd ∧ mg "_law_stream" = some (.ref f)
  has__law_far_x : ∃ f fd, FunT K "_law_far_x" (topS 76) f fd ∧ mg "_law_far_x" = some (.ref f)
  has__law_on_curve : ∃ f fd, FunT K "_law_on_curve" (topS 77) f fd ∧ mg "_law_on_curve" = some (.ref f)
  has__law_right : ∃ f fd, FunT K "_law_right" (topS 78) f fd ∧ mg "_law_right" = some (.ref f)
  has_law : ∃ f fd, FunT K "law" (topS 79) f fd ∧ mg "law" = some (.ref f)
  c_ZERO : GlobIs K mg "ZERO" v_ZERO
  c_EMPTY : GlobIs K mg "EMPTY" v_EMPTY
  g_FIRSTS : GlobDict K mg "FIRSTS" dl_FIRSTS
  bi_gcd : mg "gcd" = some (.builtin "math.gcd")
  bi_isqrt : mg "isqrt" = some (.builtin "math.isqrt")
  z_abs : mg "abs" = none
  z_all : mg "all" = none
  z_any : mg "any" = none
  z_bool : mg "bool" = none
  z_divmod : mg "divmod" = none
  z_int : mg "int" = none
  z_isinstance : mg "isinstance" = none
  z_len : mg "len" = none
  z_max : mg "max" = none
  z_min : mg "min" = none
  z_range : mg "range" = none
  z_repr : mg "repr" = none
  z_tuple : mg "tuple" = none
  z_zip : mg "zip" = none
section
variable {P : Program} {w : World} {K : PySem.W.Frag} {mg : Str → Option Value} {base : Heap}
/-! is_whole -/
abbrev s_is_whole : Stmt := topS 2
abbrev N_is_whole : List Str := ["value"]
theorem sc_is_whole : FnScope N_is_whole ["value"] (defScope s_is_whole) := ⟨rfl, rfl, rfl, by decide +kernel, rfl, by decide +kernel, by decide +kernel⟩
theorem b_is_whole : BindP "is_whole" s_is_whole ["value"] := fun _ _ _ _ _ _ us hl => match us, hl with | [_], _ => rfl
theorem ok_is_whole (T : Top K mg) : Df P w K mg base "is_whole" s_is_whole 1 ["value"] m_is_whole := by
  refine ⟨defM_ar, ?_⟩
  obtain ⟨f, fd, F, gf⟩ := T.has_is_whole
  exact ⟨f, fd, F, gf, fnG_of F sc_is_whole defM_ok fun cdv Ar outer s H E A => (pmb_one (pms_ret (pm_and (pm_isi kit_int T.z_isinstance T.z_int (by decide +kernel) (pm_var 0)) (pm_one (pm_not (pm_isi kit_bool T.z_isinstance T.z_bool (by decide +kernel) (pm_var 0)))))))⟩
/-! are_wholes -/
abbrev s_are_wholes : Stmt := topS 3
abbrev N_are_wholes : List Str := ["value", "many", "number"]
theorem sc_are_wholes : FnScope N_are_wholes ["value", "many"] (defScope s_are_wholes) := ⟨rfl, rfl, rfl, by decide +kernel, rfl, by decide +kernel, by decide +kernel⟩
theorem b_are_wholes : BindP "are_wholes" s_are_wholes ["value", "many"] := fun _ _ _ _ _ _ us hl => match us, hl with | [_, _], _ => rfl
theorem ok_are_wholes (T : Top K mg) : Df P w K mg base "are_wholes" s_are_wholes 2 ["value", "many"] m_are_wholes := by
  refine ⟨defM_ar, ?_⟩
  obtain ⟨f, fd, F, gf⟩ := T.has_are_wholes
  exact ⟨f, fd, F, gf, fnG_of F sc_are_wholes defM_ok fun cdv Ar outer s H E A => (pmb_one (pms_ret (pm_and (pm_isi kit_tuple T.z_isinstance T.z_tuple (by decide +kernel) (pm_var 0)) (pm_and (pm_cmp (o_eq A.u) (pm_bi c_len T.z_len (by decide +kernel) (pma_cons (pm_var 0) pma_nil)) (pm_var 1) (nomark _)) (pm_one (pm_bi (c_all rfl) T.z_all (by decide +kernel) (pma_cons (pm_lc [("number", 2)] rfl sc_are_wholes.nd (blkOk_by (own := [("number", 2)]) (N := N_are_wholes) (sc := defScope s_are_wholes) (by decide +kernel)) (pmi_seq (pm_var 0)) (fun _ _ _ _ _ => (pmf_name 2 sc_are_wholes.nd)) (fun _ _ _ _ _ => pbs_nil) (fun _ _ _ _ _ => (pm_call A.blk (ok_is_whole T) b_is_whole (by decide) (pma_cons (pm_var 2) pma_nil)))) pma_nil)))))))⟩
/-! is_between -/
abbrev s_is_between : Stmt := topS 4
abbrev N_is_between : List Str := ["value", "low", "high"]
theorem sc_is_between : FnScope N_is_between ["value", "low", "high"] (defScope s_is_between) := ⟨rfl, rfl, rfl, by decide +kernel, rfl, by decide +kernel, by decide +kernel⟩
theorem b_is_between : BindP "is_between" s_is_between ["value", "low", "high"] := fun _ _ _ _ _ _ us hl => match us, hl with | [_, _, _], _ => rfl
theorem ok_is_between (T : Top K mg) : Df P w K mg base "is_between" s_is_between 2 ["value", "low", "high"] m_is_between := by
  refine ⟨defM_ar, ?_⟩
  obtain ⟨f, fd, F, gf⟩ := T.has_is_between
  exact ⟨f, fd, F, gf, fnG_of F sc_is_between defM_ok fun cdv Ar outer s H E A => (pmb_one (pms_ret (pm_and (pm_call A (ok_is_whole T) b_is_whole (by decide) (pma_cons (pm_var 0) pma_nil)) (pm_one (pm_chain o_le o_le (pm_var 1) (pm_var 0) (pm_var 2))))))⟩
/-! divisor_of -/
abbrev s_divisor_of : Stmt := topS 5
abbrev N_divisor_of : List Str := ["numbers", "found", "number"]
theorem sc_divisor_of : FnScope N_divisor_of ["numbers"] (defScope s_divisor_of) := ⟨rfl, rfl, rfl, by decide +kernel, rfl, by decide +kernel, by decide +kernel⟩
theorem b_divisor_of : BindP "divisor_of" s_divisor_of ["numbers"] := fun _ _ _ _ _ _ us hl => match us, hl with | [_], _ => rfl
theorem ok_divisor_of (T : Top K mg) : Df P w K mg base "divisor_of" s_divisor_of 1 ["numbers"] m_divisor_of := by
  refine ⟨defM_ar, ?_⟩
  obtain ⟨f, fd, F, gf⟩ := T.has_divisor_of
  exact ⟨f, fd, F, gf, fnG_of F sc_divisor_of defM_ok fun cdv Ar outer s H E A => (pmb_cons (pms_set 1 sc_divisor_of.nd pm_int)
    (pmb_cons (pms_for (passes_of rfl) rfl (pmi_seq (pm_var 0)) (pmg_name 2 sc_divisor_of.nd) (pmb_one (pms_set 1 sc_divisor_of.nd (pm_fun c_gcd T.bi_gcd (pma_cons (pm_var 1) (pma_cons (pm_var 2) pma_nil))))))
    (pmb_one (pms_ret (pm_var 1)))))⟩
/-! is_reduced -/
abbrev s_is_reduced : Stmt := topS 6
abbrev N_is_reduced : List Str := ["numbers"]
theorem sc_is_reduced : FnScope N_is_reduced ["numbers"] (defScope s_is_reduced) := ⟨rfl, rfl, rfl, by decide +kernel, rfl, by decide +kernel, by decide +kernel⟩
theorem b_is_reduced : BindP "is_reduced" s_is_reduced ["numbers"] := fun _ _ _ _ _ _ us hl => match us, hl with | [_], _ => rfl
theorem ok_is_reduced (T : Top K mg) : Df P w K mg base "is_reduced" s_is_reduced 2 ["numbers"] m_is_reduced := by
  refine ⟨defM_ar, ?_⟩
  obtain ⟨f, fd, F, gf⟩ := T.has_is_reduced
  exact ⟨f, fd, F, gf, fnG_of F sc_is_reduced defM_ok fun cdv Ar outer s H E A => (pmb_one (pms_ret (pm_cmp (o_eq A.u) (pm_call A (ok_divisor_of T) b_divisor_of (by decide) (pma_cons (pm_var 0) pma_nil)) pm_int (nomark _))))⟩
/-! sign_of -/
abbrev s_sign_of : Stmt := topS 7
abbrev N_sign_of : List Str := ["number"]
theorem sc_sign_of : FnScope N_sign_of ["number"] (defScope s_sign_of) := ⟨rfl, rfl, rfl, by decide +kernel, rfl, by decide +kernel, by decide +kernel⟩
theorem b_sign_of : BindP "sign_of" s_sign_of ["number"] := fun _ _ _ _ _ _ us hl => match us, hl with | [_], _ => rfl
theorem ok_sign_of (T : Top K mg) : Df P w K mg base "sign_of" s_sign_of 1 ["number"] m_sign_of := by
  refine ⟨defM_ar, ?_⟩
  obtain ⟨f, fd, F, gf⟩ := T.has_sign_of
  exact ⟨f, fd, F, gf, fnG_of F sc_sign_of defM_ok fun cdv Ar outer s H E A => (pmb_one (pms_ret (pm_if (pb_cmp o_gt (pm_var 0) pm_int (nomark _)) pm_int (pm_if (pb_cmp o_lt (pm_var 0) pm_int (nomark _)) (pm_un o_neg pm_int) pm_int))))⟩
/-! is_ratio -/
abbrev s_is_ratio : Stmt := topS 10
abbrev N_is_ratio : List Str := ["value"]
theorem sc_is_ratio : FnScope N_is_ratio ["value"] (defScope s_is_ratio) := ⟨rfl, rfl, rfl, by decide +kernel, rfl, by decide +kernel, by decide +kernel⟩
theorem b_is_ratio : BindP "is_ratio" s_is_ratio ["value"] := fun _ _ _ _ _ _ us hl => match us, hl with | [_], _ => rfl
theorem ok_is_ratio (T : Top K mg) : Df P w K mg base "is_ratio" s_is_ratio 3 ["value"] m_is_ratio := by
  refine ⟨defM_ar, ?_⟩
  obtain ⟨f, fd, F, gf⟩ := T.has_is_ratio
  exact ⟨f, fd, F, gf, fnG_of F sc_is_ratio defM_ok fun cdv Ar outer s H E A => (pmb_one (pms_ret (pm_and (pm_call A (ok_are_wholes T) b_are_wholes (by decide) (pma_cons (pm_var 0) (pma_cons pm_int pma_nil))) (pm_and (pm_cmp o_gt (pm_ix (pm_var 0) pm_int) pm_int (nomark _)) (pm_one (pm_call A (ok_is_reduced T) b_is_reduced (by decide) (pma_cons (pm_var 0) pma_nil)))))))⟩
/-! ratio -/
abbrev s_ratio : Stmt := topS 11
abbrev N_ratio : List Str := ["number", "under", "part"]
theorem sc_ratio : FnScope N_ratio ["number", "under"] (defScope s_ratio) := ⟨rfl, rfl, rfl, by decide +kernel, rfl, by decide +kernel, by decide +kernel⟩
theorem b_ratio : BindP "ratio" s_ratio ["number", "under"] := fun _ _ _ _ _ _ us hl => match us, hl with | [_, _], _ => rfl
theorem ok_ratio (T : Top K mg) : Df P w K mg base "ratio" s_ratio 2 ["number", "under"] m_ratio := by
  refine ⟨defM_ar, ?_⟩
  obtain ⟨f, fd, F, gf⟩ := T.has_ratio
  exact ⟨f, fd, F, gf, fnG_of F sc_ratio defM_ok fun cdv Ar outer s H E A => (pmb_cons (pms_set 2 sc_ratio.nd (pm_call A (ok_divisor_of T) b_divisor_of (by decide) (pma_cons (pm_tup (pma_cons (pm_var 0) (pma_cons (pm_var 1) pma_nil))) pma_nil)))
    (pmb_cons (pms_set 2 sc_ratio.nd (pm_if (pb_cmp o_gt (pm_var 1) pm_int (nomark _)) (pm_var 2) (pm_un o_neg (pm_var 2))))
    (pmb_one (pms_ret (pm_tup (pma_cons (pm_op o_fdiv (pm_var 0) (pm_var 2)) (pma_cons (pm_op o_fdiv (pm_var 1) (pm_var 2)) pma_nil)))))))⟩
/-! ratio_sum -/
abbrev s_ratio_sum : Stmt := topS 12
abbrev N_ratio_sum : List Str := ["one", "two"]
theorem sc_ratio_sum : FnScope N_ratio_sum ["one", "two"] (defScope s_ratio_sum) := ⟨rfl, rfl, rfl, by decide +kernel, rfl, by decide +kernel, by decide +kernel⟩
theorem b_ratio_sum : BindP "ratio_sum" s_ratio_sum ["one", "two"] := fun _ _ _ _ _ _ us hl => match us, hl with | [_, _], _ => rfl
theorem ok_ratio_sum (T : Top K mg) : Df P w K mg base "ratio_sum" s_ratio_sum 3 ["one", "two"] m_ratio_sum := by
  refine ⟨defM_ar, ?_⟩
  obtain ⟨f, fd, F, gf⟩ := T.has_ratio_sum
  exact ⟨f, fd, F, gf, fnG_of F sc_ratio_sum defM_ok fun cdv Ar outer s H E A => (pmb_one (pms_ret (pm_call A (ok_ratio T) b_ratio (by decide) (pma_cons (pm_op o_add (pm_op o_mul (pm_ix (pm_var 0) pm_int) (pm_ix (pm_var 1) pm_int)) (pm_op o_mul (pm_ix (pm_var 1) pm_int) (pm_ix (pm_var 0) pm_int))) (pma_cons (pm_op o_mul (pm_ix (pm_var 0) pm_int) (pm_ix (pm_var 1) pm_int)) pma_nil)))))⟩
/-! ratio_less -/
abbrev s_ratio_less : Stmt := topS 13
abbrev N_ratio_less : List Str := ["one", "two"]
theorem sc_ratio_less : FnScope N_ratio_less ["one", "two"] (defScope s_ratio_less) := ⟨rfl, rfl, rfl, by decide +kernel, rfl, by decide +kernel, by decide +kernel⟩
theorem b_ratio_less : BindP "ratio_less" s_ratio_less ["one", "two"] := fun _ _ _ _ _ _ us hl => match us, hl with | [_, _], _ => rfl
theorem ok_ratio_less (T : Top K mg) : Df P w K mg base "ratio_less" s_ratio_less 3 ["one", "two"] m_ratio_less := by
  refine ⟨defM_ar, ?_⟩
  obtain ⟨f, fd, F, gf⟩ := T.has_ratio_less
  exact ⟨f, fd, F, gf, fnG_of F sc_ratio_less defM_ok fun cdv Ar outer s H E A => (pmb_one (pms_ret (pm_call A (ok_ratio T) b_ratio (by decide) (pma_cons (pm_op o_sub (pm_op o_mul (pm_ix (pm_var 0) pm_int) (pm_ix (pm_var 1) pm_int)) (pm_op o_mul (pm_ix (pm_var 1) pm_int) (pm_ix (pm_var 0) pm_int))) (pma_cons (pm_op o_mul (pm_ix (pm_var 0) pm_int) (pm_ix (pm_var 1) pm_int)) pma_nil)))))⟩
/-! ratio_product -/
abbrev s_ratio_product : Stmt := topS 14
abbrev N_ratio_product : List Str := ["one", "two"]
theorem sc_ratio_product : FnScope N_ratio_product ["one", "two"] (defScope s_ratio_product) := ⟨rfl, rfl, rfl, by decide +kernel, rfl, by decide +kernel, by decide +kernel⟩
theorem b_ratio_product : BindP "ratio_product" s_ratio_product ["one", "two"] := fun _ _ _ _ _ _ us hl => match us, hl with | [_, _], _ => rfl
theorem ok_ratio_product (T : Top K mg) : Df P w K mg base "ratio_product" s_ratio_product 3 ["one", "two"] m_ratio_product := by
  refine ⟨defM_ar, ?_⟩
  obtain ⟨f, fd, F, gf⟩ := T.has_ratio_product
  exact ⟨f, fd, F, gf, fnG_of F sc_ratio_product defM_ok fun cdv Ar outer s H E A => (pmb_one (pms_ret (pm_call A (ok_ratio T) b_ratio (by decide) (pma_cons (pm_op o_mul (pm_ix (pm_var 0) pm_int) (pm_ix (pm_var 1) pm_int)) (pma_cons (pm_op o_mul (pm_ix (pm_var 0) pm_int) (pm_ix (pm_var 1) pm_int)) pma_nil)))))⟩
/-! ratio_back -/
abbrev s_ratio_back : Stmt := topS 15
abbrev N_ratio_back : List Str := ["one"]
theorem sc_ratio_back : FnScope N_ratio_back ["one"] (defScope s_ratio_back) := ⟨rfl, rfl, rfl, by decide +kernel, rfl, by decide +kernel, by decide +kernel⟩
theorem b_ratio_back : BindP "ratio_back" s_ratio_back ["one"] := fun _ _ _ _ _ _ us hl => match us, hl with | [_], _ => rfl
theorem ok_ratio_back (T : Top K mg) : Df P w K mg base "ratio_back" s_ratio_back 1 ["one"] m_ratio_back := by
  refine ⟨defM_ar, ?_⟩
  obtain ⟨f, fd, F, gf⟩ := T.has_ratio_back
  exact ⟨f, fd, F, gf, fnG_of F sc_ratio_back defM_ok fun cdv Ar outer s H E A => (pmb_one (pms_ret (pm_tup (pma_cons (pm_un o_neg (pm_ix (pm_var 0) pm_int)) (pma_cons (pm_ix (pm_var 0) pm_int) pma_nil)))))⟩
/-! is_lower -/
abbrev s_is_lower : Stmt := topS 16
abbrev N_is_lower : List Str := ["one", "two"]
theorem sc_is_lower : FnScope N_is_lower ["one", "two"] (defScope s_is_lower) := ⟨rfl, rfl, rfl, by decide +kernel, rfl, by decide +kernel, by decide +kernel⟩
theorem b_is_lower : BindP "is_lower" s_is_lower ["one", "two"] := fun _ _ _ _ _ _ us hl => match us, hl with | [_, _], _ => rfl
theorem ok_is_lower (T : Top K mg) : Df P w K mg base "is_lower" s_is_lower 1 ["one", "two"] m_is_lower := by
  refine ⟨defM_ar, ?_⟩
  obtain ⟨f, fd, F, gf⟩ := T.has_is_lower
  exact ⟨f, fd, F, gf, fnG_of F sc_is_lower defM_ok fun cdv Ar outer s H E A => (pmb_one (pms_ret (pm_cmp o_lt (pm_op o_mul (pm_ix (pm_var 0) pm_int) (pm_ix (pm_var 1) pm_int)) (pm_op o_mul (pm_ix (pm_var 1) pm_int) (pm_ix (pm_var 0) pm_int)) (nomark _))))⟩
/-! is_spot -/
abbrev s_is_spot : Stmt := topS 18
abbrev N_is_spot : List Str := ["value"]
theorem sc_is_spot : FnScope N_is_spot ["value"] (defScope s_is_spot) := ⟨rfl, rfl, rfl, by decide +kernel, rfl, by decide +kernel, by decide +kernel⟩
theorem b_is_spot : BindP "is_spot" s_is_spot ["value"] := fun _ _ _ _ _ _ us hl => match us, hl with | [_], _ => rfl
theorem ok_is_spot (T : Top K mg) : Df P w K mg base "is_spot" s_is_spot 3 ["value"] m_is_spot := by
  refine ⟨defM_ar, ?_⟩
  obtain ⟨f, fd, F, gf⟩ := T.has_is_spot
  exact ⟨f, fd, F, gf, fnG_of F sc_is_spot defM_ok fun cdv Ar outer s H E A => (pmb_one (pms_ret (pm_and (pm_call A (ok_are_wholes T) b_are_wholes (by decide) (pma_cons (pm_var 0) (pma_cons pm_int pma_nil))) (pm_and (pm_cmp o_gt (pm_ix (pm_var 0) pm_int) pm_int (nomark _)) (pm_one (pm_call A (ok_is_reduced T) b_is_reduced (by decide) (pma_cons (pm_var 0) pma_nil)))))))⟩
/-! square_root -/
abbrev s_square_root : Stmt := topS 20
abbrev N_square_root : List Str := ["number", "top", "below"]
theorem sc_square_root : FnScope N_square_root ["number"] (defScope s_square_root) := ⟨rfl, rfl, rfl, by decide +kernel, rfl, by decide +kernel, by decide +kernel⟩
theorem b_square_root : BindP "square_root" s_square_root ["number"] := fun _ _ _ _ _ _ us hl => match us, hl with | [_], _ => rfl
theorem ok_square_root (T : Top K mg) : Df P w K mg base "square_root" s_square_root 1 ["number"] m_square_root := by
  refine ⟨defM_ar, ?_⟩
  obtain ⟨f, fd, F, gf⟩ := T.has_square_root
  exact ⟨f, fd, F, gf, fnG_of F sc_square_root defM_ok fun cdv Ar outer s H E A => (pmb_cons (pms_par rfl sc_square_root.nd (pma_cons (pm_fun c_isqrt T.bi_isqrt (pma_cons (pm_ix (pm_var 0) pm_int) pma_nil)) (pma_cons (pm_fun c_isqrt T.bi_isqrt (pma_cons (pm_ix (pm_var 0) pm_int) pma_nil)) pma_nil)))
    (pmb_one (pms_ret (pm_if (PW.pt (pbw_and (pb_cmp (o_eq A.u) (pm_op o_mul (pm_var 1) (pm_var 1)) (pm_ix (pm_var 0) pm_int) (nomark _)) (pw1_and (pb_cmp (o_eq A.u) (pm_op o_mul (pm_var 2) (pm_var 2)) (pm_ix (pm_var 0) pm_int) (nomark _))))) (pm_tup (pma_cons (pm_var 1) (pma_cons (pm_var 2) pma_nil))) pm_non))))⟩
/-! plain -/
abbrev s_plain : Stmt := topS 21
abbrev N_plain : List Str := ["number"]
theorem sc_plain : FnScope N_plain ["number"] (defScope s_plain) := ⟨rfl, rfl, rfl, by decide +kernel, rfl, by decide +kernel, by decide +kernel⟩
theorem b_plain : BindP "plain" s_plain ["number"] := fun _ _ _ _ _ _ us hl => match us, hl with | [_], _ => rfl
theorem ok_plain (T : Top K mg) : Df P w K mg base "plain" s_plain 1 ["number"] m_plain := by
  refine ⟨defM_ar, ?_⟩
  obtain ⟨f, fd, F, gf⟩ := T.has_plain
  exact ⟨f, fd, F, gf, fnG_of F sc_plain defM_ok fun cdv Ar outer s H E A => (pmb_one (pms_ret (pm_tup (pma_cons (pm_var 0) (pma_cons pm_int (pma_cons (pm_glob T.c_ZERO rfl) pma_nil))))))⟩
/-! surd_from -/
abbrev s_surd_from : Stmt := topS 22
abbrev N_surd_from : List Str := ["part", "factor", "square", "whole", "root", "way"]
theorem sc_surd_from : FnScope N_surd_from ["part", "factor", "square"] (defScope s_surd_from) := ⟨rfl, rfl, rfl, by decide +kernel, rfl, by decide +kernel, by decide +kernel⟩
theorem b_surd_from : BindP "surd_from" s_surd_from ["part", "factor", "square"] := fun _ _ _ _ _ _ us hl => match us, hl with | [_, _, _], _ => rfl
theorem ok_surd_from (T : Top K mg) : Df P w K mg base "surd_from" s_surd_from 4 ["part", "factor", "square"] m_surd_from := by
  refine ⟨defM_ar, ?_⟩
  obtain ⟨f, fd, F, gf⟩ := T.has_surd_from
  exact ⟨f, fd, F, gf, fnG_of F sc_surd_from defM_ok fun cdv Ar outer s H E A => (pmb_cons (pms_set 3 sc_surd_from.nd (pm_call A (ok_ratio_product T) b_ratio_product (by decide) (pma_cons (pm_call A (ok_ratio_product T) b_ratio_product (by decide) (pma_cons (pm_var 1) (pma_cons (pm_var 1) pma_nil))) (pma_cons (pm_var 2) pma_nil))))
    (pmb_cons (pms_par rfl sc_surd_from.nd (pma_cons (pm_call A (ok_square_root T) b_square_root (by decide) (pma_cons (pm_var 3) pma_nil)) (pma_cons (pm_call A (ok_sign_of T) b_sign_of (by decide) (pma_cons (pm_ix (pm_var 1) pm_int) pma_nil)) pma_nil)))
    (pmb_cons (pms_if (pb_cmp o_isN (pm_var 4) pm_non (nomark _)) (pmb_one (pms_ret (pm_tup (pma_cons (pm_var 0) (pma_cons (pm_var 5) (pma_cons (pm_var 3) pma_nil)))))) pmb_nil)
    (pmb_one (pms_ret (pm_call A (ok_plain T) b_plain (by decide) (pma_cons (pm_call A (ok_ratio_sum T) b_ratio_sum (by decide) (pma_cons (pm_var 0) (pma_cons (pm_tup (pma_cons (pm_op o_mul (pm_var 5) (pm_ix (pm_var 4) pm_int)) (pma_cons (pm_ix (pm_var 4) pm_int) pma_nil))) pma_nil))) pma_nil)))))))⟩
/-! sign_of_one -/
abbrev s_sign_of_one : Stmt := topS 23
abbrev N_sign_of_one : List Str := ["p", "q", "r", "first", "second"]
theorem sc_sign_of_one : FnScope N_sign_of_one ["p", "q", "r"] (defScope s_sign_of_one) := ⟨rfl, rfl, rfl, by decide +kernel, rfl, by decide +kernel, by decide +kernel⟩
theorem b_sign_of_one : BindP "sign_of_one" s_sign_of_one ["p", "q", "r"] := fun _ _ _ _ _ _ us hl => match us, hl with | [_, _, _], _ => rfl
theorem ok_sign_of_one (T : Top K mg) : Df P w K mg base "sign_of_one" s_sign_of_one 2 ["p", "q", "r"] m_sign_of_one := by
  refine ⟨defM_ar, ?_⟩
  obtain ⟨f, fd, F, gf⟩ := T.has_sign_of_one
  exact ⟨f, fd, F, gf, fnG_of F sc_sign_of_one defM_ok fun cdv Ar outer s H E A => (pmb_cons (pms_par rfl sc_sign_of_one.nd (pma_cons (pm_call A (ok_sign_of T) b_sign_of (by decide) (pma_cons (pm_var 0) pma_nil)) (pma_cons (pm_if (pb_cmp o_gt (pm_var 2) pm_int (nomark _)) (pm_call A (ok_sign_of T) b_sign_of (by decide) (pma_cons (pm_var 1) pma_nil)) pm_int) pma_nil)))
    (pmb_cons (pms_if (PW.pt (pbw_or (pb_cmp (o_eq A.u) (pm_var 3) pm_int (nomark _)) (pbw_or (pb_cmp (o_eq A.u) (pm_var 4) pm_int (nomark _)) (pw1_or (pb_cmp (o_eq A.u) (pm_var 3) (pm_var 4) (nomark _)))))) (pmb_one (pms_ret (pm_if (pb_cmp (o_ne A.u) (pm_var 3) pm_int (nomark _)) (pm_var 3) (pm_var 4)))) pmb_nil)
    (pmb_one (pms_ret (pm_op o_mul (pm_var 3) (pm_call A (ok_sign_of T) b_sign_of (by decide) (pma_cons (pm_op o_sub (pm_op o_mul (pm_var 0) (pm_var 0)) (pm_op o_mul (pm_op o_mul (pm_var 1) (pm_var 1)) (pm_var 2))) pma_nil)))))))⟩
/-! sign_of_two -/
abbrev s_sign_of_two : Stmt := topS 24
abbrev N_sign_of_two : List Str := ["p", "q", "r", "s", "t", "first", "second"]
theorem sc_sign_of_two : FnScope N_sign_of_two ["p", "q", "r", "s", "t"] (defScope s_sign_of_two) := ⟨rfl, rfl, rfl, by decide +kernel, rfl, by decide +kernel, by decide +kernel⟩
theorem b_sign_of_two : BindP "sign_of_two" s_sign_of_two ["p", "q", "r", "s", "t"] := fun _ _ _ _ _ _ us hl => match us, hl with | [_, _, _, _, _], _ => rfl
theorem ok_sign_of_two (T : Top K mg) : Df P w K mg base "sign_of_two" s_sign_of_two 3 ["p", "q", "r", "s", "t"] m_sign_of_two := by
  refine ⟨defM_ar, ?_⟩
  obtain ⟨f, fd, F, gf⟩ := T.has_sign_of_two
  exact ⟨f, fd, F, gf, fnG_of F sc_sign_of_two defM_ok fun cdv Ar outer s H E A => (pmb_cons (pms_par rfl sc_sign_of_two.nd (pma_cons (pm_call A (ok_sign_of_one T) b_sign_of_one (by decide) (pma_cons (pm_var 0) (pma_cons (pm_var 1) (pma_cons (pm_var 2) pma_nil)))) (pma_cons (pm_if (pb_cmp o_gt (pm_var 4) pm_int (nomark _)) (pm_call A (ok_sign_of T) b_sign_of (by decide) (pma_cons (pm_var 3) pma_nil)) pm_int) pma_nil)))
    (pmb_cons (pms_if (PW.pt (pbw_or (pb_cmp (o_eq A.u) (pm_var 5) pm_int (nomark _)) (pbw_or (pb_cmp (o_eq A.u) (pm_var 6) pm_int (nomark _)) (pw1_or (pb_cmp (o_eq A.u) (pm_var 5) (pm_var 6) (nomark _)))))) (pmb_one (pms_ret (pm_if (pb_cmp (o_ne A.u) (pm_var 5) pm_int (nomark _)) (pm_var 5) (pm_var 6)))) pmb_nil)
    (pmb_one (pms_ret (pm_op o_mul (pm_var 5) (pm_call A (ok_sign_of_one T) b_sign_of_one (by decide) (pma_cons (pm_op o_sub (pm_op o_add (pm_op o_mul (pm_var 0) (pm_var 0)) (pm_op o_mul (pm_op o_mul (pm_var 1) (pm_var 1)) (pm_var 2))) (pm_op o_mul (pm_op o_mul (pm_var 3) (pm_var 3)) (pm_var 4))) (pma_cons (pm_op o_mul (pm_op o_mul pm_int (pm_var 0)) (pm_var 1)) (pma_cons (pm_var 2) pma_nil)))))))))⟩
/-! compared -/
abbrev s_compared : Stmt := topS 25
abbrev N_compared : List Str := ["one", "two", "p", "q", "e", "r", "s", "k", "m", "f", "u", "v"]
theorem sc_compared : FnScope N_compared ["one", "two"] (defScope s_compared) := ⟨rfl, rfl, rfl, by decide +kernel, rfl, by decide +kernel, by decide +kernel⟩
theorem b_compared : BindP "compared" s_compared ["one", "two"] := fun _ _ _ _ _ _ us hl => match us, hl with | [_, _], _ => rfl
theorem ok_compared (T : Top K mg) : Df P w K mg base "compared" s_compared 4 ["one", "two"] m_compared := by
  refine ⟨defM_ar, ?_⟩
  obtain ⟨f, fd, F, gf⟩ := T.has_compared
  exact ⟨f, fd, F, gf, fnG_of F sc_compared defM_ok fun cdv Ar outer s H E A => (pmb_cons (pms_asg (pm_var 0) (pmg_tup rfl (pmgs_cons (pmg_tup rfl (pmgs_cons (pmg_name 2 sc_compared.nd) (pmgs_cons (pmg_name 3 sc_compared.nd) pmgs_nil))) (pmgs_cons (pmg_name 4 sc_compared.nd) (pmgs_cons (pmg_tup rfl (pmgs_cons (pmg_name 5 sc_compared.nd) (pmgs_cons (pmg_name 6 sc_compared.nd) pmgs_nil))) pmgs_nil)))))
    (pmb_cons (pms_asg (pm_var 1) (pmg_tup rfl (pmgs_cons (pmg_tup rfl (pmgs_cons (pmg_name 7 sc_compared.nd) (pmgs_cons (pmg_name 8 sc_compared.nd) pmgs_nil))) (pmgs_cons (pmg_name 9 sc_compared.nd) (pmgs_cons (pmg_tup rfl (pmgs_cons (pmg_name 10 sc_compared.nd) (pmgs_cons (pmg_name 11 sc_compared.nd) pmgs_nil))) pmgs_nil)))))
    (pmb_cons (pms_if (PW.pt (pbw_and (pb_cmp (o_eq A.u) (pm_var 4) pm_int (nomark _)) (pw1_and (pb_cmp (o_eq A.u) (pm_var 9) pm_int (nomark _))))) (pmb_one (pms_ret (pm_call A (ok_sign_of T) b_sign_of (by decide) (pma_cons (pm_op o_sub (pm_op o_mul (pm_var 2) (pm_var 8)) (pm_op o_mul (pm_var 7) (pm_var 3))) pma_nil)))) pmb_nil)
    (pmb_one (pms_ret (pm_call A (ok_sign_of_two T) b_sign_of_two (by decide) (pma_cons (pm_op o_mul (pm_op o_mul (pm_op o_sub (pm_op o_mul (pm_var 2) (pm_var 8)) (pm_op o_mul (pm_var 7) (pm_var 3))) (pm_var 6)) (pm_var 11)) (pma_cons (pm_op o_mul (pm_op o_mul (pm_op o_mul (pm_var 4) (pm_var 3)) (pm_var 8)) (pm_var 11)) (pma_cons (pm_op o_mul (pm_var 5) (pm_var 6)) (pma_cons (pm_op o_mul (pm_op o_mul (pm_op o_mul (pm_un o_neg (pm_var 9)) (pm_var 3)) (pm_var 8)) (pm_var 6)) (pma_cons (pm_op o_mul (pm_var 10) (pm_var 11)) pma_nil)))))))))))⟩
/-! bent_value -/
abbrev s_bent_value : Stmt := topS 26
abbrev N_bent_value : List Str := ["bent", "surd", "first", "second", "third", "part", "way", "square", "both", "fixed", "factor"]
theorem sc_bent_value : FnScope N_bent_value ["bent", "surd"] (defScope s_bent_value) := ⟨rfl, rfl, rfl, by decide +kernel, rfl, by decide +kernel, by decide +kernel⟩
theorem b_bent_value : BindP "bent_value" s_bent_value ["bent", "surd"] := fun _ _ _ _ _ _ us hl => match us, hl with | [_, _], _ => rfl
theorem ok_bent_value (T : Top K mg) : Df P w K mg base "bent_value" s_bent_value 5 ["bent", "surd"] m_bent_value := by
  refine ⟨defM_ar, ?_⟩
  obtain ⟨f, fd, F, gf⟩ := T.has_bent_value
  exact ⟨f, fd, F, gf, fnG_of F sc_bent_value defM_ok fun cdv Ar outer s H E A => (pmb_cons (pms_asg (pm_var 0) (pmg_tup rfl (pmgs_cons (pmg_name 2 sc_bent_value.nd) (pmgs_cons (pmg_name 3 sc_bent_value.nd) (pmgs_cons (pmg_name 4 sc_bent_value.nd) pmgs_nil)))))
    (pmb_cons (pms_asg (pm_var 1) (pmg_tup rfl (pmgs_cons (pmg_name 5 sc_bent_value.nd) (pmgs_cons (pmg_name 6 sc_bent_value.nd) (pmgs_cons (pmg_name 7 sc_bent_value.nd) pmgs_nil)))))
    (pmb_cons (pms_set 8 sc_bent_value.nd (pm_call A (ok_ratio_sum T) b_ratio_sum (by decide) (pma_cons (pm_call A (ok_ratio_product T) b_ratio_product (by decide) (pma_cons (pm_var 5) (pma_cons (pm_var 5) pma_nil))) (pma_cons (pm_call A (ok_ratio_product T) b_ratio_product (by decide) (pma_cons (pm_tup (pma_cons (pm_op o_mul (pm_var 6) (pm_var 6)) (pma_cons pm_int pma_nil))) (pma_cons (pm_var 7) pma_nil))) pma_nil))))
    (pmb_cons (pms_set 9 sc_bent_value.nd (pm_call A (ok_ratio_sum T) b_ratio_sum (by decide) (pma_cons (pm_call A (ok_ratio_sum T) b_ratio_sum (by decide) (pma_cons (pm_var 2) (pma_cons (pm_call A (ok_ratio_product T) b_ratio_product (by decide) (pma_cons (pm_var 3) (pma_cons (pm_var 5) pma_nil))) pma_nil))) (pma_cons (pm_call A (ok_ratio_product T) b_ratio_product (by decide) (pma_cons (pm_var 4) (pma_cons (pm_var 8) pma_nil))) pma_nil))))
    (pmb_cons (pms_set 10 sc_bent_value.nd (pm_call A (ok_ratio_sum T) b_ratio_sum (by decide) (pma_cons (pm_var 3) (pma_cons (pm_call A (ok_ratio_product T) b_ratio_product (by decide) (pma_cons (pm_call A (ok_ratio_product T) b_ratio_product (by decide) (pma_cons (pm_tup (pma_cons pm_int (pma_cons pm_int pma_nil))) (pma_cons (pm_var 4) pma_nil))) (pma_cons (pm_var 5) pma_nil))) pma_nil))))
    (pmb_one (pms_ret (pm_call A (ok_surd_from T) b_surd_from (by decide) (pma_cons (pm_var 9) (pma_cons (pm_call A (ok_ratio_product T) b_ratio_product (by decide) (pma_cons (pm_var 10) (pma_cons (pm_tup (pma_cons (pm_var 6) (pma_cons pm_int pma_nil))) pma_nil))) (pma_cons (pm_var 7) pma_nil)))))))))))⟩
/-! bent_ratio -/
abbrev s_bent_ratio : Stmt := topS 27
abbrev N_bent_ratio : List Str := ["bent", "number"]
theorem sc_bent_ratio : FnScope N_bent_ratio ["bent", "number"] (defScope s_bent_ratio) := ⟨rfl, rfl, rfl, by decide +kernel, rfl, by decide +kernel, by decide +kernel⟩
theorem b_bent_ratio : BindP "bent_ratio" s_bent_ratio ["bent", "number"] := fun _ _ _ _ _ _ us hl => match us, hl with | [_, _], _ => rfl
theorem ok_bent_ratio (T : Top K mg) : Df P w K mg base "bent_ratio" s_bent_ratio 4 ["bent", "number"] m_bent_ratio := by
  refine ⟨defM_ar, ?_⟩
  obtain ⟨f, fd, F, gf⟩ := T.has_bent_ratio
  exact ⟨f, fd, F, gf, fnG_of F sc_bent_ratio defM_ok fun cdv Ar outer s H E A => (pmb_one (pms_ret (pm_call A (ok_ratio_sum T) b_ratio_sum (by decide) (pma_cons (pm_ix (pm_var 0) pm_int) (pma_cons (pm_call A (ok_ratio_product T) b_ratio_product (by decide) (pma_cons (pm_var 1) (pma_cons (pm_call A (ok_ratio_sum T) b_ratio_sum (by decide) (pma_cons (pm_ix (pm_var 0) pm_int) (pma_cons (pm_call A (ok_ratio_product T) b_ratio_product (by decide) (pma_cons (pm_ix (pm_var 0) pm_int) (pma_cons (pm_var 1) pma_nil))) pma_nil))) pma_nil))) pma_nil)))))⟩
/-! bent_less -/
abbrev s_bent_less : Stmt := topS 28
abbrev N_bent_less : List Str := ["one", "two", "first", "second"]
theorem sc_bent_less : FnScope N_bent_less ["one", "two"] (defScope s_bent_less) := ⟨rfl, rfl, rfl, by decide +kernel, rfl, by decide +kernel, by decide +kernel⟩
theorem b_bent_less : BindP "bent_less" s_bent_less ["one", "two"] := fun _ _ _ _ _ _ us hl => match us, hl with | [_, _], _ => rfl
theorem ok_bent_less (T : Top K mg) : Df P w K mg base "bent_less" s_bent_less 4 ["one", "two"] m_bent_less := by
  refine ⟨defM_ar, ?_⟩
  obtain ⟨f, fd, F, gf⟩ := T.has_bent_less
  exact ⟨f, fd, F, gf, fnG_of F sc_bent_less defM_ok fun cdv Ar outer s H E A => (pmb_one (pms_ret (pm_ty c_tuple T.z_tuple (by decide +kernel) (pma_cons (pm_lc [("first", 2), ("second", 3)] rfl sc_bent_less.nd (blkOk_by (own := [("first", 2), ("second", 3)]) (N := N_bent_less) (sc := defScope s_bent_less) (by decide +kernel)) (pmi_zip T.z_zip (pma_cons (pm_var 0) (pma_cons (pm_var 1) pma_nil))) (fun _ _ _ _ _ => (pmf_tup rfl (pmfs_cons (pmf_name 2 sc_bent_less.nd) (pmfs_cons (pmf_name 3 sc_bent_less.nd) pmfs_nil)))) (fun _ _ _ _ _ => pbs_nil) (fun _ _ _ _ _ => (pm_call A.blk (ok_ratio_sum T) b_ratio_sum (by decide) (pma_cons (pm_var 2) (pma_cons (pm_tup (pma_cons (pm_un o_neg (pm_ix (pm_var 3) pm_int)) (pma_cons (pm_ix (pm_var 3) pm_int) pma_nil))) pma_nil))))) pma_nil))))⟩
/-! roots_of -/
abbrev s_roots_of : Stmt := topS 29
abbrev N_roots_of : List Str := ["bent", "c", "k", "d", "l", "e", "m", "a", "b", "f", "under", "found", "way"]
theorem sc_roots_of : FnScope N_roots_of ["bent"] (defScope s_roots_of) := ⟨rfl, rfl, rfl, by decide +kernel, rfl, by decide +kernel, by decide +kernel⟩
theorem b_roots_of : BindP "roots_of" s_roots_of ["bent"] := fun _ _ _ _ _ _ us hl => match us, hl with | [_], _ => rfl
theorem ok_roots_of (T : Top K mg) : Df P w K mg base "roots_of" s_roots_of 5 ["bent"] m_roots_of := by
  refine ⟨defM_ar, ?_⟩
  obtain ⟨f, fd, F, gf⟩ := T.has_roots_of
  exact ⟨f, fd, F, gf, fnG_of F sc_roots_of defM_ok fun cdv Ar outer s H E A => (pmb_cons (pms_asg (pm_var 0) (pmg_tup rfl (pmgs_cons (pmg_tup rfl (pmgs_cons (pmg_name 1 sc_roots_of.nd) (pmgs_cons (pmg_name 2 sc_roots_of.nd) pmgs_nil))) (pmgs_cons (pmg_tup rfl (pmgs_cons (pmg_name 3 sc_roots_of.nd) (pmgs_cons (pmg_name 4 sc_roots_of.nd) pmgs_nil))) (pmgs_cons (pmg_tup rfl (pmgs_cons (pmg_name 5 sc_roots_of.nd) (pmgs_cons (pmg_name 6 sc_roots_of.nd) pmgs_nil))) pmgs_nil)))))
    (pmb_cons (pms_if (pb_cmp (o_eq A.u) (pm_var 5) pm_int (nomark _)) (pmb_one (pms_ret (pm_if (pb_cmp (o_eq A.u) (pm_var 3) pm_int (nomark _)) (pm_lst pma_nil) (pm_lst (pma_cons (pm_call A (ok_plain T) b_plain (by decide) (pma_cons (pm_call A (ok_ratio T) b_ratio (by decide) (pma_cons (pm_op o_mul (pm_un o_neg (pm_var 1)) (pm_var 4)) (pma_cons (pm_op o_mul (pm_var 2) (pm_var 3)) pma_nil))) pma_nil)) pma_nil))))) pmb_nil)
    (pmb_cons (pms_asg (pm_tup (pma_cons (pm_op o_mul (pm_op o_mul (pm_var 5) (pm_var 2)) (pm_var 4)) (pma_cons (pm_op o_mul (pm_op o_mul (pm_var 3) (pm_var 2)) (pm_var 6)) (pma_cons (pm_op o_mul (pm_op o_mul (pm_var 1) (pm_var 4)) (pm_var 6)) pma_nil)))) (pmg_tup rfl (pmgs_cons (pmg_name 7 sc_roots_of.nd) (pmgs_cons (pmg_name 8 sc_roots_of.nd) (pmgs_cons (pmg_name 9 sc_roots_of.nd) pmgs_nil)))))
    (pmb_cons (pms_set 10 sc_roots_of.nd (pm_op o_sub (pm_op o_mul (pm_var 8) (pm_var 8)) (pm_op o_mul (pm_op o_mul pm_int (pm_var 7)) (pm_var 9))))
    (pmb_cons (pms_if (pb_cmp o_lt (pm_var 10) pm_int (nomark _)) (pmb_one (pms_ret (pm_lst pma_nil))) pmb_nil)
    (pmb_cons (pms_if (pb_cmp (o_eq A.u) (pm_var 10) pm_int (nomark _)) (pmb_one (pms_ret (pm_lst (pma_cons (pm_call A (ok_plain T) b_plain (by decide) (pma_cons (pm_call A (ok_ratio T) b_ratio (by decide) (pma_cons (pm_un o_neg (pm_var 8)) (pma_cons (pm_op o_mul pm_int (pm_var 7)) pma_nil))) pma_nil)) pma_nil)))) pmb_nil)
    (pmb_cons (pms_setLc 11 [("way", 12)] rfl sc_roots_of.nd (blkOk_by (own := [("way", 12)]) (N := N_roots_of) (sc := defScope s_roots_of) (by decide +kernel)) (sw_true rfl rfl rfl (by decide +kernel)) (pmi_seq (pm_tup (pma_cons (pm_un o_neg pm_int) (pma_cons pm_int pma_nil)))) (fun _ _ _ _ _ => (pmf_name 12 sc_roots_of.nd)) (fun _ _ _ _ _ => pbs_nil) (fun _ _ _ _ _ => (pm_call A.blk (ok_surd_from T) b_surd_from (by decide) (pma_cons (pm_call A.blk (ok_ratio T) b_ratio (by decide) (pma_cons (pm_un o_neg (pm_var 8)) (pma_cons (pm_op o_mul pm_int (pm_var 7)) pma_nil))) (pma_cons (pm_tup (pma_cons (pm_var 12) (pma_cons pm_int pma_nil))) (pma_cons (pm_call A.blk (ok_ratio T) b_ratio (by decide) (pma_cons (pm_var 10) (pma_cons (pm_op o_mul (pm_op o_mul pm_int (pm_var 7)) (pm_var 7)) pma_nil))) pma_nil))))))
    (pmb_one (pms_ret (pm_var 11))))))))))⟩
/-! is_in -/
abbrev s_is_in : Stmt := topS 30
abbrev N_is_in : List Str := ["low", "high", "surd"]
theorem sc_is_in : FnScope N_is_in ["low", "high", "surd"] (defScope s_is_in) := ⟨rfl, rfl, rfl, by decide +kernel, rfl, by decide +kernel, by decide +kernel⟩
theorem b_is_in : BindP "is_in" s_is_in ["low", "high", "surd"] := fun _ _ _ _ _ _ us hl => match us, hl with | [_, _, _], _ => rfl
theorem ok_is_in (T : Top K mg) : Df P w K mg base "is_in" s_is_in 5 ["low", "high", "surd"] m_is_in := by
  refine ⟨defM_ar, ?_⟩
  obtain ⟨f, fd, F, gf⟩ := T.has_is_in
  exact ⟨f, fd, F, gf, fnG_of F sc_is_in defM_ok fun cdv Ar outer s H E A => (pmb_one (pms_ret (pm_and (pm_or (pm_cmp o_isN (pm_var 0) pm_non (nomark _)) (pm_one (pm_cmp o_le (pm_call A (ok_compared T) b_compared (by decide) (pma_cons (pm_var 0) (pma_cons (pm_var 2) pma_nil))) pm_int (nomark _)))) (pm_one (pm_or (pm_cmp o_isN (pm_var 1) pm_non (nomark _)) (pm_one (pm_cmp o_le (pm_call A (ok_compared T) b_compared (by decide) (pma_cons (pm_var 2) (pma_cons (pm_var 1) pma_nil))) pm_int (nomark _))))))))⟩
/-! is_stream_pair -/
abbrev s_is_stream_pair : Stmt := topS 32
abbrev N_is_stream_pair : List Str := ["value"]
theorem sc_is_stream_pair : FnScope N_is_stream_pair ["value"] (defScope s_is_stream_pair) := ⟨rfl, rfl, rfl, by decide +kernel, rfl, by decide +kernel, by decide +kernel⟩
theorem b_is_stream_pair : BindP "is_stream_pair" s_is_stream_pair ["value"] := fun _ _ _ _ _ _ us hl => match us, hl with | [_], _ => rfl
theorem ok_is_stream_pair (T : Top K mg) : Df P w K mg base "is_stream_pair" s_is_stream_pair 4 ["value"] m_is_stream_pair := by
  refine ⟨defM_ar, ?_⟩
  obtain ⟨f, fd, F, gf⟩ := T.has_is_stream_pair
  exact ⟨f, fd, F, gf, fnG_of F sc_is_stream_pair defM_ok fun cdv Ar outer s H E A => (pmb_cons (pms_if (PW.pt (pbw_or (pb_not (pb_tru (pm_isi kit_tuple T.z_isinstance T.z_tuple (by decide +kernel) (pm_var 0)))) (pw1_or (pb_cmp (o_ne A.u) (pm_bi c_len T.z_len (by decide +kernel) (pma_cons (pm_var 0) pma_nil)) pm_int (nomark _))))) (pmb_one (pms_ret pm_bl)) pmb_nil)
    (pmb_one (pms_ret (pm_and (pm_call A (ok_is_ratio T) b_is_ratio (by decide) (pma_cons (pm_ix (pm_var 0) pm_int) pma_nil)) (pm_and (pm_call A (ok_is_ratio T) b_is_ratio (by decide) (pma_cons (pm_ix (pm_var 0) pm_int) pma_nil)) (pm_one (pm_cmp o_gt (pm_ix (pm_ix (pm_var 0) pm_int) pm_int) pm_int (nomark _))))))))⟩
/-! check_fraction -/
abbrev s_check_fraction : Stmt := topS 39
abbrev N_check_fraction : List Str := ["value"]
theorem sc_check_fraction : FnScope N_check_fraction ["value"] (defScope s_check_fraction) := ⟨rfl, rfl, rfl, by decide +kernel, rfl, by decide +kernel, by decide +kernel⟩
theorem b_check_fraction : BindP "check_fraction" s_check_fraction ["value"] := fun _ _ _ _ _ _ us hl => match us, hl with | [_], _ => rfl
theorem ok_check_fraction (T : Top K mg) : Df P w K mg base "check_fraction" s_check_fraction 4 ["value"] m_check_fraction := by
  refine ⟨defM_ar, ?_⟩
  obtain ⟨f, fd, F, gf⟩ := T.has_check_fraction
  exact ⟨f, fd, F, gf, fnG_of F sc_check_fraction defM_ok fun cdv Ar outer s H E A => (pmb_one (pms_if (pb_not (pb_tru (pm_call A (ok_is_ratio T) b_is_ratio (by decide) (pma_cons (pm_var 0) pma_nil)))) (pmb_one pms_never) pmb_nil))⟩
/-! is_stream -/
abbrev s_is_stream : Stmt := topS 43
abbrev N_is_stream : List Str := ["value"]
theorem sc_is_stream : FnScope N_is_stream ["value"] (defScope s_is_stream) := ⟨rfl, rfl, rfl, by decide +kernel, rfl, by decide +kernel, by decide +kernel⟩
theorem b_is_stream : BindP "is_stream" s_is_stream ["value"] := fun _ _ _ _ _ _ us hl => match us, hl with | [_], _ => rfl
theorem ok_is_stream (T : Top K mg) : Df P w K mg base "is_stream" s_is_stream 5 ["value"] m_is_stream := by
  refine ⟨defM_ar, ?_⟩
  obtain ⟨f, fd, F, gf⟩ := T.has_is_stream
  exact ⟨f, fd, F, gf, fnG_of F sc_is_stream defM_ok fun cdv Ar outer s H E A => (pmb_cons (pms_if (PW.pt (pbw_or (pb_not (pb_tru (pm_isi kit_tuple T.z_isinstance T.z_tuple (by decide +kernel) (pm_var 0)))) (pbw_or (pb_cmp (o_ne A.u) (pm_bi c_len T.z_len (by decide +kernel) (pma_cons (pm_var 0) pma_nil)) pm_int (nomark _)) (pbw_or (pb_not (pb_tru (pm_call A (ok_is_spot T) b_is_spot (by decide) (pma_cons (pm_ix (pm_var 0) pm_int) pma_nil)))) (pw1_or (pb_not (pb_tru (pm_call A (ok_is_stream_pair T) b_is_stream_pair (by decide) (pma_cons (pm_ix (pm_var 0) pm_int) pma_nil))))))))) (pmb_one (pms_ret pm_bl)) pmb_nil)
    (pmb_one (pms_ret (pm_and (pm_call A (ok_is_whole T) b_is_whole (by decide) (pma_cons (pm_ix (pm_var 0) pm_int) pma_nil)) (pm_one (pm_cmp (o_in A.u65) (pm_ix (pm_var 0) pm_int) (pm_tup (pma_cons pm_int (pma_cons (pm_un o_neg pm_int) pma_nil))) (by rfl)))))))⟩
/-! check_stream -/
abbrev s_check_stream : Stmt := topS 44
abbrev N_check_stream : List Str := ["value"]
theorem sc_check_stream : FnScope N_check_stream ["value"] (defScope s_check_stream) := ⟨rfl, rfl, rfl, by decide +kernel, rfl, by decide +kernel, by decide +kernel⟩
theorem b_check_stream : BindP "check_stream" s_check_stream ["value"] := fun _ _ _ _ _ _ us hl => match us, hl with | [_], _ => rfl
theorem ok_check_stream (T : Top K mg) : Df P w K mg base "check_stream" s_check_stream 6 ["value"] m_check_stream := by
  refine ⟨defM_ar, ?_⟩
  obtain ⟨f, fd, F, gf⟩ := T.has_check_stream
  exact ⟨f, fd, F, gf, fnG_of F sc_check_stream defM_ok fun cdv Ar outer s H E A => (pmb_one (pms_if (pb_not (pb_tru (pm_call A (ok_is_stream T) b_is_stream (by decide) (pma_cons (pm_var 0) pma_nil)))) (pmb_one pms_never) pmb_nil))⟩
/-! start_of -/
abbrev s_start_of : Stmt := topS 45
abbrev N_start_of : List Str := ["stream", "x", "y", "w"]
theorem sc_start_of : FnScope N_start_of ["stream"] (defScope s_start_of) := ⟨rfl, rfl, rfl, by decide +kernel, rfl, by decide +kernel, by decide +kernel⟩
theorem b_start_of : BindP "start_of" s_start_of ["stream"] := fun _ _ _ _ _ _ us hl => match us, hl with | [_], _ => rfl
theorem ok_start_of (T : Top K mg) : Df P w K mg base "start_of" s_start_of 3 ["stream"] m_start_of := by
  refine ⟨defM_ar, ?_⟩
  obtain ⟨f, fd, F, gf⟩ := T.has_start_of
  exact ⟨f, fd, F, gf, fnG_of F sc_start_of defM_ok fun cdv Ar outer s H E A => (pmb_cons (pms_asg (pm_ix (pm_var 0) pm_int) (pmg_tup rfl (pmgs_cons (pmg_name 1 sc_start_of.nd) (pmgs_cons (pmg_name 2 sc_start_of.nd) (pmgs_cons (pmg_name 3 sc_start_of.nd) pmgs_nil)))))
    (pmb_one (pms_ret (pm_tup (pma_cons (pm_call A (ok_ratio T) b_ratio (by decide) (pma_cons (pm_var 1) (pma_cons (pm_var 3) pma_nil))) (pma_cons (pm_call A (ok_ratio T) b_ratio (by decide) (pma_cons (pm_var 2) (pma_cons (pm_var 3) pma_nil))) pma_nil))))))⟩
/-! heights_of -/
abbrev s_heights_of : Stmt := topS 46
abbrev N_heights_of : List Str := ["stream", "begin", "tall", "slope", "bend", "steep", "square", "first"]
theorem sc_heights_of : FnScope N_heights_of ["stream"] (defScope s_heights_of) := ⟨rfl, rfl, rfl, by decide +kernel, rfl, by decide +kernel, by decide +kernel⟩
theorem b_heights_of : BindP "heights_of" s_heights_of ["stream"] := fun _ _ _ _ _ _ us hl => match us, hl with | [_], _ => rfl
theorem ok_heights_of (T : Top K mg) : Df P w K mg base "heights_of" s_heights_of 4 ["stream"] m_heights_of := by
  refine ⟨defM_ar, ?_⟩
  obtain ⟨f, fd, F, gf⟩ := T.has_heights_of
  exact ⟨f, fd, F, gf, fnG_of F sc_heights_of defM_ok fun cdv Ar outer s H E A => (pmb_cons (pms_asg (pm_tup (pma_cons (pm_call A (ok_start_of T) b_start_of (by decide) (pma_cons (pm_var 0) pma_nil)) (pma_cons (pm_ix (pm_var 0) pm_int) pma_nil))) (pmg_tup rfl (pmgs_cons (pmg_tup rfl (pmgs_cons (pmg_name 1 sc_heights_of.nd) (pmgs_cons (pmg_name 2 sc_heights_of.nd) pmgs_nil))) (pmgs_cons (pmg_tup rfl (pmgs_cons (pmg_name 3 sc_heights_of.nd) (pmgs_cons (pmg_name 4 sc_heights_of.nd) pmgs_nil))) pmgs_nil))))
    (pmb_cons (pms_set 5 sc_heights_of.nd (pm_call A (ok_ratio_product T) b_ratio_product (by decide) (pma_cons (pm_tup (pma_cons (pm_ix (pm_var 0) pm_int) (pma_cons pm_int pma_nil))) (pma_cons (pm_var 3) pma_nil))))
    (pmb_cons (pms_set 6 sc_heights_of.nd (pm_call A (ok_ratio_product T) b_ratio_product (by decide) (pma_cons (pm_var 4) (pma_cons (pm_call A (ok_ratio_product T) b_ratio_product (by decide) (pma_cons (pm_var 1) (pma_cons (pm_var 1) pma_nil))) pma_nil))))
    (pmb_cons (pms_set 7 sc_heights_of.nd (pm_call A (ok_ratio_less T) b_ratio_less (by decide) (pma_cons (pm_call A (ok_ratio_less T) b_ratio_less (by decide) (pma_cons (pm_var 2) (pma_cons (pm_call A (ok_ratio_product T) b_ratio_product (by decide) (pma_cons (pm_var 5) (pma_cons (pm_var 1) pma_nil))) pma_nil))) (pma_cons (pm_var 6) pma_nil))))
    (pmb_one (pms_ret (pm_tup (pma_cons (pm_var 7) (pma_cons (pm_call A (ok_ratio_sum T) b_ratio_sum (by decide) (pma_cons (pm_var 5) (pma_cons (pm_call A (ok_ratio_product T) b_ratio_product (by decide) (pma_cons (pm_tup (pma_cons pm_int (pma_cons pm_int pma_nil))) (pma_cons (pm_call A (ok_ratio_product T) b_ratio_product (by decide) (pma_cons (pm_var 4) (pma_cons (pm_var 1) pma_nil))) pma_nil))) pma_nil))) (pma_cons (pm_call A (ok_ratio_back T) b_ratio_back (by decide) (pma_cons (pm_var 4) pma_nil)) pma_nil))))))))))⟩
/-! times_of -/
abbrev s_times_of : Stmt := topS 47
abbrev N_times_of : List Str := ["stream", "begin", "bend", "there"]
theorem sc_times_of : FnScope N_times_of ["stream"] (defScope s_times_of) := ⟨rfl, rfl, rfl, by decide +kernel, rfl, by decide +kernel, by decide +kernel⟩
theorem b_times_of : BindP "times_of" s_times_of ["stream"] := fun _ _ _ _ _ _ us hl => match us, hl with | [_], _ => rfl
theorem ok_times_of (T : Top K mg) : Df P w K mg base "times_of" s_times_of 4 ["stream"] m_times_of := by
  refine ⟨defM_ar, ?_⟩
  obtain ⟨f, fd, F, gf⟩ := T.has_times_of
  exact ⟨f, fd, F, gf, fnG_of F sc_times_of defM_ok fun cdv Ar outer s H E A => (pmb_cons (pms_par rfl sc_times_of.nd (pma_cons (pm_ix (pm_call A (ok_start_of T) b_start_of (by decide) (pma_cons (pm_var 0) pma_nil)) pm_int) (pma_cons (pm_ix (pm_ix (pm_var 0) pm_int) pm_int) pma_nil)))
    (pmb_cons (pms_set 3 sc_times_of.nd (pm_call A (ok_ratio_product T) b_ratio_product (by decide) (pma_cons (pm_var 2) (pma_cons (pm_var 1) pma_nil))))
    (pmb_one (pms_ret (pm_tup (pma_cons (pm_call A (ok_ratio_product T) b_ratio_product (by decide) (pma_cons (pm_var 3) (pma_cons (pm_var 1) pma_nil))) (pma_cons (pm_call A (ok_ratio_product T) b_ratio_product (by decide) (pma_cons (pm_tup (pma_cons (pm_un o_neg pm_int) (pma_cons pm_int pma_nil))) (pma_cons (pm_var 3) pma_nil))) (pma_cons (pm_var 2) pma_nil))))))))⟩
/-! reach_of -/
abbrev s_reach_of : Stmt := topS 48
abbrev N_reach_of : List Str := ["streams", "low", "high", "stream", "begin"]
theorem sc_reach_of : FnScope N_reach_of ["streams"] (defScope s_reach_of) := ⟨rfl, rfl, rfl, by decide +kernel, rfl, by decide +kernel, by decide +kernel⟩
theorem b_reach_of : BindP "reach_of" s_reach_of ["streams"] := fun _ _ _ _ _ _ us hl => match us, hl with | [_], _ => rfl
theorem ok_reach_of (T : Top K mg) : Df P w K mg base "reach_of" s_reach_of 4 ["streams"] m_reach_of := by
  refine ⟨defM_ar, ?_⟩
  obtain ⟨f, fd, F, gf⟩ := T.has_reach_of
  exact ⟨f, fd, F, gf, fnG_of F sc_reach_of defM_ok fun cdv Ar outer s H E A => (pmb_cons (pms_asg (pm_tup (pma_cons pm_non (pma_cons pm_non pma_nil))) (pmg_tup rfl (pmgs_cons (pmg_name 1 sc_reach_of.nd) (pmgs_cons (pmg_name 2 sc_reach_of.nd) pmgs_nil))))
    (pmb_cons (pms_for (passes_of rfl) rfl (pmi_seq (pm_var 0)) (pmg_name 3 sc_reach_of.nd) (pmb_cons (pms_set 4 sc_reach_of.nd (pm_ix (pm_call A (ok_start_of T) b_start_of (by decide) (pma_cons (pm_var 3) pma_nil)) pm_int))
    (pmb_one (pms_if (pb_cmp (o_eq A.u) (pm_ix (pm_var 3) pm_int) pm_int (nomark _)) (pmb_one (pms_set 1 sc_reach_of.nd (pm_if (PW.pt (pbw_or (pb_cmp o_isN (pm_var 1) pm_non (nomark _)) (pw1_or (pb_tru (pm_call A (ok_is_lower T) b_is_lower (by decide) (pma_cons (pm_var 1) (pma_cons (pm_var 4) pma_nil))))))) (pm_var 4) (pm_var 1)))) (pmb_one (pms_set 2 sc_reach_of.nd (pm_if (PW.pt (pbw_or (pb_cmp o_isN (pm_var 2) pm_non (nomark _)) (pw1_or (pb_tru (pm_call A (ok_is_lower T) b_is_lower (by decide) (pma_cons (pm_var 4) (pma_cons (pm_var 2) pma_nil))))))) (pm_var 4) (pm_var 2))))))))
    (pmb_one (pms_ret (pm_tup (pma_cons (pm_var 1) (pma_cons (pm_var 2) pma_nil)))))))⟩
/-! water_at -/
abbrev s_water_at : Stmt := topS 49
abbrev N_water_at : List Str := ["stream", "fraction", "low", "high"]
theorem sc_water_at : FnScope N_water_at ["stream", "fraction"] (defScope s_water_at) := ⟨rfl, rfl, rfl, by decide +kernel, rfl, by decide +kernel, by decide +kernel⟩
theorem b_water_at : BindP "water_at" s_water_at ["stream", "fraction"] := fun _ _ _ _ _ _ us hl => match us, hl with | [_, _], _ => rfl
theorem ok_water_at (T : Top K mg) : Df P w K mg base "water_at" s_water_at 7 ["stream", "fraction"] m_water_at := by
  refine ⟨defM_ar, ?_⟩
  obtain ⟨f, fd, F, gf⟩ := T.has_water_at
  exact ⟨f, fd, F, gf, fnG_of F sc_water_at defM_ok fun cdv Ar outer s H E A => (pmb_cons (pms_expr (pm_call A (ok_check_stream T) b_check_stream (by decide) (pma_cons (pm_var 0) pma_nil)))
    (pmb_cons (pms_expr (pm_call A (ok_check_fraction T) b_check_fraction (by decide) (pma_cons (pm_var 1) pma_nil)))
    (pmb_cons (pms_asg (pm_call A (ok_reach_of T) b_reach_of (by decide) (pma_cons (pm_lst (pma_cons (pm_var 0) pma_nil)) pma_nil)) (pmg_tup rfl (pmgs_cons (pmg_name 2 sc_water_at.nd) (pmgs_cons (pmg_name 3 sc_water_at.nd) pmgs_nil))))
    (pmb_cons (pms_if (PW.pt (pbw_or (PW.pt (pbw_and (pb_cmp o_notN (pm_var 2) pm_non (nomark _)) (pw1_and (pb_tru (pm_call A (ok_is_lower T) b_is_lower (by decide) (pma_cons (pm_var 1) (pma_cons (pm_var 2) pma_nil))))))) (pw1_or (PW.pt (pbw_and (pb_cmp o_notN (pm_var 3) pm_non (nomark _)) (pw1_and (pb_tru (pm_call A (ok_is_lower T) b_is_lower (by decide) (pma_cons (pm_var 3) (pma_cons (pm_var 1) pma_nil)))))))))) (pmb_one (pms_ret pm_non)) pmb_nil)
    (pmb_one (pms_ret (pm_call A (ok_bent_ratio T) b_bent_ratio (by decide) (pma_cons (pm_call A (ok_heights_of T) b_heights_of (by decide) (pma_cons (pm_var 0) pma_nil)) (pma_cons (pm_var 1) pma_nil)))))))))⟩
/-! met_at -/
abbrev s_met_at : Stmt := topS 50
abbrev N_met_at : List Str := ["stream", "other", "low", "high", "gap", "ends", "end", "root"]
theorem sc_met_at : FnScope N_met_at ["stream", "other"] (defScope s_met_at) := ⟨rfl, rfl, rfl, by decide +kernel, rfl, by decide +kernel, by decide +kernel⟩
theorem b_met_at : BindP "met_at" s_met_at ["stream", "other"] := fun _ _ _ _ _ _ us hl => match us, hl with | [_, _], _ => rfl
theorem ok_met_at (T : Top K mg) : Df P w K mg base "met_at" s_met_at 6 ["stream", "other"] m_met_at := by
  refine ⟨defM_ar, ?_⟩
  obtain ⟨f, fd, F, gf⟩ := T.has_met_at
  exact ⟨f, fd, F, gf, fnG_of F sc_met_at defM_ok fun cdv Ar outer s H E A => (pmb_cons (pms_asg (pm_call A (ok_reach_of T) b_reach_of (by decide) (pma_cons (pm_lst (pma_cons (pm_var 0) (pma_cons (pm_var 1) pma_nil))) pma_nil)) (pmg_tup rfl (pmgs_cons (pmg_name 2 sc_met_at.nd) (pmgs_cons (pmg_name 3 sc_met_at.nd) pmgs_nil))))
    (pmb_cons (pms_if (PW.pt (pbw_and (pb_cmp o_notN (pm_var 2) pm_non (nomark _)) (pbw_and (pb_cmp o_notN (pm_var 3) pm_non (nomark _)) (pw1_and (pb_tru (pm_call A (ok_is_lower T) b_is_lower (by decide) (pma_cons (pm_var 3) (pma_cons (pm_var 2) pma_nil)))))))) (pmb_one (pms_ret (pm_lst pma_nil))) pmb_nil)
    (pmb_cons (pms_set 4 sc_met_at.nd (pm_call A (ok_bent_less T) b_bent_less (by decide) (pma_cons (pm_call A (ok_heights_of T) b_heights_of (by decide) (pma_cons (pm_var 0) pma_nil)) (pma_cons (pm_call A (ok_heights_of T) b_heights_of (by decide) (pma_cons (pm_var 1) pma_nil)) pma_nil))))
    (pmb_cons (pms_if (pb_cmp (o_eq A.u) (pm_var 4) (pm_glob T.c_EMPTY rfl) (nomark _)) (pmb_one (pms_ret (pm_if (PW.pt (pbw_and (pb_cmp o_notN (pm_var 2) pm_non (nomark _)) (pw1_and (pb_cmp (o_eq A.u) (pm_var 2) (pm_var 3) (nomark _))))) (pm_lst (pma_cons (pm_call A (ok_plain T) b_plain (by decide) (pma_cons (pm_var 2) pma_nil)) pma_nil)) pm_non))) pmb_nil)
    (pmb_cons (pms_set 5 sc_met_at.nd (pm_lc [("end", 6)] rfl sc_met_at.nd (blkOk_by (own := [("end", 6)]) (N := N_met_at) (sc := defScope s_met_at) (by decide +kernel)) (pmi_seq (pm_tup (pma_cons (pm_var 2) (pma_cons (pm_var 3) pma_nil)))) (fun _ _ _ _ _ => (pmf_name 6 sc_met_at.nd)) (fun _ _ _ _ _ => pbs_nil) (fun _ _ _ _ _ => (pm_if (pb_cmp o_isN (pm_var 6) pm_non (nomark _)) pm_non (pm_call A.blk (ok_plain T) b_plain (by decide) (pma_cons (pm_var 6) pma_nil))))) (hs := sw_cell rfl))
    (pmb_one (pms_ret (pm_lc [("root", 7)] rfl sc_met_at.nd (blkOk_by (own := [("root", 7)]) (N := N_met_at) (sc := defScope s_met_at) (by decide +kernel)) (pmi_seq (pm_call A (ok_roots_of T) b_roots_of (by decide) (pma_cons (pm_var 4) pma_nil))) (fun _ _ _ _ _ => (pmf_name 7 sc_met_at.nd)) (fun _ _ _ _ _ => (pbs_one (pb_tru (pm_call A.blk (ok_is_in T) b_is_in (by decide) (pma_cons (pm_ix (pm_var 5) pm_int) (pma_cons (pm_ix (pm_var 5) pm_int) (pma_cons (pm_var 7) pma_nil))))))) (fun _ _ _ _ _ => (pm_var 7))))))))))⟩
/-! check_both -/
abbrev s_check_both : Stmt := topS 51
abbrev N_check_both : List Str := ["stream", "other"]
theorem sc_check_both : FnScope N_check_both ["stream", "other"] (defScope s_check_both) := ⟨rfl, rfl, rfl, by decide +kernel, rfl, by decide +kernel, by decide +kernel⟩
theorem b_check_both : BindP "check_both" s_check_both ["stream", "other"] := fun _ _ _ _ _ _ us hl => match us, hl with | [_, _], _ => rfl
theorem ok_check_both (T : Top K mg) : Df P w K mg base "check_both" s_check_both 7 ["stream", "other"] m_check_both := by
  refine ⟨defM_ar, ?_⟩
  obtain ⟨f, fd, F, gf⟩ := T.has_check_both
  exact ⟨f, fd, F, gf, fnG_of F sc_check_both defM_ok fun cdv Ar outer s H E A => (pmb_cons (pms_expr (pm_call A (ok_check_stream T) b_check_stream (by decide) (pma_cons (pm_var 0) pma_nil)))
    (pmb_one (pms_expr (pm_call A (ok_check_stream T) b_check_stream (by decide) (pma_cons (pm_var 1) pma_nil)))))⟩
/-! meetings -/
abbrev s_meetings : Stmt := topS 52
abbrev N_meetings : List Str := ["stream", "other", "found", "root"]
theorem sc_meetings : FnScope N_meetings ["stream", "other"] (defScope s_meetings) := ⟨rfl, rfl, rfl, by decide +kernel, rfl, by decide +kernel, by decide +kernel⟩
theorem b_meetings : BindP "meetings" s_meetings ["stream", "other"] := fun _ _ _ _ _ _ us hl => match us, hl with | [_, _], _ => rfl
theorem kb_meetings_0 : BindK "meetings" s_meetings ["stream", "other"] 0 ["stream", "other"] (kput [0, 1]) := fun _ _ _ _ _ _ us ws h1 h2 => match us, ws, h1, h2 with | [], [_, _], _, _ => rfl
theorem ok_meetings (T : Top K mg) : Df P w K mg base "meetings" s_meetings 8 ["stream", "other"] m_meetings := by
  refine ⟨defM_ar, ?_⟩
  obtain ⟨f, fd, F, gf⟩ := T.has_meetings
  exact ⟨f, fd, F, gf, fnG_of F sc_meetings defM_ok fun cdv Ar outer s H E A => (pmb_cons (pms_expr (pm_call A (ok_check_both T) b_check_both (by decide) (pma_cons (pm_var 0) (pma_cons (pm_var 1) pma_nil))))
    (pmb_cons (pms_set 2 sc_meetings.nd (pm_call A (ok_met_at T) b_met_at (by decide) (pma_cons (pm_var 0) (pma_cons (pm_var 1) pma_nil))))
    (pmb_cons (pms_if (pb_cmp o_isN (pm_var 2) pm_non (nomark _)) (pmb_one (pms_ret pm_non)) pmb_nil)
    (pmb_one (pms_ret (pm_ty c_tuple T.z_tuple (by decide +kernel) (pma_cons (pm_lc [("root", 3)] rfl sc_meetings.nd (blkOk_by (own := [("root", 3)]) (N := N_meetings) (sc := defScope s_meetings) (by decide +kernel)) (pmi_seq (pm_var 2)) (fun _ _ _ _ _ => (pmf_name 3 sc_meetings.nd)) (fun _ _ _ _ _ => pbs_nil) (fun _ _ _ _ _ => (pm_tup (pma_cons (pm_var 3) (pma_cons (pm_call A.blk (ok_bent_value T) b_bent_value (by decide) (pma_cons (pm_call A.blk (ok_heights_of T) b_heights_of (by decide) (pma_cons (pm_var 0) pma_nil)) (pma_cons (pm_var 3) pma_nil))) pma_nil))))) pma_nil)))))))⟩
/-! order_at -/
abbrev s_order_at : Stmt := topS 53
abbrev N_order_at : List Str := ["stream", "other", "root"]
theorem sc_order_at : FnScope N_order_at ["stream", "other", "root"] (defScope s_order_at) := ⟨rfl, rfl, rfl, by decide +kernel, rfl, by decide +kernel, by decide +kernel⟩
theorem b_order_at : BindP "order_at" s_order_at ["stream", "other", "root"] := fun _ _ _ _ _ _ us hl => match us, hl with | [_, _, _], _ => rfl
theorem ok_order_at (T : Top K mg) : Df P w K mg base "order_at" s_order_at 6 ["stream", "other", "root"] m_order_at := by
  refine ⟨defM_ar, ?_⟩
  obtain ⟨f, fd, F, gf⟩ := T.has_order_at
  exact ⟨f, fd, F, gf, fnG_of F sc_order_at defM_ok fun cdv Ar outer s H E A => (pmb_one (pms_ret (pm_call A (ok_compared T) b_compared (by decide) (pma_cons (pm_call A (ok_bent_value T) b_bent_value (by decide) (pma_cons (pm_call A (ok_times_of T) b_times_of (by decide) (pma_cons (pm_var 0) pma_nil)) (pma_cons (pm_var 2) pma_nil))) (pma_cons (pm_call A (ok_bent_value T) b_bent_value (by decide) (pma_cons (pm_call A (ok_times_of T) b_times_of (by decide) (pma_cons (pm_var 1) pma_nil)) (pma_cons (pm_var 2) pma_nil))) pma_nil)))))⟩
/-! first_there -/
abbrev s_first_there : Stmt := topS 54
abbrev N_first_there : List Str := ["stream", "other", "index", "found"]
theorem sc_first_there : FnScope N_first_there ["stream", "other", "index"] (defScope s_first_there) := ⟨rfl, rfl, rfl, by decide +kernel, rfl, by decide +kernel, by decide +kernel⟩
theorem b_first_there : BindP "first_there" s_first_there ["stream", "other", "index"] := fun _ _ _ _ _ _ us hl => match us, hl with | [_, _, _], _ => rfl
theorem ok_first_there (T : Top K mg) : Df P w K mg base "first_there" s_first_there 8 ["stream", "other", "index"] m_first_there := by
  refine ⟨defM_ar, ?_⟩
  obtain ⟨f, fd, F, gf⟩ := T.has_first_there
  exact ⟨f, fd, F, gf, fnG_of F sc_first_there defM_ok fun cdv Ar outer s H E A => (pmb_cons (pms_expr (pm_call A (ok_check_both T) b_check_both (by decide) (pma_cons (pm_var 0) (pma_cons (pm_var 1) pma_nil))))
    (pmb_cons (pms_set 3 sc_first_there.nd (pm_call A (ok_met_at T) b_met_at (by decide) (pma_cons (pm_var 0) (pma_cons (pm_var 1) pma_nil))))
    (pmb_cons (pms_if (PW.pt (pbw_or (pb_cmp o_isN (pm_var 3) pm_non (nomark _)) (pw1_or (pb_not (pb_tru (pm_call A (ok_is_between T) b_is_between (by decide) (pma_cons (pm_var 2) (pma_cons pm_int (pma_cons (pm_op o_sub (pm_bi c_len T.z_len (by decide +kernel) (pma_cons (pm_var 3) pma_nil)) pm_int) pma_nil))))))))) (pmb_one pms_never) pmb_nil)
    (pmb_one (pms_ret (pm_gdix T.g_FIRSTS rfl (pm_call A (ok_order_at T) b_order_at (by decide) (pma_cons (pm_var 0) (pma_cons (pm_var 1) (pma_cons (pm_ix (pm_var 3) (pm_var 2)) pma_nil))))))))))⟩
/-! drops_meet -/
abbrev s_drops_meet : Stmt := topS 55
abbrev N_drops_meet : List Str := ["stream", "other", "found", "root"]
theorem sc_drops_meet : FnScope N_drops_meet ["stream", "other"] (defScope s_drops_meet) := ⟨rfl, rfl, rfl, by decide +kernel, rfl, by decide +kernel, by decide +kernel⟩
theorem b_drops_meet : BindP "drops_meet" s_drops_meet ["stream", "other"] := fun _ _ _ _ _ _ us hl => match us, hl with | [_, _], _ => rfl
theorem ok_drops_meet (T : Top K mg) : Df P w K mg base "drops_meet" s_drops_meet 8 ["stream", "other"] m_drops_meet := by
  refine ⟨defM_ar, ?_⟩
  obtain ⟨f, fd, F, gf⟩ := T.has_drops_meet
  exact ⟨f, fd, F, gf, fnG_of F sc_drops_meet defM_ok fun cdv Ar outer s H E A => (pmb_cons (pms_expr (pm_call A (ok_check_both T) b_check_both (by decide) (pma_cons (pm_var 0) (pma_cons (pm_var 1) pma_nil))))
    (pmb_cons (pms_set 2 sc_drops_meet.nd (pm_call A (ok_met_at T) b_met_at (by decide) (pma_cons (pm_var 0) (pma_cons (pm_var 1) pma_nil))))
    (pmb_cons (pms_if (pb_cmp o_isN (pm_var 2) pm_non (nomark _)) (pmb_one (pms_ret (pm_or (pm_cmp (o_ne A.u) (pm_ix (pm_var 0) pm_int) (pm_ix (pm_var 1) pm_int) (nomark _)) (pm_one (pm_cmp (o_eq A.u) (pm_ix (pm_var 0) pm_int) (pm_ix (pm_var 1) pm_int) (nomark _)))))) pmb_nil)
    (pmb_one (pms_ret (pm_bi (c_any rfl) T.z_any (by decide +kernel) (pma_cons (pm_lc [("root", 3)] rfl sc_drops_meet.nd (blkOk_by (own := [("root", 3)]) (N := N_drops_meet) (sc := defScope s_drops_meet) (by decide +kernel)) (pmi_seq (pm_var 2)) (fun _ _ _ _ _ => (pmf_name 3 sc_drops_meet.nd)) (fun _ _ _ _ _ => pbs_nil) (fun _ _ _ _ _ => (pm_cmp (o_eq A.blk.u) (pm_call A.blk (ok_order_at T) b_order_at (by decide) (pma_cons (pm_var 0) (pma_cons (pm_var 1) (pma_cons (pm_var 3) pma_nil)))) pm_int (nomark _)))) pma_nil)))))))⟩
/-! _law_well -/
abbrev s__law_well : Stmt := topS 57
abbrev N__law_well : List Str := ["_law_script", "_law_turn", "_law_stirred", "_law_cell", "_law_own", "_law_great"]
theorem sc__law_well : FnScope N__law_well ["_law_script", "_law_turn"] (defScope s__law_well) := ⟨rfl, rfl, rfl, by decide +kernel, rfl, by decide +kernel, by decide +kernel⟩
theorem b__law_well : BindP "_law_well" s__law_well ["_law_script", "_law_turn"] := fun _ _ _ _ _ _ us hl => match us, hl with | [_, _], _ => rfl
theorem ok__law_well (T : Top K mg) : Df P w K mg base "_law_well" s__law_well 1 ["_law_script", "_law_turn"] m__law_well := by
  refine ⟨defK_ar, ?_⟩
  obtain ⟨f, fd, F, gf⟩ := T.has__law_well
  exact ⟨f, fd, F, gf, fnG_of F sc__law_well defK_ok fun cdv Ar outer s H E A => (pmb_cons (pms_set 2 sc__law_well.nd (pm_op o_add pm_int (pm_op o_mul pm_int (pm_var 1))))
    (pmb_cons (pms_for (passes_of rfl) rfl (pmi_seq (pm_sl (pm_var 0) pmo_none (pmo_some pm_int))) (pmg_name 3 sc__law_well.nd) (pmb_one (pms_set 2 sc__law_well.nd (pm_op o_mod (pm_ty c_int T.z_int (by decide +kernel) (pma_cons (pm_op o_add (pm_op o_add (pm_op o_mul (pm_var 2) pm_int) (pm_op o_mod (pm_ty c_int T.z_int (by decide +kernel) (pma_cons (pm_var 3) pma_nil)) pm_int)) pm_int) pma_nil)) pm_int))))
    (pmb_cons (pms_set 4 sc__law_well.nd (pm_if (pb_cmp o_lt (pm_var 1) (pm_bi c_len T.z_len (by decide +kernel) (pma_cons (pm_var 0) pma_nil)) (nomark _)) (pm_ty c_int T.z_int (by decide +kernel) (pma_cons (pm_ix (pm_var 0) (pm_var 1)) pma_nil)) pm_int))
    (pmb_cons (pms_set 5 sc__law_well.nd (pm_if (pb_cmp o_ge (pm_bi c_abs T.z_abs (by decide +kernel) (pma_cons (pm_var 4) pma_nil)) (pm_op o_pow pm_int pm_int) (nomark _)) (pm_bi c_abs T.z_abs (by decide +kernel) (pma_cons (pm_var 4) pma_nil)) pm_int))
    (pmb_one (pms_ret (pm_loc (pma_cons (pm_var 5) (pma_cons (pm_op o_mod (pm_ty c_int T.z_int (by decide +kernel) (pma_cons (pm_op o_add (pm_var 2) (pm_op o_mul pm_int (pm_op o_mod (pm_ty c_int T.z_int (by decide +kernel) (pma_cons (pm_var 4) pma_nil)) pm_int))) pma_nil)) pm_int) (pma_cons pm_int pma_nil))))))))))⟩
/-! _law_draw -/
abbrev s__law_draw : Stmt := topS 58
abbrev N__law_draw : List Str := ["_law_well_here", "_law_many", "_law_mixed", "_law_digit"]
theorem sc__law_draw : FnScope N__law_draw ["_law_well_here", "_law_many"] (defScope s__law_draw) := ⟨rfl, rfl, rfl, by decide +kernel, rfl, by decide +kernel, by decide +kernel⟩
theorem b__law_draw : BindP "_law_draw" s__law_draw ["_law_well_here", "_law_many"] := fun _ _ _ _ _ _ us hl => match us, hl with | [_, _], _ => rfl
theorem ok__law_draw (T : Top K mg) : Df P w K mg base "_law_draw" s__law_draw 1 ["_law_well_here", "_law_many"] m__law_draw := by
  refine ⟨defM_ar, ?_⟩
  obtain ⟨f, fd, F, gf⟩ := T.has__law_draw
  exact ⟨f, fd, F, gf, fnG_of F sc__law_draw defM_ok fun cdv Ar outer s H E A => (pmb_cons (pms_if (pb_cmp o_gt (pm_ix (pm_var 0) pm_int) pm_int (nomark _)) (pmb_cons (pms_asg (pm_bi c_divmod T.z_divmod (by decide +kernel) (pma_cons (pm_ix (pm_var 0) pm_int) (pma_cons (pm_var 1) pma_nil))) (pmg_tup rfl (pmgs_cons (pmg_sub (pm_var 0) pm_int) (pmgs_cons (pmg_name 3 sc__law_draw.nd) pmgs_nil))))
    (pmb_one (pms_ret (pm_var 3)))) pmb_nil)
    (pmb_cons (pms_asg (pm_op o_add (pm_ix (pm_var 0) pm_int) pm_int) (pmg_sub (pm_var 0) pm_int))
    (pmb_cons (pms_set 2 sc__law_draw.nd (pm_op o_mod (pm_ty c_int T.z_int (by decide +kernel) (pma_cons (pm_op o_add (pm_op o_add (pm_op o_mul (pm_ix (pm_var 0) pm_int) pm_int) (pm_op o_mul pm_int (pm_ix (pm_var 0) pm_int))) pm_int) pma_nil)) pm_int))
    (pmb_cons (pms_asg (pm_op o_mod (pm_ty c_int T.z_int (by decide +kernel) (pma_cons (pm_op o_add (pm_op o_mul (pm_var 2) (pm_op o_add (pm_op o_mod (pm_ty c_int T.z_int (by decide +kernel) (pma_cons (pm_var 2) pma_nil)) pm_int) pm_int)) (pm_op o_mul pm_int (pm_ix (pm_var 0) pm_int))) pma_nil)) pm_int) (pmg_sub (pm_var 0) pm_int))
    (pmb_one (pms_ret (pm_op o_mod (pm_ty c_int T.z_int (by decide +kernel) (pma_cons (pm_op o_fdiv (pm_ix (pm_var 0) pm_int) pm_int) pma_nil)) (pm_var 1))))))))⟩
/-! _law_rounds -/
abbrev s__law_rounds : Stmt := topS 59
abbrev N__law_rounds : List Str := ["_law_script", "_law_least", "_law_most"]
theorem sc__law_rounds : FnScope N__law_rounds ["_law_script", "_law_least", "_law_most"] (defScope s__law_rounds) := ⟨rfl, rfl, rfl, by decide +kernel, rfl, by decide +kernel, by decide +kernel⟩
theorem b__law_rounds : BindP "_law_rounds" s__law_rounds ["_law_script", "_law_least", "_law_most"] := fun _ _ _ _ _ _ us hl => match us, hl with | [_, _, _], _ => rfl
theorem ok__law_rounds (T : Top K mg) : Df P w K mg base "_law_rounds" s__law_rounds 1 ["_law_script", "_law_least", "_law_most"] m__law_rounds := by
  refine ⟨defM_ar, ?_⟩
  obtain ⟨f, fd, F, gf⟩ := T.has__law_rounds
  exact ⟨f, fd, F, gf, fnG_of F sc__law_rounds defM_ok fun cdv Ar outer s H E A => (pmb_one (pms_ret (pm_bi (c_max2 rfl) T.z_max (by decide +kernel) (pma_cons (pm_var 1) (pma_cons (pm_bi (c_min2 rfl) T.z_min (by decide +kernel) (pma_cons (pm_bi c_len T.z_len (by decide +kernel) (pma_cons (pm_var 0) pma_nil)) (pma_cons (pm_var 2) pma_nil))) pma_nil)))))⟩
/-! _law_pick -/
abbrev s__law_pick : Stmt := topS 60
abbrev N__law_pick : List Str := ["_law_well_here", "_law_some"]
theorem sc__law_pick : FnScope N__law_pick ["_law_well_here", "_law_some"] (defScope s__law_pick) := ⟨rfl, rfl, rfl, by decide +kernel, rfl, by decide +kernel, by decide +kernel⟩
theorem b__law_pick : BindP "_law_pick" s__law_pick ["_law_well_here", "_law_some"] := fun _ _ _ _ _ _ us hl => match us, hl with | [_, _], _ => rfl
theorem ok__law_pick (T : Top K mg) : Df P w K mg base "_law_pick" s__law_pick 2 ["_law_well_here", "_law_some"] m__law_pick := by
  refine ⟨defM_ar, ?_⟩
  obtain ⟨f, fd, F, gf⟩ := T.has__law_pick
  exact ⟨f, fd, F, gf, fnG_of F sc__law_pick defM_ok fun cdv Ar outer s H E A => (pmb_one (pms_ret (pm_ix (pm_var 1) (pm_call A (ok__law_draw T) b__law_draw (by decide) (pma_cons (pm_var 0) (pma_cons (pm_bi c_len T.z_len (by decide +kernel) (pma_cons (pm_var 1) pma_nil)) pma_nil))))))⟩
/-! _law_common -/
abbrev s__law_common : Stmt := topS 61
abbrev N__law_common : List Str := ["_law_numbers", "_law_found", "_law_number", "_law_one", "_law_two", "_law_step"]
theorem sc__law_common : FnScope N__law_common ["_law_numbers"] (defScope s__law_common) := ⟨rfl, rfl, rfl, by decide +kernel, rfl, by decide +kernel, by decide +kernel⟩
theorem b__law_common : BindP "_law_common" s__law_common ["_law_numbers"] := fun _ _ _ _ _ _ us hl => match us, hl with | [_], _ => rfl
theorem ok__law_common (T : Top K mg) : Df P w K mg base "_law_common" s__law_common 1 ["_law_numbers"] m__law_common := by
  refine ⟨defM_ar, ?_⟩
  obtain ⟨f, fd, F, gf⟩ := T.has__law_common
  exact ⟨f, fd, F, gf, fnG_of F sc__law_common defM_ok fun cdv Ar outer s H E A => (pmb_cons (pms_set 1 sc__law_common.nd pm_int)
    (pmb_cons (pms_for (passes_of rfl) rfl (pmi_seq (pm_var 0)) (pmg_name 2 sc__law_common.nd) (pmb_cons (pms_par rfl sc__law_common.nd (pma_cons (pm_var 1) (pma_cons (pm_bi c_abs T.z_abs (by decide +kernel) (pma_cons (pm_var 2) pma_nil)) pma_nil)))
    (pmb_cons (pms_for (passes_of rfl) rfl (pmi_rng1 T.z_range (pma_cons (pm_op o_add (pm_op o_mul pm_int (pm_bits (pm_bi c_abs T.z_abs (by decide +kernel) (pma_cons (pm_var 2) pma_nil)))) pm_int) pma_nil)) (pmg_name 5 sc__law_common.nd) (pmb_cons (pms_if (pb_cmp (o_eq A.u) (pm_var 4) pm_int (nomark _)) (pmb_one pms_brk) pmb_nil)
    (pmb_one (pms_par rfl sc__law_common.nd (pma_cons (pm_var 4) (pma_cons (pm_op o_mod (pm_ty c_int T.z_int (by decide +kernel) (pma_cons (pm_var 3) pma_nil)) (pm_var 4)) pma_nil))))))
    (pmb_one (pms_set 1 sc__law_common.nd (pm_var 3))))))
    (pmb_one (pms_ret (pm_var 1)))))⟩
/-! _law_lean -/
abbrev s__law_lean : Stmt := topS 62
abbrev N__law_lean : List Str := ["_law_numbers", "_law_by", "_law_number"]
theorem sc__law_lean : FnScope N__law_lean ["_law_numbers"] (defScope s__law_lean) := ⟨rfl, rfl, rfl, by decide +kernel, rfl, by decide +kernel, by decide +kernel⟩
theorem b__law_lean : BindP "_law_lean" s__law_lean ["_law_numbers"] := fun _ _ _ _ _ _ us hl => match us, hl with | [_], _ => rfl
theorem ok__law_lean (T : Top K mg) : Df P w K mg base "_law_lean" s__law_lean 2 ["_law_numbers"] m__law_lean := by
  refine ⟨defM_ar, ?_⟩
  obtain ⟨f, fd, F, gf⟩ := T.has__law_lean
  exact ⟨f, fd, F, gf, fnG_of F sc__law_lean defM_ok fun cdv Ar outer s H E A => (pmb_cons (pms_set 1 sc__law_lean.nd (pm_bi (c_max2 rfl) T.z_max (by decide +kernel) (pma_cons pm_int (pma_cons (pm_call A (ok__law_common T) b__law_common (by decide) (pma_cons (pm_var 0) pma_nil)) pma_nil))))
    (pmb_one (pms_ret (pm_ty c_tuple T.z_tuple (by decide +kernel) (pma_cons (pm_lc [("_law_number", 2)] rfl sc__law_lean.nd (blkOk_by (own := [("_law_number", 2)]) (N := N__law_lean) (sc := defScope s__law_lean) (by decide +kernel)) (pmi_seq (pm_var 0)) (fun _ _ _ _ _ => (pmf_name 2 sc__law_lean.nd)) (fun _ _ _ _ _ => pbs_nil) (fun _ _ _ _ _ => (pm_op o_fdiv (pm_var 2) (pm_var 1)))) pma_nil)))))⟩
/-! _law_ratio -/
abbrev s__law_ratio : Stmt := topS 63
abbrev N__law_ratio : List Str := ["_law_n", "_law_m"]
theorem sc__law_ratio : FnScope N__law_ratio ["_law_n", "_law_m"] (defScope s__law_ratio) := ⟨rfl, rfl, rfl, by decide +kernel, rfl, by decide +kernel, by decide +kernel⟩
theorem b__law_ratio : BindP "_law_ratio" s__law_ratio ["_law_n", "_law_m"] := fun _ _ _ _ _ _ us hl => match us, hl with | [_, _], _ => rfl
theorem ok__law_ratio (T : Top K mg) : Df P w K mg base "_law_ratio" s__law_ratio 3 ["_law_n", "_law_m"] m__law_ratio := by
  refine ⟨defM_ar, ?_⟩
  obtain ⟨f, fd, F, gf⟩ := T.has__law_ratio
  exact ⟨f, fd, F, gf, fnG_of F sc__law_ratio defM_ok fun cdv Ar outer s H E A => (pmb_one (pms_ret (pm_if (pb_cmp o_gt (pm_var 1) pm_int (nomark _)) (pm_call A (ok__law_lean T) b__law_lean (by decide) (pma_cons (pm_tup (pma_cons (pm_var 0) (pma_cons (pm_var 1) pma_nil))) pma_nil)) (pm_call A (ok__law_lean T) b__law_lean (by decide) (pma_cons (pm_tup (pma_cons (pm_op o_sub pm_int (pm_var 0)) (pma_cons (pm_op o_sub pm_int (pm_var 1)) pma_nil))) pma_nil)))))⟩
/-! _law_plus -/
abbrev s__law_plus : Stmt := topS 64
abbrev N__law_plus : List Str := ["_law_one", "_law_two"]
theorem sc__law_plus : FnScope N__law_plus ["_law_one", "_law_two"] (defScope s__law_plus) := ⟨rfl, rfl, rfl, by decide +kernel, rfl, by decide +kernel, by decide +kernel⟩
theorem b__law_plus : BindP "_law_plus" s__law_plus ["_law_one", "_law_two"] := fun _ _ _ _ _ _ us hl => match us, hl with | [_, _], _ => rfl
theorem ok__law_plus (T : Top K mg) : Df P w K mg base "_law_plus" s__law_plus 4 ["_law_one", "_law_two"] m__law_plus := by
  refine ⟨defM_ar, ?_⟩
  obtain ⟨f, fd, F, gf⟩ := T.has__law_plus
  exact ⟨f, fd, F, gf, fnG_of F sc__law_plus defM_ok fun cdv Ar outer s H E A => (pmb_one (pms_ret (pm_call A (ok__law_ratio T) b__law_ratio (by decide) (pma_cons (pm_op o_add (pm_op o_mul (pm_ix (pm_var 0) pm_int) (pm_ix (pm_var 1) pm_int)) (pm_op o_mul (pm_ix (pm_var 1) pm_int) (pm_ix (pm_var 0) pm_int))) (pma_cons (pm_op o_mul (pm_ix (pm_var 0) pm_int) (pm_ix (pm_var 1) pm_int)) pma_nil)))))⟩
/-! _law_less -/
abbrev s__law_less : Stmt := topS 65
abbrev N__law_less : List Str := ["_law_one", "_law_two"]
theorem sc__law_less : FnScope N__law_less ["_law_one", "_law_two"] (defScope s__law_less) := ⟨rfl, rfl, rfl, by decide +kernel, rfl, by decide +kernel, by decide +kernel⟩
theorem b__law_less : BindP "_law_less" s__law_less ["_law_one", "_law_two"] := fun _ _ _ _ _ _ us hl => match us, hl with | [_, _], _ => rfl
theorem ok__law_less (T : Top K mg) : Df P w K mg base "_law_less" s__law_less 4 ["_law_one", "_law_two"] m__law_less := by
  refine ⟨defM_ar, ?_⟩
  obtain ⟨f, fd, F, gf⟩ := T.has__law_less
  exact ⟨f, fd, F, gf, fnG_of F sc__law_less defM_ok fun cdv Ar outer s H E A => (pmb_one (pms_ret (pm_call A (ok__law_ratio T) b__law_ratio (by decide) (pma_cons (pm_op o_sub (pm_op o_mul (pm_ix (pm_var 0) pm_int) (pm_ix (pm_var 1) pm_int)) (pm_op o_mul (pm_ix (pm_var 1) pm_int) (pm_ix (pm_var 0) pm_int))) (pma_cons (pm_op o_mul (pm_ix (pm_var 0) pm_int) (pm_ix (pm_var 1) pm_int)) pma_nil)))))⟩
/-! _law_times -/
abbrev s__law_times : Stmt := topS 66
abbrev N__law_times : List Str := ["_law_one", "_law_two"]
theorem sc__law_times : FnScope N__law_times ["_law_one", "_law_two"] (defScope s__law_times) := ⟨rfl, rfl, rfl, by decide +kernel, rfl, by decide +kernel, by decide +kernel⟩
theorem b__law_times : BindP "_law_times" s__law_times ["_law_one", "_law_two"] := fun _ _ _ _ _ _ us hl => match us, hl with | [_, _], _ => rfl
theorem ok__law_times (T : Top K mg) : Df P w K mg base "_law_times" s__law_times 4 ["_law_one", "_law_two"] m__law_times := by
  refine ⟨defM_ar, ?_⟩
  obtain ⟨f, fd, F, gf⟩ := T.has__law_times
  exact ⟨f, fd, F, gf, fnG_of F sc__law_times defM_ok fun cdv Ar outer s H E A => (pmb_one (pms_ret (pm_call A (ok__law_ratio T) b__law_ratio (by decide) (pma_cons (pm_op o_mul (pm_ix (pm_var 0) pm_int) (pm_ix (pm_var 1) pm_int)) (pma_cons (pm_op o_mul (pm_ix (pm_var 0) pm_int) (pm_ix (pm_var 1) pm_int)) pma_nil)))))⟩
/-! _law_sign -/
abbrev s__law_sign : Stmt := topS 68
abbrev N__law_sign : List Str := ["_law_number"]
theorem sc__law_sign : FnScope N__law_sign ["_law_number"] (defScope s__law_sign) := ⟨rfl, rfl, rfl, by decide +kernel, rfl, by decide +kernel, by decide +kernel⟩
theorem b__law_sign : BindP "_law_sign" s__law_sign ["_law_number"] := fun _ _ _ _ _ _ us hl => match us, hl with | [_], _ => rfl
theorem ok__law_sign (T : Top K mg) : Df P w K mg base "_law_sign" s__law_sign 1 ["_law_number"] m__law_sign := by
  refine ⟨defM_ar, ?_⟩
  obtain ⟨f, fd, F, gf⟩ := T.has__law_sign
  exact ⟨f, fd, F, gf, fnG_of F sc__law_sign defM_ok fun cdv Ar outer s H E A => (pmb_one (pms_ret (pm_op o_sub (pm_ty c_int T.z_int (by decide +kernel) (pma_cons (pm_cmp o_gt (pm_var 0) pm_int (nomark _)) pma_nil)) (pm_ty c_int T.z_int (by decide +kernel) (pma_cons (pm_cmp o_lt (pm_var 0) pm_int (nomark _)) pma_nil)))))⟩
/-! _law_order -/
abbrev s__law_order : Stmt := topS 67
abbrev N__law_order : List Str := ["_law_one", "_law_two"]
theorem sc__law_order : FnScope N__law_order ["_law_one", "_law_two"] (defScope s__law_order) := ⟨rfl, rfl, rfl, by decide +kernel, rfl, by decide +kernel, by decide +kernel⟩
theorem b__law_order : BindP "_law_order" s__law_order ["_law_one", "_law_two"] := fun _ _ _ _ _ _ us hl => match us, hl with | [_, _], _ => rfl
theorem ok__law_order (T : Top K mg) : Df P w K mg base "_law_order" s__law_order 2 ["_law_one", "_law_two"] m__law_order := by
  refine ⟨defM_ar, ?_⟩
  obtain ⟨f, fd, F, gf⟩ := T.has__law_order
  exact ⟨f, fd, F, gf, fnG_of F sc__law_order defM_ok fun cdv Ar outer s H E A => (pmb_one (pms_ret (pm_call A (ok__law_sign T) b__law_sign (by decide) (pma_cons (pm_op o_sub (pm_op o_mul (pm_ix (pm_var 0) pm_int) (pm_ix (pm_var 1) pm_int)) (pm_op o_mul (pm_ix (pm_var 1) pm_int) (pm_ix (pm_var 0) pm_int))) pma_nil))))⟩
/-! _law_apart -/
abbrev s__law_apart : Stmt := topS 69
abbrev N__law_apart : List Str := ["_law_place"]
theorem sc__law_apart : FnScope N__law_apart ["_law_place"] (defScope s__law_apart) := ⟨rfl, rfl, rfl, by decide +kernel, rfl, by decide +kernel, by decide +kernel⟩
theorem b__law_apart : BindP "_law_apart" s__law_apart ["_law_place"] := fun _ _ _ _ _ _ us hl => match us, hl with | [_], _ => rfl
theorem ok__law_apart (T : Top K mg) : Df P w K mg base "_law_apart" s__law_apart 4 ["_law_place"] m__law_apart := by
  refine ⟨defM_ar, ?_⟩
  obtain ⟨f, fd, F, gf⟩ := T.has__law_apart
  exact ⟨f, fd, F, gf, fnG_of F sc__law_apart defM_ok fun cdv Ar outer s H E A => (pmb_one (pms_ret (pm_tup (pma_cons (pm_call A (ok__law_ratio T) b__law_ratio (by decide) (pma_cons (pm_ix (pm_var 0) pm_int) (pma_cons (pm_ix (pm_var 0) pm_int) pma_nil))) (pma_cons (pm_call A (ok__law_ratio T) b__law_ratio (by decide) (pma_cons (pm_ix (pm_var 0) pm_int) (pma_cons (pm_ix (pm_var 0) pm_int) pma_nil))) pma_nil)))))⟩
/-! _law_size -/
abbrev s__law_size : Stmt := topS 70
abbrev N__law_size : List Str := ["_law_well_here", "_law_way"]
theorem sc__law_size : FnScope N__law_size ["_law_well_here"] (defScope s__law_size) := ⟨rfl, rfl, rfl, by decide +kernel, rfl, by decide +kernel, by decide +kernel⟩
theorem b__law_size : BindP "_law_size" s__law_size ["_law_well_here"] := fun _ _ _ _ _ _ us hl => match us, hl with | [_], _ => rfl
theorem ok__law_size (T : Top K mg) : Df P w K mg base "_law_size" s__law_size 4 ["_law_well_here"] m__law_size := by
  refine ⟨defM_ar, ?_⟩
  obtain ⟨f, fd, F, gf⟩ := T.has__law_size
  exact ⟨f, fd, F, gf, fnG_of F sc__law_size defM_ok fun cdv Ar outer s H E A => (pmb_cons (pms_set 1 sc__law_size.nd (pm_call A (ok__law_draw T) b__law_draw (by decide) (pma_cons (pm_var 0) (pma_cons pm_int pma_nil))))
    (pmb_cons (pms_if (pb_cmp o_lt (pm_var 1) pm_int (nomark _)) (pmb_one (pms_ret (pm_call A (ok__law_pick T) b__law_pick (by decide) (pma_cons (pm_var 0) (pma_cons (pm_tup (pma_cons (pm_tup (pma_cons pm_int (pma_cons pm_int pma_nil))) (pma_cons (pm_tup (pma_cons pm_int (pma_cons pm_int pma_nil))) (pma_cons (pm_tup (pma_cons pm_int (pma_cons pm_int pma_nil))) (pma_cons (pm_tup (pma_cons pm_int (pma_cons pm_int pma_nil))) (pma_cons (pm_tup (pma_cons pm_int (pma_cons pm_int pma_nil))) (pma_cons (pm_tup (pma_cons pm_int (pma_cons pm_int pma_nil))) (pma_cons (pm_tup (pma_cons pm_int (pma_cons pm_int pma_nil))) (pma_cons (pm_tup (pma_cons pm_int (pma_cons pm_int pma_nil))) pma_nil))))))))) pma_nil))))) pmb_nil)
    (pmb_one (pms_ret (pm_call A (ok__law_ratio T) b__law_ratio (by decide) (pma_cons (pm_op o_add pm_int (pm_call A (ok__law_draw T) b__law_draw (by decide) (pma_cons (pm_var 0) (pma_cons pm_int pma_nil)))) (pma_cons (pm_op o_add pm_int (pm_call A (ok__law_draw T) b__law_draw (by decide) (pma_cons (pm_var 0) (pma_cons pm_int pma_nil)))) pma_nil)))))))⟩
/-! _law_part -/
abbrev s__law_part : Stmt := topS 71
abbrev N__law_part : List Str := ["_law_well_here", "_law_size_here"]
theorem sc__law_part : FnScope N__law_part ["_law_well_here"] (defScope s__law_part) := ⟨rfl, rfl, rfl, by decide +kernel, rfl, by decide +kernel, by decide +kernel⟩
theorem b__law_part : BindP "_law_part" s__law_part ["_law_well_here"] := fun _ _ _ _ _ _ us hl => match us, hl with | [_], _ => rfl
theorem ok__law_part (T : Top K mg) : Df P w K mg base "_law_part" s__law_part 5 ["_law_well_here"] m__law_part := by
  refine ⟨defM_ar, ?_⟩
  obtain ⟨f, fd, F, gf⟩ := T.has__law_part
  exact ⟨f, fd, F, gf, fnG_of F sc__law_part defM_ok fun cdv Ar outer s H E A => (pmb_cons (pms_set 1 sc__law_part.nd (pm_call A (ok__law_pick T) b__law_pick (by decide) (pma_cons (pm_var 0) (pma_cons (pm_tup (pma_cons (pm_tup (pma_cons pm_int (pma_cons pm_int pma_nil))) (pma_cons (pm_tup (pma_cons pm_int (pma_cons pm_int pma_nil))) (pma_cons (pm_tup (pma_cons pm_int (pma_cons pm_int pma_nil))) (pma_cons (pm_tup (pma_cons pm_int (pma_cons pm_int pma_nil))) (pma_cons pm_non (pma_cons pm_non (pma_cons pm_non pma_nil)))))))) pma_nil))))
    (pmb_cons (pms_set 1 sc__law_part.nd (pm_if (pb_cmp o_isN (pm_var 1) pm_non (nomark _)) (pm_call A (ok__law_size T) b__law_size (by decide) (pma_cons (pm_var 0) pma_nil)) (pm_var 1)))
    (pmb_one (pms_ret (pm_if (pb_cmp o_lt (pm_call A (ok__law_draw T) b__law_draw (by decide) (pma_cons (pm_var 0) (pma_cons pm_int pma_nil))) pm_int (nomark _)) (pm_var 1) (pm_tup (pma_cons (pm_op o_sub pm_int (pm_ix (pm_var 1) pm_int)) (pma_cons (pm_ix (pm_var 1) pm_int) pma_nil))))))))⟩
/-! _law_jet -/
abbrev s__law_jet : Stmt := topS 72
abbrev N__law_jet : List Str := ["_law_well_here", "_law_way"]
theorem sc__law_jet : FnScope N__law_jet ["_law_well_here"] (defScope s__law_jet) := ⟨rfl, rfl, rfl, by decide +kernel, rfl, by decide +kernel, by decide +kernel⟩
theorem b__law_jet : BindP "_law_jet" s__law_jet ["_law_well_here"] := fun _ _ _ _ _ _ us hl => match us, hl with | [_], _ => rfl
theorem ok__law_jet (T : Top K mg) : Df P w K mg base "_law_jet" s__law_jet 6 ["_law_well_here"] m__law_jet := by
  refine ⟨defM_ar, ?_⟩
  obtain ⟨f, fd, F, gf⟩ := T.has__law_jet
  exact ⟨f, fd, F, gf, fnG_of F sc__law_jet defM_ok fun cdv Ar outer s H E A => (pmb_cons (pms_set 1 sc__law_jet.nd (pm_call A (ok__law_draw T) b__law_draw (by decide) (pma_cons (pm_var 0) (pma_cons pm_int pma_nil))))
    (pmb_cons (pms_if (pb_cmp o_lt (pm_var 1) pm_int (nomark _)) (pmb_one (pms_ret (pm_call A (ok__law_pick T) b__law_pick (by decide) (pma_cons (pm_var 0) (pma_cons (pm_tup (pma_cons (pm_tup (pma_cons (pm_tup (pma_cons pm_int (pma_cons pm_int pma_nil))) (pma_cons (pm_tup (pma_cons pm_int (pma_cons pm_int pma_nil))) pma_nil))) (pma_cons (pm_tup (pma_cons (pm_tup (pma_cons pm_int (pma_cons pm_int pma_nil))) (pma_cons (pm_tup (pma_cons pm_int (pma_cons pm_int pma_nil))) pma_nil))) (pma_cons (pm_tup (pma_cons (pm_tup (pma_cons pm_int (pma_cons pm_int pma_nil))) (pma_cons (pm_tup (pma_cons pm_int (pma_cons pm_int pma_nil))) pma_nil))) (pma_cons (pm_tup (pma_cons (pm_tup (pma_cons pm_int (pma_cons pm_int pma_nil))) (pma_cons (pm_tup (pma_cons pm_int (pma_cons pm_int pma_nil))) pma_nil))) (pma_cons (pm_tup (pma_cons (pm_tup (pma_cons pm_int (pma_cons pm_int pma_nil))) (pma_cons (pm_tup (pma_cons pm_int (pma_cons pm_int pma_nil))) pma_nil))) pma_nil)))))) pma_nil))))) pmb_nil)
    (pmb_one (pms_ret (pm_tup (pma_cons (pm_call A (ok__law_part T) b__law_part (by decide) (pma_cons (pm_var 0) pma_nil)) (pma_cons (pm_call A (ok__law_size T) b__law_size (by decide) (pma_cons (pm_var 0) pma_nil)) pma_nil)))))))⟩
/-! _law_point -/
abbrev s__law_point : Stmt := topS 73
abbrev N__law_point : List Str := ["_law_x", "_law_y"]
theorem sc__law_point : FnScope N__law_point ["_law_x", "_law_y"] (defScope s__law_point) := ⟨rfl, rfl, rfl, by decide +kernel, rfl, by decide +kernel, by decide +kernel⟩
theorem b__law_point : BindP "_law_point" s__law_point ["_law_x", "_law_y"] := fun _ _ _ _ _ _ us hl => match us, hl with | [_, _], _ => rfl
theorem ok__law_point (T : Top K mg) : Df P w K mg base "_law_point" s__law_point 3 ["_law_x", "_law_y"] m__law_point := by
  refine ⟨defM_ar, ?_⟩
  obtain ⟨f, fd, F, gf⟩ := T.has__law_point
  exact ⟨f, fd, F, gf, fnG_of F sc__law_point defM_ok fun cdv Ar outer s H E A => (pmb_one (pms_ret (pm_call A (ok__law_lean T) b__law_lean (by decide) (pma_cons (pm_tup (pma_cons (pm_op o_mul (pm_ix (pm_var 0) pm_int) (pm_ix (pm_var 1) pm_int)) (pma_cons (pm_op o_mul (pm_ix (pm_var 1) pm_int) (pm_ix (pm_var 0) pm_int)) (pma_cons (pm_op o_mul (pm_ix (pm_var 0) pm_int) (pm_ix (pm_var 1) pm_int)) pma_nil)))) pma_nil))))⟩
/-! _law_curve -/
abbrev s__law_curve : Stmt := topS 74
abbrev N__law_curve : List Str := ["_law_stream_here", "_law_point_here", "_law_way", "_law_jet_here", "_law_x", "_law_y", "_law_slope", "_law_bend", "_law_b", "_law_a"]
theorem sc__law_curve : FnScope N__law_curve ["_law_stream_here"] (defScope s__law_curve) := ⟨rfl, rfl, rfl, by decide +kernel, rfl, by decide +kernel, by decide +kernel⟩
theorem b__law_curve : BindP "_law_curve" s__law_curve ["_law_stream_here"] := fun _ _ _ _ _ _ us hl => match us, hl with | [_], _ => rfl
theorem ok__law_curve (T : Top K mg) : Df P w K mg base "_law_curve" s__law_curve 5 ["_law_stream_here"] m__law_curve := by
  refine ⟨defM_ar, ?_⟩
  obtain ⟨f, fd, F, gf⟩ := T.has__law_curve
  exact ⟨f, fd, F, gf, fnG_of F sc__law_curve defM_ok fun cdv Ar outer s H E A => (pmb_cons (pms_asg (pm_var 0) (pmg_tup rfl (pmgs_cons (pmg_name 1 sc__law_curve.nd) (pmgs_cons (pmg_name 2 sc__law_curve.nd) (pmgs_cons (pmg_name 3 sc__law_curve.nd) pmgs_nil)))))
    (pmb_cons (pms_asg (pm_call A (ok__law_apart T) b__law_apart (by decide) (pma_cons (pm_var 1) pma_nil)) (pmg_tup rfl (pmgs_cons (pmg_name 4 sc__law_curve.nd) (pmgs_cons (pmg_name 5 sc__law_curve.nd) pmgs_nil))))
    (pmb_cons (pms_par rfl sc__law_curve.nd (pma_cons (pm_tup (pma_cons (pm_op o_mul (pm_var 2) (pm_ix (pm_ix (pm_var 3) pm_int) pm_int)) (pma_cons (pm_ix (pm_ix (pm_var 3) pm_int) pm_int) pma_nil))) (pma_cons (pm_ix (pm_var 3) pm_int) pma_nil)))
    (pmb_cons (pms_set 8 sc__law_curve.nd (pm_call A (ok__law_plus T) b__law_plus (by decide) (pma_cons (pm_var 6) (pma_cons (pm_call A (ok__law_times T) b__law_times (by decide) (pma_cons (pm_tup (pma_cons pm_int (pma_cons pm_int pma_nil))) (pma_cons (pm_call A (ok__law_times T) b__law_times (by decide) (pma_cons (pm_var 7) (pma_cons (pm_var 4) pma_nil))) pma_nil))) pma_nil))))
    (pmb_cons (pms_set 9 sc__law_curve.nd (pm_call A (ok__law_less T) b__law_less (by decide) (pma_cons (pm_call A (ok__law_less T) b__law_less (by decide) (pma_cons (pm_var 5) (pma_cons (pm_call A (ok__law_times T) b__law_times (by decide) (pma_cons (pm_var 6) (pma_cons (pm_var 4) pma_nil))) pma_nil))) (pma_cons (pm_call A (ok__law_times T) b__law_times (by decide) (pma_cons (pm_var 7) (pma_cons (pm_call A (ok__law_times T) b__law_times (by decide) (pma_cons (pm_var 4) (pma_cons (pm_var 4) pma_nil))) pma_nil))) pma_nil))))
    (pmb_one (pms_ret (pm_tup (pma_cons (pm_var 9) (pma_cons (pm_var 8) (pma_cons (pm_tup (pma_cons (pm_op o_sub pm_int (pm_ix (pm_var 7) pm_int)) (pma_cons (pm_ix (pm_var 7) pm_int) pma_nil))) pma_nil)))))))))))⟩
/-! _law_stream -/
abbrev s__law_stream : Stmt := topS 75
abbrev N__law_stream : List Str := ["_law_well_here", "_law_point_here"]
theorem sc__law_stream : FnScope N__law_stream ["_law_well_here"] (defScope s__law_stream) := ⟨rfl, rfl, rfl, by decide +kernel, rfl, by decide +kernel, by decide +kernel⟩
theorem b__law_stream : BindP "_law_stream" s__law_stream ["_law_well_here"] := fun _ _ _ _ _ _ us hl => match us, hl with | [_], _ => rfl
theorem ok__law_stream (T : Top K mg) : Df P w K mg base "_law_stream" s__law_stream 7 ["_law_well_here"] m__law_stream := by
  refine ⟨defM_ar, ?_⟩
  obtain ⟨f, fd, F, gf⟩ := T.has__law_stream
  exact ⟨f, fd, F, gf, fnG_of F sc__law_stream defM_ok fun cdv Ar outer s H E A => (pmb_cons (pms_set 1 sc__law_stream.nd (pm_call A (ok__law_point T) b__law_point (by decide) (pma_cons (pm_call A (ok__law_part T) b__law_part (by decide) (pma_cons (pm_var 0) pma_nil)) (pma_cons (pm_call A (ok__law_part T) b__law_part (by decide) (pma_cons (pm_var 0) pma_nil)) pma_nil))))
    (pmb_one (pms_ret (pm_tup (pma_cons (pm_var 1) (pma_cons (pm_op o_sub pm_int (pm_op o_mul pm_int (pm_call A (ok__law_draw T) b__law_draw (by decide) (pma_cons (pm_var 0) (pma_cons pm_int pma_nil))))) (pma_cons (pm_call A (ok__law_jet T) b__law_jet (by decide) (pma_cons (pm_var 0) pma_nil)) pma_nil)))))))⟩
/-! _law_far_x -/
abbrev s__law_far_x : Stmt := topS 76
abbrev N__law_far_x : List Str := ["_law_well_here", "_law_stream_here", "_law_x"]
theorem sc__law_far_x : FnScope N__law_far_x ["_law_well_here", "_law_stream_here"] (defScope s__law_far_x) := ⟨rfl, rfl, rfl, by decide +kernel, rfl, by decide +kernel, by decide +kernel⟩
theorem b__law_far_x : BindP "_law_far_x" s__law_far_x ["_law_well_here", "_law_stream_here"] := fun _ _ _ _ _ _ us hl => match us, hl with | [_, _], _ => rfl
theorem ok__law_far_x (T : Top K mg) : Df P w K mg base "_law_far_x" s__law_far_x 5 ["_law_well_here", "_law_stream_here"] m__law_far_x := by
  refine ⟨defM_ar, ?_⟩
  obtain ⟨f, fd, F, gf⟩ := T.has__law_far_x
  exact ⟨f, fd, F, gf, fnG_of F sc__law_far_x defM_ok fun cdv Ar outer s H E A => (pmb_cons (pms_set 2 sc__law_far_x.nd (pm_ix (pm_call A (ok__law_apart T) b__law_apart (by decide) (pma_cons (pm_ix (pm_var 1) pm_int) pma_nil)) pm_int))
    (pmb_one (pms_ret (pm_if (pb_cmp (o_eq A.u) (pm_ix (pm_var 1) pm_int) pm_int (nomark _)) (pm_call A (ok__law_plus T) b__law_plus (by decide) (pma_cons (pm_var 2) (pma_cons (pm_call A (ok__law_size T) b__law_size (by decide) (pma_cons (pm_var 0) pma_nil)) pma_nil))) (pm_call A (ok__law_less T) b__law_less (by decide) (pma_cons (pm_var 2) (pma_cons (pm_call A (ok__law_size T) b__law_size (by decide) (pma_cons (pm_var 0) pma_nil)) pma_nil)))))))⟩
/-! _law_on_curve -/
abbrev s__law_on_curve : Stmt := topS 77
abbrev N__law_on_curve : List Str := ["_law_stream_here", "_law_x", "_law_way", "_law_a", "_law_b", "_law_c", "_law_slope", "_law_y"]
theorem sc__law_on_curve : FnScope N__law_on_curve ["_law_stream_here", "_law_x", "_law_way"] (defScope s__law_on_curve) := ⟨rfl, rfl, rfl, by decide +kernel, rfl, by decide +kernel, by decide +kernel⟩
theorem b__law_on_curve : BindP "_law_on_curve" s__law_on_curve ["_law_stream_here", "_law_x", "_law_way"] := fun _ _ _ _ _ _ us hl => match us, hl with | [_, _, _], _ => rfl
theorem ok__law_on_curve (T : Top K mg) : Df P w K mg base "_law_on_curve" s__law_on_curve 6 ["_law_stream_here", "_law_x", "_law_way"] m__law_on_curve := by
  refine ⟨defM_ar, ?_⟩
  obtain ⟨f, fd, F, gf⟩ := T.has__law_on_curve
  exact ⟨f, fd, F, gf, fnG_of F sc__law_on_curve defM_ok fun cdv Ar outer s H E A => (pmb_cons (pms_asg (pm_call A (ok__law_curve T) b__law_curve (by decide) (pma_cons (pm_var 0) pma_nil)) (pmg_tup rfl (pmgs_cons (pmg_name 3 sc__law_on_curve.nd) (pmgs_cons (pmg_name 4 sc__law_on_curve.nd) (pmgs_cons (pmg_name 5 sc__law_on_curve.nd) pmgs_nil)))))
    (pmb_cons (pms_set 6 sc__law_on_curve.nd (pm_call A (ok__law_plus T) b__law_plus (by decide) (pma_cons (pm_var 4) (pma_cons (pm_call A (ok__law_times T) b__law_times (by decide) (pma_cons (pm_tup (pma_cons pm_int (pma_cons pm_int pma_nil))) (pma_cons (pm_call A (ok__law_times T) b__law_times (by decide) (pma_cons (pm_var 5) (pma_cons (pm_var 1) pma_nil))) pma_nil))) pma_nil))))
    (pmb_cons (pms_set 7 sc__law_on_curve.nd (pm_call A (ok__law_plus T) b__law_plus (by decide) (pma_cons (pm_var 3) (pma_cons (pm_call A (ok__law_times T) b__law_times (by decide) (pma_cons (pm_var 1) (pma_cons (pm_call A (ok__law_plus T) b__law_plus (by decide) (pma_cons (pm_var 4) (pma_cons (pm_call A (ok__law_times T) b__law_times (by decide) (pma_cons (pm_var 5) (pma_cons (pm_var 1) pma_nil))) pma_nil))) pma_nil))) pma_nil))))
    (pmb_one (pms_ret (pm_tup (pma_cons (pm_call A (ok__law_point T) b__law_point (by decide) (pma_cons (pm_var 1) (pma_cons (pm_var 7) pma_nil))) (pma_cons (pm_var 2) (pma_cons (pm_tup (pma_cons (pm_tup (pma_cons (pm_op o_mul (pm_var 2) (pm_ix (pm_var 6) pm_int)) (pma_cons (pm_ix (pm_var 6) pm_int) pma_nil))) (pma_cons (pm_ix (pm_ix (pm_var 0) pm_int) pm_int) pma_nil))) pma_nil)))))))))⟩
/-! _law_right -/
abbrev s__law_right : Stmt := topS 78
abbrev N__law_right : List Str := ["_law_well_here", "_law_one", "_law_begin", "_law_x", "_law_two", "_law_told", "_law_way", "_law_point_here", "_law_due", "_law_same", "_law_half"]
theorem sc__law_right : FnScope N__law_right ["_law_well_here"] (defScope s__law_right) := ⟨rfl, rfl, rfl, by decide +kernel, rfl, by decide +kernel, by decide +kernel⟩
theorem b__law_right : BindP "_law_right" s__law_right ["_law_well_here"] := fun _ _ _ _ _ _ us hl => match us, hl with | [_], _ => rfl
theorem ok__law_right (T : Top K mg) : Df P w K mg base "_law_right" s__law_right 9 ["_law_well_here"] m__law_right := by
  refine ⟨defM_ar, ?_⟩
  obtain ⟨f, fd, F, gf⟩ := T.has__law_right
  exact ⟨f, fd, F, gf, fnG_of F sc__law_right defM_ok fun cdv Ar outer s H E A => (pmb_cons (pms_set 1 sc__law_right.nd (pm_call A (ok__law_stream T) b__law_stream (by decide) (pma_cons (pm_var 0) pma_nil)))
    (pmb_cons (pms_set 2 sc__law_right.nd (pm_ix (pm_call A (ok__law_apart T) b__law_apart (by decide) (pma_cons (pm_ix (pm_var 1) pm_int) pma_nil)) pm_int))
    (pmb_cons (pms_set 3 sc__law_right.nd (pm_call A (ok__law_pick T) b__law_pick (by decide) (pma_cons (pm_var 0) (pma_cons (pm_lst (pma_cons (pm_call A (ok__law_far_x T) b__law_far_x (by decide) (pma_cons (pm_var 0) (pma_cons (pm_var 1) pma_nil))) (pma_cons (pm_var 2) (pma_cons (pm_call A (ok__law_less T) b__law_less (by decide) (pma_cons (pm_var 2) (pma_cons (pm_call A (ok__law_size T) b__law_size (by decide) (pma_cons (pm_var 0) pma_nil)) pma_nil))) (pma_cons (pm_call A (ok__law_plus T) b__law_plus (by decide) (pma_cons (pm_var 2) (pma_cons (pm_call A (ok__law_size T) b__law_size (by decide) (pma_cons (pm_var 0) pma_nil)) pma_nil))) pma_nil))))) pma_nil))))
    (pmb_cons (pms_set 4 sc__law_right.nd (pm_call A (ok__law_on_curve T) b__law_on_curve (by decide) (pma_cons (pm_var 1) (pma_cons (pm_var 3) (pma_cons (pm_op o_sub pm_int (pm_op o_mul pm_int (pm_call A (ok__law_draw T) b__law_draw (by decide) (pma_cons (pm_var 0) (pma_cons pm_int pma_nil))))) pma_nil)))))
    (pmb_cons (pms_par rfl sc__law_right.nd (pma_cons (pm_lst (pma_cons (pm_call A (ok_meetings T) b_meetings (by decide) (pma_cons (pm_var 1) (pma_cons (pm_var 4) pma_nil))) (pma_cons (pm_callK0 ["stream", "other"] [0, 1] A (ok_meetings T) kb_meetings_0 (by decide) (pmk_cons (pm_var 4) (pmk_cons (pm_var 1) pmk_nil))) pma_nil))) (pma_cons (pm_op o_mul (pm_call A (ok__law_order T) b__law_order (by decide) (pma_cons (pm_var 3) (pma_cons (pm_var 2) pma_nil))) (pm_ix (pm_var 1) pm_int)) pma_nil)))
    (pmb_cons (pms_if (pb_cmp (o_eq A.u) (pm_ix (pm_var 4) pm_int) (pm_ix (pm_var 1) pm_int) (nomark _)) (pmb_cons (pms_set 9 sc__law_right.nd (pm_call A (ok_drops_meet T) b_drops_meet (by decide) (pma_cons (pm_var 1) (pma_cons (pm_var 4) pma_nil))))
    (pmb_one (pms_ret (pm_and (pm_cmp (o_eq A.u) (pm_bi (c_repr A.guards A.u66) T.z_repr (by decide +kernel) (pma_cons (pm_var 5) pma_nil)) pm_str (nomark _)) (pm_and (pm_cmp (o_eq A.u) (pm_bi (c_repr A.guards A.u66) T.z_repr (by decide +kernel) (pma_cons (pm_var 9) pma_nil)) (pm_bi (c_repr A.guards A.u66) T.z_repr (by decide +kernel) (pma_cons (pm_cmp (o_eq A.u) (pm_var 6) pm_int (nomark _)) pma_nil)) (nomark _)) (pm_one (pm_or (pm_cmp (o_ne A.u) (pm_var 6) pm_int (nomark _)) (pm_one (pm_cmp (o_eq A.u) (pm_var 1) (pm_var 4) (nomark _)))))))))) pmb_nil)
    (pmb_cons (pms_if (pb_cmp o_gt (pm_var 6) pm_int (nomark _)) (pmb_cons (pms_set 10 sc__law_right.nd (pm_call A (ok__law_times T) b__law_times (by decide) (pma_cons (pm_tup (pma_cons pm_int (pma_cons pm_int pma_nil))) (pma_cons (pm_call A (ok__law_plus T) b__law_plus (by decide) (pma_cons (pm_var 2) (pma_cons (pm_var 3) pma_nil))) pma_nil))))
    (pmb_cons (pms_if (PW.pt (pbw_or (pb_cmp (o_ne A.u) (pm_bi (c_repr A.guards A.u66) T.z_repr (by decide +kernel) (pma_cons (pm_call A (ok_water_at T) b_water_at (by decide) (pma_cons (pm_var 1) (pma_cons (pm_var 10) pma_nil))) pma_nil)) (pm_bi (c_repr A.guards A.u66) T.z_repr (by decide +kernel) (pma_cons (pm_call A (ok_water_at T) b_water_at (by decide) (pma_cons (pm_var 4) (pma_cons (pm_var 10) pma_nil))) pma_nil)) (nomark _)) (pw1_or (pb_cmp o_isN (pm_call A (ok_water_at T) b_water_at (by decide) (pma_cons (pm_var 1) (pma_cons (pm_var 10) pma_nil))) pm_non (nomark _))))) (pmb_one (pms_ret pm_bl)) pmb_nil)
    (pmb_one (pms_ret (pm_and (pm_cmp (o_eq A.u) (pm_bi (c_repr A.guards A.u66) T.z_repr (by decide +kernel) (pma_cons (pm_var 5) pma_nil)) pm_str (nomark _)) (pm_one (pm_cmp o_isB (pm_call A (ok_drops_meet T) b_drops_meet (by decide) (pma_cons (pm_var 1) (pma_cons (pm_var 4) pma_nil))) pm_bl (nomark _)))))))) pmb_nil)
    (pmb_cons (pms_if (pb_cmp o_lt (pm_var 6) pm_int (nomark _)) (pmb_one (pms_ret (pm_and (pm_cmp (o_eq A.u) (pm_bi (c_repr A.guards A.u66) T.z_repr (by decide +kernel) (pma_cons (pm_var 5) pma_nil)) pm_str (nomark _)) (pm_one (pm_cmp o_isB (pm_call A (ok_drops_meet T) b_drops_meet (by decide) (pma_cons (pm_var 1) (pma_cons (pm_var 4) pma_nil))) pm_bl (nomark _)))))) pmb_nil)
    (pmb_cons (pms_set 7 sc__law_right.nd (pm_call A (ok__law_apart T) b__law_apart (by decide) (pma_cons (pm_ix (pm_var 1) pm_int) pma_nil)))
    (pmb_cons (pms_set 8 sc__law_right.nd (pm_tup (pma_cons (pm_tup (pma_cons (pm_tup (pma_cons (pm_ix (pm_var 7) pm_int) (pma_cons pm_int (pma_cons (pm_tup (pma_cons pm_int (pma_cons pm_int pma_nil))) pma_nil)))) (pma_cons (pm_tup (pma_cons (pm_ix (pm_var 7) pm_int) (pma_cons pm_int (pma_cons (pm_tup (pma_cons pm_int (pma_cons pm_int pma_nil))) pma_nil)))) pma_nil))) pma_nil)))
    (pmb_cons (pms_if (pb_cmp (o_ne A.u) (pm_bi (c_repr A.guards A.u66) T.z_repr (by decide +kernel) (pma_cons (pm_var 5) pma_nil)) (pm_bi (c_repr A.guards A.u66) T.z_repr (by decide +kernel) (pma_cons (pm_lst (pma_cons (pm_var 8) (pma_cons (pm_var 8) pma_nil))) pma_nil)) (nomark _)) (pmb_one (pms_ret pm_bl)) pmb_nil)
    (pmb_one (pms_ret (pm_and (pm_cmp (o_eq A.u) (pm_call A (ok_first_there T) b_first_there (by decide) (pma_cons (pm_var 1) (pma_cons (pm_var 4) (pma_cons pm_int pma_nil)))) pm_str (nomark _)) (pm_one (pm_cmp o_isB (pm_call A (ok_drops_meet T) b_drops_meet (by decide) (pma_cons (pm_var 4) (pma_cons (pm_var 1) pma_nil))) pm_bl (nomark _)))))))))))))))))⟩
/-! law -/
abbrev s_law : Stmt := topS 79
abbrev N_law : List Str := ["_law_script", "_law_turn"]
theorem sc_law : FnScope N_law ["_law_script"] (defScope s_law) := ⟨rfl, rfl, rfl, by decide +kernel, rfl, by decide +kernel, by decide +kernel⟩
theorem b_law : BindP "law" s_law ["_law_script"] := fun _ _ _ _ _ _ us hl => match us, hl with | [_], _ => rfl
theorem ok_law (T : Top K mg) : Df P w K mg base "law" s_law 10 ["_law_script"] m_law := by
  refine ⟨defM_ar, ?_⟩
  obtain ⟨f, fd, F, gf⟩ := T.has_law
  exact ⟨f, fd, F, gf, fnG_of F sc_law defM_ok fun cdv Ar outer s H E A => (pmb_one (pms_ret (pm_bi (c_all rfl) T.z_all (by decide +kernel) (pma_cons (pm_lc [("_law_turn", 1)] rfl sc_law.nd (blkOk_by (own := [("_law_turn", 1)]) (N := N_law) (sc := defScope s_law) (by decide +kernel)) (pmi_rng1 T.z_range (pma_cons (pm_call A (ok__law_rounds T) b__law_rounds (by decide) (pma_cons (pm_var 0) (pma_cons pm_int (pma_cons pm_int pma_nil)))) pma_nil)) (fun _ _ _ _ _ => (pmf_name 1 sc_law.nd)) (fun _ _ _ _ _ => pbs_nil) (fun _ _ _ _ _ => (pm_call A.blk (ok__law_right T) b__law_right (by decide) (pma_cons (pm_call A.blk (ok__law_well T) b__law_well (by decide) (pma_cons (pm_var 0) (pma_cons (pm_var 1) pma_nil))) pma_nil)))) pma_nil))))⟩
end
/-! the head -/
def fnL0 : List He.DefD := [⟨("is_whole", none), "is_whole", "is_whole", defArgs s_is_whole, defBody s_is_whole, defScope s_is_whole, [], []⟩,
  ⟨("are_wholes", none), "are_wholes", "are_wholes", defArgs s_are_wholes, defBody s_are_wholes, defScope s_are_wholes, [], []⟩,
  ⟨("is_between", none), "is_between", "is_between", defArgs s_is_between, defBody s_is_between, defScope s_is_between, [], []⟩,
  ⟨("divisor_of", none), "divisor_of", "divisor_of", defArgs s_divisor_of, defBody s_divisor_of, defScope s_divisor_of, [], []⟩,
  ⟨("is_reduced", none), "is_reduced", "is_reduced", defArgs s_is_reduced, defBody s_is_reduced, defScope s_is_reduced, [], []⟩,
  ⟨("sign_of", none), "sign_of", "sign_of", defArgs s_sign_of, defBody s_sign_of, defScope s_sign_of, [], []⟩,
  ⟨("is_ratio", none), "is_ratio", "is_ratio", defArgs s_is_ratio, defBody s_is_ratio, defScope s_is_ratio, [], []⟩,
  ⟨("ratio", none), "ratio", "ratio", defArgs s_ratio, defBody s_ratio, defScope s_ratio, [], []⟩,
  ⟨("ratio_sum", none), "ratio_sum", "ratio_sum", defArgs s_ratio_sum, defBody s_ratio_sum, defScope s_ratio_sum, [], []⟩,
  ⟨("ratio_less", none), "ratio_less", "ratio_less", defArgs s_ratio_less, defBody s_ratio_less, defScope s_ratio_less, [], []⟩,
  ⟨("ratio_product", none), "ratio_product", "ratio_product", defArgs s_ratio_product, defBody s_ratio_product, defScope s_ratio_product, [], []⟩,
  ⟨("ratio_back", none), "ratio_back", "ratio_back", defArgs s_ratio_back, defBody s_ratio_back, defScope s_ratio_back, [], []⟩,
  ⟨("is_lower", none), "is_lower", "is_lower", defArgs s_is_lower, defBody s_is_lower, defScope s_is_lower, [], []⟩,
  ⟨("is_spot", none), "is_spot", "is_spot", defArgs s_is_spot, defBody s_is_spot, defScope s_is_spot, [], []⟩,
  ⟨("square_root", none), "square_root", "square_root", defArgs s_square_root, defBody s_square_root, defScope s_square_root, [], []⟩,
  ⟨("plain", none), "plain", "plain", defArgs s_plain, defBody s_plain, defScope s_plain, [], []⟩,
  ⟨("surd_from", none), "surd_from", "surd_from", defArgs s_surd_from, defBody s_surd_from, defScope s_surd_from, [], []⟩,
  ⟨("sign_of_one", none), "sign_of_one", "sign_of_one", defArgs s_sign_of_one, defBody s_sign_of_one, defScope s_sign_of_one, [], []⟩,
  ⟨("sign_of_two", none), "sign_of_two", "sign_of_two", defArgs s_sign_of_two, defBody s_sign_of_two, defScope s_sign_of_two, [], []⟩,
  ⟨("compared", none), "compared", "compared", defArgs s_compared, defBody s_compared, defScope s_compared, [], []⟩,
  ⟨("bent_value", none), "bent_value", "bent_value", defArgs s_bent_value, defBody s_bent_value, defScope s_bent_value, [], []⟩,
  ⟨("bent_ratio", none), "bent_ratio", "bent_ratio", defArgs s_bent_ratio, defBody s_bent_ratio, defScope s_bent_ratio, [], []⟩,
  ⟨("bent_less", none), "bent_less", "bent_less", defArgs s_bent_less, defBody s_bent_less, defScope s_bent_less, [], []⟩,
  ⟨("roots_of", none), "roots_of", "roots_of", defArgs s_roots_of, defBody s_roots_of, defScope s_roots_of, [], []⟩]
def faL0 : List He.Fa := [.glo "is_whole", .glo "are_wholes", .glo "is_between", .glo "divisor_of", .glo "is_reduced", .glo "sign_of", .glo "is_ratio", .glo "ratio", .glo "ratio_sum", .glo "ratio_less", .glo "ratio_product", .glo "ratio_back", .glo "is_lower", .glo "is_spot", .glo "square_root", .glo "plain", .glo "surd_from", .glo "sign_of_one", .glo "sign_of_two", .glo "compared", .glo "bent_value", .glo "bent_ratio", .glo "bent_less", .glo "roots_of"]
def fnL1 : List He.DefD := [⟨("is_in", none), "is_in", "is_in", defArgs s_is_in, defBody s_is_in, defScope s_is_in, [], []⟩,
  ⟨("is_stream_pair", none), "is_stream_pair", "is_stream_pair", defArgs s_is_stream_pair, defBody s_is_stream_pair, defScope s_is_stream_pair, [], []⟩,
  ⟨("check_fraction", none), "check_fraction", "check_fraction", defArgs s_check_fraction, defBody s_check_fraction, defScope s_check_fraction, [], []⟩,
  ⟨("is_stream", none), "is_stream", "is_stream", defArgs s_is_stream, defBody s_is_stream, defScope s_is_stream, [], []⟩,
  ⟨("check_stream", none), "check_stream", "check_stream", defArgs s_check_stream, defBody s_check_stream, defScope s_check_stream, [], []⟩,
  ⟨("start_of", none), "start_of", "start_of", defArgs s_start_of, defBody s_start_of, defScope s_start_of, [], []⟩,
  ⟨("heights_of", none), "heights_of", "heights_of", defArgs s_heights_of, defBody s_heights_of, defScope s_heights_of, [], []⟩,
  ⟨("times_of", none), "times_of", "times_of", defArgs s_times_of, defBody s_times_of, defScope s_times_of, [], []⟩,
  ⟨("reach_of", none), "reach_of", "reach_of", defArgs s_reach_of, defBody s_reach_of, defScope s_reach_of, [], []⟩,
  ⟨("water_at", none), "water_at", "water_at", defArgs s_water_at, defBody s_water_at, defScope s_water_at, [], []⟩,
  ⟨("met_at", none), "met_at", "met_at", defArgs s_met_at, defBody s_met_at, defScope s_met_at, [], []⟩,
  ⟨("check_both", none), "check_both", "check_both", defArgs s_check_both, defBody s_check_both, defScope s_check_both, [], []⟩,
  ⟨("meetings", none), "meetings", "meetings", defArgs s_meetings, defBody s_meetings, defScope s_meetings, [], []⟩,
  ⟨("order_at", none), "order_at", "order_at", defArgs s_order_at, defBody s_order_at, defScope s_order_at, [], []⟩,
  ⟨("first_there", none), "first_there", "first_there", defArgs s_first_there, defBody s_first_there, defScope s_first_there, [], []⟩,
  ⟨("drops_meet", none), "drops_meet", "drops_meet", defArgs s_drops_meet, defBody s_drops_meet, defScope s_drops_meet, [], []⟩,
  ⟨("_law_well", none), "_law_well", "_law_well", defArgs s__law_well, defBody s__law_well, defScope s__law_well, [], []⟩,
  ⟨("_law_draw", none), "_law_draw", "_law_draw", defArgs s__law_draw, defBody s__law_draw, defScope s__law_draw, [], []⟩,
  ⟨("_law_rounds", none), "_law_rounds", "_law_rounds", defArgs s__law_rounds, defBody s__law_rounds, defScope s__law_rounds, [], []⟩,
  ⟨("_law_pick", none), "_law_pick", "_law_pick", defArgs s__law_pick, defBody s__law_pick, defScope s__law_pick, [], []⟩,
  ⟨("_law_common", none), "_law_common", "_law_common", defArgs s__law_common, defBody s__law_common, defScope s__law_common, [], []⟩,
  ⟨("_law_lean", none), "_law_lean", "_law_lean", defArgs s__law_lean, defBody s__law_lean, defScope s__law_lean, [], []⟩,
  ⟨("_law_ratio", none), "_law_ratio", "_law_ratio", defArgs s__law_ratio, defBody s__law_ratio, defScope s__law_ratio, [], []⟩,
  ⟨("_law_plus", none), "_law_plus", "_law_plus", defArgs s__law_plus, defBody s__law_plus, defScope s__law_plus, [], []⟩]
def faL1 : List He.Fa := [.glo "is_in", .glo "is_stream_pair", .glo "check_fraction", .glo "is_stream", .glo "check_stream", .glo "start_of", .glo "heights_of", .glo "times_of", .glo "reach_of", .glo "water_at", .glo "met_at", .glo "check_both", .glo "meetings", .glo "order_at", .glo "first_there", .glo "drops_meet", .glo "_law_well", .glo "_law_draw", .glo "_law_rounds", .glo "_law_pick", .glo "_law_common", .glo "_law_lean", .glo "_law_ratio", .glo "_law_plus"]
def fnL2 : List He.DefD := [⟨("_law_less", none), "_law_less", "_law_less", defArgs s__law_less, defBody s__law_less, defScope s__law_less, [], []⟩,
  ⟨("_law_times", none), "_law_times", "_law_times", defArgs s__law_times, defBody s__law_times, defScope s__law_times, [], []⟩,
  ⟨("_law_sign", none), "_law_sign", "_law_sign", defArgs s__law_sign, defBody s__law_sign, defScope s__law_sign, [], []⟩,
  ⟨("_law_order", none), "_law_order", "_law_order", defArgs s__law_order, defBody s__law_order, defScope s__law_order, [], []⟩,
  ⟨("_law_apart", none), "_law_apart", "_law_apart", defArgs s__law_apart, defBody s__law_apart, defScope s__law_apart, [], []⟩,
  ⟨("_law_size", none), "_law_size", "_law_size", defArgs s__law_size, defBody s__law_size, defScope s__law_size, [], []⟩,
  ⟨("_law_part", none), "_law_part", "_law_part", defArgs s__law_part, defBody s__law_part, defScope s__law_part, [], []⟩,
  ⟨("_law_jet", none), "_law_jet", "_law_jet", defArgs s__law_jet, defBody s__law_jet, defScope s__law_jet, [], []⟩,
  ⟨("_law_point", none), "_law_point", "_law_point", defArgs s__law_point, defBody s__law_point, defScope s__law_point, [], []⟩,
  ⟨("_law_curve", none), "_law_curve", "_law_curve", defArgs s__law_curve, defBody s__law_curve, defScope s__law_curve, [], []⟩,
  ⟨("_law_stream", none), "_law_stream", "_law_stream", defArgs s__law_stream, defBody s__law_stream, defScope s__law_stream, [], []⟩,
  ⟨("_law_far_x", none), "_law_far_x", "_law_far_x", defArgs s__law_far_x, defBody s__law_far_x, defScope s__law_far_x, [], []⟩,
  ⟨("_law_on_curve", none), "_law_on_curve", "_law_on_curve", defArgs s__law_on_curve, defBody s__law_on_curve, defScope s__law_on_curve, [], []⟩,
  ⟨("_law_right", none), "_law_right", "_law_right", defArgs s__law_right, defBody s__law_right, defScope s__law_right, [], []⟩,
  ⟨("law", none), "law", "law", defArgs s_law, defBody s_law, defScope s_law, [], []⟩]
def faL2 : List He.Fa := [.glo "_law_less", .glo "_law_times", .glo "_law_sign", .glo "_law_order", .glo "_law_apart", .glo "_law_size", .glo "_law_part", .glo "_law_jet", .glo "_law_point", .glo "_law_curve", .glo "_law_stream", .glo "_law_far_x", .glo "_law_on_curve", .glo "_law_right", .glo "law"]
def faLz : List He.Fa := [.free "abs", .free "all", .free "any", .free "bool", .free "divmod", .free "int", .free "isinstance", .free "len", .free "max", .free "min", .free "range", .free "repr", .free "tuple", .free "zip"]
def csL : List (Str × PV) := [("ZERO", v_ZERO), ("EMPTY", v_EMPTY)]
def bsL : List (Str × String) := [("gcd", "math.gcd"), ("isqrt", "math.isqrt")]
def dsL : List (Str × List (Int × Str)) := [("FIRSTS", dl_FIRSTS)]
def tell : Tell := ⟨faL0 ++ faL1 ++ faL2 ++ faLz, fnL0 ++ fnL1 ++ fnL2, csL, bsL, dsL⟩
def loose0 : List Str := ["is_whole", "are_wholes", "is_between", "divisor_of", "is_reduced", "sign_of", "ZERO", "is_ratio", "ratio", "ratio_sum", "ratio_less", "ratio_product", "ratio_back", "is_lower", "is_spot", "square_root", "plain", "surd_from", "sign_of_one", "sign_of_two", "compared", "bent_value", "bent_ratio", "bent_less", "roots_of", "is_in", "is_stream_pair", "JetError", "InvalidFraction", "InvalidIndex"]
def loose1 : List Str := ["InvalidStream", "check_fraction", "EMPTY", "FIRSTS", "is_stream", "check_stream", "start_of", "heights_of", "times_of", "reach_of", "water_at", "met_at", "check_both", "meetings", "order_at", "first_there", "drops_meet", "_law_well", "_law_draw", "_law_rounds", "_law_pick", "_law_common", "_law_lean", "_law_ratio", "_law_plus", "_law_less", "_law_times", "_law_order", "_law_sign", "_law_apart"]
def loose2 : List Str := ["_law_size", "_law_part", "_law_jet", "_law_point", "_law_curve", "_law_stream", "_law_far_x", "_law_on_curve", "_law_right"]
def looseL : List Str := loose0 ++ loose1 ++ loose2
abbrev R : PySem.W.OpenRow := PySem.W.OpenLaw.row PySem.Challenge.rw_spoutlines_k85_whole_streams_on_one_curv
abbrev hk : PySem.W.Hook := hookP 2 tell
def ob (s : PySem.W.SharedT) : AlP := obsPG 2 tell (HandSHeadRun.getT s)
theorem ob_eq (s : PySem.W.SharedT) : ob s = hk.obs s.abs := obsPG_eq (HandSHeadRun.getT_eq s)
section
open HandSHeadRun PySem.W PySem.Calls PyProof.Rows
set_option maxHeartbeats 0 in
theorem runA_true (w : World) : (wholeF (fun p => stepQ (denQ tabQ) p (w.withFollow "special-get-raises" true)) fenceQ 20000 R.prog).map (fun x => looksF R.prog x.1.heap x.2.abs) = some true := by kernel_rfl
set_option maxHeartbeats 0 in
theorem runA_false (w : World) : (wholeF (fun p => stepQ (denQ tabQ) p (w.withFollow "special-get-raises" false)) fenceQ 20000 R.prog).map (fun x => looksF R.prog x.1.heap x.2.abs) = some true := by kernel_rfl
theorem runA (w : World) : (wholeF (fun p => stepQ (denQ tabQ) p w) fenceQ 20000 R.prog).map (fun x => looksF R.prog x.1.heap x.2.abs) = some true := by
  have e := World.withFollow_self w "special-get-raises"
  cases h : w.params.followText "special-get-raises" with
  | true => rw [h] at e; have t := runA_true w; rw [e] at t; exact t
  | false => rw [h] at e; have t := runA_false w; rw [e] at t; exact t
set_option maxHeartbeats 0 in
theorem runB_true (w : World) : (wholeF (fun p => stepQ (denQ tabQ) p (w.withFollow "special-get-raises" true)) fenceQ 20000 R.prog).map (fun x => seenQ (PySem.W.view R.prog [0, 79]) looseL (importedModules R.prog.main.body) (fun s => xlAt (PySem.W.view R.prog [0, 79]) [] s && recOk R.toRowW.records s) x.2.abs) = some (openGood (PySem.W.view R.prog [0, 79]) looseL) := by kernel_rfl
set_option maxHeartbeats 0 in
theorem runB_false (w : World) : (wholeF (fun p => stepQ (denQ tabQ) p (w.withFollow "special-get-raises" false)) fenceQ 20000 R.prog).map (fun x => seenQ (PySem.W.view R.prog [0, 79]) looseL (importedModules R.prog.main.body) (fun s => xlAt (PySem.W.view R.prog [0, 79]) [] s && recOk R.toRowW.records s) x.2.abs) = some (openGood (PySem.W.view R.prog [0, 79]) looseL) := by kernel_rfl
theorem runB (w : World) : (wholeF (fun p => stepQ (denQ tabQ) p w) fenceQ 20000 R.prog).map (fun x => seenQ (PySem.W.view R.prog [0, 79]) looseL (importedModules R.prog.main.body) (fun s => xlAt (PySem.W.view R.prog [0, 79]) [] s && recOk R.toRowW.records s) x.2.abs) = some (openGood (PySem.W.view R.prog [0, 79]) looseL) := by
  have e := World.withFollow_self w "special-get-raises"
  cases h : w.params.followText "special-get-raises" with
  | true => rw [h] at e; have t := runB_true w; rw [e] at t; exact t
  | false => rw [h] at e; have t := runB_false w; rw [e] at t; exact t
set_option maxHeartbeats 0 in
theorem run_tell_true (w : World) : (wholeF (fun p => stepQ (denQ tabQ) p (w.withFollow "special-get-raises" true)) fenceQ 20000 R.prog).map (fun x => obsPG 2 tell (getT x.2)) = some (valP tell) := by kernel_rfl
set_option maxHeartbeats 0 in
theorem run_tell_false (w : World) : (wholeF (fun p => stepQ (denQ tabQ) p (w.withFollow "special-get-raises" false)) fenceQ 20000 R.prog).map (fun x => obsPG 2 tell (getT x.2)) = some (valP tell) := by kernel_rfl
theorem run_tell (w : World) : (wholeF (fun p => stepQ (denQ tabQ) p w) fenceQ 20000 R.prog).map (fun x => obsPG 2 tell (getT x.2)) = some (valP tell) := by
  have e := World.withFollow_self w "special-get-raises"
  cases h : w.params.followText "special-get-raises" with
  | true => rw [h] at e; have t := run_tell_true w; rw [e] at t; exact t
  | false => rw [h] at e; have t := run_tell_false w; rw [e] at t; exact t
theorem run (w : World) : RunEqI R (PySem.W.view R.prog [0, 79]) hk ob 20000 looseL w := map3 (runA w) (runB w) (run_tell w)
end
theorem top_of {K : PySem.W.Frag} {h : Heap} {mg : Str → Option Value} (X : K.In h) (G : h.Ns mainGlobals mg) (c : SaysP tell K) : Top K mg where
  has_is_whole := by
    obtain ⟨fd, F⟩ := c.d.def_ 0 (d := ⟨("is_whole", none), "is_whole", "is_whole", defArgs s_is_whole, defBody s_is_whole, defScope s_is_whole, [], []⟩) rfl
    exact ⟨_, fd, F, He.glo_ok X G (c.d.fact 0 (f := .glo "is_whole") rfl)⟩
  has_are_wholes := by
    obtain ⟨fd, F⟩ := c.d.def_ 1 (d := ⟨("are_wholes", none), "are_wholes", "are_wholes", defArgs s_are_wholes, defBody s_are_wholes, defScope s_are_wholes, [], []⟩) rfl
    exact ⟨_, fd, F, He.glo_ok X G (c.d.fact 1 (f := .glo "are_wholes") rfl)⟩
  has_is_between := by
    obtain ⟨fd, F⟩ := c.d.def_ 2 (d := ⟨("is_between", none), "is_between", "is_between", defArgs s_is_between, defBody s_is_between, defScope s_is_between, [], []⟩) rfl
    exact ⟨_, fd, F, He.glo_ok X G (c.d.fact 2 (f := .glo "is_between") rfl)⟩
  has_divisor_of := by
    obtain ⟨fd, F⟩ := c.d.def_ 3 (d := ⟨("divisor_of", none), "divisor_of", "divisor_of", defArgs s_divisor_of, defBody s_divisor_of, defScope s_divisor_of, [], []⟩) rfl
    exact ⟨_, fd, F, He.glo_ok X G (c.d.fact 3 (f := .glo "divisor_of") rfl)⟩
  has_is_reduced := by
    obtain ⟨fd, F⟩ := c.d.def_ 4 (d := ⟨("is_reduced", none), "is_reduced", "is_reduced", defArgs s_is_reduced, defBody s_is_reduced, defScope s_is_reduced, [], []⟩) rfl
    exact ⟨_, fd, F, He.glo_ok X G (c.d.fact 4 (f := .glo "is_reduced") rfl)⟩
  has_sign_of := by
    obtain ⟨fd, F⟩ := c.d.def_ 5 (d := ⟨("sign_of", none), "sign_of", "sign_of", defArgs s_sign_of, defBody s_sign_of, defScope s_sign_of, [], []⟩) rfl
    exact ⟨_, fd, F, He.glo_ok X G (c.d.fact 5 (f := .glo "sign_of") rfl)⟩
  has_is_ratio := by
    obtain ⟨fd, F⟩ := c.d.def_ 6 (d := ⟨("is_ratio", none), "is_ratio", "is_ratio", defArgs s_is_ratio, defBody s_is_ratio, defScope s_is_ratio, [], []⟩) rfl
    exact ⟨_, fd, F, He.glo_ok X G (c.d.fact 6 (f := .glo "is_ratio") rfl)⟩
  has_ratio := by
    obtain ⟨fd, F⟩ := c.d.def_ 7 (d := ⟨("ratio", none), "ratio", "ratio", defArgs s_ratio, defBody s_ratio, defScope s_ratio, [], []⟩) rfl
    exact ⟨_, fd, F, He.glo_ok X G (c.d.fact 7 (f := .glo "ratio") rfl)⟩
  has_ratio_sum := by
    obtain ⟨fd, F⟩ := c.d.def_ 8 (d := ⟨("ratio_sum", none), "ratio_sum", "ratio_sum", defArgs s_ratio_sum, defBody s_ratio_sum, defScope s_ratio_sum, [], []⟩) rfl
    exact ⟨_, fd, F, He.glo_ok X G (c.d.fact 8 (f := .glo "ratio_sum") rfl)⟩
  has_ratio_less := by
    obtain ⟨fd, F⟩ := c.d.def_ 9 (d := ⟨("ratio_less", none), "ratio_less", "ratio_less", defArgs s_ratio_less, defBody s_ratio_less, defScope s_ratio_less, [], []⟩) rfl
    exact ⟨_, fd, F, He.glo_ok X G (c.d.fact 9 (f := .glo "ratio_less") rfl)⟩
  has_ratio_product := by
    obtain ⟨fd, F⟩ := c.d.def_ 10 (d := ⟨("ratio_product", none), "ratio_product", "ratio_product", defArgs s_ratio_product, defBody s_ratio_product, defScope s_ratio_product, [], []⟩) rfl
    exact ⟨_, fd, F, He.glo_ok X G (c.d.fact 10 (f := .glo "ratio_product") rfl)⟩
  has_ratio_back := by
    obtain ⟨fd, F⟩ := c.d.def_ 11 (d := ⟨("ratio_back", none), "ratio_back", "ratio_back", defArgs s_ratio_back, defBody s_ratio_back, defScope s_ratio_back, [], []⟩) rfl
    exact ⟨_, fd, F, He.glo_ok X G (c.d.fact 11 (f := .glo "ratio_back") rfl)⟩
  has_is_lower := by
    obtain ⟨fd, F⟩ := c.d.def_ 12 (d := ⟨("is_lower", none), "is_lower", "is_lower", defArgs s_is_lower, defBody s_is_lower, defScope s_is_lower, [], []⟩) rfl
    exact ⟨_, fd, F, He.glo_ok X G (c.d.fact 12 (f := .glo "is_lower") rfl)⟩
  has_is_spot := by
    obtain ⟨fd, F⟩ := c.d.def_ 13 (d := ⟨("is_spot", none), "is_spot", "is_spot", defArgs s_is_spot, defBody s_is_spot, defScope s_is_spot, [], []⟩) rfl
    exact ⟨_, fd, F, He.glo_ok X G (c.d.fact 13 (f := .glo "is_spot") rfl)⟩
  has_square_root := by
    obtain ⟨fd, F⟩ := c.d.def_ 14 (d := ⟨("square_root", none), "square_root", "square_root", defArgs s_square_root, defBody s_square_root, defScope s_square_root, [], []⟩) rfl
    exact ⟨_, fd, F, He.glo_ok X G (c.d.fact 14 (f := .glo "square_root") rfl)⟩
  has_plain := by
    obtain ⟨fd, F⟩ := c.d.def_ 15 (d := ⟨("plain", none), "plain", "plain", defArgs s_plain, defBody s_plain, defScope s_plain, [], []⟩) rfl
    exact ⟨_, fd, F, He.glo_ok X G (c.d.fact 15 (f := .glo "plain") rfl)⟩
  has_surd_from := by
    obtain ⟨fd, F⟩ := c.d.def_ 16 (d := ⟨("surd_from", none), "surd_from", "surd_from", defArgs s_surd_from, defBody s_surd_from, defScope s_surd_from, [], []⟩) rfl
    exact ⟨_, fd, F, He.glo_ok X G (c.d.fact 16 (f := .glo "surd_from") rfl)⟩
  has_sign_of_one := by
    obtain ⟨fd, F⟩ := c.d.def_ 17 (d := ⟨("sign_of_one", none), "sign_of_one", "sign_of_one", defArgs s_sign_of_one, defBody s_sign_of_one, defScope s_sign_of_one, [], []⟩) rfl
    exact ⟨_, fd, F, He.glo_ok X G (c.d.fact 17 (f := .glo "sign_of_one") rfl)⟩
  has_sign_of_two := by
    obtain ⟨fd, F⟩ := c.d.def_ 18 (d := ⟨("sign_of_two", none), "sign_of_two", "sign_of_two", defArgs s_sign_of_two, defBody s_sign_of_two, defScope s_sign_of_two, [], []⟩) rfl
    exact ⟨_, fd, F, He.glo_ok X G (c.d.fact 18 (f := .glo "sign_of_two") rfl)⟩
  has_compared := by
    obtain ⟨fd, F⟩ := c.d.def_ 19 (d := ⟨("compared", none), "compared", "compared", defArgs s_compared, defBody s_compared, defScope s_compared, [], []⟩) rfl
    exact ⟨_, fd, F, He.glo_ok X G (c.d.fact 19 (f := .glo "compared") rfl)⟩
  has_bent_value := by
    obtain ⟨fd, F⟩ := c.d.def_ 20 (d := ⟨("bent_value", none), "bent_value", "bent_value", defArgs s_bent_value, defBody s_bent_value, defScope s_bent_value, [], []⟩) rfl
    exact ⟨_, fd, F, He.glo_ok X G (c.d.fact 20 (f := .glo "bent_value") rfl)⟩
  has_bent_ratio := by
    obtain ⟨fd, F⟩ := c.d.def_ 21 (d := ⟨("bent_ratio", none), "bent_ratio", "bent_ratio", defArgs s_bent_ratio, defBody s_bent_ratio, defScope s_bent_ratio, [], []⟩) rfl
    exact ⟨_, fd, F, He.glo_ok X G (c.d.fact 21 (f := .glo "bent_ratio") rfl)⟩
  has_bent_less := by
    obtain ⟨fd, F⟩ := c.d.def_ 22 (d := ⟨("bent_less", none), "bent_less", "bent_less", defArgs s_bent_less, defBody s_bent_less, defScope s_bent_less, [], []⟩) rfl
    exact ⟨_, fd, F, He.glo_ok X G (c.d.fact 22 (f := .glo "bent_less") rfl)⟩
  has_roots_of := by
    obtain ⟨fd, F⟩ := c.d.def_ 23 (d := ⟨("roots_of", none), "roots_of", "roots_of", defArgs s_roots_of, defBody s_roots_of, defScope s_roots_of, [], []⟩) rfl
    exact ⟨_, fd, F, He.glo_ok X G (c.d.fact 23 (f := .glo "roots_of") rfl)⟩
  has_is_in := by
    obtain ⟨fd, F⟩ := c.d.def_ 24 (d := ⟨("is_in", none), "is_in", "is_in", defArgs s_is_in, defBody s_is_in, defScope s_is_in, [], []⟩) rfl
    exact ⟨_, fd, F, He.glo_ok X G (c.d.fact 24 (f := .glo "is_in") rfl)⟩
  has_is_stream_pair := by
    obtain ⟨fd, F⟩ := c.d.def_ 25 (d := ⟨("is_stream_pair", none), "is_stream_pair", "is_stream_pair", defArgs s_is_stream_pair, defBody s_is_stream_pair, defScope s_is_stream_pair, [], []⟩) rfl
    exact ⟨_, fd, F, He.glo_ok X G (c.d.fact 25 (f := .glo "is_stream_pair") rfl)⟩
  has_check_fraction := by
    obtain ⟨fd, F⟩ := c.d.def_ 26 (d := ⟨("check_fraction", none), "check_fraction", "check_fraction", defArgs s_check_fraction, defBody s_check_fraction, defScope s_check_fraction, [], []⟩) rfl
    exact ⟨_, fd, F, He.glo_ok X G (c.d.fact 26 (f := .glo "check_fraction") rfl)⟩
  has_is_stream := by
    obtain ⟨fd, F⟩ := c.d.def_ 27 (d := ⟨("is_stream", none), "is_stream", "is_stream", defArgs s_is_stream, defBody s_is_stream, defScope s_is_stream, [], []⟩) rfl
    exact ⟨_, fd, F, He.glo_ok X G (c.d.fact 27 (f := .glo "is_stream") rfl)⟩
  has_check_stream := by
    obtain ⟨fd, F⟩ := c.d.def_ 28 (d := ⟨("check_stream", none), "check_stream", "check_stream", defArgs s_check_stream, defBody s_check_stream, defScope s_check_stream, [], []⟩) rfl
    exact ⟨_, fd, F, He.glo_ok X G (c.d.fact 28 (f := .glo "check_stream") rfl)⟩
  has_start_of := by
    obtain ⟨fd, F⟩ := c.d.def_ 29 (d := ⟨("start_of", none), "start_of", "start_of", defArgs s_start_of, defBody s_start_of, defScope s_start_of, [], []⟩) rfl
    exact ⟨_, fd, F, He.glo_ok X G (c.d.fact 29 (f := .glo "start_of") rfl)⟩
  has_heights_of := by
    obtain ⟨fd, F⟩ := c.d.def_ 30 (d := ⟨("heights_of", none), "heights_of", "heights_of", defArgs s_heights_of, defBody s_heights_of, defScope s_heights_of, [], []⟩) rfl
    exact ⟨_, fd, F, He.glo_ok X G (c.d.fact 30 (f := .glo "heights_of") rfl)⟩
  has_times_of := by
    obtain ⟨fd, F⟩ := c.d.def_ 31 (d := ⟨("times_of", none), "times_of", "times_of", defArgs s_times_of, defBody s_times_of, defScope s_times_of, [], []⟩) rfl
    exact ⟨_, fd, F, He.glo_ok X G (c.d.fact 31 (f := .glo "times_of") rfl)⟩
  has_reach_of := by
    obtain ⟨fd, F⟩ := c.d.def_ 32 (d := ⟨("reach_of", none), "reach_of", "reach_of", defArgs s_reach_of, defBody s_reach_of, defScope s_reach_of, [], []⟩) rfl
    exact ⟨_, fd, F, He.glo_ok X G (c.d.fact 32 (f := .glo "reach_of") rfl)⟩
  has_water_at := by
    obtain ⟨fd, F⟩ := c.d.def_ 33 (d := ⟨("water_at", none), "water_at", "water_at", defArgs s_water_at, defBody s_water_at, defScope s_water_at, [], []⟩) rfl
    exact ⟨_, fd, F, He.glo_ok X G (c.d.fact 33 (f := .glo "water_at") rfl)⟩
  has_met_at := by
    obtain ⟨fd, F⟩ := c.d.def_ 34 (d := ⟨("met_at", none), "met_at", "met_at", defArgs s_met_at, defBody s_met_at, defScope s_met_at, [], []⟩) rfl
    exact ⟨_, fd, F, He.glo_ok X G (c.d.fact 34 (f := .glo "met_at") rfl)⟩
  has_check_both := by
    obtain ⟨fd, F⟩ := c.d.def_ 35 (d := ⟨("check_both", none), "check_both", "check_both", defArgs s_check_both, defBody s_check_both, defScope s_check_both, [], []⟩) rfl
    exact ⟨_, fd, F, He.glo_ok X G (c.d.fact 35 (f := .glo "check_both") rfl)⟩
  has_meetings := by
    obtain ⟨fd, F⟩ := c.d.def_ 36 (d := ⟨("meetings", none), "meetings", "meetings", defArgs s_meetings, defBody s_meetings, defScope s_meetings, [], []⟩) rfl
    exact ⟨_, fd, F, He.glo_ok X G (c.d.fact 36 (f := .glo "meetings") rfl)⟩
  has_order_at := by
    obtain ⟨fd, F⟩ := c.d.def_ 37 (d := ⟨("order_at", none), "order_at", "order_at", defArgs s_order_at, defBody s_order_at, defScope s_order_at, [], []⟩) rfl
    exact ⟨_, fd, F, He.glo_ok X G (c.d.fact 37 (f := .glo "order_at") rfl)⟩
  has_first_there := by
    obtain ⟨fd, F⟩ := c.d.def_ 38 (d := ⟨("first_there", none), "first_there", "first_there", defArgs s_first_there, defBody s_first_there, defScope s_first_there, [], []⟩) rfl
    exact ⟨_, fd, F, He.glo_ok X G (c.d.fact 38 (f := .glo "first_there") rfl)⟩
  has_drops_meet := by
    obtain ⟨fd, F⟩ := c.d.def_ 39 (d := ⟨("drops_meet", none), "drops_meet", "drops_meet", defArgs s_drops_meet, defBody s_drops_meet, defScope s_drops_meet, [], []⟩) rfl
    exact ⟨_, fd, F, He.glo_ok X G (c.d.fact 39 (f := .glo "drops_meet") rfl)⟩
  has__law_well := by
    obtain ⟨fd, F⟩ := c.d.def_ 40 (d := ⟨("_law_well", none), "_law_well", "_law_well", defArgs s__law_well, defBody s__law_well, defScope s__law_well, [], []⟩) rfl
    exact ⟨_, fd, F, He.glo_ok X G (c.d.fact 40 (f := .glo "_law_well") rfl)⟩
  has__law_draw := by
    obtain ⟨fd, F⟩ := c.d.def_ 41 (d := ⟨("_law_draw", none), "_law_draw", "_law_draw", defArgs s__law_draw, defBody s__law_draw, defScope s__law_draw, [], []⟩) rfl
    exact ⟨_, fd, F, He.glo_ok X G (c.d.fact 41 (f := .glo "_law_draw") rfl)⟩
  has__law_rounds := by
    obtain ⟨fd, F⟩ := c.d.def_ 42 (d := ⟨("_law_rounds", none), "_law_rounds", "_law_rounds", defArgs s__law_rounds, defBody s__law_rounds, defScope s__law_rounds, [], []⟩) rfl
    exact ⟨_, fd, F, He.glo_ok X G (c.d.fact 42 (f := .glo "_law_rounds") rfl)⟩
  has__law_pick := by
    obtain ⟨fd, F⟩ := c.d.def_ 43 (d := ⟨("_law_pick", none), "_law_pick", "_law_pick", defArgs s__law_pick, defBody s__law_pick, defScope s__law_pick, [], []⟩) rfl
    exact ⟨_, fd, F, He.glo_ok X G (c.d.fact 43 (f := .glo "_law_pick") rfl)⟩
  has__law_common := by
    obtain ⟨fd, F⟩ := c.d.def_ 44 (d := ⟨("_law_common", none), "_law_common", "_law_common", defArgs s__law_common, defBody s__law_common, defScope s__law_common, [], []⟩) rfl
    exact ⟨_, fd, F, He.glo_ok X G (c.d.fact 44 (f := .glo "_law_common") rfl)⟩
  has__law_lean := by
    obtain ⟨fd, F⟩ := c.d.def_ 45 (d := ⟨("_law_lean", none), "_law_lean", "_law_lean", defArgs s__law_lean, defBody s__law_lean, defScope s__law_lean, [], []⟩) rfl
    exact ⟨_, fd, F, He.glo_ok X G (c.d.fact 45 (f := .glo "_law_lean") rfl)⟩
  has__law_ratio := by
    obtain ⟨fd, F⟩ := c.d.def_ 46 (d := ⟨("_law_ratio", none), "_law_ratio", "_law_ratio", defArgs s__law_ratio, defBody s__law_ratio, defScope s__law_ratio, [], []⟩) rfl
    exact ⟨_, fd, F, He.glo_ok X G (c.d.fact 46 (f := .glo "_law_ratio") rfl)⟩
  has__law_plus := by
    obtain ⟨fd, F⟩ := c.d.def_ 47 (d := ⟨("_law_plus", none), "_law_plus", "_law_plus", defArgs s__law_plus, defBody s__law_plus, defScope s__law_plus, [], []⟩) rfl
    exact ⟨_, fd, F, He.glo_ok X G (c.d.fact 47 (f := .glo "_law_plus") rfl)⟩
  has__law_less := by
    obtain ⟨fd, F⟩ := c.d.def_ 48 (d := ⟨("_law_less", none), "_law_less", "_law_less", defArgs s__law_less, defBody s__law_less, defScope s__law_less, [], []⟩) rfl
    exact ⟨_, fd, F, He.glo_ok X G (c.d.fact 48 (f := .glo "_law_less") rfl)⟩
  has__law_times := by
    obtain ⟨fd, F⟩ := c.d.def_ 49 (d := ⟨("_law_times", none), "_law_times", "_law_times", defArgs s__law_times, defBody s__law_times, defScope s__law_times, [], []⟩) rfl
    exact ⟨_, fd, F, He.glo_ok X G (c.d.fact 49 (f := .glo "_law_times") rfl)⟩
  has__law_sign := by
    obtain ⟨fd, F⟩ := c.d.def_ 50 (d := ⟨("_law_sign", none), "_law_sign", "_law_sign", defArgs s__law_sign, defBody s__law_sign, defScope s__law_sign, [], []⟩) rfl
    exact ⟨_, fd, F, He.glo_ok X G (c.d.fact 50 (f := .glo "_law_sign") rfl)⟩
  has__law_order := by
    obtain ⟨fd, F⟩ := c.d.def_ 51 (d := ⟨("_law_order", none), "_law_order", "_law_order", defArgs s__law_order, defBody s__law_order, defScope s__law_order, [], []⟩) rfl
    exact ⟨_, fd, F, He.glo_ok X G (c.d.fact 51 (f := .glo "_law_order") rfl)⟩
  has__law_apart := by
    obtain ⟨fd, F⟩ := c.d.def_ 52 (d := ⟨("_law_apart", none), "_law_apart", "_law_apart", defArgs s__law_apart, defBody s__law_apart, defScope s__law_apart, [], []⟩) rfl
    exact ⟨_, fd, F, He.glo_ok X G (c.d.fact 52 (f := .glo "_law_apart") rfl)⟩
  has__law_size := by
    obtain ⟨fd, F⟩ := c.d.def_ 53 (d := ⟨("_law_size", none), "_law_size", "_law_size", defArgs s__law_size, defBody s__law_size, defScope s__law_size, [], []⟩) rfl
    exact ⟨_, fd, F, He.glo_ok X G (c.d.fact 53 (f := .glo "_law_size") rfl)⟩
  has__law_part := by
    obtain ⟨fd, F⟩ := c.d.def_ 54 (d := ⟨("_law_part", none), "_law_part", "_law_part", defArgs s__law_part, defBody s__law_part, defScope s__law_part, [], []⟩) rfl
    exact ⟨_, fd, F, He.glo_ok X G (c.d.fact 54 (f := .glo "_law_part") rfl)⟩
  has__law_jet := by
    obtain ⟨fd, F⟩ := c.d.def_ 55 (d := ⟨("_law_jet", none), "_law_jet", "_law_jet", defArgs s__law_jet, defBody s__law_jet, defScope s__law_jet, [], []⟩) rfl
    exact ⟨_, fd, F, He.glo_ok X G (c.d.fact 55 (f := .glo "_law_jet") rfl)⟩
  has__law_point := by
    obtain ⟨fd, F⟩ := c.d.def_ 56 (d := ⟨("_law_point", none), "_law_point", "_law_point", defArgs s__law_point, defBody s__law_point, defScope s__law_point, [], []⟩) rfl
    exact ⟨_, fd, F, He.glo_ok X G (c.d.fact 56 (f := .glo "_law_point") rfl)⟩
  has__law_curve := by
    obtain ⟨fd, F⟩ := c.d.def_ 57 (d := ⟨("_law_curve", none), "_law_curve", "_law_curve", defArgs s__law_curve, defBody s__law_curve, defScope s__law_curve, [], []⟩) rfl
    exact ⟨_, fd, F, He.glo_ok X G (c.d.fact 57 (f := .glo "_law_curve") rfl)⟩
  has__law_stream := by
    obtain ⟨fd, F⟩ := c.d.def_ 58 (d := ⟨("_law_stream", none), "_law_stream", "_law_stream", defArgs s__law_stream, defBody s__law_stream, defScope s__law_stream, [], []⟩) rfl
    exact ⟨_, fd, F, He.glo_ok X G (c.d.fact 58 (f := .glo "_law_stream") rfl)⟩
  has__law_far_x := by
    obtain ⟨fd, F⟩ := c.d.def_ 59 (d := ⟨("_law_far_x", none), "_law_far_x", "_law_far_x", defArgs s__law_far_x, defBody s__law_far_x, defScope s__law_far_x, [], []⟩) rfl
    exact ⟨_, fd, F, He.glo_ok X G (c.d.fact 59 (f := .glo "_law_far_x") rfl)⟩
  has__law_on_curve := by
    obtain ⟨fd, F⟩ := c.d.def_ 60 (d := ⟨("_law_on_curve", none), "_law_on_curve", "_law_on_curve", defArgs s__law_on_curve, defBody s__law_on_curve, defScope s__law_on_curve, [], []⟩) rfl
    exact ⟨_, fd, F, He.glo_ok X G (c.d.fact 60 (f := .glo "_law_on_curve") rfl)⟩
  has__law_right := by
    obtain ⟨fd, F⟩ := c.d.def_ 61 (d := ⟨("_law_right", none), "_law_right", "_law_right", defArgs s__law_right, defBody s__law_right, defScope s__law_right, [], []⟩) rfl
    exact ⟨_, fd, F, He.glo_ok X G (c.d.fact 61 (f := .glo "_law_right") rfl)⟩
  has_law := by
    obtain ⟨fd, F⟩ := c.d.def_ 62 (d := ⟨("law", none), "law", "law", defArgs s_law, defBody s_law, defScope s_law, [], []⟩) rfl
    exact ⟨_, fd, F, He.glo_ok X G (c.d.fact 62 (f := .glo "law") rfl)⟩
  c_ZERO := c.const X G 0
  c_EMPTY := c.const X G 1
  g_FIRSTS := c.dic X G 0
  bi_gcd := c.bi X G 0
  bi_isqrt := c.bi X G 1
  z_abs := c.free X G 63
  z_all := c.free X G 64
  z_any := c.free X G 65
  z_bool := c.free X G 66
  z_divmod := c.free X G 67
  z_int := c.free X G 68
  z_isinstance := c.free X G 69
  z_len := c.free X G 70
  z_max := c.free X G 71
  z_min := c.free X G 72
  z_range := c.free X G 73
  z_repr := c.free X G 74
  z_tuple := c.free X G 75
  z_zip := c.free X G 76
set_option maxHeartbeats 0 in
theorem ends (hlaw : ∀ ns : List Int, ns.length ≤ 63 → ∃ S, m_law [.frz (ns.map PV.int)] [] = .ok (.bl true) S) : PySem.Challenge.rw_spoutlines_k85_whole_streams_on_one_curv.Holds := by
  w_on; o_law
  refine HandSHeadRun.head_imp (r := PySem.W.OpenLaw.row PySem.Challenge.rw_spoutlines_k85_whole_streams_on_one_curv) (q := PySem.W.view (PySem.W.OpenLaw.row PySem.Challenge.rw_spoutlines_k85_whole_streams_on_one_curv).prog [0, 79]) (H := hk) (ob := ob) (M := 20000) (loose := looseL) (d := HandSHeadRun.topDef (PySem.W.OpenLaw.row PySem.Challenge.rw_spoutlines_k85_whole_streams_on_one_curv).prog 79) (kwd := []) ob_eq
     run (by kernel_rfl) (by kernel_rfl) (by kernel_rfl) (by rfl) (by first | assumption | decide +kernel) (by decide +kernel) ⟨rfl, rfl, rfl, rfl, rfl, by decide +kernel⟩ ?hw ?hc
  case hw => w_witness2
  case hc =>
    refine walk_G (l := PySem.Challenge.rw_spoutlines_k85_whole_streams_on_one_curv) (n := 63) (k := 10) (x := "_law_script") (sem := m_law) rfl (by decide) (by kernel_rfl) ⟨rfl, by decide, by decide⟩ ?F hlaw
    intro w mg fa h Y G hmg0
    obtain ⟨K, KX, c⟩ := Y
    have hmg : mg ("law" : PySem.Str) = some (.ref fa) := by
      have e : (HandSHeadRun.topDef (PySem.W.OpenLaw.row PySem.Challenge.rw_spoutlines_k85_whole_streams_on_one_curv).prog 79).name = ("law" : PySem.Str) := by kernel_rfl
      rw [← e]
      exact hmg0
    have T : Top K mg := top_of KX G c
    obtain ⟨f, fd, F, gf⟩ := T.has_law
    cases hmg.symm.trans gf
    refine ⟨K, fd, KX, fun s v => FunD.bindsA F b_law s [v] rfl, fun base _ _ => ?_⟩
    obtain ⟨f2, fd2, F2, gf2, FG⟩ := (ok_law (P := PySem.Challenge.pw_spoutlines_k85_whole_streams_on_one_curv) (w := w) (base := base) T).ex
    cases hmg.symm.trans gf2
    have efd : fd2 = fd := by
      obtain ⟨oc, od, dV, kV, doc, pm, an, cdv, ct, osl, e1, l1, _⟩ := F.ex
      obtain ⟨oc', od', dV', kV', doc', pm', an', cdv', ct', osl', e2, l2, _⟩ := F2.ex
      rw [l1] at l2
      simp only [Option.some.injEq, PySem.Obj.mk.injEq, PySem.Data.func.injEq] at l2
      exact l2.2.2.1.symm
    subst efd
    exact FG

end Pm.L

namespace Pm.L
open PySem PySem.Spec L2 Pm

end Pm.L
namespace Pm.L
open PySem PySem.Spec L2 Pm
section
variable {S : Sto} {Q : PV → Sto → Prop}
theorem e_is_whole {i : Int} : m_is_whole [.int i] S = .ok (.bl true) S := by
  refine Ok.eq (Ok_defM rfl ?_)
  simp -dsimp (disch := first | assumption | omega) only [zaa,zab,zac,zad,zae,zaf,zag,zah,zai,zaj,zak,zal,zam,zan,zao,zap,zaq,zar,zas,zat,zau,zav,zaw,zax,zay,zaz,zaA,zaB,zaC,zaD,zaE,zaF,zaG,zaH,zaI,zaJ,zaK,zaL,zaM,zaN,zaO,zaP,zaQ,zaR,zaS,zaT,zaU,zaV,zaW,zaX,zaY,zaZ,za0,za1,za2,za3,za4,za5,za6,za7,za8,za9,zba,zbb,zbc,zbd,zbe,zbf,zbg,zbh,zbi,zbj,zbk,zbl,zbm,zbn,zbo,zbp,zbq,zbr,zbs,zbt,zbu,zbv,zbw,zbx,zby,zbz,zbA,zbB,zbC,zbD,zbE,zbF,zbG,zbH,zbI,zbJ,zbK,zbL,zbM,zbN,zbO,zbP,zbQ,zbR,zbS,zbT,zbU,zbV,zbW,zbX,zbY,zbZ,zb0,zb1,zb2,zb3,zb4,zb5,zb6,zb7,zb8,zb9,zca,zcb,eq_self,zcc,zcd,zce,zcf,zcg,zch,zci,zcj,zck,zcl,zcm,List.getElem?_cons_succ,List.getElem?_cons_zero,List.set_cons_succ,List.set_cons_zero,List.map_cons,List.map_nil,List.length_cons,List.length_nil,List.cons_append,List.nil_append,List.append_nil,List.isEmpty_cons,List.isEmpty_nil,if_true,if_false,ite_true,ite_false,Bool.not_true,Bool.not_false,Bool.not_not,decide_true,true_and,and_true,false_and,and_false,Bool.false_eq_true,reduceCtorEq,decide_true,decide_false,ite_self,forall_const,Nat.zero_add,Nat.reduceAdd,Nat.reduceLeDiff,Nat.reduceLT,Nat.reduceEqDiff,Nat.reduceSub,Nat.reduceMul,Nat.reduceBEq,Int.reduceLT,Int.reduceLE,Int.reduceEq,Int.reduceNe,Int.reduceAdd,Int.reduceMul,Int.reduceSub,Int.reduceNeg,Int.reducePow,Int.reduceBEq,Int.reduceToNat,Int.reduceGT,Int.reduceGE,String.reduceBEq,zcn,zco,List.replicate_succ,List.replicate_zero,zcp,zcq,zcr,zcs,zct,zcu,zcv,zcw,zcx,zcy,zcz,zcA,zcB,zcC,zcD,zcE,zcF,zcG,zcH,zcI,zcJ,zcK,zcL,zcM,zcN,zcO,zcP,zcQ,zcR,zcS,zcT,zcU,zcV,zcW,zcX,zcY,zcZ,zc0,zc1,zc2,zc3,zc4,zc5,zc6,zc7,zc8,zc9,zda,zdb,zdc,Bool.true_or,Bool.or_true,Bool.false_or,Bool.or_false,Bool.and_true,Bool.true_and,Bool.and_false,Bool.false_and,Int.cast_ofNat_Int,Int.natCast_zero,Int.natCast_one,beq_self_eq_true,zdd,zde,zdf,zdg,zdh,wipeR]
theorem o_is_whole {i : Int} : Ok (m_is_whole [.int i] S) Q = Q (.bl true) S := by rw [e_is_whole, zaa]
theorem e_are2 {a b : Int} : m_are_wholes [.tup [.int a, .int b], .int 2] S = .ok (.bl true) S := by
  refine Ok.eq (Ok_defM rfl ?_)
  simp -dsimp (disch := first | assumption | omega) only [zaa,zab,zac,zad,zae,zaf,zag,zah,zai,zaj,zak,zal,zam,zan,zao,zap,zaq,zar,zas,zat,zau,zav,zaw,zax,zay,zaz,zaA,zaB,zaC,zaD,zaE,zaF,zaG,zaH,zaI,zaJ,zaK,zaL,zaM,zaN,zaO,zaP,zaQ,zaR,zaS,zaT,zaU,zaV,zaW,zaX,zaY,zaZ,za0,za1,za2,za3,za4,za5,za6,za7,za8,za9,zba,zbb,zbc,zbd,zbe,zbf,zbg,zbh,zbi,zbj,zbk,zbl,zbm,zbn,zbo,zbp,zbq,zbr,zbs,zbt,zbu,zbv,zbw,zbx,zby,zbz,zbA,zbB,zbC,zbD,zbE,zbF,zbG,zbH,zbI,zbJ,zbK,zbL,zbM,zbN,zbO,zbP,zbQ,zbR,zbS,zbT,zbU,zbV,zbW,zbX,zbY,zbZ,zb0,zb1,zb2,zb3,zb4,zb5,zb6,zb7,zb8,zb9,zca,zcb,eq_self,zcc,zcd,zce,zcf,zcg,zch,zci,zcj,zck,zcl,zcm,List.getElem?_cons_succ,List.getElem?_cons_zero,List.set_cons_succ,List.set_cons_zero,List.map_cons,List.map_nil,List.length_cons,List.length_nil,List.cons_append,List.nil_append,List.append_nil,List.isEmpty_cons,List.isEmpty_nil,if_true,if_false,ite_true,ite_false,Bool.not_true,Bool.not_false,Bool.not_not,decide_true,true_and,and_true,false_and,and_false,Bool.false_eq_true,reduceCtorEq,decide_true,decide_false,ite_self,forall_const,Nat.zero_add,Nat.reduceAdd,Nat.reduceLeDiff,Nat.reduceLT,Nat.reduceEqDiff,Nat.reduceSub,Nat.reduceMul,Nat.reduceBEq,Int.reduceLT,Int.reduceLE,Int.reduceEq,Int.reduceNe,Int.reduceAdd,Int.reduceMul,Int.reduceSub,Int.reduceNeg,Int.reducePow,Int.reduceBEq,Int.reduceToNat,Int.reduceGT,Int.reduceGE,String.reduceBEq,zcn,zco,List.replicate_succ,List.replicate_zero,zcp,zcq,zcr,zcs,zct,zcu,zcv,zcw,zcx,zcy,zcz,zcA,zcB,zcC,zcD,zcE,zcF,zcG,zcH,zcI,zcJ,zcK,zcL,zcM,zcN,zcO,zcP,zcQ,zcR,zcS,zcT,zcU,zcV,zcW,zcX,zcY,zcZ,zc0,zc1,zc2,zc3,zc4,zc5,zc6,zc7,zc8,zc9,zda,zdb,zdc,Bool.true_or,Bool.or_true,Bool.false_or,Bool.or_false,Bool.and_true,Bool.true_and,Bool.and_false,Bool.false_and,Int.cast_ofNat_Int,Int.natCast_zero,Int.natCast_one,beq_self_eq_true,zdd,zde,zdf,zdg,zdh,wipeR,o_is_whole,Ok_all (xs := [.bl true,.bl true]) (bs := [true,true]) rfl,show ([true,true].all id) = true from rfl]
theorem e_divisor {a b : Int} : m_divisor_of [.tup [.int a, .int b]] S = .ok (.int (Int.gcd a b)) S := by
  refine Ok.eq (Ok_defM rfl ?_)
  simp -dsimp (disch := first | assumption | omega) only [zaa,zab,zac,zad,zae,zaf,zag,zah,zai,zaj,zak,zal,zam,zan,zao,zap,zaq,zar,zas,zat,zau,zav,zaw,zax,zay,zaz,zaA,zaB,zaC,zaD,zaE,zaF,zaG,zaH,zaI,zaJ,zaK,zaL,zaM,zaN,zaO,zaP,zaQ,zaR,zaS,zaT,zaU,zaV,zaW,zaX,zaY,zaZ,za0,za1,za2,za3,za4,za5,za6,za7,za8,za9,zba,zbb,zbc,zbd,zbe,zbf,zbg,zbh,zbi,zbj,zbk,zbl,zbm,zbn,zbo,zbp,zbq,zbr,zbs,zbt,zbu,zbv,zbw,zbx,zby,zbz,zbA,zbB,zbC,zbD,zbE,zbF,zbG,zbH,zbI,zbJ,zbK,zbL,zbM,zbN,zbO,zbP,zbQ,zbR,zbS,zbT,zbU,zbV,zbW,zbX,zbY,zbZ,zb0,zb1,zb2,zb3,zb4,zb5,zb6,zb7,zb8,zb9,zca,zcb,eq_self,zcc,zcd,zce,zcf,zcg,zch,zci,zcj,zck,zcl,zcm,List.getElem?_cons_succ,List.getElem?_cons_zero,List.set_cons_succ,List.set_cons_zero,List.map_cons,List.map_nil,List.length_cons,List.length_nil,List.cons_append,List.nil_append,List.append_nil,List.isEmpty_cons,List.isEmpty_nil,if_true,if_false,ite_true,ite_false,Bool.not_true,Bool.not_false,Bool.not_not,decide_true,true_and,and_true,false_and,and_false,Bool.false_eq_true,reduceCtorEq,decide_true,decide_false,ite_self,forall_const,Nat.zero_add,Nat.reduceAdd,Nat.reduceLeDiff,Nat.reduceLT,Nat.reduceEqDiff,Nat.reduceSub,Nat.reduceMul,Nat.reduceBEq,Int.reduceLT,Int.reduceLE,Int.reduceEq,Int.reduceNe,Int.reduceAdd,Int.reduceMul,Int.reduceSub,Int.reduceNeg,Int.reducePow,Int.reduceBEq,Int.reduceToNat,Int.reduceGT,Int.reduceGE,String.reduceBEq,zcn,zco,List.replicate_succ,List.replicate_zero,zcp,zcq,zcr,zcs,zct,zcu,zcv,zcw,zcx,zcy,zcz,zcA,zcB,zcC,zcD,zcE,zcF,zcG,zcH,zcI,zcJ,zcK,zcL,zcM,zcN,zcO,zcP,zcQ,zcR,zcS,zcT,zcU,zcV,zcW,zcX,zcY,zcZ,zc0,zc1,zc2,zc3,zc4,zc5,zc6,zc7,zc8,zc9,zda,zdb,zdc,Bool.true_or,Bool.or_true,Bool.false_or,Bool.or_false,Bool.and_true,Bool.true_and,Bool.and_false,Bool.false_and,Int.cast_ofNat_Int,Int.natCast_zero,Int.natCast_one,beq_self_eq_true,zdd,zde,zdf,zdg,zdh,wipeR]
  simp [Int.gcd]
theorem o_divisor {a b : Int} : Ok (m_divisor_of [.tup [.int a, .int b]] S) Q = Q (.int (Int.gcd a b)) S := by rw [e_divisor, zaa]
theorem e_is_ratio {q : Rat} : m_is_ratio [rv q] S = .ok (.bl true) S := by
  have e : ∀ S, m_is_reduced [rv q] S = .ok (.bl true) S := fun S => by
    refine Ok.eq (Ok_defM rfl ?_)
    unfold rv
    simp -dsimp (disch := first | assumption | omega) only [zaa,zab,zac,zad,zae,zaf,zag,zah,zai,zaj,zak,zal,zam,zan,zao,zap,zaq,zar,zas,zat,zau,zav,zaw,zax,zay,zaz,zaA,zaB,zaC,zaD,zaE,zaF,zaG,zaH,zaI,zaJ,zaK,zaL,zaM,zaN,zaO,zaP,zaQ,zaR,zaS,zaT,zaU,zaV,zaW,zaX,zaY,zaZ,za0,za1,za2,za3,za4,za5,za6,za7,za8,za9,zba,zbb,zbc,zbd,zbe,zbf,zbg,zbh,zbi,zbj,zbk,zbl,zbm,zbn,zbo,zbp,zbq,zbr,zbs,zbt,zbu,zbv,zbw,zbx,zby,zbz,zbA,zbB,zbC,zbD,zbE,zbF,zbG,zbH,zbI,zbJ,zbK,zbL,zbM,zbN,zbO,zbP,zbQ,zbR,zbS,zbT,zbU,zbV,zbW,zbX,zbY,zbZ,zb0,zb1,zb2,zb3,zb4,zb5,zb6,zb7,zb8,zb9,zca,zcb,eq_self,zcc,zcd,zce,zcf,zcg,zch,zci,zcj,zck,zcl,zcm,List.getElem?_cons_succ,List.getElem?_cons_zero,List.set_cons_succ,List.set_cons_zero,List.map_cons,List.map_nil,List.length_cons,List.length_nil,List.cons_append,List.nil_append,List.append_nil,List.isEmpty_cons,List.isEmpty_nil,if_true,if_false,ite_true,ite_false,Bool.not_true,Bool.not_false,Bool.not_not,decide_true,true_and,and_true,false_and,and_false,Bool.false_eq_true,reduceCtorEq,decide_true,decide_false,ite_self,forall_const,Nat.zero_add,Nat.reduceAdd,Nat.reduceLeDiff,Nat.reduceLT,Nat.reduceEqDiff,Nat.reduceSub,Nat.reduceMul,Nat.reduceBEq,Int.reduceLT,Int.reduceLE,Int.reduceEq,Int.reduceNe,Int.reduceAdd,Int.reduceMul,Int.reduceSub,Int.reduceNeg,Int.reducePow,Int.reduceBEq,Int.reduceToNat,Int.reduceGT,Int.reduceGE,String.reduceBEq,zcn,zco,List.replicate_succ,List.replicate_zero,zcp,zcq,zcr,zcs,zct,zcu,zcv,zcw,zcx,zcy,zcz,zcA,zcB,zcC,zcD,zcE,zcF,zcG,zcH,zcI,zcJ,zcK,zcL,zcM,zcN,zcO,zcP,zcQ,zcR,zcS,zcT,zcU,zcV,zcW,zcX,zcY,zcZ,zc0,zc1,zc2,zc3,zc4,zc5,zc6,zc7,zc8,zc9,zda,zdb,zdc,Bool.true_or,Bool.or_true,Bool.false_or,Bool.or_false,Bool.and_true,Bool.true_and,Bool.and_false,Bool.false_and,Int.cast_ofNat_Int,Int.natCast_zero,Int.natCast_one,beq_self_eq_true,zdd,zde,zdf,zdg,zdh,wipeR,o_divisor,coprime_int]
  refine Ok.eq (Ok_defM rfl ?_)
  have hp : (0 : Int) < q.den := by have := q.den_pos; omega
  simp -dsimp (disch := first | assumption | omega) only [zaa,zab,zac,zad,zae,zaf,zag,zah,zai,zaj,zak,zal,zam,zan,zao,zap,zaq,zar,zas,zat,zau,zav,zaw,zax,zay,zaz,zaA,zaB,zaC,zaD,zaE,zaF,zaG,zaH,zaI,zaJ,zaK,zaL,zaM,zaN,zaO,zaP,zaQ,zaR,zaS,zaT,zaU,zaV,zaW,zaX,zaY,zaZ,za0,za1,za2,za3,za4,za5,za6,za7,za8,za9,zba,zbb,zbc,zbd,zbe,zbf,zbg,zbh,zbi,zbj,zbk,zbl,zbm,zbn,zbo,zbp,zbq,zbr,zbs,zbt,zbu,zbv,zbw,zbx,zby,zbz,zbA,zbB,zbC,zbD,zbE,zbF,zbG,zbH,zbI,zbJ,zbK,zbL,zbM,zbN,zbO,zbP,zbQ,zbR,zbS,zbT,zbU,zbV,zbW,zbX,zbY,zbZ,zb0,zb1,zb2,zb3,zb4,zb5,zb6,zb7,zb8,zb9,zca,zcb,eq_self,zcc,zcd,zce,zcf,zcg,zch,zci,zcj,zck,zcl,zcm,List.getElem?_cons_succ,List.getElem?_cons_zero,List.set_cons_succ,List.set_cons_zero,List.map_cons,List.map_nil,List.length_cons,List.length_nil,List.cons_append,List.nil_append,List.append_nil,List.isEmpty_cons,List.isEmpty_nil,if_true,if_false,ite_true,ite_false,Bool.not_true,Bool.not_false,Bool.not_not,decide_true,true_and,and_true,false_and,and_false,Bool.false_eq_true,reduceCtorEq,decide_true,decide_false,ite_self,forall_const,Nat.zero_add,Nat.reduceAdd,Nat.reduceLeDiff,Nat.reduceLT,Nat.reduceEqDiff,Nat.reduceSub,Nat.reduceMul,Nat.reduceBEq,Int.reduceLT,Int.reduceLE,Int.reduceEq,Int.reduceNe,Int.reduceAdd,Int.reduceMul,Int.reduceSub,Int.reduceNeg,Int.reducePow,Int.reduceBEq,Int.reduceToNat,Int.reduceGT,Int.reduceGE,String.reduceBEq,zcn,zco,List.replicate_succ,List.replicate_zero,zcp,zcq,zcr,zcs,zct,zcu,zcv,zcw,zcx,zcy,zcz,zcA,zcB,zcC,zcD,zcE,zcF,zcG,zcH,zcI,zcJ,zcK,zcL,zcM,zcN,zcO,zcP,zcQ,zcR,zcS,zcT,zcU,zcV,zcW,zcX,zcY,zcZ,zc0,zc1,zc2,zc3,zc4,zc5,zc6,zc7,zc8,zc9,zda,zdb,zdc,Bool.true_or,Bool.or_true,Bool.false_or,Bool.or_false,Bool.and_true,Bool.true_and,Bool.and_false,Bool.false_and,Int.cast_ofNat_Int,Int.natCast_zero,Int.natCast_one,beq_self_eq_true,zdd,zde,zdf,zdg,zdh,wipeR,show ∀ S,m_are_wholes [rv q,.int 2] S = .ok (.bl true) S from fun S => e_are2,e,hp]
theorem o_is_ratio {q : Rat} : Ok (m_is_ratio [rv q] S) Q = Q (.bl true) S := by rw [e_is_ratio, zaa]
theorem e_ratio {a b : Int} (hb : b ≠ 0) (hs : b.natAbs < 2 ^ 8999) : m_ratio [.int a, .int b] S = .ok (rv (Rat.divInt a b)) S := by
  refine Ok.eq (Ok_defM rfl ?_)
  have h1 := gcd_nz (a := a) hb
  have h2 := log_gcd (a := a) hb hs
  have e1 := fr_num (a := a) hb
  have e2 := fr_den (a := a) hb
  unfold rv
  simp -dsimp (disch := first | assumption | omega) only [zaa,zab,zac,zad,zae,zaf,zag,zah,zai,zaj,zak,zal,zam,zan,zao,zap,zaq,zar,zas,zat,zau,zav,zaw,zax,zay,zaz,zaA,zaB,zaC,zaD,zaE,zaF,zaG,zaH,zaI,zaJ,zaK,zaL,zaM,zaN,zaO,zaP,zaQ,zaR,zaS,zaT,zaU,zaV,zaW,zaX,zaY,zaZ,za0,za1,za2,za3,za4,za5,za6,za7,za8,za9,zba,zbb,zbc,zbd,zbe,zbf,zbg,zbh,zbi,zbj,zbk,zbl,zbm,zbn,zbo,zbp,zbq,zbr,zbs,zbt,zbu,zbv,zbw,zbx,zby,zbz,zbA,zbB,zbC,zbD,zbE,zbF,zbG,zbH,zbI,zbJ,zbK,zbL,zbM,zbN,zbO,zbP,zbQ,zbR,zbS,zbT,zbU,zbV,zbW,zbX,zbY,zbZ,zb0,zb1,zb2,zb3,zb4,zb5,zb6,zb7,zb8,zb9,zca,zcb,eq_self,zcc,zcd,zce,zcf,zcg,zch,zci,zcj,zck,zcl,zcm,List.getElem?_cons_succ,List.getElem?_cons_zero,List.set_cons_succ,List.set_cons_zero,List.map_cons,List.map_nil,List.length_cons,List.length_nil,List.cons_append,List.nil_append,List.append_nil,List.isEmpty_cons,List.isEmpty_nil,if_true,if_false,ite_true,ite_false,Bool.not_true,Bool.not_false,Bool.not_not,decide_true,true_and,and_true,false_and,and_false,Bool.false_eq_true,reduceCtorEq,decide_true,decide_false,ite_self,forall_const,Nat.zero_add,Nat.reduceAdd,Nat.reduceLeDiff,Nat.reduceLT,Nat.reduceEqDiff,Nat.reduceSub,Nat.reduceMul,Nat.reduceBEq,Int.reduceLT,Int.reduceLE,Int.reduceEq,Int.reduceNe,Int.reduceAdd,Int.reduceMul,Int.reduceSub,Int.reduceNeg,Int.reducePow,Int.reduceBEq,Int.reduceToNat,Int.reduceGT,Int.reduceGE,String.reduceBEq,zcn,zco,List.replicate_succ,List.replicate_zero,zcp,zcq,zcr,zcs,zct,zcu,zcv,zcw,zcx,zcy,zcz,zcA,zcB,zcC,zcD,zcE,zcF,zcG,zcH,zcI,zcJ,zcK,zcL,zcM,zcN,zcO,zcP,zcQ,zcR,zcS,zcT,zcU,zcV,zcW,zcX,zcY,zcZ,zc0,zc1,zc2,zc3,zc4,zc5,zc6,zc7,zc8,zc9,zda,zdb,zdc,Bool.true_or,Bool.or_true,Bool.false_or,Bool.or_false,Bool.and_true,Bool.true_and,Bool.and_false,Bool.false_and,Int.cast_ofNat_Int,Int.natCast_zero,Int.natCast_one,beq_self_eq_true,zdd,zde,zdf,zdg,zdh,wipeR,o_divisor]
  by_cases h : 0 < b
  · rw [if_pos h] at e1 e2
    simp [h, e1, e2, h1, h2]
    omega
  · rw [if_neg h] at e1 e2
    simp [h, e1, e2, h1, h2]
    omega
theorem o_ratio {a b : Int} (hb : b ≠ 0) (hs : b.natAbs < 2 ^ 8999) : Ok (m_ratio [.int a, .int b] S) Q = Q (rv (Rat.divInt a b)) S := by rw [e_ratio hb hs, zaa]
theorem e_ratio_sum {q r : Rat} {k l : Nat} [h : Sz q k] [g : Sz r l] (hk : k + l ≤ 8000) : m_ratio_sum [rv q, rv r] S = .ok (rv (q + r)) S := by
  refine Ok.eq (Ok_defM rfl ?_)
  have n1 := lg h.n g.n (by omega)
  have n2 : q.num.natAbs.log2 + (r.den : Int).natAbs.log2 < 1000000 := lg h.n g.d (by omega)
  have n3 : r.num.natAbs.log2 + (q.den : Int).natAbs.log2 < 1000000 := lg g.n h.d (by omega)
  have n4 : (q.den : Int).natAbs.log2 + (r.den : Int).natAbs.log2 < 1000000 := lg h.d g.d (by omega)
  have n5 : ((q.den : Int) * r.den).natAbs < 2 ^ 8999 := Nat.lt_of_lt_of_le (nDen h g) (Nat.pow_le_pow_right (by decide) (by omega))
  simp -dsimp (disch := first | assumption | omega) only [zaa,zab,zac,zad,zae,zaf,zag,zah,zai,zaj,zak,zal,zam,zan,zao,zap,zaq,zar,zas,zat,zau,zav,zaw,zax,zay,zaz,zaA,zaB,zaC,zaD,zaE,zaF,zaG,zaH,zaI,zaJ,zaK,zaL,zaM,zaN,zaO,zaP,zaQ,zaR,zaS,zaT,zaU,zaV,zaW,zaX,zaY,zaZ,za0,za1,za2,za3,za4,za5,za6,za7,za8,za9,zba,zbb,zbc,zbd,zbe,zbf,zbg,zbh,zbi,zbj,zbk,zbl,zbm,zbn,zbo,zbp,zbq,zbr,zbs,zbt,zbu,zbv,zbw,zbx,zby,zbz,zbA,zbB,zbC,zbD,zbE,zbF,zbG,zbH,zbI,zbJ,zbK,zbL,zbM,zbN,zbO,zbP,zbQ,zbR,zbS,zbT,zbU,zbV,zbW,zbX,zbY,zbZ,zb0,zb1,zb2,zb3,zb4,zb5,zb6,zb7,zb8,zb9,zca,zcb,eq_self,zcc,zcd,zce,zcf,zcg,zch,zci,zcj,zck,zcl,zcm,List.getElem?_cons_succ,List.getElem?_cons_zero,List.set_cons_succ,List.set_cons_zero,List.map_cons,List.map_nil,List.length_cons,List.length_nil,List.cons_append,List.nil_append,List.append_nil,List.isEmpty_cons,List.isEmpty_nil,if_true,if_false,ite_true,ite_false,Bool.not_true,Bool.not_false,Bool.not_not,decide_true,true_and,and_true,false_and,and_false,Bool.false_eq_true,reduceCtorEq,decide_true,decide_false,ite_self,forall_const,Nat.zero_add,Nat.reduceAdd,Nat.reduceLeDiff,Nat.reduceLT,Nat.reduceEqDiff,Nat.reduceSub,Nat.reduceMul,Nat.reduceBEq,Int.reduceLT,Int.reduceLE,Int.reduceEq,Int.reduceNe,Int.reduceAdd,Int.reduceMul,Int.reduceSub,Int.reduceNeg,Int.reducePow,Int.reduceBEq,Int.reduceToNat,Int.reduceGT,Int.reduceGE,String.reduceBEq,zcn,zco,List.replicate_succ,List.replicate_zero,zcp,zcq,zcr,zcs,zct,zcu,zcv,zcw,zcx,zcy,zcz,zcA,zcB,zcC,zcD,zcE,zcF,zcG,zcH,zcI,zcJ,zcK,zcL,zcM,zcN,zcO,zcP,zcQ,zcR,zcS,zcT,zcU,zcV,zcW,zcX,zcY,zcZ,zc0,zc1,zc2,zc3,zc4,zc5,zc6,zc7,zc8,zc9,zda,zdb,zdc,Bool.true_or,Bool.or_true,Bool.false_or,Bool.or_false,Bool.and_true,Bool.true_and,Bool.and_false,Bool.false_and,Int.cast_ofNat_Int,Int.natCast_zero,Int.natCast_one,beq_self_eq_true,zdd,zde,zdf,zdg,zdh,wipeR,n1,n2,n3,n4,o_ratio (dd_nz q r) n5,add_fr q r]
theorem o_ratio_sum {q r : Rat} {k l : Nat} [h : Sz q k] [g : Sz r l] (hk : k + l ≤ 8000) : Ok (m_ratio_sum [rv q, rv r] S) Q = Q (rv (q + r)) S := by rw [e_ratio_sum hk, zaa]
theorem e_ratio_less {q r : Rat} {k l : Nat} [h : Sz q k] [g : Sz r l] (hk : k + l ≤ 8000) : m_ratio_less [rv q, rv r] S = .ok (rv (q - r)) S := by
  refine Ok.eq (Ok_defM rfl ?_)
  have n1 := lg h.n g.n (by omega)
  have n2 : q.num.natAbs.log2 + (r.den : Int).natAbs.log2 < 1000000 := lg h.n g.d (by omega)
  have n3 : r.num.natAbs.log2 + (q.den : Int).natAbs.log2 < 1000000 := lg g.n h.d (by omega)
  have n4 : (q.den : Int).natAbs.log2 + (r.den : Int).natAbs.log2 < 1000000 := lg h.d g.d (by omega)
  have n5 : ((q.den : Int) * r.den).natAbs < 2 ^ 8999 := Nat.lt_of_lt_of_le (nDen h g) (Nat.pow_le_pow_right (by decide) (by omega))
  simp -dsimp (disch := first | assumption | omega) only [zaa,zab,zac,zad,zae,zaf,zag,zah,zai,zaj,zak,zal,zam,zan,zao,zap,zaq,zar,zas,zat,zau,zav,zaw,zax,zay,zaz,zaA,zaB,zaC,zaD,zaE,zaF,zaG,zaH,zaI,zaJ,zaK,zaL,zaM,zaN,zaO,zaP,zaQ,zaR,zaS,zaT,zaU,zaV,zaW,zaX,zaY,zaZ,za0,za1,za2,za3,za4,za5,za6,za7,za8,za9,zba,zbb,zbc,zbd,zbe,zbf,zbg,zbh,zbi,zbj,zbk,zbl,zbm,zbn,zbo,zbp,zbq,zbr,zbs,zbt,zbu,zbv,zbw,zbx,zby,zbz,zbA,zbB,zbC,zbD,zbE,zbF,zbG,zbH,zbI,zbJ,zbK,zbL,zbM,zbN,zbO,zbP,zbQ,zbR,zbS,zbT,zbU,zbV,zbW,zbX,zbY,zbZ,zb0,zb1,zb2,zb3,zb4,zb5,zb6,zb7,zb8,zb9,zca,zcb,eq_self,zcc,zcd,zce,zcf,zcg,zch,zci,zcj,zck,zcl,zcm,List.getElem?_cons_succ,List.getElem?_cons_zero,List.set_cons_succ,List.set_cons_zero,List.map_cons,List.map_nil,List.length_cons,List.length_nil,List.cons_append,List.nil_append,List.append_nil,List.isEmpty_cons,List.isEmpty_nil,if_true,if_false,ite_true,ite_false,Bool.not_true,Bool.not_false,Bool.not_not,decide_true,true_and,and_true,false_and,and_false,Bool.false_eq_true,reduceCtorEq,decide_true,decide_false,ite_self,forall_const,Nat.zero_add,Nat.reduceAdd,Nat.reduceLeDiff,Nat.reduceLT,Nat.reduceEqDiff,Nat.reduceSub,Nat.reduceMul,Nat.reduceBEq,Int.reduceLT,Int.reduceLE,Int.reduceEq,Int.reduceNe,Int.reduceAdd,Int.reduceMul,Int.reduceSub,Int.reduceNeg,Int.reducePow,Int.reduceBEq,Int.reduceToNat,Int.reduceGT,Int.reduceGE,String.reduceBEq,zcn,zco,List.replicate_succ,List.replicate_zero,zcp,zcq,zcr,zcs,zct,zcu,zcv,zcw,zcx,zcy,zcz,zcA,zcB,zcC,zcD,zcE,zcF,zcG,zcH,zcI,zcJ,zcK,zcL,zcM,zcN,zcO,zcP,zcQ,zcR,zcS,zcT,zcU,zcV,zcW,zcX,zcY,zcZ,zc0,zc1,zc2,zc3,zc4,zc5,zc6,zc7,zc8,zc9,zda,zdb,zdc,Bool.true_or,Bool.or_true,Bool.false_or,Bool.or_false,Bool.and_true,Bool.true_and,Bool.and_false,Bool.false_and,Int.cast_ofNat_Int,Int.natCast_zero,Int.natCast_one,beq_self_eq_true,zdd,zde,zdf,zdg,zdh,wipeR,n1,n2,n3,n4,o_ratio (dd_nz q r) n5,sub_fr q r]
theorem o_ratio_less {q r : Rat} {k l : Nat} [h : Sz q k] [g : Sz r l] (hk : k + l ≤ 8000) : Ok (m_ratio_less [rv q, rv r] S) Q = Q (rv (q - r)) S := by rw [e_ratio_less hk, zaa]
theorem e_ratio_product {q r : Rat} {k l : Nat} [h : Sz q k] [g : Sz r l] (hk : k + l ≤ 8000) : m_ratio_product [rv q, rv r] S = .ok (rv (q * r)) S := by
  refine Ok.eq (Ok_defM rfl ?_)
  have n1 := lg h.n g.n (by omega)
  have n2 : q.num.natAbs.log2 + (r.den : Int).natAbs.log2 < 1000000 := lg h.n g.d (by omega)
  have n3 : r.num.natAbs.log2 + (q.den : Int).natAbs.log2 < 1000000 := lg g.n h.d (by omega)
  have n4 : (q.den : Int).natAbs.log2 + (r.den : Int).natAbs.log2 < 1000000 := lg h.d g.d (by omega)
  have n5 : ((q.den : Int) * r.den).natAbs < 2 ^ 8999 := Nat.lt_of_lt_of_le (nDen h g) (Nat.pow_le_pow_right (by decide) (by omega))
  simp -dsimp (disch := first | assumption | omega) only [zaa,zab,zac,zad,zae,zaf,zag,zah,zai,zaj,zak,zal,zam,zan,zao,zap,zaq,zar,zas,zat,zau,zav,zaw,zax,zay,zaz,zaA,zaB,zaC,zaD,zaE,zaF,zaG,zaH,zaI,zaJ,zaK,zaL,zaM,zaN,zaO,zaP,zaQ,zaR,zaS,zaT,zaU,zaV,zaW,zaX,zaY,zaZ,za0,za1,za2,za3,za4,za5,za6,za7,za8,za9,zba,zbb,zbc,zbd,zbe,zbf,zbg,zbh,zbi,zbj,zbk,zbl,zbm,zbn,zbo,zbp,zbq,zbr,zbs,zbt,zbu,zbv,zbw,zbx,zby,zbz,zbA,zbB,zbC,zbD,zbE,zbF,zbG,zbH,zbI,zbJ,zbK,zbL,zbM,zbN,zbO,zbP,zbQ,zbR,zbS,zbT,zbU,zbV,zbW,zbX,zbY,zbZ,zb0,zb1,zb2,zb3,zb4,zb5,zb6,zb7,zb8,zb9,zca,zcb,eq_self,zcc,zcd,zce,zcf,zcg,zch,zci,zcj,zck,zcl,zcm,List.getElem?_cons_succ,List.getElem?_cons_zero,List.set_cons_succ,List.set_cons_zero,List.map_cons,List.map_nil,List.length_cons,List.length_nil,List.cons_append,List.nil_append,List.append_nil,List.isEmpty_cons,List.isEmpty_nil,if_true,if_false,ite_true,ite_false,Bool.not_true,Bool.not_false,Bool.not_not,decide_true,true_and,and_true,false_and,and_false,Bool.false_eq_true,reduceCtorEq,decide_true,decide_false,ite_self,forall_const,Nat.zero_add,Nat.reduceAdd,Nat.reduceLeDiff,Nat.reduceLT,Nat.reduceEqDiff,Nat.reduceSub,Nat.reduceMul,Nat.reduceBEq,Int.reduceLT,Int.reduceLE,Int.reduceEq,Int.reduceNe,Int.reduceAdd,Int.reduceMul,Int.reduceSub,Int.reduceNeg,Int.reducePow,Int.reduceBEq,Int.reduceToNat,Int.reduceGT,Int.reduceGE,String.reduceBEq,zcn,zco,List.replicate_succ,List.replicate_zero,zcp,zcq,zcr,zcs,zct,zcu,zcv,zcw,zcx,zcy,zcz,zcA,zcB,zcC,zcD,zcE,zcF,zcG,zcH,zcI,zcJ,zcK,zcL,zcM,zcN,zcO,zcP,zcQ,zcR,zcS,zcT,zcU,zcV,zcW,zcX,zcY,zcZ,zc0,zc1,zc2,zc3,zc4,zc5,zc6,zc7,zc8,zc9,zda,zdb,zdc,Bool.true_or,Bool.or_true,Bool.false_or,Bool.or_false,Bool.and_true,Bool.true_and,Bool.and_false,Bool.false_and,Int.cast_ofNat_Int,Int.natCast_zero,Int.natCast_one,beq_self_eq_true,zdd,zde,zdf,zdg,zdh,wipeR,n1,n2,n3,n4,o_ratio (dd_nz q r) n5,mul_fr q r]
theorem o_ratio_product {q r : Rat} {k l : Nat} [h : Sz q k] [g : Sz r l] (hk : k + l ≤ 8000) : Ok (m_ratio_product [rv q, rv r] S) Q = Q (rv (q * r)) S := by rw [e_ratio_product hk, zaa]
end
end Pm.L

namespace Pm.L
open PySem PySem.Spec L2 Pm
section
variable {S : Sto} {Q : PV → Sto → Prop}
theorem abs_nat (a : Int) : (if a < 0 then -a else a) = (a.natAbs : Int) := by omega
end
end Pm.L

namespace Pm.L
open PySem PySem.Spec L2 Pm
section
variable {S : Sto} {Q : PV → Sto → Prop}
end
end Pm.L

namespace Pm.L
open PySem PySem.Spec L2 Pm
section
variable {S : Sto} {Q : PV → Sto → Prop}
end
end Pm.L

namespace Pm.L
open PySem PySem.Spec L2 Pm
abbrev jv (s b : Rat) : PV := .tup [rv s, rv b]
section
variable {S : Sto} {Q : PV → Sto → Prop}
theorem num_pos {b : Rat} (hb : 0 < b) : 0 < b.num := by
  have h1 := Rat.num_nonneg.mpr (Rat.le_of_lt hb)
  have h2 := num_nz (Rat.ne_of_gt hb)
  omega
theorem o_is_stream_pair {s b : Rat} (hb : 0 < b) : Ok (m_is_stream_pair [jv s b] S) Q = Q (.bl true) S := by
  have e : m_is_stream_pair [jv s b] S = .ok (.bl true) S := by
    refine Ok.eq (Ok_defM rfl ?_)
    have h := num_pos hb
    simp -dsimp (disch := first | assumption | omega) only [zaa,zab,zac,zad,zae,zaf,zag,zah,zai,zaj,zak,zal,zam,zan,zao,zap,zaq,zar,zas,zat,zau,zav,zaw,zax,zay,zaz,zaA,zaB,zaC,zaD,zaE,zaF,zaG,zaH,zaI,zaJ,zaK,zaL,zaM,zaN,zaO,zaP,zaQ,zaR,zaS,zaT,zaU,zaV,zaW,zaX,zaY,zaZ,za0,za1,za2,za3,za4,za5,za6,za7,za8,za9,zba,zbb,zbc,zbd,zbe,zbf,zbg,zbh,zbi,zbj,zbk,zbl,zbm,zbn,zbo,zbp,zbq,zbr,zbs,zbt,zbu,zbv,zbw,zbx,zby,zbz,zbA,zbB,zbC,zbD,zbE,zbF,zbG,zbH,zbI,zbJ,zbK,zbL,zbM,zbN,zbO,zbP,zbQ,zbR,zbS,zbT,zbU,zbV,zbW,zbX,zbY,zbZ,zb0,zb1,zb2,zb3,zb4,zb5,zb6,zb7,zb8,zb9,zca,zcb,eq_self,zcc,zcd,zce,zcf,zcg,zch,zci,zcj,zck,zcl,zcm,List.getElem?_cons_succ,List.getElem?_cons_zero,List.set_cons_succ,List.set_cons_zero,List.map_cons,List.map_nil,List.length_cons,List.length_nil,List.cons_append,List.nil_append,List.append_nil,List.isEmpty_cons,List.isEmpty_nil,if_true,if_false,ite_true,ite_false,Bool.not_true,Bool.not_false,Bool.not_not,decide_true,true_and,and_true,false_and,and_false,Bool.false_eq_true,reduceCtorEq,decide_true,decide_false,ite_self,forall_const,Nat.zero_add,Nat.reduceAdd,Nat.reduceLeDiff,Nat.reduceLT,Nat.reduceEqDiff,Nat.reduceSub,Nat.reduceMul,Nat.reduceBEq,Int.reduceLT,Int.reduceLE,Int.reduceEq,Int.reduceNe,Int.reduceAdd,Int.reduceMul,Int.reduceSub,Int.reduceNeg,Int.reducePow,Int.reduceBEq,Int.reduceToNat,Int.reduceGT,Int.reduceGE,String.reduceBEq,zcn,zco,List.replicate_succ,List.replicate_zero,zcp,zcq,zcr,zcs,zct,zcu,zcv,zcw,zcx,zcy,zcz,zcA,zcB,zcC,zcD,zcE,zcF,zcG,zcH,zcI,zcJ,zcK,zcL,zcM,zcN,zcO,zcP,zcQ,zcR,zcS,zcT,zcU,zcV,zcW,zcX,zcY,zcZ,zc0,zc1,zc2,zc3,zc4,zc5,zc6,zc7,zc8,zc9,zda,zdb,zdc,Bool.true_or,Bool.or_true,Bool.false_or,Bool.or_false,Bool.and_true,Bool.true_and,Bool.and_false,Bool.false_and,Int.cast_ofNat_Int,Int.natCast_zero,Int.natCast_one,beq_self_eq_true,zdd,zde,zdf,zdg,zdh,wipeR,o_is_ratio,h]
  rw [e, zaa]
theorem v_ZERO_rv : v_ZERO = rv 0 := rfl
theorem lt_ne {b : Rat} (hb : 0 < b) : b ≠ 0 := Rat.ne_of_gt hb
theorem four_nz {b : Rat} (hb : 0 < b) : 4 * b ≠ 0 := Rat.ne_of_gt (Rat.mul_pos (by decide) hb)
section
variable {s b d : Rat} {k l m : Nat} [hs : Sz s k] [hz : Sz b l] [hy : Sz d m]
end
section
variable {s b d : Rat} {k l m : Nat} [hs : Sz s k] [hz : Sz b l]
end
end
end Pm.L

namespace Pm.L
open PySem PySem.Spec L2 Pm
section
variable {S : Sto} {Q : PV → Sto → Prop}
theorem t01 : PV.tup [.int 0, .int 1] = rv 0 := rfl
theorem t11 : PV.tup [.int 1, .int 1] = rv 1 := rfl
theorem t21 : PV.tup [.int 2, .int 1] = rv 2 := rfl
theorem t41 : PV.tup [.int 4, .int 1] = rv 4 := rfl
theorem t14 : PV.tup [.int 1, .int 4] = rv (1 / 4) := by
  have h1 : (1 / 4 : Rat).num = 1 := by decide +kernel
  have h2 : (1 / 4 : Rat).den = 4 := by decide +kernel
  unfold rv
  rw [h1, h2]; rfl
theorem frac_sz {a b : Int} {k : Nat} (hb : b ≠ 0) (ha : a.natAbs < 2 ^ k) (hk : b.natAbs < 2 ^ k) : Sz (Rat.divInt a b) k := sz_fr hb ha hk
theorem frac_pos {a b : Int} (ha : 0 < a) (hb : 0 < b) : 0 < Rat.divInt a b := by
  rw [Rat.divInt_eq_div, Rat.div_def]
  exact Rat.mul_pos (Rat.intCast_pos.mpr ha) (Rat.inv_pos.mpr (Rat.intCast_pos.mpr hb))
section
variable {s b d : Rat} {k l m : Nat} [hs : Sz s k] [hz : Sz b l]
end
end
end Pm.L

namespace Pm.L
open PySem PySem.Spec L2 Pm
section
variable {S : Sto} {Q : PV → Sto → Prop}
theorem e_divisor3 {a b c : Int} : m_divisor_of [.tup [.int a, .int b, .int c]] S = .ok (.int (g3 a b c)) S := by
  refine Ok.eq (Ok_defM rfl ?_)
  simp -dsimp (disch := first | assumption | omega) only [zaa,zab,zac,zad,zae,zaf,zag,zah,zai,zaj,zak,zal,zam,zan,zao,zap,zaq,zar,zas,zat,zau,zav,zaw,zax,zay,zaz,zaA,zaB,zaC,zaD,zaE,zaF,zaG,zaH,zaI,zaJ,zaK,zaL,zaM,zaN,zaO,zaP,zaQ,zaR,zaS,zaT,zaU,zaV,zaW,zaX,zaY,zaZ,za0,za1,za2,za3,za4,za5,za6,za7,za8,za9,zba,zbb,zbc,zbd,zbe,zbf,zbg,zbh,zbi,zbj,zbk,zbl,zbm,zbn,zbo,zbp,zbq,zbr,zbs,zbt,zbu,zbv,zbw,zbx,zby,zbz,zbA,zbB,zbC,zbD,zbE,zbF,zbG,zbH,zbI,zbJ,zbK,zbL,zbM,zbN,zbO,zbP,zbQ,zbR,zbS,zbT,zbU,zbV,zbW,zbX,zbY,zbZ,zb0,zb1,zb2,zb3,zb4,zb5,zb6,zb7,zb8,zb9,zca,zcb,eq_self,zcc,zcd,zce,zcf,zcg,zch,zci,zcj,zck,zcl,zcm,List.getElem?_cons_succ,List.getElem?_cons_zero,List.set_cons_succ,List.set_cons_zero,List.map_cons,List.map_nil,List.length_cons,List.length_nil,List.cons_append,List.nil_append,List.append_nil,List.isEmpty_cons,List.isEmpty_nil,if_true,if_false,ite_true,ite_false,Bool.not_true,Bool.not_false,Bool.not_not,decide_true,true_and,and_true,false_and,and_false,Bool.false_eq_true,reduceCtorEq,decide_true,decide_false,ite_self,forall_const,Nat.zero_add,Nat.reduceAdd,Nat.reduceLeDiff,Nat.reduceLT,Nat.reduceEqDiff,Nat.reduceSub,Nat.reduceMul,Nat.reduceBEq,Int.reduceLT,Int.reduceLE,Int.reduceEq,Int.reduceNe,Int.reduceAdd,Int.reduceMul,Int.reduceSub,Int.reduceNeg,Int.reducePow,Int.reduceBEq,Int.reduceToNat,Int.reduceGT,Int.reduceGE,String.reduceBEq,zcn,zco,List.replicate_succ,List.replicate_zero,zcp,zcq,zcr,zcs,zct,zcu,zcv,zcw,zcx,zcy,zcz,zcA,zcB,zcC,zcD,zcE,zcF,zcG,zcH,zcI,zcJ,zcK,zcL,zcM,zcN,zcO,zcP,zcQ,zcR,zcS,zcT,zcU,zcV,zcW,zcX,zcY,zcZ,zc0,zc1,zc2,zc3,zc4,zc5,zc6,zc7,zc8,zc9,zda,zdb,zdc,Bool.true_or,Bool.or_true,Bool.false_or,Bool.or_false,Bool.and_true,Bool.true_and,Bool.and_false,Bool.false_and,Int.cast_ofNat_Int,Int.natCast_zero,Int.natCast_one,beq_self_eq_true,zdd,zde,zdf,zdg,zdh,wipeR]
  simp [Int.gcd, g3]
theorem o_divisor3 {a b c : Int} : Ok (m_divisor_of [.tup [.int a, .int b, .int c]] S) Q = Q (.int (g3 a b c)) S := by rw [e_divisor3, zaa]
theorem g3_nz {a b w : Int} (h : 0 < w) : (g3 a b w : Int) ≠ 0 := by have := g3_pos (a := a) (b := b) (w := w) (by omega); omega
theorem log_g3 {a b w : Int} {k : Nat} (hw : 0 < w) (h : w.natAbs < 2 ^ k) : (g3 a b w).log2 < k := log_gcd (by omega) h
theorem pW_sz {x y : Rat} {k l : Nat} (h : Sz x k) (g : Sz y l) (hk : k + l ≤ 8000) : (pW x y).natAbs < 2 ^ 8999 := Nat.lt_of_lt_of_le (pW_lt h g) (Nat.pow_le_pow_right (by decide) (by omega))
theorem pW_nz (x y : Rat) : pW x y ≠ 0 := by have := pW_pos x y; omega
theorem e_are3 {a b c : Int} : m_are_wholes [.tup [.int a, .int b, .int c], .int 3] S = .ok (.bl true) S := by
  refine Ok.eq (Ok_defM rfl ?_)
  simp -dsimp (disch := first | assumption | omega) only [zaa,zab,zac,zad,zae,zaf,zag,zah,zai,zaj,zak,zal,zam,zan,zao,zap,zaq,zar,zas,zat,zau,zav,zaw,zax,zay,zaz,zaA,zaB,zaC,zaD,zaE,zaF,zaG,zaH,zaI,zaJ,zaK,zaL,zaM,zaN,zaO,zaP,zaQ,zaR,zaS,zaT,zaU,zaV,zaW,zaX,zaY,zaZ,za0,za1,za2,za3,za4,za5,za6,za7,za8,za9,zba,zbb,zbc,zbd,zbe,zbf,zbg,zbh,zbi,zbj,zbk,zbl,zbm,zbn,zbo,zbp,zbq,zbr,zbs,zbt,zbu,zbv,zbw,zbx,zby,zbz,zbA,zbB,zbC,zbD,zbE,zbF,zbG,zbH,zbI,zbJ,zbK,zbL,zbM,zbN,zbO,zbP,zbQ,zbR,zbS,zbT,zbU,zbV,zbW,zbX,zbY,zbZ,zb0,zb1,zb2,zb3,zb4,zb5,zb6,zb7,zb8,zb9,zca,zcb,eq_self,zcc,zcd,zce,zcf,zcg,zch,zci,zcj,zck,zcl,zcm,List.getElem?_cons_succ,List.getElem?_cons_zero,List.set_cons_succ,List.set_cons_zero,List.map_cons,List.map_nil,List.length_cons,List.length_nil,List.cons_append,List.nil_append,List.append_nil,List.isEmpty_cons,List.isEmpty_nil,if_true,if_false,ite_true,ite_false,Bool.not_true,Bool.not_false,Bool.not_not,decide_true,true_and,and_true,false_and,and_false,Bool.false_eq_true,reduceCtorEq,decide_true,decide_false,ite_self,forall_const,Nat.zero_add,Nat.reduceAdd,Nat.reduceLeDiff,Nat.reduceLT,Nat.reduceEqDiff,Nat.reduceSub,Nat.reduceMul,Nat.reduceBEq,Int.reduceLT,Int.reduceLE,Int.reduceEq,Int.reduceNe,Int.reduceAdd,Int.reduceMul,Int.reduceSub,Int.reduceNeg,Int.reducePow,Int.reduceBEq,Int.reduceToNat,Int.reduceGT,Int.reduceGE,String.reduceBEq,zcn,zco,List.replicate_succ,List.replicate_zero,zcp,zcq,zcr,zcs,zct,zcu,zcv,zcw,zcx,zcy,zcz,zcA,zcB,zcC,zcD,zcE,zcF,zcG,zcH,zcI,zcJ,zcK,zcL,zcM,zcN,zcO,zcP,zcQ,zcR,zcS,zcT,zcU,zcV,zcW,zcX,zcY,zcZ,zc0,zc1,zc2,zc3,zc4,zc5,zc6,zc7,zc8,zc9,zda,zdb,zdc,Bool.true_or,Bool.or_true,Bool.false_or,Bool.or_false,Bool.and_true,Bool.true_and,Bool.and_false,Bool.false_and,Int.cast_ofNat_Int,Int.natCast_zero,Int.natCast_one,beq_self_eq_true,zdd,zde,zdf,zdg,zdh,wipeR,o_is_whole,Ok_all (xs := [.bl true,.bl true,.bl true]) (bs := [true,true,true]) rfl,show ([true,true,true].all id) = true from rfl]
theorem o_is_spot {x y : Rat} : Ok (m_is_spot [pl x y] S) Q = Q (.bl true) S := by
  have e2 : ∀ S, m_is_reduced [pl x y] S = .ok (.bl true) S := fun S => by
    refine Ok.eq (Ok_defM rfl ?_)
    rw [pl_eq]; unfold t3
    simp -dsimp (disch := first | assumption | omega) only [zaa,zab,zac,zad,zae,zaf,zag,zah,zai,zaj,zak,zal,zam,zan,zao,zap,zaq,zar,zas,zat,zau,zav,zaw,zax,zay,zaz,zaA,zaB,zaC,zaD,zaE,zaF,zaG,zaH,zaI,zaJ,zaK,zaL,zaM,zaN,zaO,zaP,zaQ,zaR,zaS,zaT,zaU,zaV,zaW,zaX,zaY,zaZ,za0,za1,za2,za3,za4,za5,za6,za7,za8,za9,zba,zbb,zbc,zbd,zbe,zbf,zbg,zbh,zbi,zbj,zbk,zbl,zbm,zbn,zbo,zbp,zbq,zbr,zbs,zbt,zbu,zbv,zbw,zbx,zby,zbz,zbA,zbB,zbC,zbD,zbE,zbF,zbG,zbH,zbI,zbJ,zbK,zbL,zbM,zbN,zbO,zbP,zbQ,zbR,zbS,zbT,zbU,zbV,zbW,zbX,zbY,zbZ,zb0,zb1,zb2,zb3,zb4,zb5,zb6,zb7,zb8,zb9,zca,zcb,eq_self,zcc,zcd,zce,zcf,zcg,zch,zci,zcj,zck,zcl,zcm,List.getElem?_cons_succ,List.getElem?_cons_zero,List.set_cons_succ,List.set_cons_zero,List.map_cons,List.map_nil,List.length_cons,List.length_nil,List.cons_append,List.nil_append,List.append_nil,List.isEmpty_cons,List.isEmpty_nil,if_true,if_false,ite_true,ite_false,Bool.not_true,Bool.not_false,Bool.not_not,decide_true,true_and,and_true,false_and,and_false,Bool.false_eq_true,reduceCtorEq,decide_true,decide_false,ite_self,forall_const,Nat.zero_add,Nat.reduceAdd,Nat.reduceLeDiff,Nat.reduceLT,Nat.reduceEqDiff,Nat.reduceSub,Nat.reduceMul,Nat.reduceBEq,Int.reduceLT,Int.reduceLE,Int.reduceEq,Int.reduceNe,Int.reduceAdd,Int.reduceMul,Int.reduceSub,Int.reduceNeg,Int.reducePow,Int.reduceBEq,Int.reduceToNat,Int.reduceGT,Int.reduceGE,String.reduceBEq,zcn,zco,List.replicate_succ,List.replicate_zero,zcp,zcq,zcr,zcs,zct,zcu,zcv,zcw,zcx,zcy,zcz,zcA,zcB,zcC,zcD,zcE,zcF,zcG,zcH,zcI,zcJ,zcK,zcL,zcM,zcN,zcO,zcP,zcQ,zcR,zcS,zcT,zcU,zcV,zcW,zcX,zcY,zcZ,zc0,zc1,zc2,zc3,zc4,zc5,zc6,zc7,zc8,zc9,zda,zdb,zdc,Bool.true_or,Bool.or_true,Bool.false_or,Bool.or_false,Bool.and_true,Bool.true_and,Bool.and_false,Bool.false_and,Int.cast_ofNat_Int,Int.natCast_zero,Int.natCast_one,beq_self_eq_true,zdd,zde,zdf,zdg,zdh,wipeR,o_divisor3,p_g]
  have e : m_is_spot [pl x y] S = .ok (.bl true) S := by
    refine Ok.eq (Ok_defM rfl ?_)
    have hp := pW_pos x y
    simp -dsimp (disch := first | assumption | omega) only [zaa,zab,zac,zad,zae,zaf,zag,zah,zai,zaj,zak,zal,zam,zan,zao,zap,zaq,zar,zas,zat,zau,zav,zaw,zax,zay,zaz,zaA,zaB,zaC,zaD,zaE,zaF,zaG,zaH,zaI,zaJ,zaK,zaL,zaM,zaN,zaO,zaP,zaQ,zaR,zaS,zaT,zaU,zaV,zaW,zaX,zaY,zaZ,za0,za1,za2,za3,za4,za5,za6,za7,za8,za9,zba,zbb,zbc,zbd,zbe,zbf,zbg,zbh,zbi,zbj,zbk,zbl,zbm,zbn,zbo,zbp,zbq,zbr,zbs,zbt,zbu,zbv,zbw,zbx,zby,zbz,zbA,zbB,zbC,zbD,zbE,zbF,zbG,zbH,zbI,zbJ,zbK,zbL,zbM,zbN,zbO,zbP,zbQ,zbR,zbS,zbT,zbU,zbV,zbW,zbX,zbY,zbZ,zb0,zb1,zb2,zb3,zb4,zb5,zb6,zb7,zb8,zb9,zca,zcb,eq_self,zcc,zcd,zce,zcf,zcg,zch,zci,zcj,zck,zcl,zcm,List.getElem?_cons_succ,List.getElem?_cons_zero,List.set_cons_succ,List.set_cons_zero,List.map_cons,List.map_nil,List.length_cons,List.length_nil,List.cons_append,List.nil_append,List.append_nil,List.isEmpty_cons,List.isEmpty_nil,if_true,if_false,ite_true,ite_false,Bool.not_true,Bool.not_false,Bool.not_not,decide_true,true_and,and_true,false_and,and_false,Bool.false_eq_true,reduceCtorEq,decide_true,decide_false,ite_self,forall_const,Nat.zero_add,Nat.reduceAdd,Nat.reduceLeDiff,Nat.reduceLT,Nat.reduceEqDiff,Nat.reduceSub,Nat.reduceMul,Nat.reduceBEq,Int.reduceLT,Int.reduceLE,Int.reduceEq,Int.reduceNe,Int.reduceAdd,Int.reduceMul,Int.reduceSub,Int.reduceNeg,Int.reducePow,Int.reduceBEq,Int.reduceToNat,Int.reduceGT,Int.reduceGE,String.reduceBEq,zcn,zco,List.replicate_succ,List.replicate_zero,zcp,zcq,zcr,zcs,zct,zcu,zcv,zcw,zcx,zcy,zcz,zcA,zcB,zcC,zcD,zcE,zcF,zcG,zcH,zcI,zcJ,zcK,zcL,zcM,zcN,zcO,zcP,zcQ,zcR,zcS,zcT,zcU,zcV,zcW,zcX,zcY,zcZ,zc0,zc1,zc2,zc3,zc4,zc5,zc6,zc7,zc8,zc9,zda,zdb,zdc,Bool.true_or,Bool.or_true,Bool.false_or,Bool.or_false,Bool.and_true,Bool.true_and,Bool.and_false,Bool.false_and,Int.cast_ofNat_Int,Int.natCast_zero,Int.natCast_one,beq_self_eq_true,zdd,zde,zdf,zdg,zdh,wipeR,show ∀ S,m_are_wholes [pl x y,.int 3] S = .ok (.bl true) S from fun S => e_are3,e2,hp]
  rw [e, zaa]
theorem o_check_fraction {x : Rat} : Ok (m_check_fraction [rv x] S) Q = Q .non S := by
  have e : m_check_fraction [rv x] S = .ok .non S := by
    refine Ok.eq (Ok_defM rfl ?_)
    simp -dsimp (disch := first | assumption | omega) only [zaa,zab,zac,zad,zae,zaf,zag,zah,zai,zaj,zak,zal,zam,zan,zao,zap,zaq,zar,zas,zat,zau,zav,zaw,zax,zay,zaz,zaA,zaB,zaC,zaD,zaE,zaF,zaG,zaH,zaI,zaJ,zaK,zaL,zaM,zaN,zaO,zaP,zaQ,zaR,zaS,zaT,zaU,zaV,zaW,zaX,zaY,zaZ,za0,za1,za2,za3,za4,za5,za6,za7,za8,za9,zba,zbb,zbc,zbd,zbe,zbf,zbg,zbh,zbi,zbj,zbk,zbl,zbm,zbn,zbo,zbp,zbq,zbr,zbs,zbt,zbu,zbv,zbw,zbx,zby,zbz,zbA,zbB,zbC,zbD,zbE,zbF,zbG,zbH,zbI,zbJ,zbK,zbL,zbM,zbN,zbO,zbP,zbQ,zbR,zbS,zbT,zbU,zbV,zbW,zbX,zbY,zbZ,zb0,zb1,zb2,zb3,zb4,zb5,zb6,zb7,zb8,zb9,zca,zcb,eq_self,zcc,zcd,zce,zcf,zcg,zch,zci,zcj,zck,zcl,zcm,List.getElem?_cons_succ,List.getElem?_cons_zero,List.set_cons_succ,List.set_cons_zero,List.map_cons,List.map_nil,List.length_cons,List.length_nil,List.cons_append,List.nil_append,List.append_nil,List.isEmpty_cons,List.isEmpty_nil,if_true,if_false,ite_true,ite_false,Bool.not_true,Bool.not_false,Bool.not_not,decide_true,true_and,and_true,false_and,and_false,Bool.false_eq_true,reduceCtorEq,decide_true,decide_false,ite_self,forall_const,Nat.zero_add,Nat.reduceAdd,Nat.reduceLeDiff,Nat.reduceLT,Nat.reduceEqDiff,Nat.reduceSub,Nat.reduceMul,Nat.reduceBEq,Int.reduceLT,Int.reduceLE,Int.reduceEq,Int.reduceNe,Int.reduceAdd,Int.reduceMul,Int.reduceSub,Int.reduceNeg,Int.reducePow,Int.reduceBEq,Int.reduceToNat,Int.reduceGT,Int.reduceGE,String.reduceBEq,zcn,zco,List.replicate_succ,List.replicate_zero,zcp,zcq,zcr,zcs,zct,zcu,zcv,zcw,zcx,zcy,zcz,zcA,zcB,zcC,zcD,zcE,zcF,zcG,zcH,zcI,zcJ,zcK,zcL,zcM,zcN,zcO,zcP,zcQ,zcR,zcS,zcT,zcU,zcV,zcW,zcX,zcY,zcZ,zc0,zc1,zc2,zc3,zc4,zc5,zc6,zc7,zc8,zc9,zda,zdb,zdc,Bool.true_or,Bool.or_true,Bool.false_or,Bool.or_false,Bool.and_true,Bool.true_and,Bool.and_false,Bool.false_and,Int.cast_ofNat_Int,Int.natCast_zero,Int.natCast_one,beq_self_eq_true,zdd,zde,zdf,zdg,zdh,wipeR,o_is_ratio]
  rw [e, zaa]
/-! the law's own places -/
end
end Pm.L

namespace Pm.L
open PySem PySem.Spec L2 Pm
theorem rep3 {p : PV} : repL 3 [p] = [p, p, p] := rfl
theorem sq_nonneg (x : Rat) : 0 ≤ x * x := by
  rcases Rat.le_total (a := 0) (b := x) with h | h
  · exact Rat.mul_nonneg h h
  · have h2 : 0 ≤ -x := by grind
    have := Rat.mul_nonneg h2 h2
    grind
theorem div_nonneg {a b : Rat} (ha : 0 ≤ a) (hb : 0 < b) : 0 ≤ a / b := by
  rw [Rat.div_def]
  exact Rat.mul_nonneg ha (Rat.le_of_lt (Rat.inv_pos.mpr hb))
theorem pos_of_num {q : Rat} (h : 0 < q.num) : 0 ≤ q := Rat.num_nonneg.mp (by omega)
end Pm.L
namespace Pm.L
open PySem PySem.Spec L2 Pm
/-! jets through places -/
def wB (s x y : Rat) : Rat := (x * s - y) / (x * x)
def withV (s x y : Rat) : PV := if 0 < wB s x y then jv s (wB s x y) else .non
def tB (xa ya xb yb : Rat) : Rat := (ya / xa - yb / xb) / (xb - xa)
def tS (xa ya xb yb : Rat) : Rat := ya / xa + tB xa ya xb yb * xa
def thrV (xa ya xb yb : Rat) : PV := if 0 < tB xa ya xb yb then jv (tS xa ya xb yb) (tB xa ya xb yb) else .non
section
variable {s x y xa ya xb yb : Rat} {k l m n : Nat}
instance Sz.wB [h1 : Sz s k] [h2 : Sz x l] [h3 : Sz y m] : Sz (Pm.L.wB s x y) ((l + k + m + 1) + (l + l)) := by unfold Pm.L.wB; infer_instance
instance Sz.tB [h1 : Sz xa k] [h2 : Sz ya l] [h3 : Sz xb m] [h4 : Sz yb n] : Sz (Pm.L.tB xa ya xb yb) ((l + k) + (n + m) + 1 + (m + k + 1)) := by unfold Pm.L.tB; infer_instance
instance Sz.tS [h1 : Sz xa k] [h2 : Sz ya l] [h3 : Sz xb m] [h4 : Sz yb n] : Sz (Pm.L.tS xa ya xb yb) ((l + k) + (((l + k) + (n + m) + 1 + (m + k + 1)) + k) + 1) := by unfold Pm.L.tS; infer_instance
instance Shw.withV [h1 : Sz s k] [h2 : Sz x l] [h3 : Sz y m] : Shw (Pm.L.withV s x y) (6 + 1000 * (k - 1920) + 1000 * (l + k + m + 1 + (l + l) - 1920)) 2 := by
  refine ⟨fun hw => ?_⟩
  have i1 : Shw (if 0 < Pm.L.wB s x y then jv s (Pm.L.wB s x y) else PV.non) _ _ := inferInstance
  obtain ⟨d, h1, h2, h3, h4, h5, h6⟩ := i1.ex (by omega)
  exact ⟨d, h1, h2, h3, h4, by omega, by omega⟩
instance Shw.thrV [h1 : Sz xa k] [h2 : Sz ya l] [h3 : Sz xb m] [h4 : Sz yb n] : Shw (Pm.L.thrV xa ya xb yb) (6 + 2000 * ((l + k) + (((l + k) + (n + m) + 1 + (m + k + 1)) + k) + 1 - 1920)) 2 := by
  refine ⟨fun hw => ?_⟩
  have i1 : Shw (if 0 < Pm.L.tB xa ya xb yb then jv (Pm.L.tS xa ya xb yb) (Pm.L.tB xa ya xb yb) else PV.non) _ _ := inferInstance
  obtain ⟨d, h1, h2, h3, h4, h5, h6⟩ := i1.ex (by omega)
  exact ⟨d, h1, h2, h3, h4, by omega, by omega⟩
theorem xx_nz (hx : 0 < x) : x * x ≠ 0 := Rat.ne_of_gt (Rat.mul_pos hx hx)
theorem withV_jet {b : Rat} (hx : 0 < x) (hb : 0 < b) : withV s x (x * (s - b * x)) = jv s b := by
  have e : wB s x (x * (s - b * x)) = b := by
    have := xx_nz hx
    have := lt_ne hx
    unfold wB
    grind
  unfold withV
  rw [e, if_pos hb]
theorem withV_jet' {b : Rat} (hx : 0 < x) (hb : 0 < b) (e : x * (s - b * x) = y) : withV s x y = jv s b := by
  rw [← e]
  exact withV_jet hx hb
theorem thrV_jet {b : Rat} (ha : 0 < xa) (hl : xa < xb) (hb : 0 < b) : thrV xa (xa * (s - b * xa)) xb (xb * (s - b * xb)) = jv s b := by
  have h1 : xa ≠ 0 := lt_ne ha
  have h2 : xb ≠ 0 := by grind
  have h3 : xb - xa ≠ 0 := by grind
  have e : tB xa (xa * (s - b * xa)) xb (xb * (s - b * xb)) = b := by
    unfold tB
    grind
  have e2 : tS xa (xa * (s - b * xa)) xb (xb * (s - b * xb)) = s := by
    unfold tS
    rw [e]
    grind
  unfold thrV
  rw [e, e2, if_pos hb]
end
section
variable {S : Sto} {Q : PV → Sto → Prop} {s x y xa ya xb yb : Rat} {k l m n : Nat}
end
end Pm.L
namespace Pm.L
open PySem PySem.Spec L2 Pm
/-! signs -/
theorem sg_pos {q : Rat} (h : 0 < q) : q.num.sign = 1 := Int.sign_eq_one_of_pos (num_pos h)
theorem sg_neg {q : Rat} (h : q < 0) : q.num.sign = -1 := by
  have h1 : 0 < -q := by grind
  have h2 := num_pos h1
  rw [Rat.neg_num] at h2
  exact Int.sign_eq_neg_one_of_neg (by omega)
theorem sg_zero {q : Rat} (h : q = 0) : q.num.sign = 0 := by rw [h]; rfl
theorem neg_num_iff {q : Rat} : q.num < 0 ↔ q < 0 := by
  constructor
  · intro h
    have h1 : 0 < (-q).num := by rw [Rat.neg_num]; omega
    have := num_pos_iff.mp h1
    grind
  · intro h
    have h1 : 0 < -q := by grind
    have h2 := num_pos h1
    rw [Rat.neg_num] at h2
    omega
section
variable {S : Sto} {Q : PV → Sto → Prop}
end
end Pm.L


namespace Pm.L
open PySem PySem.Spec L2 Pm
/-! ## defs with places of their own that give plain data -/
mutual
theorem pln_inn (n : Nat) : ∀ p : PV, p.pln = true → PV.inn n p = true
  | .non, _ => rfl
  | .int _, _ => rfl
  | .str _, _ => rfl
  | .tup xs, h => by simp only [PV.inn]; exact plnL_inn n xs (by simpa [PV.pln] using h)
  | .lst xs, h => by simp only [PV.inn]; exact plnL_inn n xs (by simpa [PV.pln] using h)
  | .bl _, h => by simp [PV.pln] at h
  | .frz _, h => by simp [PV.pln] at h
  | .loc _, h => by simp [PV.pln] at h
  | .dct, h => by simp [PV.pln] at h
theorem plnL_inn (n : Nat) : ∀ ps : List PV, plnL ps = true → innL n ps = true
  | [], _ => rfl
  | p :: ps, h => by
    simp only [plnL, Bool.and_eq_true] at h
    simp only [innL, pln_inn n p h.1, plnL_inn n ps h.2, Bool.and_self]
end
mutual
theorem fzV_pln (S : Sto) (n : Nat) : ∀ (k : Nat) (p : PV), p.pln = true → p.dep < k → fzV S n k p = some p
  | 0, _, _, h => absurd h (by omega)
  | k + 1, .non, _, _ => by simp [fzV]
  | k + 1, .int _, _, _ => by simp [fzV]
  | k + 1, .str _, _, _ => by simp [fzV]
  | k + 1, .tup xs, h, h2 => by
    simp only [PV.dep] at h2
    simp only [fzV, fzV_plnL S n k xs (by simpa [PV.pln] using h) (by omega), Option.map_some]
  | k + 1, .lst xs, h, h2 => by
    simp only [PV.dep] at h2
    simp only [fzV, fzV_plnL S n k xs (by simpa [PV.pln] using h) (by omega), Option.map_some]
  | k + 1, .bl _, h, _ => by simp [PV.pln] at h
  | k + 1, .frz _, h, _ => by simp [PV.pln] at h
  | k + 1, .loc _, h, _ => by simp [PV.pln] at h
  | k + 1, .dct, h, _ => by simp [PV.pln] at h
theorem fzV_plnL (S : Sto) (n : Nat) : ∀ (k : Nat) (ps : List PV), plnL ps = true → depL ps < k → mapO (fzV S n k) ps = some ps
  | k, [], _, _ => by simp [mapO]
  | k, p :: ps, h, h2 => by
    simp only [plnL, Bool.and_eq_true] at h
    simp only [depL] at h2
    simp only [mapO, fzV_pln S n k p h.1 (by omega), fzV_plnL S n k ps h.2 (by omega)]
end
/-- no place leads beyond the store -/
def InS (S : Sto) : Prop := S.all (Ent.inn S.length) = true
theorem IntS.inS {S : Sto} {n : Nat} (h : IntS S n) (hl : S.length = n + 1) : InS S := by
  have := h.all
  rwa [List.take_of_length_le (by omega), ← hl] at this
theorem innL_mono {m n : Nat} (h : m ≤ n) : ∀ ps : List PV, plnL ps = true → innL n ps = true := fun ps hp => plnL_inn n ps hp
mutual
theorem inn_mono {m n : Nat} (hm : m ≤ n) : ∀ p : PV, PV.inn m p = true → PV.inn n p = true
  | .non, _ => rfl
  | .int _, _ => rfl
  | .str _, _ => rfl
  | .bl _, _ => rfl
  | .dct, _ => rfl
  | .tup xs, h => by simp only [PV.inn] at h ⊢; exact innL_mono' hm xs h
  | .lst xs, h => by simp only [PV.inn] at h ⊢; exact innL_mono' hm xs h
  | .frz xs, h => by simp only [PV.inn] at h ⊢; exact innL_mono' hm xs h
  | .loc i, h => by simp only [PV.inn, decide_eq_true_eq] at h ⊢; omega
theorem innL_mono' {m n : Nat} (hm : m ≤ n) : ∀ ps : List PV, innL m ps = true → innL n ps = true
  | [], _ => rfl
  | p :: ps, h => by
    simp only [innL, Bool.and_eq_true] at h
    simp only [innL, inn_mono hm p h.1, innL_mono' hm ps h.2, Bool.and_self]
end
theorem InS.app {S : Sto} {xs : List PV} (h : InS S) (hx : plnL xs = true) : InS (S ++ [.lst xs]) := by
  unfold InS at h ⊢
  rw [List.all_append, Bool.and_eq_true]
  constructor
  · rw [List.all_eq_true] at h ⊢
    intro e he
    have := h e he
    cases e with
    | lst ps => simp only [Ent.inn] at this ⊢; exact innL_mono' (by simp) ps this
  · simp [Ent.inn, plnL_inn _ xs hx]
theorem Ok_defM_v {a n : Nat} {d : SD} {ps : List PV} {S : Sto} {Q : PV → Sto → Prop} (hl : ps.length = a) (hI : InS S) (h : Ok (d (rho0 n ps) S) fun r S1 => match r with
  | .rt p => p.pln = true ∧ p.dep < 20 ∧ (∃ T, S1 = S ++ T) ∧ Q p S
  | _ => False) : Ok (defM a n d ps S) Q := by
  unfold defM
  rw [if_pos hl]
  obtain ⟨r, S1, e, q⟩ := h.ex
  cases r with
  | nx _ => exact q.elim
  | bk _ => exact q.elim
  | ct _ => exact q.elim
  | rt p =>
    obtain ⟨h1, h2, ⟨T, rfl⟩, h3⟩ := q
    have e2 : bodyR d (rho0 n ps) S = .ok p (S ++ T) := by
      unfold bodyR bnd
      rw [e]
      rfl
    rw [e2]
    by_cases hlen : (S ++ T).length = S.length
    · have : T = [] := by
        rw [List.length_append] at hlen
        exact List.length_eq_zero_iff.mp (by omega)
      subst this
      have : fin S.length (.ok p (S ++ [])) = .ok p S := by simp [fin]
      rw [this]
      exact h3
    · have e3 := fzV_pln (S ++ T) S.length 20 p h1 h2
      have e4 : (S ++ T).take S.length = S := by simp
      have : fin S.length (.ok p (S ++ T)) = .ok p S := by
        simp only [fin, if_neg hlen, e3, e4]
        rw [if_pos ⟨hI, by simp⟩]
      rw [this]
      exact h3
theorem Ok_tuple_loc {S : Sto} {Q : PV → Sto → Prop} {k : Nat} : Ok (tupleM [.loc k] S) Q = (match S[k]? with
  | some (.lst xs) => Q (.tup xs) S
  | none => False) := by
  unfold tupleM asL
  cases h : S[k]? with
  | none => first | rfl | (simp only [h]; rfl)
  | some e => cases e with
    | lst xs => first | rfl | (simp only [h]; rfl)
theorem Ok_defM_l {a n : Nat} {d : SD} {ps : List PV} {S : Sto} {Q : PV → Sto → Prop} (hl : ps.length = a) (hI : InS S) (h : Ok (d (rho0 n ps) S) fun r S1 => match r with
  | .rt p => ∃ xs, p = .loc S.length ∧ S1 = S ++ [.lst xs] ∧ plnL xs = true ∧ depL xs < 19 ∧ Q (.lst xs) S
  | _ => False) : Ok (defM a n d ps S) Q := by
  unfold defM
  rw [if_pos hl]
  obtain ⟨r, S1, e, q⟩ := h.ex
  cases r with
  | nx _ => exact q.elim
  | bk _ => exact q.elim
  | ct _ => exact q.elim
  | rt p =>
    obtain ⟨xs, rfl, rfl, h1, h2, h3⟩ := q
    have e2 : bodyR d (rho0 n ps) S = .ok (.loc S.length) (S ++ [.lst xs]) := by
      unfold bodyR bnd
      rw [e]
      rfl
    rw [e2]
    have hlen : ¬ (S ++ [Ent.lst xs]).length = S.length := by simp
    have e3 : fzV (S ++ [Ent.lst xs]) S.length 20 (.loc S.length) = some (.lst xs) := by
      simp only [fzV, Nat.lt_irrefl, if_false, zb4, fzV_plnL (S ++ [Ent.lst xs]) S.length 19 xs h1 h2, Option.map_some]
    have e4 : (S ++ [Ent.lst xs]).take S.length = S := by simp
    have : fin S.length (.ok (.loc S.length) (S ++ [Ent.lst xs])) = .ok (.lst xs) S := by
      simp only [fin, if_neg hlen, e3, e4]
      rw [if_pos ⟨hI, by simp⟩]
    rw [this]
    exact h3
/-- a list's place compared with plain data -/
theorem eqB_loc {S : Sto} {k : Nat} {xs : List PV} {q : PV} {d : Nat} [g : PlnL xs d] (e : S[k]? = some (.lst xs)) (hq : ∀ x, q ≠ .str x) : eqB (.loc k) q S = eqB (.lst xs) q S := by
  obtain ⟨ds, b1, _, _⟩ := pln_dataL xs g.ok.1
  have h1 : dataS (.loc k) S = some (.list ds) := by
    unfold dataS
    simp only [deref, e, PV.data, b1]
  have h2 : dataS (.lst xs) S = some (.list ds) := dataS_of (by simp [PV.data, b1])
  unfold eqB
  have t1 : twoStr (.loc k) q = none := by cases q <;> rfl
  have t2 : twoStr (.lst xs) q = none := by cases q <;> rfl
  rw [t1, t2]
  simp only [eqD, h1, h2]
theorem Ok_ne_loc {S : Sto} {Q : PV → Sto → Prop} {k : Nat} {xs ys : List PV} {d : Nat} [g : PlnL xs d] (e : S[k]? = some (.lst xs)) : Ok (neM (.loc k) (.lst ys) S) Q = Ok (neM (.lst xs) (.lst ys) S) Q := by
  unfold neM
  rw [eqB_loc e (by simp)]
end Pm.L


namespace Pm.L
open PySem PySem.Spec L2 Pm
section
variable {S : Sto} {Q : PV → Sto → Prop}
theorem Ok_bits {i : Int} : Ok (bitsM (.int i) S) Q = Q (.int (Builtin.Int.intBits i : Nat)) S := rfl
theorem bits_lt (x : Int) : x.natAbs < 2 ^ Builtin.Int.intBits x := by
  unfold Builtin.Int.intBits
  split
  · rename_i h
    have : x = 0 := by simpa using h
    subst this
    decide
  · exact Nat.lt_log2_self
def gF (is : List Int) : Nat := is.foldl (fun g x => Int.gcd g x) 0
/-- where Euclid's steps stand -/
def EuI (g L j a b : Nat) : Prop := Nat.gcd a b = g ∧ (j % 2 = 0 → b * 2 ^ (j / 2) < 2 ^ L) ∧ (j % 2 = 1 → b < a ∧ a * 2 ^ (j / 2) < 2 ^ L)
theorem EuI.step {g L j a b : Nat} (h : EuI g L j a b) (hb : b ≠ 0) : EuI g L (j + 1) b (a % b) := by
  obtain ⟨h1, h2, h3⟩ := h
  refine ⟨by rw [Nat.gcd_comm b, ← Nat.gcd_rec, Nat.gcd_comm, h1], fun e => ?_, fun e => ?_⟩
  · obtain ⟨q1, q2⟩ := h3 (by omega)
    have e2 : (j + 1) / 2 = j / 2 + 1 := by omega
    have hd := Nat.div_add_mod a b
    have hq : 1 ≤ a / b := Nat.div_pos (by omega) (by omega)
    have hm := Nat.mod_lt a (show b > 0 by omega)
    have hbq : b ≤ b * (a / b) := Nat.le_mul_of_pos_right b (by omega)
    have h4 : 2 * (a % b) ≤ a := by omega
    rw [e2, Nat.pow_succ]
    have : a % b * (2 ^ (j / 2) * 2) = 2 * (a % b) * 2 ^ (j / 2) := by
      rw [Nat.mul_comm (2 ^ (j / 2)) 2, ← Nat.mul_assoc, Nat.mul_comm (a % b) 2]
    rw [this]
    exact Nat.lt_of_le_of_lt (Nat.mul_le_mul_right _ h4) q2
  · have q := h2 (by omega)
    have e2 : (j + 1) / 2 = j / 2 := by omega
    rw [e2]
    exact ⟨Nat.mod_lt _ (by omega), q⟩
theorem EuI.ends {g L a b : Nat} (h : EuI g L (2 * L + 2) a b) : a = g := by
  obtain ⟨h1, h2, _⟩ := h
  have q := h2 (by omega)
  have e2 : (2 * L + 2) / 2 = L + 1 := by omega
  rw [e2] at q
  have : b = 0 := by
    by_cases z : b = 0
    · exact z
    · have : 2 ^ (L + 1) ≤ b * 2 ^ (L + 1) := Nat.le_mul_of_pos_left _ (by omega)
      have : 2 ^ L ≤ 2 ^ (L + 1) := Nat.pow_le_pow_right (by decide) (by omega)
      omega
  subst this
  simpa using h1
theorem gF_succ {is : List Int} {i : Nat} {x : Int} (h : is[i]? = some x) : gF (is.take (i + 1)) = Int.gcd (gF (is.take i)) x := by
  unfold gF
  rw [List.take_add_one, h, List.foldl_append]
  rfl
theorem rngL_len {n : Nat} {i : Int} : (rngL i n).length = n := by simp [rngL]
theorem o_common {is : List Int} (hb : ∀ x ∈ is, x.natAbs < 2 ^ 8999) : Ok (m__law_common [.tup (is.map PV.int)] S) Q = Q (.int (gF is : Nat)) S := by
  have e : m__law_common [.tup (is.map PV.int)] S = .ok (.int (gF is : Nat)) S := by
    refine Ok.eq (Ok_defM rfl ?_)
    simp -dsimp (disch := first | assumption | omega) only [zaa,zab,zac,zad,zae,zaf,zag,zah,zai,zaj,zak,zal,zam,zan,zao,zap,zaq,zar,zas,zat,zau,zav,zaw,zax,zay,zaz,zaA,zaB,zaC,zaD,zaE,zaF,zaG,zaH,zaI,zaJ,zaK,zaL,zaM,zaN,zaO,zaP,zaQ,zaR,zaS,zaT,zaU,zaV,zaW,zaX,zaY,zaZ,za0,za1,za2,za3,za4,za5,za6,za7,za8,za9,zba,zbb,zbc,zbd,zbe,zbf,zbg,zbh,zbi,zbj,zbk,zbl,zbm,zbn,zbo,zbp,zbq,zbr,zbs,zbt,zbu,zbv,zbw,zbx,zby,zbz,zbA,zbB,zbC,zbD,zbE,zbF,zbG,zbH,zbI,zbJ,zbK,zbL,zbM,zbN,zbO,zbP,zbQ,zbR,zbS,zbT,zbU,zbV,zbW,zbX,zbY,zbZ,zb0,zb1,zb2,zb3,zb4,zb5,zb6,zb7,zb8,zb9,zca,zcb,eq_self,zcc,zcd,zce,zcf,zcg,zch,zci,zcj,zck,zcl,zcm,List.getElem?_cons_succ,List.getElem?_cons_zero,List.set_cons_succ,List.set_cons_zero,List.map_cons,List.map_nil,List.length_cons,List.length_nil,List.cons_append,List.nil_append,List.append_nil,List.isEmpty_cons,List.isEmpty_nil,if_true,if_false,ite_true,ite_false,Bool.not_true,Bool.not_false,Bool.not_not,decide_true,true_and,and_true,false_and,and_false,Bool.false_eq_true,reduceCtorEq,decide_true,decide_false,ite_self,forall_const,Nat.zero_add,Nat.reduceAdd,Nat.reduceLeDiff,Nat.reduceLT,Nat.reduceEqDiff,Nat.reduceSub,Nat.reduceMul,Nat.reduceBEq,Int.reduceLT,Int.reduceLE,Int.reduceEq,Int.reduceNe,Int.reduceAdd,Int.reduceMul,Int.reduceSub,Int.reduceNeg,Int.reducePow,Int.reduceBEq,Int.reduceToNat,Int.reduceGT,Int.reduceGE,String.reduceBEq,zcn,zco,List.replicate_succ,List.replicate_zero,zcp,zcq,zcr,zcs,zct,zcu,zcv,zcw,zcx,zcy,zcz,zcA,zcB,zcC,zcD,zcE,zcF,zcG,zcH,zcI,zcJ,zcK,zcL,zcM,zcN,zcO,zcP,zcQ,zcR,zcS,zcT,zcU,zcV,zcW,zcX,zcY,zcZ,zc0,zc1,zc2,zc3,zc4,zc5,zc6,zc7,zc8,zc9,zda,zdb,zdc,Bool.true_or,Bool.or_true,Bool.false_or,Bool.or_false,Bool.and_true,Bool.true_and,Bool.and_false,Bool.false_and,Int.cast_ofNat_Int,Int.natCast_zero,Int.natCast_one,beq_self_eq_true,zdd,wipeR]
    refine Ok_for (fun i ρ S' => S = S' ∧ ∃ z2 z3 z4 z5, ρ = [some (.tup (is.map .int)), some (.int (gF (is.take i) : Nat)), z2, z3, z4, z5]) ⟨rfl, _, _, _, _, rfl⟩ ?_ ?_
    · rintro i p ρ S' hp ⟨rfl, z2, z3, z4, z5, rfl⟩
      rw [List.getElem?_map, Option.map_eq_some_iff] at hp
      obtain ⟨x, hx, rfl⟩ := hp
      have hxb := hb x (List.mem_of_getElem? hx)
      have hL : Builtin.Int.intBits x ≤ 8999 := PyProof.Rows.intBits_le hxb
      have hxl := bits_lt x
      have eb : Builtin.Int.intBits (x.natAbs : Int) = Builtin.Int.intBits x := by
        unfold Builtin.Int.intBits
        by_cases z : x = 0
        · subst z; rfl
        · have z1 : (x == 0) = false := by simpa using z
          have z2 : ((x.natAbs : Int) == 0) = false := by simp; omega
          rw [z1, z2, Int.natAbs_natCast]
      generalize hLe : Builtin.Int.intBits x = L at hL hxl eb
      have l1 : (2 : Int).natAbs.log2 + ((L : Nat) : Int).natAbs.log2 < 1000000 := lg (k := 2) (l := 14) (by omega) (by omega) (by omega)
      have rr : -(2 ^ 62) ≤ 2 * ((L : Nat) : Int) + 2 ∧ 2 * ((L : Nat) : Int) + 2 < 2 ^ 62 := by omega
      have rt : (2 * ((L : Nat) : Int) + 2).toNat = 2 * L + 2 := by omega
      rw [gF_succ hx]
      generalize gF (is.take i) = f
      simp -dsimp (disch := first | assumption | omega) only [zaa,zab,zac,zad,zae,zaf,zag,zah,zai,zaj,zak,zal,zam,zan,zao,zap,zaq,zar,zas,zat,zau,zav,zaw,zax,zay,zaz,zaA,zaB,zaC,zaD,zaE,zaF,zaG,zaH,zaI,zaJ,zaK,zaL,zaM,zaN,zaO,zaP,zaQ,zaR,zaS,zaT,zaU,zaV,zaW,zaX,zaY,zaZ,za0,za1,za2,za3,za4,za5,za6,za7,za8,za9,zba,zbb,zbc,zbd,zbe,zbf,zbg,zbh,zbi,zbj,zbk,zbl,zbm,zbn,zbo,zbp,zbq,zbr,zbs,zbt,zbu,zbv,zbw,zbx,zby,zbz,zbA,zbB,zbC,zbD,zbE,zbF,zbG,zbH,zbI,zbJ,zbK,zbL,zbM,zbN,zbO,zbP,zbQ,zbR,zbS,zbT,zbU,zbV,zbW,zbX,zbY,zbZ,zb0,zb1,zb2,zb3,zb4,zb5,zb6,zb7,zb8,zb9,zca,zcb,eq_self,zcc,zcd,zce,zcf,zcg,zch,zci,zcj,zck,zcl,zcm,List.getElem?_cons_succ,List.getElem?_cons_zero,List.set_cons_succ,List.set_cons_zero,List.map_cons,List.map_nil,List.length_cons,List.length_nil,List.cons_append,List.nil_append,List.append_nil,List.isEmpty_cons,List.isEmpty_nil,if_true,if_false,ite_true,ite_false,Bool.not_true,Bool.not_false,Bool.not_not,decide_true,true_and,and_true,false_and,and_false,Bool.false_eq_true,reduceCtorEq,decide_true,decide_false,ite_self,forall_const,Nat.zero_add,Nat.reduceAdd,Nat.reduceLeDiff,Nat.reduceLT,Nat.reduceEqDiff,Nat.reduceSub,Nat.reduceMul,Nat.reduceBEq,Int.reduceLT,Int.reduceLE,Int.reduceEq,Int.reduceNe,Int.reduceAdd,Int.reduceMul,Int.reduceSub,Int.reduceNeg,Int.reducePow,Int.reduceBEq,Int.reduceToNat,Int.reduceGT,Int.reduceGE,String.reduceBEq,zcn,zco,List.replicate_succ,List.replicate_zero,zcp,zcq,zcr,zcs,zct,zcu,zcv,zcw,zcx,zcy,zcz,zcA,zcB,zcC,zcD,zcE,zcF,zcG,zcH,zcI,zcJ,zcK,zcL,zcM,zcN,zcO,zcP,zcQ,zcR,zcS,zcT,zcU,zcV,zcW,zcX,zcY,zcZ,zc0,zc1,zc2,zc3,zc4,zc5,zc6,zc7,zc8,zc9,zda,zdb,zdc,Bool.true_or,Bool.or_true,Bool.false_or,Bool.or_false,Bool.and_true,Bool.true_and,Bool.and_false,Bool.false_and,Int.cast_ofNat_Int,Int.natCast_zero,Int.natCast_one,beq_self_eq_true,zdd,wipeR,abs_nat,Ok_bits,eb,l1,rt]
      refine ⟨by omega, ?_⟩
      refine Ok.mono (Q := fun r S' => S = S' ∧ ∃ z4 z5, r = .nx [some (.tup (is.map .int)), some (.int f), some (.int x), some (.int (Int.gcd f x : Nat)), z4, z5]) ?_ ?_
      · refine Ok_for (fun j ρ S' => S = S' ∧ ∃ (a b : Nat) (z5 : Option PV), ρ = [some (.tup (is.map .int)), some (.int f), some (.int x), some (.int a), some (.int b), z5] ∧ EuI (Int.gcd f x) L j a b) ⟨rfl, f, x.natAbs, _, rfl, rfl, fun _ => by simpa using hxl, fun z => by simp at z⟩ ?_ ?_
        · rintro j p ρ S' _ ⟨rfl, a, b, z5, rfl, hE⟩
          by_cases z : b = 0
          · have z1 : (((b : Nat) : Int) == 0) = true := by simpa using z
            simp -dsimp (disch := first | assumption | omega) only [zaa,zab,zac,zad,zae,zaf,zag,zah,zai,zaj,zak,zal,zam,zan,zao,zap,zaq,zar,zas,zat,zau,zav,zaw,zax,zay,zaz,zaA,zaB,zaC,zaD,zaE,zaF,zaG,zaH,zaI,zaJ,zaK,zaL,zaM,zaN,zaO,zaP,zaQ,zaR,zaS,zaT,zaU,zaV,zaW,zaX,zaY,zaZ,za0,za1,za2,za3,za4,za5,za6,za7,za8,za9,zba,zbb,zbc,zbd,zbe,zbf,zbg,zbh,zbi,zbj,zbk,zbl,zbm,zbn,zbo,zbp,zbq,zbr,zbs,zbt,zbu,zbv,zbw,zbx,zby,zbz,zbA,zbB,zbC,zbD,zbE,zbF,zbG,zbH,zbI,zbJ,zbK,zbL,zbM,zbN,zbO,zbP,zbQ,zbR,zbS,zbT,zbU,zbV,zbW,zbX,zbY,zbZ,zb0,zb1,zb2,zb3,zb4,zb5,zb6,zb7,zb8,zb9,zca,zcb,eq_self,zcc,zcd,zce,zcf,zcg,zch,zci,zcj,zck,zcl,zcm,List.getElem?_cons_succ,List.getElem?_cons_zero,List.set_cons_succ,List.set_cons_zero,List.map_cons,List.map_nil,List.length_cons,List.length_nil,List.cons_append,List.nil_append,List.append_nil,List.isEmpty_cons,List.isEmpty_nil,if_true,if_false,ite_true,ite_false,Bool.not_true,Bool.not_false,Bool.not_not,decide_true,true_and,and_true,false_and,and_false,Bool.false_eq_true,reduceCtorEq,decide_true,decide_false,ite_self,forall_const,Nat.zero_add,Nat.reduceAdd,Nat.reduceLeDiff,Nat.reduceLT,Nat.reduceEqDiff,Nat.reduceSub,Nat.reduceMul,Nat.reduceBEq,Int.reduceLT,Int.reduceLE,Int.reduceEq,Int.reduceNe,Int.reduceAdd,Int.reduceMul,Int.reduceSub,Int.reduceNeg,Int.reducePow,Int.reduceBEq,Int.reduceToNat,Int.reduceGT,Int.reduceGE,String.reduceBEq,zcn,zco,List.replicate_succ,List.replicate_zero,zcp,zcq,zcr,zcs,zct,zcu,zcv,zcw,zcx,zcy,zcz,zcA,zcB,zcC,zcD,zcE,zcF,zcG,zcH,zcI,zcJ,zcK,zcL,zcM,zcN,zcO,zcP,zcQ,zcR,zcS,zcT,zcU,zcV,zcW,zcX,zcY,zcZ,zc0,zc1,zc2,zc3,zc4,zc5,zc6,zc7,zc8,zc9,zda,zdb,zdc,Bool.true_or,Bool.or_true,Bool.false_or,Bool.or_false,Bool.and_true,Bool.true_and,Bool.and_false,Bool.false_and,Int.cast_ofNat_Int,Int.natCast_zero,Int.natCast_one,beq_self_eq_true,zdd,wipeR,z1]
            have e : a = Int.gcd f x := by
              have := hE.1
              rw [z] at this
              simpa using this
            rw [← e]
            exact ⟨_, _, rfl⟩
          · have z1 : (((b : Nat) : Int) == 0) = false := by simpa using z
            have z2 : ((b : Nat) : Int) ≠ 0 := by omega
            simp -dsimp (disch := first | assumption | omega) only [zaa,zab,zac,zad,zae,zaf,zag,zah,zai,zaj,zak,zal,zam,zan,zao,zap,zaq,zar,zas,zat,zau,zav,zaw,zax,zay,zaz,zaA,zaB,zaC,zaD,zaE,zaF,zaG,zaH,zaI,zaJ,zaK,zaL,zaM,zaN,zaO,zaP,zaQ,zaR,zaS,zaT,zaU,zaV,zaW,zaX,zaY,zaZ,za0,za1,za2,za3,za4,za5,za6,za7,za8,za9,zba,zbb,zbc,zbd,zbe,zbf,zbg,zbh,zbi,zbj,zbk,zbl,zbm,zbn,zbo,zbp,zbq,zbr,zbs,zbt,zbu,zbv,zbw,zbx,zby,zbz,zbA,zbB,zbC,zbD,zbE,zbF,zbG,zbH,zbI,zbJ,zbK,zbL,zbM,zbN,zbO,zbP,zbQ,zbR,zbS,zbT,zbU,zbV,zbW,zbX,zbY,zbZ,zb0,zb1,zb2,zb3,zb4,zb5,zb6,zb7,zb8,zb9,zca,zcb,eq_self,zcc,zcd,zce,zcf,zcg,zch,zci,zcj,zck,zcl,zcm,List.getElem?_cons_succ,List.getElem?_cons_zero,List.set_cons_succ,List.set_cons_zero,List.map_cons,List.map_nil,List.length_cons,List.length_nil,List.cons_append,List.nil_append,List.append_nil,List.isEmpty_cons,List.isEmpty_nil,if_true,if_false,ite_true,ite_false,Bool.not_true,Bool.not_false,Bool.not_not,decide_true,true_and,and_true,false_and,and_false,Bool.false_eq_true,reduceCtorEq,decide_true,decide_false,ite_self,forall_const,Nat.zero_add,Nat.reduceAdd,Nat.reduceLeDiff,Nat.reduceLT,Nat.reduceEqDiff,Nat.reduceSub,Nat.reduceMul,Nat.reduceBEq,Int.reduceLT,Int.reduceLE,Int.reduceEq,Int.reduceNe,Int.reduceAdd,Int.reduceMul,Int.reduceSub,Int.reduceNeg,Int.reducePow,Int.reduceBEq,Int.reduceToNat,Int.reduceGT,Int.reduceGE,String.reduceBEq,zcn,zco,List.replicate_succ,List.replicate_zero,zcp,zcq,zcr,zcs,zct,zcu,zcv,zcw,zcx,zcy,zcz,zcA,zcB,zcC,zcD,zcE,zcF,zcG,zcH,zcI,zcJ,zcK,zcL,zcM,zcN,zcO,zcP,zcQ,zcR,zcS,zcT,zcU,zcV,zcW,zcX,zcY,zcZ,zc0,zc1,zc2,zc3,zc4,zc5,zc6,zc7,zc8,zc9,zda,zdb,zdc,Bool.true_or,Bool.or_true,Bool.false_or,Bool.or_false,Bool.and_true,Bool.true_and,Bool.and_false,Bool.false_and,Int.cast_ofNat_Int,Int.natCast_zero,Int.natCast_one,beq_self_eq_true,zdd,wipeR,z1]
            have em : ((a : Nat) : Int).fmod ((b : Nat) : Int) = ((a % b : Nat) : Int) := by
              rw [Int.fmod_eq_emod_of_nonneg _ (by omega)]; rfl
            rw [em]
            exact ⟨z2, b, a % b, _, rfl, hE.step z⟩
        · rintro ρ S' ⟨rfl, a, b, z5, rfl, hE⟩
          rw [rngL_len] at hE
          rw [hE.ends]
          exact ⟨rfl, _, _, rfl⟩
      · rintro r S' ⟨rfl, z4, z5, rfl⟩
        simp -dsimp (disch := first | assumption | omega) only [zaa,zab,zac,zad,zae,zaf,zag,zah,zai,zaj,zak,zal,zam,zan,zao,zap,zaq,zar,zas,zat,zau,zav,zaw,zax,zay,zaz,zaA,zaB,zaC,zaD,zaE,zaF,zaG,zaH,zaI,zaJ,zaK,zaL,zaM,zaN,zaO,zaP,zaQ,zaR,zaS,zaT,zaU,zaV,zaW,zaX,zaY,zaZ,za0,za1,za2,za3,za4,za5,za6,za7,za8,za9,zba,zbb,zbc,zbd,zbe,zbf,zbg,zbh,zbi,zbj,zbk,zbl,zbm,zbn,zbo,zbp,zbq,zbr,zbs,zbt,zbu,zbv,zbw,zbx,zby,zbz,zbA,zbB,zbC,zbD,zbE,zbF,zbG,zbH,zbI,zbJ,zbK,zbL,zbM,zbN,zbO,zbP,zbQ,zbR,zbS,zbT,zbU,zbV,zbW,zbX,zbY,zbZ,zb0,zb1,zb2,zb3,zb4,zb5,zb6,zb7,zb8,zb9,zca,zcb,eq_self,zcc,zcd,zce,zcf,zcg,zch,zci,zcj,zck,zcl,zcm,List.getElem?_cons_succ,List.getElem?_cons_zero,List.set_cons_succ,List.set_cons_zero,List.map_cons,List.map_nil,List.length_cons,List.length_nil,List.cons_append,List.nil_append,List.append_nil,List.isEmpty_cons,List.isEmpty_nil,if_true,if_false,ite_true,ite_false,Bool.not_true,Bool.not_false,Bool.not_not,decide_true,true_and,and_true,false_and,and_false,Bool.false_eq_true,reduceCtorEq,decide_true,decide_false,ite_self,forall_const,Nat.zero_add,Nat.reduceAdd,Nat.reduceLeDiff,Nat.reduceLT,Nat.reduceEqDiff,Nat.reduceSub,Nat.reduceMul,Nat.reduceBEq,Int.reduceLT,Int.reduceLE,Int.reduceEq,Int.reduceNe,Int.reduceAdd,Int.reduceMul,Int.reduceSub,Int.reduceNeg,Int.reducePow,Int.reduceBEq,Int.reduceToNat,Int.reduceGT,Int.reduceGE,String.reduceBEq,zcn,zco,List.replicate_succ,List.replicate_zero,zcp,zcq,zcr,zcs,zct,zcu,zcv,zcw,zcx,zcy,zcz,zcA,zcB,zcC,zcD,zcE,zcF,zcG,zcH,zcI,zcJ,zcK,zcL,zcM,zcN,zcO,zcP,zcQ,zcR,zcS,zcT,zcU,zcV,zcW,zcX,zcY,zcZ,zc0,zc1,zc2,zc3,zc4,zc5,zc6,zc7,zc8,zc9,zda,zdb,zdc,Bool.true_or,Bool.or_true,Bool.false_or,Bool.or_false,Bool.and_true,Bool.true_and,Bool.and_false,Bool.false_and,Int.cast_ofNat_Int,Int.natCast_zero,Int.natCast_one,beq_self_eq_true,zdd,wipeR]
        exact ⟨_, _, _, _, rfl⟩
    · rintro ρ S' ⟨rfl, z2, z3, z4, z5, rfl⟩
      rw [List.length_map, List.take_length]
      simp -dsimp (disch := first | assumption | omega) only [zaa,zab,zac,zad,zae,zaf,zag,zah,zai,zaj,zak,zal,zam,zan,zao,zap,zaq,zar,zas,zat,zau,zav,zaw,zax,zay,zaz,zaA,zaB,zaC,zaD,zaE,zaF,zaG,zaH,zaI,zaJ,zaK,zaL,zaM,zaN,zaO,zaP,zaQ,zaR,zaS,zaT,zaU,zaV,zaW,zaX,zaY,zaZ,za0,za1,za2,za3,za4,za5,za6,za7,za8,za9,zba,zbb,zbc,zbd,zbe,zbf,zbg,zbh,zbi,zbj,zbk,zbl,zbm,zbn,zbo,zbp,zbq,zbr,zbs,zbt,zbu,zbv,zbw,zbx,zby,zbz,zbA,zbB,zbC,zbD,zbE,zbF,zbG,zbH,zbI,zbJ,zbK,zbL,zbM,zbN,zbO,zbP,zbQ,zbR,zbS,zbT,zbU,zbV,zbW,zbX,zbY,zbZ,zb0,zb1,zb2,zb3,zb4,zb5,zb6,zb7,zb8,zb9,zca,zcb,eq_self,zcc,zcd,zce,zcf,zcg,zch,zci,zcj,zck,zcl,zcm,List.getElem?_cons_succ,List.getElem?_cons_zero,List.set_cons_succ,List.set_cons_zero,List.map_cons,List.map_nil,List.length_cons,List.length_nil,List.cons_append,List.nil_append,List.append_nil,List.isEmpty_cons,List.isEmpty_nil,if_true,if_false,ite_true,ite_false,Bool.not_true,Bool.not_false,Bool.not_not,decide_true,true_and,and_true,false_and,and_false,Bool.false_eq_true,reduceCtorEq,decide_true,decide_false,ite_self,forall_const,Nat.zero_add,Nat.reduceAdd,Nat.reduceLeDiff,Nat.reduceLT,Nat.reduceEqDiff,Nat.reduceSub,Nat.reduceMul,Nat.reduceBEq,Int.reduceLT,Int.reduceLE,Int.reduceEq,Int.reduceNe,Int.reduceAdd,Int.reduceMul,Int.reduceSub,Int.reduceNeg,Int.reducePow,Int.reduceBEq,Int.reduceToNat,Int.reduceGT,Int.reduceGE,String.reduceBEq,zcn,zco,List.replicate_succ,List.replicate_zero,zcp,zcq,zcr,zcs,zct,zcu,zcv,zcw,zcx,zcy,zcz,zcA,zcB,zcC,zcD,zcE,zcF,zcG,zcH,zcI,zcJ,zcK,zcL,zcM,zcN,zcO,zcP,zcQ,zcR,zcS,zcT,zcU,zcV,zcW,zcX,zcY,zcZ,zc0,zc1,zc2,zc3,zc4,zc5,zc6,zc7,zc8,zc9,zda,zdb,zdc,Bool.true_or,Bool.or_true,Bool.false_or,Bool.or_false,Bool.and_true,Bool.true_and,Bool.and_false,Bool.false_and,Int.cast_ofNat_Int,Int.natCast_zero,Int.natCast_one,beq_self_eq_true,zdd,wipeR]
  rw [e, zaa]
end
end Pm.L


namespace Pm.L
open PySem PySem.Spec L2 Pm
section
variable {S : Sto} {Q : PV → Sto → Prop}
theorem gF_2 (a b : Int) : gF [a, b] = Int.gcd a b := by simp [gF, Int.gcd]
theorem gF_3 (a b w : Int) : gF [a, b, w] = g3 a b w := by simp [gF, Int.gcd, g3]
theorem max_g {g : Nat} (h : 0 < g) : (if ((g : Nat) : Int) > 1 then ((g : Nat) : Int) else 1) = g := by omega
theorem w_lean {a b : Int} (hb : 0 < b) (ha : a.natAbs < 2 ^ 8999) (hs : b.natAbs < 2 ^ 8999) : Ok (m__law_lean [.tup [.int a, .int b]] S) Q = Q (rv (Rat.divInt a b)) S := by
  have e : m__law_lean [.tup [.int a, .int b]] S = .ok (rv (Rat.divInt a b)) S := by
    refine Ok.eq (Ok_defM rfl ?_)
    have hb' : b ≠ 0 := by omega
    have h1 := gcd_nz (a := a) hb'
    have h2 := log_gcd (a := a) hb' hs
    have e1 := fr_num (a := a) hb'
    have e2 := fr_den (a := a) hb'
    rw [if_pos hb] at e1 e2
    have c := fun S Q => o_common (S := S) (Q := Q) (is := [a, b]) (by intro x hx; simp at hx; rcases hx with rfl | rfl <;> assumption)
    simp only [List.map_cons, List.map_nil, gF_2] at c
    have g0 : 0 < Int.gcd a b := by omega
    have mg : (if ((Int.gcd a b : Nat) : Int) > 1 then ((Int.gcd a b : Nat) : Int) else 1) = (Int.gcd a b : Nat) := max_g g0
    simp only [gt_iff_lt] at mg
    unfold rv
    simp -dsimp (disch := first | assumption | omega) only [zaa,zab,zac,zad,zae,zaf,zag,zah,zai,zaj,zak,zal,zam,zan,zao,zap,zaq,zar,zas,zat,zau,zav,zaw,zax,zay,zaz,zaA,zaB,zaC,zaD,zaE,zaF,zaG,zaH,zaI,zaJ,zaK,zaL,zaM,zaN,zaO,zaP,zaQ,zaR,zaS,zaT,zaU,zaV,zaW,zaX,zaY,zaZ,za0,za1,za2,za3,za4,za5,za6,za7,za8,za9,zba,zbb,zbc,zbd,zbe,zbf,zbg,zbh,zbi,zbj,zbk,zbl,zbm,zbn,zbo,zbp,zbq,zbr,zbs,zbt,zbu,zbv,zbw,zbx,zby,zbz,zbA,zbB,zbC,zbD,zbE,zbF,zbG,zbH,zbI,zbJ,zbK,zbL,zbM,zbN,zbO,zbP,zbQ,zbR,zbS,zbT,zbU,zbV,zbW,zbX,zbY,zbZ,zb0,zb1,zb2,zb3,zb4,zb5,zb6,zb7,zb8,zb9,zca,zcb,eq_self,zcc,zcd,zce,zcf,zcg,zch,zci,zcj,zck,zcl,zcm,List.getElem?_cons_succ,List.getElem?_cons_zero,List.set_cons_succ,List.set_cons_zero,List.map_cons,List.map_nil,List.length_cons,List.length_nil,List.cons_append,List.nil_append,List.append_nil,List.isEmpty_cons,List.isEmpty_nil,if_true,if_false,ite_true,ite_false,Bool.not_true,Bool.not_false,Bool.not_not,decide_true,true_and,and_true,false_and,and_false,Bool.false_eq_true,reduceCtorEq,decide_true,decide_false,ite_self,forall_const,Nat.zero_add,Nat.reduceAdd,Nat.reduceLeDiff,Nat.reduceLT,Nat.reduceEqDiff,Nat.reduceSub,Nat.reduceMul,Nat.reduceBEq,Int.reduceLT,Int.reduceLE,Int.reduceEq,Int.reduceNe,Int.reduceAdd,Int.reduceMul,Int.reduceSub,Int.reduceNeg,Int.reducePow,Int.reduceBEq,Int.reduceToNat,Int.reduceGT,Int.reduceGE,String.reduceBEq,zcn,zco,List.replicate_succ,List.replicate_zero,zcp,zcq,zcr,zcs,zct,zcu,zcv,zcw,zcx,zcy,zcz,zcA,zcB,zcC,zcD,zcE,zcF,zcG,zcH,zcI,zcJ,zcK,zcL,zcM,zcN,zcO,zcP,zcQ,zcR,zcS,zcT,zcU,zcV,zcW,zcX,zcY,zcZ,zc0,zc1,zc2,zc3,zc4,zc5,zc6,zc7,zc8,zc9,zda,zdb,zdc,Bool.true_or,Bool.or_true,Bool.false_or,Bool.or_false,Bool.and_true,Bool.true_and,Bool.and_false,Bool.false_and,Int.cast_ofNat_Int,Int.natCast_zero,Int.natCast_one,beq_self_eq_true,zdd,zde,zdf,zdg,zdh,wipeR,c,mg,e1,e2]
    simp [h1, h2]
    omega
  rw [e, zaa]
theorem w_ratio {a b : Int} (hb : b ≠ 0) (ha : a.natAbs < 2 ^ 8999) (hs : b.natAbs < 2 ^ 8999) : Ok (m__law_ratio [.int a, .int b] S) Q = Q (rv (Rat.divInt a b)) S := by
  have e : m__law_ratio [.int a, .int b] S = .ok (rv (Rat.divInt a b)) S := by
    refine Ok.eq (Ok_defM rfl ?_)
    by_cases h : 0 < b
    · simp -dsimp (disch := first | assumption | omega) only [zaa,zab,zac,zad,zae,zaf,zag,zah,zai,zaj,zak,zal,zam,zan,zao,zap,zaq,zar,zas,zat,zau,zav,zaw,zax,zay,zaz,zaA,zaB,zaC,zaD,zaE,zaF,zaG,zaH,zaI,zaJ,zaK,zaL,zaM,zaN,zaO,zaP,zaQ,zaR,zaS,zaT,zaU,zaV,zaW,zaX,zaY,zaZ,za0,za1,za2,za3,za4,za5,za6,za7,za8,za9,zba,zbb,zbc,zbd,zbe,zbf,zbg,zbh,zbi,zbj,zbk,zbl,zbm,zbn,zbo,zbp,zbq,zbr,zbs,zbt,zbu,zbv,zbw,zbx,zby,zbz,zbA,zbB,zbC,zbD,zbE,zbF,zbG,zbH,zbI,zbJ,zbK,zbL,zbM,zbN,zbO,zbP,zbQ,zbR,zbS,zbT,zbU,zbV,zbW,zbX,zbY,zbZ,zb0,zb1,zb2,zb3,zb4,zb5,zb6,zb7,zb8,zb9,zca,zcb,eq_self,zcc,zcd,zce,zcf,zcg,zch,zci,zcj,zck,zcl,zcm,List.getElem?_cons_succ,List.getElem?_cons_zero,List.set_cons_succ,List.set_cons_zero,List.map_cons,List.map_nil,List.length_cons,List.length_nil,List.cons_append,List.nil_append,List.append_nil,List.isEmpty_cons,List.isEmpty_nil,if_true,if_false,ite_true,ite_false,Bool.not_true,Bool.not_false,Bool.not_not,decide_true,true_and,and_true,false_and,and_false,Bool.false_eq_true,reduceCtorEq,decide_true,decide_false,ite_self,forall_const,Nat.zero_add,Nat.reduceAdd,Nat.reduceLeDiff,Nat.reduceLT,Nat.reduceEqDiff,Nat.reduceSub,Nat.reduceMul,Nat.reduceBEq,Int.reduceLT,Int.reduceLE,Int.reduceEq,Int.reduceNe,Int.reduceAdd,Int.reduceMul,Int.reduceSub,Int.reduceNeg,Int.reducePow,Int.reduceBEq,Int.reduceToNat,Int.reduceGT,Int.reduceGE,String.reduceBEq,zcn,zco,List.replicate_succ,List.replicate_zero,zcp,zcq,zcr,zcs,zct,zcu,zcv,zcw,zcx,zcy,zcz,zcA,zcB,zcC,zcD,zcE,zcF,zcG,zcH,zcI,zcJ,zcK,zcL,zcM,zcN,zcO,zcP,zcQ,zcR,zcS,zcT,zcU,zcV,zcW,zcX,zcY,zcZ,zc0,zc1,zc2,zc3,zc4,zc5,zc6,zc7,zc8,zc9,zda,zdb,zdc,Bool.true_or,Bool.or_true,Bool.false_or,Bool.or_false,Bool.and_true,Bool.true_and,Bool.and_false,Bool.false_and,Int.cast_ofNat_Int,Int.natCast_zero,Int.natCast_one,beq_self_eq_true,zdd,zde,zdf,zdg,zdh,wipeR,h,w_lean h ha hs]
    · have h1 : 0 < 0 - b := by omega
      have h2 : (0 - b).natAbs < 2 ^ 8999 := by
        have : (0 - b).natAbs = b.natAbs := by omega
        rw [this]; exact hs
      have h3 : (0 - a).natAbs < 2 ^ 8999 := by
        have : (0 - a).natAbs = a.natAbs := by omega
        rw [this]; exact ha
      have e : Rat.divInt (0 - a) (0 - b) = Rat.divInt a b := by
        rw [Int.zero_sub, Int.zero_sub, Rat.neg_divInt_neg]
      simp -dsimp (disch := first | assumption | omega) only [zaa,zab,zac,zad,zae,zaf,zag,zah,zai,zaj,zak,zal,zam,zan,zao,zap,zaq,zar,zas,zat,zau,zav,zaw,zax,zay,zaz,zaA,zaB,zaC,zaD,zaE,zaF,zaG,zaH,zaI,zaJ,zaK,zaL,zaM,zaN,zaO,zaP,zaQ,zaR,zaS,zaT,zaU,zaV,zaW,zaX,zaY,zaZ,za0,za1,za2,za3,za4,za5,za6,za7,za8,za9,zba,zbb,zbc,zbd,zbe,zbf,zbg,zbh,zbi,zbj,zbk,zbl,zbm,zbn,zbo,zbp,zbq,zbr,zbs,zbt,zbu,zbv,zbw,zbx,zby,zbz,zbA,zbB,zbC,zbD,zbE,zbF,zbG,zbH,zbI,zbJ,zbK,zbL,zbM,zbN,zbO,zbP,zbQ,zbR,zbS,zbT,zbU,zbV,zbW,zbX,zbY,zbZ,zb0,zb1,zb2,zb3,zb4,zb5,zb6,zb7,zb8,zb9,zca,zcb,eq_self,zcc,zcd,zce,zcf,zcg,zch,zci,zcj,zck,zcl,zcm,List.getElem?_cons_succ,List.getElem?_cons_zero,List.set_cons_succ,List.set_cons_zero,List.map_cons,List.map_nil,List.length_cons,List.length_nil,List.cons_append,List.nil_append,List.append_nil,List.isEmpty_cons,List.isEmpty_nil,if_true,if_false,ite_true,ite_false,Bool.not_true,Bool.not_false,Bool.not_not,decide_true,true_and,and_true,false_and,and_false,Bool.false_eq_true,reduceCtorEq,decide_true,decide_false,ite_self,forall_const,Nat.zero_add,Nat.reduceAdd,Nat.reduceLeDiff,Nat.reduceLT,Nat.reduceEqDiff,Nat.reduceSub,Nat.reduceMul,Nat.reduceBEq,Int.reduceLT,Int.reduceLE,Int.reduceEq,Int.reduceNe,Int.reduceAdd,Int.reduceMul,Int.reduceSub,Int.reduceNeg,Int.reducePow,Int.reduceBEq,Int.reduceToNat,Int.reduceGT,Int.reduceGE,String.reduceBEq,zcn,zco,List.replicate_succ,List.replicate_zero,zcp,zcq,zcr,zcs,zct,zcu,zcv,zcw,zcx,zcy,zcz,zcA,zcB,zcC,zcD,zcE,zcF,zcG,zcH,zcI,zcJ,zcK,zcL,zcM,zcN,zcO,zcP,zcQ,zcR,zcS,zcT,zcU,zcV,zcW,zcX,zcY,zcZ,zc0,zc1,zc2,zc3,zc4,zc5,zc6,zc7,zc8,zc9,zda,zdb,zdc,Bool.true_or,Bool.or_true,Bool.false_or,Bool.or_false,Bool.and_true,Bool.true_and,Bool.and_false,Bool.false_and,Int.cast_ofNat_Int,Int.natCast_zero,Int.natCast_one,beq_self_eq_true,zdd,zde,zdf,zdg,zdh,wipeR,h,w_lean h1 h3 h2,e]
  rw [e, zaa]
theorem up8 {n k : Nat} (h : n < 2 ^ k) (hk : k ≤ 8999) : n < 2 ^ 8999 := Nat.lt_of_lt_of_le h (Nat.pow_le_pow_right (by decide) hk)
section
variable {q r : Rat} {k l : Nat} [h : Sz q k] [g : Sz r l]
theorem w_plus (hk : k + l ≤ 8000) : Ok (m__law_plus [rv q, rv r] S) Q = Q (rv (q + r)) S := by
  have e : m__law_plus [rv q, rv r] S = .ok (rv (q + r)) S := by
    refine Ok.eq (Ok_defM rfl ?_)
    have n2 : q.num.natAbs.log2 + (r.den : Int).natAbs.log2 < 1000000 := lg h.n g.d (by omega)
    have n3 : r.num.natAbs.log2 + (q.den : Int).natAbs.log2 < 1000000 := lg g.n h.d (by omega)
    have n4 : (q.den : Int).natAbs.log2 + (r.den : Int).natAbs.log2 < 1000000 := lg h.d g.d (by omega)
    simp -dsimp (disch := first | assumption | omega) only [zaa,zab,zac,zad,zae,zaf,zag,zah,zai,zaj,zak,zal,zam,zan,zao,zap,zaq,zar,zas,zat,zau,zav,zaw,zax,zay,zaz,zaA,zaB,zaC,zaD,zaE,zaF,zaG,zaH,zaI,zaJ,zaK,zaL,zaM,zaN,zaO,zaP,zaQ,zaR,zaS,zaT,zaU,zaV,zaW,zaX,zaY,zaZ,za0,za1,za2,za3,za4,za5,za6,za7,za8,za9,zba,zbb,zbc,zbd,zbe,zbf,zbg,zbh,zbi,zbj,zbk,zbl,zbm,zbn,zbo,zbp,zbq,zbr,zbs,zbt,zbu,zbv,zbw,zbx,zby,zbz,zbA,zbB,zbC,zbD,zbE,zbF,zbG,zbH,zbI,zbJ,zbK,zbL,zbM,zbN,zbO,zbP,zbQ,zbR,zbS,zbT,zbU,zbV,zbW,zbX,zbY,zbZ,zb0,zb1,zb2,zb3,zb4,zb5,zb6,zb7,zb8,zb9,zca,zcb,eq_self,zcc,zcd,zce,zcf,zcg,zch,zci,zcj,zck,zcl,zcm,List.getElem?_cons_succ,List.getElem?_cons_zero,List.set_cons_succ,List.set_cons_zero,List.map_cons,List.map_nil,List.length_cons,List.length_nil,List.cons_append,List.nil_append,List.append_nil,List.isEmpty_cons,List.isEmpty_nil,if_true,if_false,ite_true,ite_false,Bool.not_true,Bool.not_false,Bool.not_not,decide_true,true_and,and_true,false_and,and_false,Bool.false_eq_true,reduceCtorEq,decide_true,decide_false,ite_self,forall_const,Nat.zero_add,Nat.reduceAdd,Nat.reduceLeDiff,Nat.reduceLT,Nat.reduceEqDiff,Nat.reduceSub,Nat.reduceMul,Nat.reduceBEq,Int.reduceLT,Int.reduceLE,Int.reduceEq,Int.reduceNe,Int.reduceAdd,Int.reduceMul,Int.reduceSub,Int.reduceNeg,Int.reducePow,Int.reduceBEq,Int.reduceToNat,Int.reduceGT,Int.reduceGE,String.reduceBEq,zcn,zco,List.replicate_succ,List.replicate_zero,zcp,zcq,zcr,zcs,zct,zcu,zcv,zcw,zcx,zcy,zcz,zcA,zcB,zcC,zcD,zcE,zcF,zcG,zcH,zcI,zcJ,zcK,zcL,zcM,zcN,zcO,zcP,zcQ,zcR,zcS,zcT,zcU,zcV,zcW,zcX,zcY,zcZ,zc0,zc1,zc2,zc3,zc4,zc5,zc6,zc7,zc8,zc9,zda,zdb,zdc,Bool.true_or,Bool.or_true,Bool.false_or,Bool.or_false,Bool.and_true,Bool.true_and,Bool.and_false,Bool.false_and,Int.cast_ofNat_Int,Int.natCast_zero,Int.natCast_one,beq_self_eq_true,zdd,zde,zdf,zdg,zdh,wipeR,n2,n3,n4,w_ratio (dd_nz q r) (up8 (nAdd h g) (by omega)) (up8 (nDen h g) (by omega)),add_fr q r]
  rw [e, zaa]
theorem w_less (hk : k + l ≤ 8000) : Ok (m__law_less [rv q, rv r] S) Q = Q (rv (q - r)) S := by
  have e : m__law_less [rv q, rv r] S = .ok (rv (q - r)) S := by
    refine Ok.eq (Ok_defM rfl ?_)
    have n2 : q.num.natAbs.log2 + (r.den : Int).natAbs.log2 < 1000000 := lg h.n g.d (by omega)
    have n3 : r.num.natAbs.log2 + (q.den : Int).natAbs.log2 < 1000000 := lg g.n h.d (by omega)
    have n4 : (q.den : Int).natAbs.log2 + (r.den : Int).natAbs.log2 < 1000000 := lg h.d g.d (by omega)
    simp -dsimp (disch := first | assumption | omega) only [zaa,zab,zac,zad,zae,zaf,zag,zah,zai,zaj,zak,zal,zam,zan,zao,zap,zaq,zar,zas,zat,zau,zav,zaw,zax,zay,zaz,zaA,zaB,zaC,zaD,zaE,zaF,zaG,zaH,zaI,zaJ,zaK,zaL,zaM,zaN,zaO,zaP,zaQ,zaR,zaS,zaT,zaU,zaV,zaW,zaX,zaY,zaZ,za0,za1,za2,za3,za4,za5,za6,za7,za8,za9,zba,zbb,zbc,zbd,zbe,zbf,zbg,zbh,zbi,zbj,zbk,zbl,zbm,zbn,zbo,zbp,zbq,zbr,zbs,zbt,zbu,zbv,zbw,zbx,zby,zbz,zbA,zbB,zbC,zbD,zbE,zbF,zbG,zbH,zbI,zbJ,zbK,zbL,zbM,zbN,zbO,zbP,zbQ,zbR,zbS,zbT,zbU,zbV,zbW,zbX,zbY,zbZ,zb0,zb1,zb2,zb3,zb4,zb5,zb6,zb7,zb8,zb9,zca,zcb,eq_self,zcc,zcd,zce,zcf,zcg,zch,zci,zcj,zck,zcl,zcm,List.getElem?_cons_succ,List.getElem?_cons_zero,List.set_cons_succ,List.set_cons_zero,List.map_cons,List.map_nil,List.length_cons,List.length_nil,List.cons_append,List.nil_append,List.append_nil,List.isEmpty_cons,List.isEmpty_nil,if_true,if_false,ite_true,ite_false,Bool.not_true,Bool.not_false,Bool.not_not,decide_true,true_and,and_true,false_and,and_false,Bool.false_eq_true,reduceCtorEq,decide_true,decide_false,ite_self,forall_const,Nat.zero_add,Nat.reduceAdd,Nat.reduceLeDiff,Nat.reduceLT,Nat.reduceEqDiff,Nat.reduceSub,Nat.reduceMul,Nat.reduceBEq,Int.reduceLT,Int.reduceLE,Int.reduceEq,Int.reduceNe,Int.reduceAdd,Int.reduceMul,Int.reduceSub,Int.reduceNeg,Int.reducePow,Int.reduceBEq,Int.reduceToNat,Int.reduceGT,Int.reduceGE,String.reduceBEq,zcn,zco,List.replicate_succ,List.replicate_zero,zcp,zcq,zcr,zcs,zct,zcu,zcv,zcw,zcx,zcy,zcz,zcA,zcB,zcC,zcD,zcE,zcF,zcG,zcH,zcI,zcJ,zcK,zcL,zcM,zcN,zcO,zcP,zcQ,zcR,zcS,zcT,zcU,zcV,zcW,zcX,zcY,zcZ,zc0,zc1,zc2,zc3,zc4,zc5,zc6,zc7,zc8,zc9,zda,zdb,zdc,Bool.true_or,Bool.or_true,Bool.false_or,Bool.or_false,Bool.and_true,Bool.true_and,Bool.and_false,Bool.false_and,Int.cast_ofNat_Int,Int.natCast_zero,Int.natCast_one,beq_self_eq_true,zdd,zde,zdf,zdg,zdh,wipeR,n2,n3,n4,w_ratio (dd_nz q r) (up8 (nSub h g) (by omega)) (up8 (nDen h g) (by omega)),sub_fr q r]
  rw [e, zaa]
theorem w_times (hk : k + l ≤ 8000) : Ok (m__law_times [rv q, rv r] S) Q = Q (rv (q * r)) S := by
  have e : m__law_times [rv q, rv r] S = .ok (rv (q * r)) S := by
    refine Ok.eq (Ok_defM rfl ?_)
    have n1 := lg h.n g.n (by omega)
    have n4 : (q.den : Int).natAbs.log2 + (r.den : Int).natAbs.log2 < 1000000 := lg h.d g.d (by omega)
    simp -dsimp (disch := first | assumption | omega) only [zaa,zab,zac,zad,zae,zaf,zag,zah,zai,zaj,zak,zal,zam,zan,zao,zap,zaq,zar,zas,zat,zau,zav,zaw,zax,zay,zaz,zaA,zaB,zaC,zaD,zaE,zaF,zaG,zaH,zaI,zaJ,zaK,zaL,zaM,zaN,zaO,zaP,zaQ,zaR,zaS,zaT,zaU,zaV,zaW,zaX,zaY,zaZ,za0,za1,za2,za3,za4,za5,za6,za7,za8,za9,zba,zbb,zbc,zbd,zbe,zbf,zbg,zbh,zbi,zbj,zbk,zbl,zbm,zbn,zbo,zbp,zbq,zbr,zbs,zbt,zbu,zbv,zbw,zbx,zby,zbz,zbA,zbB,zbC,zbD,zbE,zbF,zbG,zbH,zbI,zbJ,zbK,zbL,zbM,zbN,zbO,zbP,zbQ,zbR,zbS,zbT,zbU,zbV,zbW,zbX,zbY,zbZ,zb0,zb1,zb2,zb3,zb4,zb5,zb6,zb7,zb8,zb9,zca,zcb,eq_self,zcc,zcd,zce,zcf,zcg,zch,zci,zcj,zck,zcl,zcm,List.getElem?_cons_succ,List.getElem?_cons_zero,List.set_cons_succ,List.set_cons_zero,List.map_cons,List.map_nil,List.length_cons,List.length_nil,List.cons_append,List.nil_append,List.append_nil,List.isEmpty_cons,List.isEmpty_nil,if_true,if_false,ite_true,ite_false,Bool.not_true,Bool.not_false,Bool.not_not,decide_true,true_and,and_true,false_and,and_false,Bool.false_eq_true,reduceCtorEq,decide_true,decide_false,ite_self,forall_const,Nat.zero_add,Nat.reduceAdd,Nat.reduceLeDiff,Nat.reduceLT,Nat.reduceEqDiff,Nat.reduceSub,Nat.reduceMul,Nat.reduceBEq,Int.reduceLT,Int.reduceLE,Int.reduceEq,Int.reduceNe,Int.reduceAdd,Int.reduceMul,Int.reduceSub,Int.reduceNeg,Int.reducePow,Int.reduceBEq,Int.reduceToNat,Int.reduceGT,Int.reduceGE,String.reduceBEq,zcn,zco,List.replicate_succ,List.replicate_zero,zcp,zcq,zcr,zcs,zct,zcu,zcv,zcw,zcx,zcy,zcz,zcA,zcB,zcC,zcD,zcE,zcF,zcG,zcH,zcI,zcJ,zcK,zcL,zcM,zcN,zcO,zcP,zcQ,zcR,zcS,zcT,zcU,zcV,zcW,zcX,zcY,zcZ,zc0,zc1,zc2,zc3,zc4,zc5,zc6,zc7,zc8,zc9,zda,zdb,zdc,Bool.true_or,Bool.or_true,Bool.false_or,Bool.or_false,Bool.and_true,Bool.true_and,Bool.and_false,Bool.false_and,Int.cast_ofNat_Int,Int.natCast_zero,Int.natCast_one,beq_self_eq_true,zdd,zde,zdf,zdg,zdh,wipeR,n1,n4,w_ratio (dd_nz q r) (up8 (nMul h g) (by omega)) (up8 (nDen h g) (by omega)),mul_fr q r]
  rw [e, zaa]
theorem w_apart (hk : k + l ≤ 8000) : Ok (m__law_apart [pl q r] S) Q = Q (.tup [rv q, rv r]) S := by
  have e : m__law_apart [pl q r] S = .ok (.tup [rv q, rv r]) S := by
    refine Ok.eq (Ok_defM rfl ?_)
    have b1 := up8 (pX_lt h g) (by omega)
    have b2 := up8 (pY_lt h g) (by omega)
    have b3 := up8 (pW_lt h g) (by omega)
    simp -dsimp (disch := first | assumption | omega) only [zaa,zab,zac,zad,zae,zaf,zag,zah,zai,zaj,zak,zal,zam,zan,zao,zap,zaq,zar,zas,zat,zau,zav,zaw,zax,zay,zaz,zaA,zaB,zaC,zaD,zaE,zaF,zaG,zaH,zaI,zaJ,zaK,zaL,zaM,zaN,zaO,zaP,zaQ,zaR,zaS,zaT,zaU,zaV,zaW,zaX,zaY,zaZ,za0,za1,za2,za3,za4,za5,za6,za7,za8,za9,zba,zbb,zbc,zbd,zbe,zbf,zbg,zbh,zbi,zbj,zbk,zbl,zbm,zbn,zbo,zbp,zbq,zbr,zbs,zbt,zbu,zbv,zbw,zbx,zby,zbz,zbA,zbB,zbC,zbD,zbE,zbF,zbG,zbH,zbI,zbJ,zbK,zbL,zbM,zbN,zbO,zbP,zbQ,zbR,zbS,zbT,zbU,zbV,zbW,zbX,zbY,zbZ,zb0,zb1,zb2,zb3,zb4,zb5,zb6,zb7,zb8,zb9,zca,zcb,eq_self,zcc,zcd,zce,zcf,zcg,zch,zci,zcj,zck,zcl,zcm,List.getElem?_cons_succ,List.getElem?_cons_zero,List.set_cons_succ,List.set_cons_zero,List.map_cons,List.map_nil,List.length_cons,List.length_nil,List.cons_append,List.nil_append,List.append_nil,List.isEmpty_cons,List.isEmpty_nil,if_true,if_false,ite_true,ite_false,Bool.not_true,Bool.not_false,Bool.not_not,decide_true,true_and,and_true,false_and,and_false,Bool.false_eq_true,reduceCtorEq,decide_true,decide_false,ite_self,forall_const,Nat.zero_add,Nat.reduceAdd,Nat.reduceLeDiff,Nat.reduceLT,Nat.reduceEqDiff,Nat.reduceSub,Nat.reduceMul,Nat.reduceBEq,Int.reduceLT,Int.reduceLE,Int.reduceEq,Int.reduceNe,Int.reduceAdd,Int.reduceMul,Int.reduceSub,Int.reduceNeg,Int.reducePow,Int.reduceBEq,Int.reduceToNat,Int.reduceGT,Int.reduceGE,String.reduceBEq,zcn,zco,List.replicate_succ,List.replicate_zero,zcp,zcq,zcr,zcs,zct,zcu,zcv,zcw,zcx,zcy,zcz,zcA,zcB,zcC,zcD,zcE,zcF,zcG,zcH,zcI,zcJ,zcK,zcL,zcM,zcN,zcO,zcP,zcQ,zcR,zcS,zcT,zcU,zcV,zcW,zcX,zcY,zcZ,zc0,zc1,zc2,zc3,zc4,zc5,zc6,zc7,zc8,zc9,zda,zdb,zdc,Bool.true_or,Bool.or_true,Bool.false_or,Bool.or_false,Bool.and_true,Bool.true_and,Bool.and_false,Bool.false_and,Int.cast_ofNat_Int,Int.natCast_zero,Int.natCast_one,beq_self_eq_true,zdd,zde,zdf,zdg,zdh,wipeR,w_ratio (pW_nz q r) b1 b3,w_ratio (pW_nz q r) b2 b3,p_far,p_tall]
  rw [e, zaa]
end
section
variable {s b d : Rat} {k l m : Nat} [hs : Sz s k] [hz : Sz b l] [hy : Sz d m]
end
end
end Pm.L


namespace Pm.L
open PySem PySem.Spec L2 Pm
section
variable {S : Sto} {Q : PV → Sto → Prop}
theorem wdraw_ok {n m : Nat} {many : Int} (h : Vat m S n) (hm : m ≤ 1000000000) (h0 : 0 < many) (h1 : many < 1073741824)
    (hq : ∀ (d : Int) S', 0 ≤ d → d < many → S'.length = S.length → Vat (m + 1) S' n → Q (.int d) S') : Ok (m__law_draw [.loc n, .int many] S) Q := by
  have hn := h.lt
  obtain ⟨⟨c, ch, k, hS, c0, ch0, ch1, k0, k1⟩, hI⟩ := h
  refine Ok_defM rfl ?_
  have i0 : ixN 3 0 = some 0 := rfl
  have i1 : ixN 3 1 = some 1 := rfl
  have i2 : ixN 3 2 = some 2 := rfl
  by_cases hc : 0 < c
  · simp -dsimp (disch := first | assumption | omega) only [zaa,zab,zac,zad,zae,zaf,zag,zah,zai,zaj,zak,zal,zam,zan,zao,zap,zaq,zar,zas,zat,zau,zav,zaw,zax,zay,zaz,zaA,zaB,zaC,zaD,zaE,zaF,zaG,zaH,zaI,zaJ,zaK,zaL,zaM,zaN,zaO,zaP,zaQ,zaR,zaS,zaT,zaU,zaV,zaW,zaX,zaY,zaZ,za0,za1,za2,za3,za4,za5,za6,za7,za8,za9,zba,zbb,zbc,zbd,zbe,zbf,zbg,zbh,zbi,zbj,zbk,zbl,zbm,zbn,zbo,zbp,zbq,zbr,zbs,zbt,zbu,zbv,zbw,zbx,zby,zbz,zbA,zbB,zbC,zbD,zbE,zbF,zbG,zbH,zbI,zbJ,zbK,zbL,zbM,zbN,zbO,zbP,zbQ,zbR,zbS,zbT,zbU,zbV,zbW,zbX,zbY,zbZ,zb0,zb1,zb2,zb3,zb4,zb5,zb6,zb7,zb8,zb9,zca,zcb,eq_self,zcc,zcd,zce,zcf,zcg,zch,zci,zcj,zck,zcl,zcm,List.getElem?_cons_succ,List.getElem?_cons_zero,List.set_cons_succ,List.set_cons_zero,List.map_cons,List.map_nil,List.length_cons,List.length_nil,List.cons_append,List.nil_append,List.append_nil,List.isEmpty_cons,List.isEmpty_nil,if_true,if_false,ite_true,ite_false,Bool.not_true,Bool.not_false,Bool.not_not,decide_true,true_and,and_true,false_and,and_false,Bool.false_eq_true,reduceCtorEq,decide_true,decide_false,ite_self,forall_const,Nat.zero_add,Nat.reduceAdd,Nat.reduceLeDiff,Nat.reduceLT,Nat.reduceEqDiff,Nat.reduceSub,Nat.reduceMul,Nat.reduceBEq,Int.reduceLT,Int.reduceLE,Int.reduceEq,Int.reduceNe,Int.reduceAdd,Int.reduceMul,Int.reduceSub,Int.reduceNeg,Int.reducePow,Int.reduceBEq,Int.reduceToNat,Int.reduceGT,Int.reduceGE,String.reduceBEq,zcn,zco,List.replicate_succ,List.replicate_zero,zcp,zcq,zcr,zcs,zct,zcu,zcv,zcw,zcx,zcy,zcz,zcA,zcB,zcC,zcD,zcE,zcF,zcG,zcH,zcI,zcJ,zcK,zcL,zcM,zcN,zcO,zcP,zcQ,zcR,zcS,zcT,zcU,zcV,zcW,zcX,zcY,zcZ,zc0,zc1,zc2,zc3,zc4,zc5,zc6,zc7,zc8,zc9,zda,zdb,zdc,Bool.true_or,Bool.or_true,Bool.false_or,Bool.or_false,Bool.and_true,Bool.true_and,Bool.and_false,Bool.false_and,Int.cast_ofNat_Int,Int.natCast_zero,Int.natCast_one,beq_self_eq_true,zdd,zde,zdf,zdg,zdh,wipeR,hS,hc,Ok_divmod,h0,h1,i0,List.length_set]
    exact hq _ _ (Int.emod_nonneg _ (by omega)) (Int.emod_lt_of_pos _ h0) (by simp) ⟨⟨c / many, ch, k, by simp [hn], Int.ediv_nonneg c0 (by omega), ch0, ch1, k0, by omega⟩, hI.set _ _ _⟩
  · have f2 : ∀ z : Int, z.fmod 1000000123 = z % 1000000123 := fun z => Int.fmod_eq_emod_of_nonneg _ (by omega)
    have f1 : ∀ z : Int, z.fmod 6961 = z % 6961 := fun z => Int.fmod_eq_emod_of_nonneg _ (by omega)
    have f3 : ∀ z : Int, z.fmod many = z % many := fun z => Int.fmod_eq_emod_of_nonneg _ (by omega)
    have l1 : ch.natAbs.log2 + (37 : Int).natAbs.log2 < 1000000 := lg (k := 31) (l := 17) (by omega) (by omega) (by omega)
    have l2 : (80021 : Int).natAbs.log2 + (k + 1).natAbs.log2 < 1000000 := lg (k := 17) (l := 62) (by omega) (by omega) (by omega)
    have l4 : (29 : Int).natAbs.log2 + (k + 1).natAbs.log2 < 1000000 := lg (k := 17) (l := 62) (by omega) (by omega) (by omega)
    have x0 := Int.emod_nonneg (ch * 37 + 80021 * (k + 1) + 11) (show (1000000123 : Int) ≠ 0 by omega)
    have x1 := Int.emod_lt_of_pos (ch * 37 + 80021 * (k + 1) + 11) (show (0 : Int) < 1000000123 by omega)
    generalize hx : (ch * 37 + 80021 * (k + 1) + 11) % 1000000123 = x at x0 x1
    have l5 : x.natAbs.log2 + (x % 6961 + 21001).natAbs.log2 < 1000000 := lg (k := 31) (l := 17) (by omega) (by omega) (by omega)
    have l3 : (191 : Int).natAbs.log2 < 9000 := by decide
    have hm0 : many ≠ 0 := by omega
    simp -dsimp (disch := first | assumption | omega) only [zaa,zab,zac,zad,zae,zaf,zag,zah,zai,zaj,zak,zal,zam,zan,zao,zap,zaq,zar,zas,zat,zau,zav,zaw,zax,zay,zaz,zaA,zaB,zaC,zaD,zaE,zaF,zaG,zaH,zaI,zaJ,zaK,zaL,zaM,zaN,zaO,zaP,zaQ,zaR,zaS,zaT,zaU,zaV,zaW,zaX,zaY,zaZ,za0,za1,za2,za3,za4,za5,za6,za7,za8,za9,zba,zbb,zbc,zbd,zbe,zbf,zbg,zbh,zbi,zbj,zbk,zbl,zbm,zbn,zbo,zbp,zbq,zbr,zbs,zbt,zbu,zbv,zbw,zbx,zby,zbz,zbA,zbB,zbC,zbD,zbE,zbF,zbG,zbH,zbI,zbJ,zbK,zbL,zbM,zbN,zbO,zbP,zbQ,zbR,zbS,zbT,zbU,zbV,zbW,zbX,zbY,zbZ,zb0,zb1,zb2,zb3,zb4,zb5,zb6,zb7,zb8,zb9,zca,zcb,eq_self,zcc,zcd,zce,zcf,zcg,zch,zci,zcj,zck,zcl,zcm,List.getElem?_cons_succ,List.getElem?_cons_zero,List.set_cons_succ,List.set_cons_zero,List.map_cons,List.map_nil,List.length_cons,List.length_nil,List.cons_append,List.nil_append,List.append_nil,List.isEmpty_cons,List.isEmpty_nil,if_true,if_false,ite_true,ite_false,Bool.not_true,Bool.not_false,Bool.not_not,decide_true,true_and,and_true,false_and,and_false,Bool.false_eq_true,reduceCtorEq,decide_true,decide_false,ite_self,forall_const,Nat.zero_add,Nat.reduceAdd,Nat.reduceLeDiff,Nat.reduceLT,Nat.reduceEqDiff,Nat.reduceSub,Nat.reduceMul,Nat.reduceBEq,Int.reduceLT,Int.reduceLE,Int.reduceEq,Int.reduceNe,Int.reduceAdd,Int.reduceMul,Int.reduceSub,Int.reduceNeg,Int.reducePow,Int.reduceBEq,Int.reduceToNat,Int.reduceGT,Int.reduceGE,String.reduceBEq,zcn,zco,List.replicate_succ,List.replicate_zero,zcp,zcq,zcr,zcs,zct,zcu,zcv,zcw,zcx,zcy,zcz,zcA,zcB,zcC,zcD,zcE,zcF,zcG,zcH,zcI,zcJ,zcK,zcL,zcM,zcN,zcO,zcP,zcQ,zcR,zcS,zcT,zcU,zcV,zcW,zcX,zcY,zcZ,zc0,zc1,zc2,zc3,zc4,zc5,zc6,zc7,zc8,zc9,zda,zdb,zdc,Bool.true_or,Bool.or_true,Bool.false_or,Bool.or_false,Bool.and_true,Bool.true_and,Bool.and_false,Bool.false_and,Int.cast_ofNat_Int,Int.natCast_zero,Int.natCast_one,beq_self_eq_true,zdd,zde,zdf,zdg,zdh,wipeR,hS,hc,i0,i1,i2,List.length_set,f1,f2,f3,l1,l2,hx,l4,l5,l3,hm0,List.getElem?_set_self,hn,List.set_set,ne_eq,not_false_eq_true]
    exact hq _ _ (Int.emod_nonneg _ (by omega)) (Int.emod_lt_of_pos _ h0) (by simp) ⟨⟨c, (x * (x % 6961 + 21001) + 29 * (k + 1)) % 1000000123, k + 1, by simp [hn], c0, Int.emod_nonneg _ (by omega), by have := Int.emod_lt_of_pos (x * (x % 6961 + 21001) + 29 * (k + 1)) (show (0 : Int) < 1000000123 by omega); omega, by omega, by omega⟩, hI.set _ _ _⟩
theorem wpick_ok {n m : Nat} {xs : List PV} (h : Vat m S n) (hm : m ≤ 1000000000) (h0 : 0 < xs.length) (h1 : xs.length < 1000)
    (hq : ∀ p ∈ xs, ∀ S', S'.length = S.length → Vat (m + 1) S' n → Q p S') : Ok (m__law_pick [.loc n, .tup xs] S) Q := by
  refine Ok_defM rfl ?_
  simp -dsimp (disch := first | assumption | omega) only [zaa,zab,zac,zad,zae,zaf,zag,zah,zai,zaj,zak,zal,zam,zan,zao,zap,zaq,zar,zas,zat,zau,zav,zaw,zax,zay,zaz,zaA,zaB,zaC,zaD,zaE,zaF,zaG,zaH,zaI,zaJ,zaK,zaL,zaM,zaN,zaO,zaP,zaQ,zaR,zaS,zaT,zaU,zaV,zaW,zaX,zaY,zaZ,za0,za1,za2,za3,za4,za5,za6,za7,za8,za9,zba,zbb,zbc,zbd,zbe,zbf,zbg,zbh,zbi,zbj,zbk,zbl,zbm,zbn,zbo,zbp,zbq,zbr,zbs,zbt,zbu,zbv,zbw,zbx,zby,zbz,zbA,zbB,zbC,zbD,zbE,zbF,zbG,zbH,zbI,zbJ,zbK,zbL,zbM,zbN,zbO,zbP,zbQ,zbR,zbS,zbT,zbU,zbV,zbW,zbX,zbY,zbZ,zb0,zb1,zb2,zb3,zb4,zb5,zb6,zb7,zb8,zb9,zca,zcb,eq_self,zcc,zcd,zce,zcf,zcg,zch,zci,zcj,zck,zcl,zcm,List.getElem?_cons_succ,List.getElem?_cons_zero,List.set_cons_succ,List.set_cons_zero,List.map_cons,List.map_nil,List.length_cons,List.length_nil,List.cons_append,List.nil_append,List.append_nil,List.isEmpty_cons,List.isEmpty_nil,if_true,if_false,ite_true,ite_false,Bool.not_true,Bool.not_false,Bool.not_not,decide_true,true_and,and_true,false_and,and_false,Bool.false_eq_true,reduceCtorEq,decide_true,decide_false,ite_self,forall_const,Nat.zero_add,Nat.reduceAdd,Nat.reduceLeDiff,Nat.reduceLT,Nat.reduceEqDiff,Nat.reduceSub,Nat.reduceMul,Nat.reduceBEq,Int.reduceLT,Int.reduceLE,Int.reduceEq,Int.reduceNe,Int.reduceAdd,Int.reduceMul,Int.reduceSub,Int.reduceNeg,Int.reducePow,Int.reduceBEq,Int.reduceToNat,Int.reduceGT,Int.reduceGE,String.reduceBEq,zcn,zco,List.replicate_succ,List.replicate_zero,zcp,zcq,zcr,zcs,zct,zcu,zcv,zcw,zcx,zcy,zcz,zcA,zcB,zcC,zcD,zcE,zcF,zcG,zcH,zcI,zcJ,zcK,zcL,zcM,zcN,zcO,zcP,zcQ,zcR,zcS,zcT,zcU,zcV,zcW,zcX,zcY,zcZ,zc0,zc1,zc2,zc3,zc4,zc5,zc6,zc7,zc8,zc9,zda,zdb,zdc,Bool.true_or,Bool.or_true,Bool.false_or,Bool.or_false,Bool.and_true,Bool.true_and,Bool.and_false,Bool.false_and,Int.cast_ofNat_Int,Int.natCast_zero,Int.natCast_one,beq_self_eq_true,zdd,zde,zdf,zdg,zdh,wipeR]
  refine wdraw_ok h hm (by omega) (by omega) fun d S' d0 d1 hl hv => ?_
  have hd : d.toNat < xs.length := by omega
  have e : atI xs d = some xs[d.toNat] := by
    unfold atI ixN
    rw [if_pos d0, if_pos d1]
    simp [hd]
  simp -dsimp (disch := first | assumption | omega) only [zaa,zab,zac,zad,zae,zaf,zag,zah,zai,zaj,zak,zal,zam,zan,zao,zap,zaq,zar,zas,zat,zau,zav,zaw,zax,zay,zaz,zaA,zaB,zaC,zaD,zaE,zaF,zaG,zaH,zaI,zaJ,zaK,zaL,zaM,zaN,zaO,zaP,zaQ,zaR,zaS,zaT,zaU,zaV,zaW,zaX,zaY,zaZ,za0,za1,za2,za3,za4,za5,za6,za7,za8,za9,zba,zbb,zbc,zbd,zbe,zbf,zbg,zbh,zbi,zbj,zbk,zbl,zbm,zbn,zbo,zbp,zbq,zbr,zbs,zbt,zbu,zbv,zbw,zbx,zby,zbz,zbA,zbB,zbC,zbD,zbE,zbF,zbG,zbH,zbI,zbJ,zbK,zbL,zbM,zbN,zbO,zbP,zbQ,zbR,zbS,zbT,zbU,zbV,zbW,zbX,zbY,zbZ,zb0,zb1,zb2,zb3,zb4,zb5,zb6,zb7,zb8,zb9,zca,zcb,eq_self,zcc,zcd,zce,zcf,zcg,zch,zci,zcj,zck,zcl,zcm,List.getElem?_cons_succ,List.getElem?_cons_zero,List.set_cons_succ,List.set_cons_zero,List.map_cons,List.map_nil,List.length_cons,List.length_nil,List.cons_append,List.nil_append,List.append_nil,List.isEmpty_cons,List.isEmpty_nil,if_true,if_false,ite_true,ite_false,Bool.not_true,Bool.not_false,Bool.not_not,decide_true,true_and,and_true,false_and,and_false,Bool.false_eq_true,reduceCtorEq,decide_true,decide_false,ite_self,forall_const,Nat.zero_add,Nat.reduceAdd,Nat.reduceLeDiff,Nat.reduceLT,Nat.reduceEqDiff,Nat.reduceSub,Nat.reduceMul,Nat.reduceBEq,Int.reduceLT,Int.reduceLE,Int.reduceEq,Int.reduceNe,Int.reduceAdd,Int.reduceMul,Int.reduceSub,Int.reduceNeg,Int.reducePow,Int.reduceBEq,Int.reduceToNat,Int.reduceGT,Int.reduceGE,String.reduceBEq,zcn,zco,List.replicate_succ,List.replicate_zero,zcp,zcq,zcr,zcs,zct,zcu,zcv,zcw,zcx,zcy,zcz,zcA,zcB,zcC,zcD,zcE,zcF,zcG,zcH,zcI,zcJ,zcK,zcL,zcM,zcN,zcO,zcP,zcQ,zcR,zcS,zcT,zcU,zcV,zcW,zcX,zcY,zcZ,zc0,zc1,zc2,zc3,zc4,zc5,zc6,zc7,zc8,zc9,zda,zdb,zdc,Bool.true_or,Bool.or_true,Bool.false_or,Bool.or_false,Bool.and_true,Bool.true_and,Bool.and_false,Bool.false_and,Int.cast_ofNat_Int,Int.natCast_zero,Int.natCast_one,beq_self_eq_true,zdd,zde,zdf,zdg,zdh,wipeR,e]
  exact ⟨hl, hq _ (List.getElem_mem hd) _ hl hv⟩
theorem wfrac_sz {a b : Int} {k : Nat} (hb : b ≠ 0) (ha : a.natAbs < 2 ^ k) (hk : b.natAbs < 2 ^ k) : Sz (Rat.divInt a b) k := sz_fr hb ha hk
theorem wfrac_pos {a b : Int} (ha : 0 < a) (hb : 0 < b) : 0 < Rat.divInt a b := by
  rw [Rat.divInt_eq_div, Rat.div_def]
  exact Rat.mul_pos (Rat.intCast_pos.mpr ha) (Rat.inv_pos.mpr (Rat.intCast_pos.mpr hb))
theorem frv {a b : Int} (h1 : (Rat.divInt a b).num = a) (h2 : ((Rat.divInt a b).den : Int) = b) : PV.tup [.int a, .int b] = rv (Rat.divInt a b) := by
  unfold rv
  rw [h1, h2]
/-- a small fraction, spelt out -/
structure Sf (p : PV) (q : Rat) : Prop where
  e : p = rv q
  z : Sz q 5
theorem Sf.mk' {a b : Int} (h1 : (Rat.divInt a b).num = a) (h2 : ((Rat.divInt a b).den : Int) = b) (hb : b ≠ 0) (ha : a.natAbs < 2 ^ 5) (hk : b.natAbs < 2 ^ 5) : Sf (.tup [.int a, .int b]) (Rat.divInt a b) := ⟨frv h1 h2, wfrac_sz hb ha hk⟩
theorem wsize_ok {n m : Nat} (h : Vat m S n) (hm : m ≤ 999999000) (hq : ∀ q S', 0 < q → Sz q 5 → S'.length = S.length → Vat (m + 3) S' n → Q (rv q) S') : Ok (m__law_size [.loc n] S) Q := by
  refine Ok_defM rfl ?_
  simp -dsimp (disch := first | assumption | omega) only [zaa,zab,zac,zad,zae,zaf,zag,zah,zai,zaj,zak,zal,zam,zan,zao,zap,zaq,zar,zas,zat,zau,zav,zaw,zax,zay,zaz,zaA,zaB,zaC,zaD,zaE,zaF,zaG,zaH,zaI,zaJ,zaK,zaL,zaM,zaN,zaO,zaP,zaQ,zaR,zaS,zaT,zaU,zaV,zaW,zaX,zaY,zaZ,za0,za1,za2,za3,za4,za5,za6,za7,za8,za9,zba,zbb,zbc,zbd,zbe,zbf,zbg,zbh,zbi,zbj,zbk,zbl,zbm,zbn,zbp,zbq,zbr,zbs,zbt,zbu,zbv,zbw,zbx,zby,zbz,zbA,zbB,zbC,zbD,zbE,zbF,zbG,zbH,zbI,zbJ,zbK,zbL,zbM,zbN,zbO,zbP,zbQ,zbR,zbS,zbT,zbU,zbV,zbW,zbX,zbY,zbZ,zb0,zb1,zb2,zb3,zb4,zb5,zb6,zb7,zb8,zb9,zca,zcb,eq_self,zcc,zcd,zce,zcf,zcg,zch,zci,zcj,zck,zcl,zcm,List.getElem?_cons_succ,List.getElem?_cons_zero,List.set_cons_succ,List.set_cons_zero,List.map_cons,List.map_nil,List.length_cons,List.length_nil,List.cons_append,List.nil_append,List.append_nil,List.isEmpty_cons,List.isEmpty_nil,if_true,if_false,ite_true,ite_false,Bool.not_true,Bool.not_false,Bool.not_not,decide_true,true_and,and_true,false_and,and_false,Bool.false_eq_true,reduceCtorEq,decide_true,decide_false,ite_self,forall_const,Nat.zero_add,Nat.reduceAdd,Nat.reduceLeDiff,Nat.reduceLT,Nat.reduceEqDiff,Nat.reduceSub,Nat.reduceMul,Nat.reduceBEq,Int.reduceLT,Int.reduceLE,Int.reduceEq,Int.reduceNe,Int.reduceAdd,Int.reduceMul,Int.reduceSub,Int.reduceNeg,Int.reducePow,Int.reduceBEq,Int.reduceToNat,Int.reduceGT,Int.reduceGE,String.reduceBEq,zcn,zco,List.replicate_succ,List.replicate_zero,zcp,zcq,zcr,zcs,zct,zcu,zcv,zcw,zcx,zcy,zcz,zcA,zcB,zcC,zcD,zcE,zcF,zcG,zcH,zcI,zcJ,zcK,zcL,zcM,zcN,zcO,zcP,zcQ,zcR,zcS,zcT,zcU,zcV,zcW,zcX,zcY,zcZ,zc0,zc1,zc2,zc3,zc4,zc5,zc6,zc7,zc8,zc9,zda,zdb,zdc,Bool.true_or,Bool.or_true,Bool.false_or,Bool.or_false,Bool.and_true,Bool.true_and,Bool.and_false,Bool.false_and,Int.cast_ofNat_Int,Int.natCast_zero,Int.natCast_one,beq_self_eq_true,zdd,wipeR]
  refine wdraw_ok h (by omega) (by omega) (by omega) fun d S1 d0 d1 l1 v1 => ?_
  by_cases c : d < 3
  · simp -dsimp (disch := first | assumption | omega) only [zaa,zab,zac,zad,zae,zaf,zag,zah,zai,zaj,zak,zal,zam,zan,zao,zap,zaq,zar,zas,zat,zau,zav,zaw,zax,zay,zaz,zaA,zaB,zaC,zaD,zaE,zaF,zaG,zaH,zaI,zaJ,zaK,zaL,zaM,zaN,zaO,zaP,zaQ,zaR,zaS,zaT,zaU,zaV,zaW,zaX,zaY,zaZ,za0,za1,za2,za3,za4,za5,za6,za7,za8,za9,zba,zbb,zbc,zbd,zbe,zbf,zbg,zbh,zbi,zbj,zbk,zbl,zbm,zbn,zbo,zbp,zbq,zbr,zbs,zbt,zbu,zbv,zbw,zbx,zby,zbz,zbA,zbB,zbC,zbD,zbE,zbF,zbG,zbH,zbI,zbJ,zbK,zbL,zbM,zbN,zbO,zbP,zbQ,zbR,zbS,zbT,zbU,zbV,zbW,zbX,zbY,zbZ,zb0,zb1,zb2,zb3,zb4,zb5,zb6,zb7,zb8,zb9,zca,zcb,eq_self,zcc,zcd,zce,zcf,zcg,zch,zci,zcj,zck,zcl,zcm,List.getElem?_cons_succ,List.getElem?_cons_zero,List.set_cons_succ,List.set_cons_zero,List.map_cons,List.map_nil,List.length_cons,List.length_nil,List.cons_append,List.nil_append,List.append_nil,List.isEmpty_cons,List.isEmpty_nil,if_true,if_false,ite_true,ite_false,Bool.not_true,Bool.not_false,Bool.not_not,decide_true,true_and,and_true,false_and,and_false,Bool.false_eq_true,reduceCtorEq,decide_true,decide_false,ite_self,forall_const,Nat.zero_add,Nat.reduceAdd,Nat.reduceLeDiff,Nat.reduceLT,Nat.reduceEqDiff,Nat.reduceSub,Nat.reduceMul,Nat.reduceBEq,Int.reduceLT,Int.reduceLE,Int.reduceEq,Int.reduceNe,Int.reduceAdd,Int.reduceMul,Int.reduceSub,Int.reduceNeg,Int.reducePow,Int.reduceBEq,Int.reduceToNat,Int.reduceGT,Int.reduceGE,String.reduceBEq,zcn,zco,List.replicate_succ,List.replicate_zero,zcp,zcq,zcr,zcs,zct,zcu,zcv,zcw,zcx,zcy,zcz,zcA,zcB,zcC,zcD,zcE,zcF,zcG,zcH,zcI,zcJ,zcK,zcL,zcM,zcN,zcO,zcP,zcQ,zcR,zcS,zcT,zcU,zcV,zcW,zcX,zcY,zcZ,zc0,zc1,zc2,zc3,zc4,zc5,zc6,zc7,zc8,zc9,zda,zdb,zdc,Bool.true_or,Bool.or_true,Bool.false_or,Bool.or_false,Bool.and_true,Bool.true_and,Bool.and_false,Bool.false_and,Int.cast_ofNat_Int,Int.natCast_zero,Int.natCast_one,beq_self_eq_true,zdd,zde,zdf,zdg,zdh,wipeR,c]
    refine wpick_ok v1 (by omega) (by simp) (by simp) fun p hp S2 l2 v2 => ?_
    obtain ⟨q, hs, q0⟩ : ∃ q, Sf p q ∧ 0 < q := by
      simp only [List.mem_cons, List.not_mem_nil, or_false] at hp
      rcases hp with rfl | rfl | rfl | rfl | rfl | rfl | rfl | rfl
      all_goals exact ⟨_, .mk' (by decide +kernel) (by decide +kernel) (by decide) (by decide) (by decide), by decide +kernel⟩
    obtain ⟨rfl, hz⟩ := hs
    try simp -dsimp (disch := first | assumption | omega) only [zaa,zab,zac,zad,zae,zaf,zag,zah,zai,zaj,zak,zal,zam,zan,zao,zap,zaq,zar,zas,zat,zau,zav,zaw,zax,zay,zaz,zaA,zaB,zaC,zaD,zaE,zaF,zaG,zaH,zaI,zaJ,zaK,zaL,zaM,zaN,zaO,zaP,zaQ,zaR,zaS,zaT,zaU,zaV,zaW,zaX,zaY,zaZ,za0,za1,za2,za3,za4,za5,za6,za7,za8,za9,zba,zbb,zbc,zbd,zbe,zbf,zbg,zbh,zbi,zbj,zbk,zbl,zbm,zbn,zbo,zbp,zbq,zbr,zbs,zbt,zbu,zbv,zbw,zbx,zby,zbz,zbA,zbB,zbC,zbD,zbE,zbF,zbG,zbH,zbI,zbJ,zbK,zbL,zbM,zbN,zbO,zbP,zbQ,zbR,zbS,zbT,zbU,zbV,zbW,zbX,zbY,zbZ,zb0,zb1,zb2,zb3,zb4,zb5,zb6,zb7,zb8,zb9,zca,zcb,eq_self,zcc,zcd,zce,zcf,zcg,zch,zci,zcj,zck,zcl,zcm,List.getElem?_cons_succ,List.getElem?_cons_zero,List.set_cons_succ,List.set_cons_zero,List.map_cons,List.map_nil,List.length_cons,List.length_nil,List.cons_append,List.nil_append,List.append_nil,List.isEmpty_cons,List.isEmpty_nil,if_true,if_false,ite_true,ite_false,Bool.not_true,Bool.not_false,Bool.not_not,decide_true,true_and,and_true,false_and,and_false,Bool.false_eq_true,reduceCtorEq,decide_true,decide_false,ite_self,forall_const,Nat.zero_add,Nat.reduceAdd,Nat.reduceLeDiff,Nat.reduceLT,Nat.reduceEqDiff,Nat.reduceSub,Nat.reduceMul,Nat.reduceBEq,Int.reduceLT,Int.reduceLE,Int.reduceEq,Int.reduceNe,Int.reduceAdd,Int.reduceMul,Int.reduceSub,Int.reduceNeg,Int.reducePow,Int.reduceBEq,Int.reduceToNat,Int.reduceGT,Int.reduceGE,String.reduceBEq,zcn,zco,List.replicate_succ,List.replicate_zero,zcp,zcq,zcr,zcs,zct,zcu,zcv,zcw,zcx,zcy,zcz,zcA,zcB,zcC,zcD,zcE,zcF,zcG,zcH,zcI,zcJ,zcK,zcL,zcM,zcN,zcO,zcP,zcQ,zcR,zcS,zcT,zcU,zcV,zcW,zcX,zcY,zcZ,zc0,zc1,zc2,zc3,zc4,zc5,zc6,zc7,zc8,zc9,zda,zdb,zdc,Bool.true_or,Bool.or_true,Bool.false_or,Bool.or_false,Bool.and_true,Bool.true_and,Bool.and_false,Bool.false_and,Int.cast_ofNat_Int,Int.natCast_zero,Int.natCast_one,beq_self_eq_true,zdd,zde,zdf,zdg,zdh,wipeR]
    exact ⟨by omega, hq _ _ q0 hz (by omega) (v2.le (by omega))⟩
  · simp -dsimp (disch := first | assumption | omega) only [zaa,zab,zac,zad,zae,zaf,zag,zah,zai,zaj,zak,zal,zam,zan,zao,zap,zaq,zar,zas,zat,zau,zav,zaw,zax,zay,zaz,zaA,zaB,zaC,zaD,zaE,zaF,zaG,zaH,zaI,zaJ,zaK,zaL,zaM,zaN,zaO,zaP,zaQ,zaR,zaS,zaT,zaU,zaV,zaW,zaX,zaY,zaZ,za0,za1,za2,za3,za4,za5,za6,za7,za8,za9,zba,zbb,zbc,zbd,zbe,zbf,zbg,zbh,zbi,zbj,zbk,zbl,zbm,zbn,zbo,zbp,zbq,zbr,zbs,zbt,zbu,zbv,zbw,zbx,zby,zbz,zbA,zbB,zbC,zbD,zbE,zbF,zbG,zbH,zbI,zbJ,zbK,zbL,zbM,zbN,zbO,zbP,zbQ,zbR,zbS,zbT,zbU,zbV,zbW,zbX,zbY,zbZ,zb0,zb1,zb2,zb3,zb4,zb5,zb6,zb7,zb8,zb9,zca,zcb,eq_self,zcc,zcd,zce,zcf,zcg,zch,zci,zcj,zck,zcl,zcm,List.getElem?_cons_succ,List.getElem?_cons_zero,List.set_cons_succ,List.set_cons_zero,List.map_cons,List.map_nil,List.length_cons,List.length_nil,List.cons_append,List.nil_append,List.append_nil,List.isEmpty_cons,List.isEmpty_nil,if_true,if_false,ite_true,ite_false,Bool.not_true,Bool.not_false,Bool.not_not,decide_true,true_and,and_true,false_and,and_false,Bool.false_eq_true,reduceCtorEq,decide_true,decide_false,ite_self,forall_const,Nat.zero_add,Nat.reduceAdd,Nat.reduceLeDiff,Nat.reduceLT,Nat.reduceEqDiff,Nat.reduceSub,Nat.reduceMul,Nat.reduceBEq,Int.reduceLT,Int.reduceLE,Int.reduceEq,Int.reduceNe,Int.reduceAdd,Int.reduceMul,Int.reduceSub,Int.reduceNeg,Int.reducePow,Int.reduceBEq,Int.reduceToNat,Int.reduceGT,Int.reduceGE,String.reduceBEq,zcn,zco,List.replicate_succ,List.replicate_zero,zcp,zcq,zcr,zcs,zct,zcu,zcv,zcw,zcx,zcy,zcz,zcA,zcB,zcC,zcD,zcE,zcF,zcG,zcH,zcI,zcJ,zcK,zcL,zcM,zcN,zcO,zcP,zcQ,zcR,zcS,zcT,zcU,zcV,zcW,zcX,zcY,zcZ,zc0,zc1,zc2,zc3,zc4,zc5,zc6,zc7,zc8,zc9,zda,zdb,zdc,Bool.true_or,Bool.or_true,Bool.false_or,Bool.or_false,Bool.and_true,Bool.true_and,Bool.and_false,Bool.false_and,Int.cast_ofNat_Int,Int.natCast_zero,Int.natCast_one,beq_self_eq_true,zdd,zde,zdf,zdg,zdh,wipeR,c]
    refine wdraw_ok v1 (by omega) (by omega) (by omega) fun a S2 a0 a1 l2 v2 => ?_
    try simp -dsimp (disch := first | assumption | omega) only [zaa,zab,zac,zad,zae,zaf,zag,zah,zai,zaj,zak,zal,zam,zan,zao,zap,zaq,zar,zas,zat,zau,zav,zaw,zax,zay,zaz,zaA,zaB,zaC,zaD,zaE,zaF,zaG,zaH,zaI,zaJ,zaK,zaL,zaM,zaN,zaO,zaP,zaQ,zaR,zaS,zaT,zaU,zaV,zaW,zaX,zaY,zaZ,za0,za1,za2,za3,za4,za5,za6,za7,za8,za9,zba,zbb,zbc,zbd,zbe,zbf,zbg,zbh,zbi,zbj,zbk,zbl,zbm,zbn,zbo,zbp,zbq,zbr,zbs,zbt,zbu,zbv,zbw,zbx,zby,zbz,zbA,zbB,zbC,zbD,zbE,zbF,zbG,zbH,zbI,zbJ,zbK,zbL,zbM,zbN,zbO,zbP,zbQ,zbR,zbS,zbT,zbU,zbV,zbW,zbX,zbY,zbZ,zb0,zb1,zb2,zb3,zb4,zb5,zb6,zb7,zb8,zb9,zca,zcb,eq_self,zcc,zcd,zce,zcf,zcg,zch,zci,zcj,zck,zcl,zcm,List.getElem?_cons_succ,List.getElem?_cons_zero,List.set_cons_succ,List.set_cons_zero,List.map_cons,List.map_nil,List.length_cons,List.length_nil,List.cons_append,List.nil_append,List.append_nil,List.isEmpty_cons,List.isEmpty_nil,if_true,if_false,ite_true,ite_false,Bool.not_true,Bool.not_false,Bool.not_not,decide_true,true_and,and_true,false_and,and_false,Bool.false_eq_true,reduceCtorEq,decide_true,decide_false,ite_self,forall_const,Nat.zero_add,Nat.reduceAdd,Nat.reduceLeDiff,Nat.reduceLT,Nat.reduceEqDiff,Nat.reduceSub,Nat.reduceMul,Nat.reduceBEq,Int.reduceLT,Int.reduceLE,Int.reduceEq,Int.reduceNe,Int.reduceAdd,Int.reduceMul,Int.reduceSub,Int.reduceNeg,Int.reducePow,Int.reduceBEq,Int.reduceToNat,Int.reduceGT,Int.reduceGE,String.reduceBEq,zcn,zco,List.replicate_succ,List.replicate_zero,zcp,zcq,zcr,zcs,zct,zcu,zcv,zcw,zcx,zcy,zcz,zcA,zcB,zcC,zcD,zcE,zcF,zcG,zcH,zcI,zcJ,zcK,zcL,zcM,zcN,zcO,zcP,zcQ,zcR,zcS,zcT,zcU,zcV,zcW,zcX,zcY,zcZ,zc0,zc1,zc2,zc3,zc4,zc5,zc6,zc7,zc8,zc9,zda,zdb,zdc,Bool.true_or,Bool.or_true,Bool.false_or,Bool.or_false,Bool.and_true,Bool.true_and,Bool.and_false,Bool.false_and,Int.cast_ofNat_Int,Int.natCast_zero,Int.natCast_one,beq_self_eq_true,zdd,zde,zdf,zdg,zdh,wipeR]
    refine wdraw_ok v2 (by omega) (by omega) (by omega) fun b S3 b0 b1 l3 v3 => ?_
    have hb : 1 + b ≠ 0 := by omega
    have z1 : (1 + a).natAbs < 2 ^ 5 := by omega
    have z2 : (1 + b).natAbs < 2 ^ 5 := by omega
    simp -dsimp (disch := first | assumption | omega) only [zaa,zab,zac,zad,zae,zaf,zag,zah,zai,zaj,zak,zal,zam,zan,zao,zap,zaq,zar,zas,zat,zau,zav,zaw,zax,zay,zaz,zaA,zaB,zaC,zaD,zaE,zaF,zaG,zaH,zaI,zaJ,zaK,zaL,zaM,zaN,zaO,zaP,zaQ,zaR,zaS,zaT,zaU,zaV,zaW,zaX,zaY,zaZ,za0,za1,za2,za3,za4,za5,za6,za7,za8,za9,zba,zbb,zbc,zbd,zbe,zbf,zbg,zbh,zbi,zbj,zbk,zbl,zbm,zbn,zbo,zbp,zbq,zbr,zbs,zbt,zbu,zbv,zbw,zbx,zby,zbz,zbA,zbB,zbC,zbD,zbE,zbF,zbG,zbH,zbI,zbJ,zbK,zbL,zbM,zbN,zbO,zbP,zbQ,zbR,zbS,zbT,zbU,zbV,zbW,zbX,zbY,zbZ,zb0,zb1,zb2,zb3,zb4,zb5,zb6,zb7,zb8,zb9,zca,zcb,eq_self,zcc,zcd,zce,zcf,zcg,zch,zci,zcj,zck,zcl,zcm,List.getElem?_cons_succ,List.getElem?_cons_zero,List.set_cons_succ,List.set_cons_zero,List.map_cons,List.map_nil,List.length_cons,List.length_nil,List.cons_append,List.nil_append,List.append_nil,List.isEmpty_cons,List.isEmpty_nil,if_true,if_false,ite_true,ite_false,Bool.not_true,Bool.not_false,Bool.not_not,decide_true,true_and,and_true,false_and,and_false,Bool.false_eq_true,reduceCtorEq,decide_true,decide_false,ite_self,forall_const,Nat.zero_add,Nat.reduceAdd,Nat.reduceLeDiff,Nat.reduceLT,Nat.reduceEqDiff,Nat.reduceSub,Nat.reduceMul,Nat.reduceBEq,Int.reduceLT,Int.reduceLE,Int.reduceEq,Int.reduceNe,Int.reduceAdd,Int.reduceMul,Int.reduceSub,Int.reduceNeg,Int.reducePow,Int.reduceBEq,Int.reduceToNat,Int.reduceGT,Int.reduceGE,String.reduceBEq,zcn,zco,List.replicate_succ,List.replicate_zero,zcp,zcq,zcr,zcs,zct,zcu,zcv,zcw,zcx,zcy,zcz,zcA,zcB,zcC,zcD,zcE,zcF,zcG,zcH,zcI,zcJ,zcK,zcL,zcM,zcN,zcO,zcP,zcQ,zcR,zcS,zcT,zcU,zcV,zcW,zcX,zcY,zcZ,zc0,zc1,zc2,zc3,zc4,zc5,zc6,zc7,zc8,zc9,zda,zdb,zdc,Bool.true_or,Bool.or_true,Bool.false_or,Bool.or_false,Bool.and_true,Bool.true_and,Bool.and_false,Bool.false_and,Int.cast_ofNat_Int,Int.natCast_zero,Int.natCast_one,beq_self_eq_true,zdd,zde,zdf,zdg,zdh,wipeR,w_ratio hb (up8 z1 (by omega)) (up8 z2 (by omega))]
    exact ⟨by omega, hq _ _ (wfrac_pos (by omega) (by omega)) (wfrac_sz hb z1 z2) (by omega) (v3.le (by omega))⟩
theorem t_neg {q : Rat} : PV.tup [.int (0 - q.num), .int q.den] = rv (-q) := by
  unfold rv
  rw [Rat.neg_num, Rat.neg_den, Int.zero_sub]
theorem wpart_ok {n m : Nat} (h : Vat m S n) (hm : m ≤ 999998000) (hq : ∀ q S', Sz q 5 → S'.length = S.length → Vat (m + 5) S' n → Q (rv q) S') : Ok (m__law_part [.loc n] S) Q := by
  refine Ok_defM rfl ?_
  have fin : ∀ (q : Rat) (S1 : Sto), Sz q 5 → S1.length = S.length → Vat (m + 4) S1 n → Ok (sRet (dIf (bCmp (dOp ltM (dAp m__law_draw (dCons (dVar 0) (dCons (dC (.int 5)) dNil))) (dC (.int 3)))) (dVar 1) (dAp mkTup (dCons (dOp subM (dC (.int 0)) (dOp ixM (dVar 1) (dC (.int 0)))) (dCons (dOp ixM (dVar 1) (dC (.int 1))) dNil)))) [some (.loc n), some (rv q)] S1) fun r S1 => match r with
      | .nx _ => S1.length = S.length ∧ Q .non S1
      | .rt p => S1.length = S.length ∧ Q p S1
      | _ => False := by
    intro q S1 hz l1 v1
    simp -dsimp (disch := first | assumption | omega) only [zaa,zab,zac,zad,zae,zaf,zag,zah,zai,zaj,zak,zal,zam,zan,zao,zap,zaq,zar,zas,zat,zau,zav,zaw,zax,zay,zaz,zaA,zaB,zaC,zaD,zaE,zaF,zaG,zaH,zaI,zaJ,zaK,zaL,zaM,zaN,zaO,zaP,zaQ,zaR,zaS,zaT,zaU,zaV,zaW,zaX,zaY,zaZ,za0,za1,za2,za3,za4,za5,za6,za7,za8,za9,zba,zbb,zbc,zbd,zbe,zbf,zbg,zbh,zbi,zbj,zbk,zbl,zbm,zbn,zbo,zbp,zbq,zbr,zbs,zbt,zbu,zbv,zbw,zbx,zby,zbz,zbA,zbB,zbC,zbD,zbE,zbF,zbG,zbH,zbI,zbJ,zbK,zbL,zbM,zbN,zbO,zbP,zbQ,zbR,zbS,zbT,zbU,zbV,zbW,zbX,zbY,zbZ,zb0,zb1,zb2,zb3,zb4,zb5,zb6,zb7,zb8,zb9,zca,zcb,eq_self,zcc,zcd,zce,zcf,zcg,zch,zci,zcj,zck,zcl,zcm,List.getElem?_cons_succ,List.getElem?_cons_zero,List.set_cons_succ,List.set_cons_zero,List.map_cons,List.map_nil,List.length_cons,List.length_nil,List.cons_append,List.nil_append,List.append_nil,List.isEmpty_cons,List.isEmpty_nil,if_true,if_false,ite_true,ite_false,Bool.not_true,Bool.not_false,Bool.not_not,decide_true,true_and,and_true,false_and,and_false,Bool.false_eq_true,reduceCtorEq,decide_true,decide_false,ite_self,forall_const,Nat.zero_add,Nat.reduceAdd,Nat.reduceLeDiff,Nat.reduceLT,Nat.reduceEqDiff,Nat.reduceSub,Nat.reduceMul,Nat.reduceBEq,Int.reduceLT,Int.reduceLE,Int.reduceEq,Int.reduceNe,Int.reduceAdd,Int.reduceMul,Int.reduceSub,Int.reduceNeg,Int.reducePow,Int.reduceBEq,Int.reduceToNat,Int.reduceGT,Int.reduceGE,String.reduceBEq,zcn,zco,List.replicate_succ,List.replicate_zero,zcp,zcq,zcr,zcs,zct,zcu,zcv,zcw,zcx,zcy,zcz,zcA,zcB,zcC,zcD,zcE,zcF,zcG,zcH,zcI,zcJ,zcK,zcL,zcM,zcN,zcO,zcP,zcQ,zcR,zcS,zcT,zcU,zcV,zcW,zcX,zcY,zcZ,zc0,zc1,zc2,zc3,zc4,zc5,zc6,zc7,zc8,zc9,zda,zdb,zdc,Bool.true_or,Bool.or_true,Bool.false_or,Bool.or_false,Bool.and_true,Bool.true_and,Bool.and_false,Bool.false_and,Int.cast_ofNat_Int,Int.natCast_zero,Int.natCast_one,beq_self_eq_true,zdd,zde,zdf,zdg,zdh,wipeR]
    refine wdraw_ok v1 (by omega) (by omega) (by omega) fun d S2 d0 d1 l2 v2 => ?_
    by_cases c : d < 3
    · simp -dsimp (disch := first | assumption | omega) only [zaa,zab,zac,zad,zae,zaf,zag,zah,zai,zaj,zak,zal,zam,zan,zao,zap,zaq,zar,zas,zat,zau,zav,zaw,zax,zay,zaz,zaA,zaB,zaC,zaD,zaE,zaF,zaG,zaH,zaI,zaJ,zaK,zaL,zaM,zaN,zaO,zaP,zaQ,zaR,zaS,zaT,zaU,zaV,zaW,zaX,zaY,zaZ,za0,za1,za2,za3,za4,za5,za6,za7,za8,za9,zba,zbb,zbc,zbd,zbe,zbf,zbg,zbh,zbi,zbj,zbk,zbl,zbm,zbn,zbo,zbp,zbq,zbr,zbs,zbt,zbu,zbv,zbw,zbx,zby,zbz,zbA,zbB,zbC,zbD,zbE,zbF,zbG,zbH,zbI,zbJ,zbK,zbL,zbM,zbN,zbO,zbP,zbQ,zbR,zbS,zbT,zbU,zbV,zbW,zbX,zbY,zbZ,zb0,zb1,zb2,zb3,zb4,zb5,zb6,zb7,zb8,zb9,zca,zcb,eq_self,zcc,zcd,zce,zcf,zcg,zch,zci,zcj,zck,zcl,zcm,List.getElem?_cons_succ,List.getElem?_cons_zero,List.set_cons_succ,List.set_cons_zero,List.map_cons,List.map_nil,List.length_cons,List.length_nil,List.cons_append,List.nil_append,List.append_nil,List.isEmpty_cons,List.isEmpty_nil,if_true,if_false,ite_true,ite_false,Bool.not_true,Bool.not_false,Bool.not_not,decide_true,true_and,and_true,false_and,and_false,Bool.false_eq_true,reduceCtorEq,decide_true,decide_false,ite_self,forall_const,Nat.zero_add,Nat.reduceAdd,Nat.reduceLeDiff,Nat.reduceLT,Nat.reduceEqDiff,Nat.reduceSub,Nat.reduceMul,Nat.reduceBEq,Int.reduceLT,Int.reduceLE,Int.reduceEq,Int.reduceNe,Int.reduceAdd,Int.reduceMul,Int.reduceSub,Int.reduceNeg,Int.reducePow,Int.reduceBEq,Int.reduceToNat,Int.reduceGT,Int.reduceGE,String.reduceBEq,zcn,zco,List.replicate_succ,List.replicate_zero,zcp,zcq,zcr,zcs,zct,zcu,zcv,zcw,zcx,zcy,zcz,zcA,zcB,zcC,zcD,zcE,zcF,zcG,zcH,zcI,zcJ,zcK,zcL,zcM,zcN,zcO,zcP,zcQ,zcR,zcS,zcT,zcU,zcV,zcW,zcX,zcY,zcZ,zc0,zc1,zc2,zc3,zc4,zc5,zc6,zc7,zc8,zc9,zda,zdb,zdc,Bool.true_or,Bool.or_true,Bool.false_or,Bool.or_false,Bool.and_true,Bool.true_and,Bool.and_false,Bool.false_and,Int.cast_ofNat_Int,Int.natCast_zero,Int.natCast_one,beq_self_eq_true,zdd,zde,zdf,zdg,zdh,wipeR,c]
      exact ⟨by omega, hq _ _ hz (by omega) (v2.le (by omega))⟩
    · simp -dsimp (disch := first | assumption | omega) only [zaa,zab,zac,zad,zae,zaf,zag,zah,zai,zaj,zak,zal,zam,zan,zao,zap,zaq,zar,zas,zat,zau,zav,zaw,zax,zay,zaz,zaA,zaB,zaC,zaD,zaE,zaF,zaG,zaH,zaI,zaJ,zaK,zaL,zaM,zaN,zaO,zaP,zaQ,zaR,zaS,zaT,zaU,zaV,zaW,zaX,zaY,zaZ,za0,za1,za2,za3,za4,za5,za6,za7,za8,za9,zba,zbb,zbc,zbd,zbe,zbf,zbg,zbh,zbi,zbj,zbk,zbl,zbm,zbn,zbo,zbp,zbq,zbr,zbs,zbt,zbu,zbv,zbw,zbx,zby,zbz,zbA,zbB,zbC,zbD,zbE,zbF,zbG,zbH,zbI,zbJ,zbK,zbL,zbM,zbN,zbO,zbP,zbQ,zbR,zbS,zbT,zbU,zbV,zbW,zbX,zbY,zbZ,zb0,zb1,zb2,zb3,zb4,zb5,zb6,zb7,zb8,zb9,zca,zcb,eq_self,zcc,zcd,zce,zcf,zcg,zch,zci,zcj,zck,zcl,zcm,List.getElem?_cons_succ,List.getElem?_cons_zero,List.set_cons_succ,List.set_cons_zero,List.map_cons,List.map_nil,List.length_cons,List.length_nil,List.cons_append,List.nil_append,List.append_nil,List.isEmpty_cons,List.isEmpty_nil,if_true,if_false,ite_true,ite_false,Bool.not_true,Bool.not_false,Bool.not_not,decide_true,true_and,and_true,false_and,and_false,Bool.false_eq_true,reduceCtorEq,decide_true,decide_false,ite_self,forall_const,Nat.zero_add,Nat.reduceAdd,Nat.reduceLeDiff,Nat.reduceLT,Nat.reduceEqDiff,Nat.reduceSub,Nat.reduceMul,Nat.reduceBEq,Int.reduceLT,Int.reduceLE,Int.reduceEq,Int.reduceNe,Int.reduceAdd,Int.reduceMul,Int.reduceSub,Int.reduceNeg,Int.reducePow,Int.reduceBEq,Int.reduceToNat,Int.reduceGT,Int.reduceGE,String.reduceBEq,zcn,zco,List.replicate_succ,List.replicate_zero,zcp,zcq,zcr,zcs,zct,zcu,zcv,zcw,zcx,zcy,zcz,zcA,zcB,zcC,zcD,zcE,zcF,zcG,zcH,zcI,zcJ,zcK,zcL,zcM,zcN,zcO,zcP,zcQ,zcR,zcS,zcT,zcU,zcV,zcW,zcX,zcY,zcZ,zc0,zc1,zc2,zc3,zc4,zc5,zc6,zc7,zc8,zc9,zda,zdb,zdc,Bool.true_or,Bool.or_true,Bool.false_or,Bool.or_false,Bool.and_true,Bool.true_and,Bool.and_false,Bool.false_and,Int.cast_ofNat_Int,Int.natCast_zero,Int.natCast_one,beq_self_eq_true,zdd,zde,zdf,zdg,zdh,wipeR,c,t_neg]
      exact ⟨by omega, hq _ _ inferInstance (by omega) (v2.le (by omega))⟩
  simp -dsimp (disch := first | assumption | omega) only [zaa,zab,zac,zad,zae,zaf,zag,zah,zai,zaj,zak,zal,zam,zan,zao,zap,zaq,zar,zas,zat,zau,zav,zaw,zax,zay,zaz,zaA,zaB,zaC,zaD,zaE,zaF,zaG,zaH,zaI,zaJ,zaK,zaL,zaM,zaN,zaO,zaP,zaQ,zaR,zaS,zaT,zaU,zaV,zaW,zaX,zaY,zaZ,za0,za1,za2,za3,za4,za5,za6,za7,za8,za9,zba,zbb,zbc,zbd,zbe,zbf,zbg,zbh,zbi,zbj,zbk,zbl,zbm,zbn,zbp,zbq,zbr,zbs,zbt,zbu,zbv,zbw,zbx,zby,zbz,zbA,zbB,zbC,zbD,zbE,zbF,zbG,zbH,zbI,zbJ,zbK,zbL,zbM,zbN,zbO,zbP,zbQ,zbR,zbS,zbT,zbU,zbV,zbW,zbX,zbY,zbZ,zb0,zb1,zb2,zb3,zb4,zb5,zb6,zb7,zb8,zb9,zca,zcb,eq_self,zcc,zcd,zce,zcf,zcg,zch,zci,zcj,zck,zcl,zcm,List.getElem?_cons_succ,List.getElem?_cons_zero,List.set_cons_succ,List.set_cons_zero,List.map_cons,List.map_nil,List.length_cons,List.length_nil,List.cons_append,List.nil_append,List.append_nil,List.isEmpty_cons,List.isEmpty_nil,if_true,if_false,ite_true,ite_false,Bool.not_true,Bool.not_false,Bool.not_not,decide_true,true_and,and_true,false_and,and_false,Bool.false_eq_true,reduceCtorEq,decide_true,decide_false,ite_self,forall_const,Nat.zero_add,Nat.reduceAdd,Nat.reduceLeDiff,Nat.reduceLT,Nat.reduceEqDiff,Nat.reduceSub,Nat.reduceMul,Nat.reduceBEq,Int.reduceLT,Int.reduceLE,Int.reduceEq,Int.reduceNe,Int.reduceAdd,Int.reduceMul,Int.reduceSub,Int.reduceNeg,Int.reducePow,Int.reduceBEq,Int.reduceToNat,Int.reduceGT,Int.reduceGE,String.reduceBEq,zcn,zco,List.replicate_succ,List.replicate_zero,zcp,zcq,zcr,zcs,zct,zcu,zcv,zcw,zcx,zcy,zcz,zcA,zcB,zcC,zcD,zcE,zcF,zcG,zcH,zcI,zcJ,zcK,zcL,zcM,zcN,zcO,zcP,zcQ,zcR,zcS,zcT,zcU,zcV,zcW,zcX,zcY,zcZ,zc0,zc1,zc2,zc3,zc4,zc5,zc6,zc7,zc8,zc9,zda,zdb,zdc,Bool.true_or,Bool.or_true,Bool.false_or,Bool.or_false,Bool.and_true,Bool.true_and,Bool.and_false,Bool.false_and,Int.cast_ofNat_Int,Int.natCast_zero,Int.natCast_one,beq_self_eq_true,zdd,wipeR]
  refine wpick_ok h (by omega) (by simp) (by simp) fun p hp S1 l1 v1 => ?_
  have hp2 : (∃ q, Sf p q) ∨ p = .non := by
    simp only [List.mem_cons, List.not_mem_nil, or_false] at hp
    rcases hp with rfl | rfl | rfl | rfl | rfl | rfl | rfl
    · exact .inl ⟨_, .mk' (by decide +kernel) (by decide +kernel) (by decide) (by decide) (by decide)⟩
    · exact .inl ⟨_, .mk' (by decide +kernel) (by decide +kernel) (by decide) (by decide) (by decide)⟩
    · exact .inl ⟨_, .mk' (by decide +kernel) (by decide +kernel) (by decide) (by decide) (by decide)⟩
    · exact .inl ⟨_, .mk' (by decide +kernel) (by decide +kernel) (by decide) (by decide) (by decide)⟩
    · exact .inr rfl
    · exact .inr rfl
    · exact .inr rfl
  rcases hp2 with ⟨q, rfl, hz⟩ | rfl
  · simp -dsimp only [zbs, zbk, List.set_cons_succ, List.set_cons_zero, zbt, zan, zav, zal, zad, zae, List.getElem?_cons_succ, List.getElem?_cons_zero, zaS, zaW, zao, Bool.false_eq_true, if_false, ite_false, reduceCtorEq]
    exact fin q S1 hz l1 (v1.le (by omega))
  · simp -dsimp only [zbs, zbk, List.set_cons_succ, List.set_cons_zero, zbt, zan, zav, zal, zad, zae, List.getElem?_cons_succ, List.getElem?_cons_zero, zaS, zaU, zao, if_true, ite_true, zaj, zag, zaf]
    refine wsize_ok v1 (by omega) fun q S2 q0 hz l2 v2 => ?_
    simp -dsimp only [zbs, List.set_cons_succ, List.set_cons_zero]
    exact fin q S2 hz (by omega) (v2.le (by omega))
end
end Pm.L


namespace Pm.L
open PySem PySem.Spec L2 Pm
section
variable {S : Sto} {Q : PV → Sto → Prop}
theorem wjet_ok {n m : Nat} (h : Vat m S n) (hm : m ≤ 999997000) (hq : ∀ s b S', Sz s 5 → Sz b 5 → 0 < b → S'.length = S.length → Vat (m + 10) S' n → Q (jv s b) S') : Ok (m__law_jet [.loc n] S) Q := by
  refine Ok_defM rfl ?_
  simp -dsimp (disch := first | assumption | omega) only [zaa,zab,zac,zad,zae,zaf,zag,zah,zai,zaj,zak,zal,zam,zan,zao,zap,zaq,zar,zas,zat,zau,zav,zaw,zax,zay,zaz,zaA,zaB,zaC,zaD,zaE,zaF,zaG,zaH,zaI,zaJ,zaK,zaL,zaM,zaN,zaO,zaP,zaQ,zaR,zaS,zaT,zaU,zaV,zaW,zaX,zaY,zaZ,za0,za1,za2,za3,za4,za5,za6,za7,za8,za9,zba,zbb,zbc,zbd,zbe,zbf,zbg,zbh,zbi,zbj,zbk,zbl,zbm,zbn,zbp,zbq,zbr,zbs,zbt,zbu,zbv,zbw,zbx,zby,zbz,zbA,zbB,zbC,zbD,zbE,zbF,zbG,zbH,zbI,zbJ,zbK,zbL,zbM,zbN,zbO,zbP,zbQ,zbR,zbS,zbT,zbU,zbV,zbW,zbX,zbY,zbZ,zb0,zb1,zb2,zb3,zb4,zb5,zb6,zb7,zb8,zb9,zca,zcb,eq_self,zcc,zcd,zce,zcf,zcg,zch,zci,zcj,zck,zcl,zcm,List.getElem?_cons_succ,List.getElem?_cons_zero,List.set_cons_succ,List.set_cons_zero,List.map_cons,List.map_nil,List.length_cons,List.length_nil,List.cons_append,List.nil_append,List.append_nil,List.isEmpty_cons,List.isEmpty_nil,if_true,if_false,ite_true,ite_false,Bool.not_true,Bool.not_false,Bool.not_not,decide_true,true_and,and_true,false_and,and_false,Bool.false_eq_true,reduceCtorEq,decide_true,decide_false,ite_self,forall_const,Nat.zero_add,Nat.reduceAdd,Nat.reduceLeDiff,Nat.reduceLT,Nat.reduceEqDiff,Nat.reduceSub,Nat.reduceMul,Nat.reduceBEq,Int.reduceLT,Int.reduceLE,Int.reduceEq,Int.reduceNe,Int.reduceAdd,Int.reduceMul,Int.reduceSub,Int.reduceNeg,Int.reducePow,Int.reduceBEq,Int.reduceToNat,Int.reduceGT,Int.reduceGE,String.reduceBEq,zcn,zco,List.replicate_succ,List.replicate_zero,zcp,zcq,zcr,zcs,zct,zcu,zcv,zcw,zcx,zcy,zcz,zcA,zcB,zcC,zcD,zcE,zcF,zcG,zcH,zcI,zcJ,zcK,zcL,zcM,zcN,zcO,zcP,zcQ,zcR,zcS,zcT,zcU,zcV,zcW,zcX,zcY,zcZ,zc0,zc1,zc2,zc3,zc4,zc5,zc6,zc7,zc8,zc9,zda,zdb,zdc,Bool.true_or,Bool.or_true,Bool.false_or,Bool.or_false,Bool.and_true,Bool.true_and,Bool.and_false,Bool.false_and,Int.cast_ofNat_Int,Int.natCast_zero,Int.natCast_one,beq_self_eq_true,zdd,wipeR]
  refine wdraw_ok h (by omega) (by omega) (by omega) fun d S1 d0 d1 l1 v1 => ?_
  by_cases c : d < 2
  · simp -dsimp (disch := first | assumption | omega) only [zaa,zab,zac,zad,zae,zaf,zag,zah,zai,zaj,zak,zal,zam,zan,zao,zap,zaq,zar,zas,zat,zau,zav,zaw,zax,zay,zaz,zaA,zaB,zaC,zaD,zaE,zaF,zaG,zaH,zaI,zaJ,zaK,zaL,zaM,zaN,zaO,zaP,zaQ,zaR,zaS,zaT,zaU,zaV,zaW,zaX,zaY,zaZ,za0,za1,za2,za3,za4,za5,za6,za7,za8,za9,zba,zbb,zbc,zbd,zbe,zbf,zbg,zbh,zbi,zbj,zbk,zbl,zbm,zbn,zbo,zbp,zbq,zbr,zbs,zbt,zbu,zbv,zbw,zbx,zby,zbz,zbA,zbB,zbC,zbD,zbE,zbF,zbG,zbH,zbI,zbJ,zbK,zbL,zbM,zbN,zbO,zbP,zbQ,zbR,zbS,zbT,zbU,zbV,zbW,zbX,zbY,zbZ,zb0,zb1,zb2,zb3,zb4,zb5,zb6,zb7,zb8,zb9,zca,zcb,eq_self,zcc,zcd,zce,zcf,zcg,zch,zci,zcj,zck,zcl,zcm,List.getElem?_cons_succ,List.getElem?_cons_zero,List.set_cons_succ,List.set_cons_zero,List.map_cons,List.map_nil,List.length_cons,List.length_nil,List.cons_append,List.nil_append,List.append_nil,List.isEmpty_cons,List.isEmpty_nil,if_true,if_false,ite_true,ite_false,Bool.not_true,Bool.not_false,Bool.not_not,decide_true,true_and,and_true,false_and,and_false,Bool.false_eq_true,reduceCtorEq,decide_true,decide_false,ite_self,forall_const,Nat.zero_add,Nat.reduceAdd,Nat.reduceLeDiff,Nat.reduceLT,Nat.reduceEqDiff,Nat.reduceSub,Nat.reduceMul,Nat.reduceBEq,Int.reduceLT,Int.reduceLE,Int.reduceEq,Int.reduceNe,Int.reduceAdd,Int.reduceMul,Int.reduceSub,Int.reduceNeg,Int.reducePow,Int.reduceBEq,Int.reduceToNat,Int.reduceGT,Int.reduceGE,String.reduceBEq,zcn,zco,List.replicate_succ,List.replicate_zero,zcp,zcq,zcr,zcs,zct,zcu,zcv,zcw,zcx,zcy,zcz,zcA,zcB,zcC,zcD,zcE,zcF,zcG,zcH,zcI,zcJ,zcK,zcL,zcM,zcN,zcO,zcP,zcQ,zcR,zcS,zcT,zcU,zcV,zcW,zcX,zcY,zcZ,zc0,zc1,zc2,zc3,zc4,zc5,zc6,zc7,zc8,zc9,zda,zdb,zdc,Bool.true_or,Bool.or_true,Bool.false_or,Bool.or_false,Bool.and_true,Bool.true_and,Bool.and_false,Bool.false_and,Int.cast_ofNat_Int,Int.natCast_zero,Int.natCast_one,beq_self_eq_true,zdd,zde,zdf,zdg,zdh,wipeR,c]
    refine wpick_ok v1 (by omega) (by simp) (by simp) fun p hp S2 l2 v2 => ?_
    obtain ⟨p1, p2, q, r, rfl, h1, h2, r0⟩ : ∃ p1 p2 q r, p = .tup [p1, p2] ∧ Sf p1 q ∧ Sf p2 r ∧ 0 < r := by
      simp only [List.mem_cons, List.not_mem_nil, or_false] at hp
      rcases hp with rfl | rfl | rfl | rfl | rfl
      all_goals exact ⟨_, _, _, _, rfl, .mk' (by decide +kernel) (by decide +kernel) (by decide) (by decide) (by decide), .mk' (by decide +kernel) (by decide +kernel) (by decide) (by decide) (by decide), by decide +kernel⟩
    obtain ⟨rfl, z1⟩ := h1
    obtain ⟨rfl, z2⟩ := h2
    try simp -dsimp (disch := first | assumption | omega) only [zaa,zab,zac,zad,zae,zaf,zag,zah,zai,zaj,zak,zal,zam,zan,zao,zap,zaq,zar,zas,zat,zau,zav,zaw,zax,zay,zaz,zaA,zaB,zaC,zaD,zaE,zaF,zaG,zaH,zaI,zaJ,zaK,zaL,zaM,zaN,zaO,zaP,zaQ,zaR,zaS,zaT,zaU,zaV,zaW,zaX,zaY,zaZ,za0,za1,za2,za3,za4,za5,za6,za7,za8,za9,zba,zbb,zbc,zbd,zbe,zbf,zbg,zbh,zbi,zbj,zbk,zbl,zbm,zbn,zbo,zbp,zbq,zbr,zbs,zbt,zbu,zbv,zbw,zbx,zby,zbz,zbA,zbB,zbC,zbD,zbE,zbF,zbG,zbH,zbI,zbJ,zbK,zbL,zbM,zbN,zbO,zbP,zbQ,zbR,zbS,zbT,zbU,zbV,zbW,zbX,zbY,zbZ,zb0,zb1,zb2,zb3,zb4,zb5,zb6,zb7,zb8,zb9,zca,zcb,eq_self,zcc,zcd,zce,zcf,zcg,zch,zci,zcj,zck,zcl,zcm,List.getElem?_cons_succ,List.getElem?_cons_zero,List.set_cons_succ,List.set_cons_zero,List.map_cons,List.map_nil,List.length_cons,List.length_nil,List.cons_append,List.nil_append,List.append_nil,List.isEmpty_cons,List.isEmpty_nil,if_true,if_false,ite_true,ite_false,Bool.not_true,Bool.not_false,Bool.not_not,decide_true,true_and,and_true,false_and,and_false,Bool.false_eq_true,reduceCtorEq,decide_true,decide_false,ite_self,forall_const,Nat.zero_add,Nat.reduceAdd,Nat.reduceLeDiff,Nat.reduceLT,Nat.reduceEqDiff,Nat.reduceSub,Nat.reduceMul,Nat.reduceBEq,Int.reduceLT,Int.reduceLE,Int.reduceEq,Int.reduceNe,Int.reduceAdd,Int.reduceMul,Int.reduceSub,Int.reduceNeg,Int.reducePow,Int.reduceBEq,Int.reduceToNat,Int.reduceGT,Int.reduceGE,String.reduceBEq,zcn,zco,List.replicate_succ,List.replicate_zero,zcp,zcq,zcr,zcs,zct,zcu,zcv,zcw,zcx,zcy,zcz,zcA,zcB,zcC,zcD,zcE,zcF,zcG,zcH,zcI,zcJ,zcK,zcL,zcM,zcN,zcO,zcP,zcQ,zcR,zcS,zcT,zcU,zcV,zcW,zcX,zcY,zcZ,zc0,zc1,zc2,zc3,zc4,zc5,zc6,zc7,zc8,zc9,zda,zdb,zdc,Bool.true_or,Bool.or_true,Bool.false_or,Bool.or_false,Bool.and_true,Bool.true_and,Bool.and_false,Bool.false_and,Int.cast_ofNat_Int,Int.natCast_zero,Int.natCast_one,beq_self_eq_true,zdd,zde,zdf,zdg,zdh,wipeR]
    exact ⟨by omega, hq _ _ _ z1 z2 r0 (by omega) (v2.le (by omega))⟩
  · simp -dsimp (disch := first | assumption | omega) only [zaa,zab,zac,zad,zae,zaf,zag,zah,zai,zaj,zak,zal,zam,zan,zao,zap,zaq,zar,zas,zat,zau,zav,zaw,zax,zay,zaz,zaA,zaB,zaC,zaD,zaE,zaF,zaG,zaH,zaI,zaJ,zaK,zaL,zaM,zaN,zaO,zaP,zaQ,zaR,zaS,zaT,zaU,zaV,zaW,zaX,zaY,zaZ,za0,za1,za2,za3,za4,za5,za6,za7,za8,za9,zba,zbb,zbc,zbd,zbe,zbf,zbg,zbh,zbi,zbj,zbk,zbl,zbm,zbn,zbo,zbp,zbq,zbr,zbs,zbt,zbu,zbv,zbw,zbx,zby,zbz,zbA,zbB,zbC,zbD,zbE,zbF,zbG,zbH,zbI,zbJ,zbK,zbL,zbM,zbN,zbO,zbP,zbQ,zbR,zbS,zbT,zbU,zbV,zbW,zbX,zbY,zbZ,zb0,zb1,zb2,zb3,zb4,zb5,zb6,zb7,zb8,zb9,zca,zcb,eq_self,zcc,zcd,zce,zcf,zcg,zch,zci,zcj,zck,zcl,zcm,List.getElem?_cons_succ,List.getElem?_cons_zero,List.set_cons_succ,List.set_cons_zero,List.map_cons,List.map_nil,List.length_cons,List.length_nil,List.cons_append,List.nil_append,List.append_nil,List.isEmpty_cons,List.isEmpty_nil,if_true,if_false,ite_true,ite_false,Bool.not_true,Bool.not_false,Bool.not_not,decide_true,true_and,and_true,false_and,and_false,Bool.false_eq_true,reduceCtorEq,decide_true,decide_false,ite_self,forall_const,Nat.zero_add,Nat.reduceAdd,Nat.reduceLeDiff,Nat.reduceLT,Nat.reduceEqDiff,Nat.reduceSub,Nat.reduceMul,Nat.reduceBEq,Int.reduceLT,Int.reduceLE,Int.reduceEq,Int.reduceNe,Int.reduceAdd,Int.reduceMul,Int.reduceSub,Int.reduceNeg,Int.reducePow,Int.reduceBEq,Int.reduceToNat,Int.reduceGT,Int.reduceGE,String.reduceBEq,zcn,zco,List.replicate_succ,List.replicate_zero,zcp,zcq,zcr,zcs,zct,zcu,zcv,zcw,zcx,zcy,zcz,zcA,zcB,zcC,zcD,zcE,zcF,zcG,zcH,zcI,zcJ,zcK,zcL,zcM,zcN,zcO,zcP,zcQ,zcR,zcS,zcT,zcU,zcV,zcW,zcX,zcY,zcZ,zc0,zc1,zc2,zc3,zc4,zc5,zc6,zc7,zc8,zc9,zda,zdb,zdc,Bool.true_or,Bool.or_true,Bool.false_or,Bool.or_false,Bool.and_true,Bool.true_and,Bool.and_false,Bool.false_and,Int.cast_ofNat_Int,Int.natCast_zero,Int.natCast_one,beq_self_eq_true,zdd,zde,zdf,zdg,zdh,wipeR,c]
    refine wpart_ok v1 (by omega) fun s S2 z1 l2 v2 => ?_
    try simp -dsimp (disch := first | assumption | omega) only [zaa,zab,zac,zad,zae,zaf,zag,zah,zai,zaj,zak,zal,zam,zan,zao,zap,zaq,zar,zas,zat,zau,zav,zaw,zax,zay,zaz,zaA,zaB,zaC,zaD,zaE,zaF,zaG,zaH,zaI,zaJ,zaK,zaL,zaM,zaN,zaO,zaP,zaQ,zaR,zaS,zaT,zaU,zaV,zaW,zaX,zaY,zaZ,za0,za1,za2,za3,za4,za5,za6,za7,za8,za9,zba,zbb,zbc,zbd,zbe,zbf,zbg,zbh,zbi,zbj,zbk,zbl,zbm,zbn,zbo,zbp,zbq,zbr,zbs,zbt,zbu,zbv,zbw,zbx,zby,zbz,zbA,zbB,zbC,zbD,zbE,zbF,zbG,zbH,zbI,zbJ,zbK,zbL,zbM,zbN,zbO,zbP,zbQ,zbR,zbS,zbT,zbU,zbV,zbW,zbX,zbY,zbZ,zb0,zb1,zb2,zb3,zb4,zb5,zb6,zb7,zb8,zb9,zca,zcb,eq_self,zcc,zcd,zce,zcf,zcg,zch,zci,zcj,zck,zcl,zcm,List.getElem?_cons_succ,List.getElem?_cons_zero,List.set_cons_succ,List.set_cons_zero,List.map_cons,List.map_nil,List.length_cons,List.length_nil,List.cons_append,List.nil_append,List.append_nil,List.isEmpty_cons,List.isEmpty_nil,if_true,if_false,ite_true,ite_false,Bool.not_true,Bool.not_false,Bool.not_not,decide_true,true_and,and_true,false_and,and_false,Bool.false_eq_true,reduceCtorEq,decide_true,decide_false,ite_self,forall_const,Nat.zero_add,Nat.reduceAdd,Nat.reduceLeDiff,Nat.reduceLT,Nat.reduceEqDiff,Nat.reduceSub,Nat.reduceMul,Nat.reduceBEq,Int.reduceLT,Int.reduceLE,Int.reduceEq,Int.reduceNe,Int.reduceAdd,Int.reduceMul,Int.reduceSub,Int.reduceNeg,Int.reducePow,Int.reduceBEq,Int.reduceToNat,Int.reduceGT,Int.reduceGE,String.reduceBEq,zcn,zco,List.replicate_succ,List.replicate_zero,zcp,zcq,zcr,zcs,zct,zcu,zcv,zcw,zcx,zcy,zcz,zcA,zcB,zcC,zcD,zcE,zcF,zcG,zcH,zcI,zcJ,zcK,zcL,zcM,zcN,zcO,zcP,zcQ,zcR,zcS,zcT,zcU,zcV,zcW,zcX,zcY,zcZ,zc0,zc1,zc2,zc3,zc4,zc5,zc6,zc7,zc8,zc9,zda,zdb,zdc,Bool.true_or,Bool.or_true,Bool.false_or,Bool.or_false,Bool.and_true,Bool.true_and,Bool.and_false,Bool.false_and,Int.cast_ofNat_Int,Int.natCast_zero,Int.natCast_one,beq_self_eq_true,zdd,zde,zdf,zdg,zdh,wipeR]
    refine wsize_ok v2 (by omega) fun b S3 b0 z2 l3 v3 => ?_
    try simp -dsimp (disch := first | assumption | omega) only [zaa,zab,zac,zad,zae,zaf,zag,zah,zai,zaj,zak,zal,zam,zan,zao,zap,zaq,zar,zas,zat,zau,zav,zaw,zax,zay,zaz,zaA,zaB,zaC,zaD,zaE,zaF,zaG,zaH,zaI,zaJ,zaK,zaL,zaM,zaN,zaO,zaP,zaQ,zaR,zaS,zaT,zaU,zaV,zaW,zaX,zaY,zaZ,za0,za1,za2,za3,za4,za5,za6,za7,za8,za9,zba,zbb,zbc,zbd,zbe,zbf,zbg,zbh,zbi,zbj,zbk,zbl,zbm,zbn,zbo,zbp,zbq,zbr,zbs,zbt,zbu,zbv,zbw,zbx,zby,zbz,zbA,zbB,zbC,zbD,zbE,zbF,zbG,zbH,zbI,zbJ,zbK,zbL,zbM,zbN,zbO,zbP,zbQ,zbR,zbS,zbT,zbU,zbV,zbW,zbX,zbY,zbZ,zb0,zb1,zb2,zb3,zb4,zb5,zb6,zb7,zb8,zb9,zca,zcb,eq_self,zcc,zcd,zce,zcf,zcg,zch,zci,zcj,zck,zcl,zcm,List.getElem?_cons_succ,List.getElem?_cons_zero,List.set_cons_succ,List.set_cons_zero,List.map_cons,List.map_nil,List.length_cons,List.length_nil,List.cons_append,List.nil_append,List.append_nil,List.isEmpty_cons,List.isEmpty_nil,if_true,if_false,ite_true,ite_false,Bool.not_true,Bool.not_false,Bool.not_not,decide_true,true_and,and_true,false_and,and_false,Bool.false_eq_true,reduceCtorEq,decide_true,decide_false,ite_self,forall_const,Nat.zero_add,Nat.reduceAdd,Nat.reduceLeDiff,Nat.reduceLT,Nat.reduceEqDiff,Nat.reduceSub,Nat.reduceMul,Nat.reduceBEq,Int.reduceLT,Int.reduceLE,Int.reduceEq,Int.reduceNe,Int.reduceAdd,Int.reduceMul,Int.reduceSub,Int.reduceNeg,Int.reducePow,Int.reduceBEq,Int.reduceToNat,Int.reduceGT,Int.reduceGE,String.reduceBEq,zcn,zco,List.replicate_succ,List.replicate_zero,zcp,zcq,zcr,zcs,zct,zcu,zcv,zcw,zcx,zcy,zcz,zcA,zcB,zcC,zcD,zcE,zcF,zcG,zcH,zcI,zcJ,zcK,zcL,zcM,zcN,zcO,zcP,zcQ,zcR,zcS,zcT,zcU,zcV,zcW,zcX,zcY,zcZ,zc0,zc1,zc2,zc3,zc4,zc5,zc6,zc7,zc8,zc9,zda,zdb,zdc,Bool.true_or,Bool.or_true,Bool.false_or,Bool.or_false,Bool.and_true,Bool.true_and,Bool.and_false,Bool.false_and,Int.cast_ofNat_Int,Int.natCast_zero,Int.natCast_one,beq_self_eq_true,zdd,zde,zdf,zdg,zdh,wipeR]
    exact ⟨by omega, hq _ _ _ z1 z2 b0 (by omega) (v3.le (by omega))⟩
theorem well_ok {ns : List Int} {lap : Nat} (hn : ns.length ≤ 63) (hl : lap < 1000) (hI : ∀ (i : Nat) e, S[i]? = some e → IntE e) (hq : ∀ S', S'.length = S.length + 1 → Vat 0 S' S.length → Q (.loc S.length) S') : Ok (m__law_well [.frz (ns.map PV.int), .int lap] S) Q := by
  have mkI : ∀ a b c : Int, IntS (S ++ [.lst [.int a, .int b, .int c]]) S.length := by
    intro a b c i e hi he
    by_cases h : i < S.length
    · rw [List.getElem?_append_left h] at he
      exact hI i e he
    · have : i = S.length := by omega
      subst this
      simp at he
      exact ⟨[a, b, c], he.symm⟩
  refine Ok_defK rfl ?_
  have l1 : (9241 : Int).natAbs.log2 + (lap : Int).natAbs.log2 < 1000000 := lg (k := 14) (l := 14) (by omega) (by omega) (by omega)
  obtain ⟨z63, e63, _⟩ := cut_ints ns none (some 63)
  have f2 : ∀ z : Int, z.fmod 1000000123 = z % 1000000123 := fun z => Int.fmod_eq_emod_of_nonneg _ (by omega)
  have f1 : ∀ z : Int, z.fmod 536870909 = z % 536870909 := fun z => Int.fmod_eq_emod_of_nonneg _ (by omega)
  have f3 : ∀ z : Int, z.fmod 59999999 = z % 59999999 := fun z => Int.fmod_eq_emod_of_nonneg _ (by omega)
  have p1 : (0 : Int) ≤ 18 ∧ (18 : Int) ≤ 1000000 ∧ (10 : Int).natAbs < 2 ^ 64 := by decide
  simp -dsimp (disch := first | assumption | omega) only [zaa,zab,zac,zad,zae,zaf,zag,zah,zai,zaj,zak,zal,zam,zan,zao,zap,zaq,zar,zas,zat,zau,zav,zaw,zax,zay,zaz,zaA,zaB,zaC,zaD,zaE,zaF,zaG,zaH,zaI,zaJ,zaK,zaL,zaM,zaN,zaO,zaP,zaQ,zaR,zaS,zaT,zaU,zaV,zaW,zaX,zaY,zaZ,za0,za1,za2,za3,za4,za5,za6,za7,za8,za9,zba,zbb,zbc,zbd,zbe,zbf,zbg,zbh,zbi,zbj,zbk,zbl,zbm,zbn,zbo,zbp,zbq,zbr,zbs,zbt,zbu,zbv,zbw,zbx,zby,zbz,zbA,zbB,zbC,zbD,zbE,zbF,zbG,zbH,zbI,zbJ,zbK,zbL,zbM,zbN,zbO,zbP,zbQ,zbR,zbS,zbT,zbU,zbV,zbW,zbX,zbY,zbZ,zb0,zb1,zb2,zb3,zb4,zb5,zb6,zb7,zb8,zb9,zca,zcb,eq_self,zcc,zcd,zce,zcf,zcg,zch,zci,zcj,zck,zcl,zcm,List.getElem?_cons_succ,List.getElem?_cons_zero,List.set_cons_succ,List.set_cons_zero,List.map_cons,List.map_nil,List.length_cons,List.length_nil,List.cons_append,List.nil_append,List.append_nil,List.isEmpty_cons,List.isEmpty_nil,if_true,if_false,ite_true,ite_false,Bool.not_true,Bool.not_false,Bool.not_not,decide_true,true_and,and_true,false_and,and_false,Bool.false_eq_true,reduceCtorEq,decide_true,decide_false,ite_self,forall_const,Nat.zero_add,Nat.reduceAdd,Nat.reduceLeDiff,Nat.reduceLT,Nat.reduceEqDiff,Nat.reduceSub,Nat.reduceMul,Nat.reduceBEq,Int.reduceLT,Int.reduceLE,Int.reduceEq,Int.reduceNe,Int.reduceAdd,Int.reduceMul,Int.reduceSub,Int.reduceNeg,Int.reducePow,Int.reduceBEq,Int.reduceToNat,Int.reduceGT,Int.reduceGE,String.reduceBEq,zcn,zco,List.replicate_succ,List.replicate_zero,zcp,zcq,zcr,zcs,zct,zcu,zcv,zcw,zcx,zcy,zcz,zcA,zcB,zcC,zcD,zcE,zcF,zcG,zcH,zcI,zcJ,zcK,zcL,zcM,zcN,zcO,zcP,zcQ,zcR,zcS,zcT,zcU,zcV,zcW,zcX,zcY,zcZ,zc0,zc1,zc2,zc3,zc4,zc5,zc6,zc7,zc8,zc9,zda,zdb,zdc,Bool.true_or,Bool.or_true,Bool.false_or,Bool.or_false,Bool.and_true,Bool.true_and,Bool.and_false,Bool.false_and,Int.cast_ofNat_Int,Int.natCast_zero,Int.natCast_one,beq_self_eq_true,zdd,wipeR,l1,e63]
  refine Ok_for (fun i ρ S' => S = S' ∧ ∃ (ch : Int) (x : Option PV), ρ = [some (.frz (ns.map PV.int)), some (.int lap), some (.int ch), x, none, none] ∧ 0 ≤ ch ∧ ch < 2147483489) ⟨rfl, 700001 + 9241 * lap, none, rfl, by omega, by omega⟩ ?_ ?_
  · rintro i p ρ S' hp ⟨rfl, ch, x, rfl, c0, c1⟩
    obtain ⟨z, rfl⟩ : ∃ z, p = .int z := by
      have := List.mem_of_getElem? hp
      simp at this
      obtain ⟨z, _, rfl⟩ := this
      exact ⟨z, rfl⟩
    have l3 : ch.natAbs.log2 + (44497 : Int).natAbs.log2 < 1000000 := lg (k := 31) (l := 31) (by omega) (by omega) (by omega)
    simp -dsimp (disch := first | assumption | omega) only [zaa,zab,zac,zad,zae,zaf,zag,zah,zai,zaj,zak,zal,zam,zan,zao,zap,zaq,zar,zas,zat,zau,zav,zaw,zax,zay,zaz,zaA,zaB,zaC,zaD,zaE,zaF,zaG,zaH,zaI,zaJ,zaK,zaL,zaM,zaN,zaO,zaP,zaQ,zaR,zaS,zaT,zaU,zaV,zaW,zaX,zaY,zaZ,za0,za1,za2,za3,za4,za5,za6,za7,za8,za9,zba,zbb,zbc,zbd,zbe,zbf,zbg,zbh,zbi,zbj,zbk,zbl,zbm,zbn,zbo,zbp,zbq,zbr,zbs,zbt,zbu,zbv,zbw,zbx,zby,zbz,zbA,zbB,zbC,zbD,zbE,zbF,zbG,zbH,zbI,zbJ,zbK,zbL,zbM,zbN,zbO,zbP,zbQ,zbR,zbS,zbT,zbU,zbV,zbW,zbX,zbY,zbZ,zb0,zb1,zb2,zb3,zb4,zb5,zb6,zb7,zb8,zb9,zca,zcb,eq_self,zcc,zcd,zce,zcf,zcg,zch,zci,zcj,zck,zcl,zcm,List.getElem?_cons_succ,List.getElem?_cons_zero,List.set_cons_succ,List.set_cons_zero,List.map_cons,List.map_nil,List.length_cons,List.length_nil,List.cons_append,List.nil_append,List.append_nil,List.isEmpty_cons,List.isEmpty_nil,if_true,if_false,ite_true,ite_false,Bool.not_true,Bool.not_false,Bool.not_not,decide_true,true_and,and_true,false_and,and_false,Bool.false_eq_true,reduceCtorEq,decide_true,decide_false,ite_self,forall_const,Nat.zero_add,Nat.reduceAdd,Nat.reduceLeDiff,Nat.reduceLT,Nat.reduceEqDiff,Nat.reduceSub,Nat.reduceMul,Nat.reduceBEq,Int.reduceLT,Int.reduceLE,Int.reduceEq,Int.reduceNe,Int.reduceAdd,Int.reduceMul,Int.reduceSub,Int.reduceNeg,Int.reducePow,Int.reduceBEq,Int.reduceToNat,Int.reduceGT,Int.reduceGE,String.reduceBEq,zcn,zco,List.replicate_succ,List.replicate_zero,zcp,zcq,zcr,zcs,zct,zcu,zcv,zcw,zcx,zcy,zcz,zcA,zcB,zcC,zcD,zcE,zcF,zcG,zcH,zcI,zcJ,zcK,zcL,zcM,zcN,zcO,zcP,zcQ,zcR,zcS,zcT,zcU,zcV,zcW,zcX,zcY,zcZ,zc0,zc1,zc2,zc3,zc4,zc5,zc6,zc7,zc8,zc9,zda,zdb,zdc,Bool.true_or,Bool.or_true,Bool.false_or,Bool.or_false,Bool.and_true,Bool.true_and,Bool.and_false,Bool.false_and,Int.cast_ofNat_Int,Int.natCast_zero,Int.natCast_one,beq_self_eq_true,zdd,zde,zdf,zdg,zdh,wipeR,f1,f2,l3,ne_eq,not_false_eq_true]
    refine ⟨_, _, rfl, Int.emod_nonneg _ (by omega), ?_⟩
    have := Int.emod_lt_of_pos (ch * 44497 + z % 536870909 + 61) (show (0 : Int) < 1000000123 by omega)
    omega
  · rintro ρ S' ⟨rfl, ch, x, rfl, c0, c1⟩
    have rest : ∀ own : Int, Ok (sSeq (sAsg (dIf (bCmp (dOp geM (dAp absM (dCons (dVar 4) dNil)) (dOp powM (dC (.int 10)) (dC (.int 18))))) (dAp absM (dCons (dVar 4) dNil)) (dC (.int 0))) (gName 5))
    (sRet (dAp mkLoc (dCons (dVar 5) (dCons (dOp modM (dAp intM (dCons (dOp addM (dVar 2) (dOp mulM (dC (.int 13)) (dOp modM (dAp intM (dCons (dVar 4) dNil)) (dC (.int 59999999))))) dNil)) (dC (.int 1000000123))) (dCons (dC (.int 0)) dNil))))) [some (.frz (ns.map PV.int)), some (.int lap), some (.int ch), x, some (.int own), none] S) fun r S1 => match r with
      | .nx _ => Q .non S1
      | .rt p => Q p S1
      | _ => False := by
      intro own
      have y0 := Int.emod_nonneg own (show (59999999 : Int) ≠ 0 by omega)
      have y1 := Int.emod_lt_of_pos own (show (0 : Int) < 59999999 by omega)
      generalize hy : own % 59999999 = y at y0 y1
      have l5 : (13 : Int).natAbs.log2 + y.natAbs.log2 < 1000000 := lg (k := 31) (l := 31) (by omega) (by omega) (by omega)
      have x0 := Int.emod_nonneg (ch + 13 * y) (show (1000000123 : Int) ≠ 0 by omega)
      have x1 := Int.emod_lt_of_pos (ch + 13 * y) (show (0 : Int) < 1000000123 by omega)
      by_cases h2 : (1000000000000000000 : Int) ≤ own.natAbs
      · simp -dsimp (disch := first | assumption | omega) only [zaa,zab,zac,zad,zae,zaf,zag,zah,zai,zaj,zak,zal,zam,zan,zao,zap,zaq,zar,zas,zat,zau,zav,zaw,zax,zay,zaz,zaA,zaB,zaC,zaD,zaE,zaF,zaG,zaH,zaI,zaJ,zaK,zaL,zaM,zaN,zaO,zaP,zaQ,zaR,zaS,zaT,zaU,zaV,zaW,zaX,zaY,zaZ,za0,za1,za2,za3,za4,za5,za6,za7,za8,za9,zba,zbb,zbc,zbd,zbe,zbf,zbg,zbh,zbi,zbj,zbk,zbl,zbm,zbn,zbo,zbp,zbq,zbr,zbs,zbt,zbu,zbv,zbw,zbx,zby,zbz,zbA,zbB,zbC,zbD,zbE,zbF,zbG,zbH,zbI,zbJ,zbK,zbL,zbM,zbN,zbO,zbP,zbQ,zbR,zbS,zbT,zbU,zbV,zbW,zbX,zbY,zbZ,zb0,zb1,zb2,zb3,zb4,zb5,zb6,zb7,zb8,zb9,zca,zcb,eq_self,zcc,zcd,zce,zcf,zcg,zch,zci,zcj,zck,zcl,zcm,List.getElem?_cons_succ,List.getElem?_cons_zero,List.set_cons_succ,List.set_cons_zero,List.map_cons,List.map_nil,List.length_cons,List.length_nil,List.cons_append,List.nil_append,List.append_nil,List.isEmpty_cons,List.isEmpty_nil,if_true,if_false,ite_true,ite_false,Bool.not_true,Bool.not_false,Bool.not_not,decide_true,true_and,and_true,false_and,and_false,Bool.false_eq_true,reduceCtorEq,decide_true,decide_false,ite_self,forall_const,Nat.zero_add,Nat.reduceAdd,Nat.reduceLeDiff,Nat.reduceLT,Nat.reduceEqDiff,Nat.reduceSub,Nat.reduceMul,Nat.reduceBEq,Int.reduceLT,Int.reduceLE,Int.reduceEq,Int.reduceNe,Int.reduceAdd,Int.reduceMul,Int.reduceSub,Int.reduceNeg,Int.reducePow,Int.reduceBEq,Int.reduceToNat,Int.reduceGT,Int.reduceGE,String.reduceBEq,zcn,zco,List.replicate_succ,List.replicate_zero,zcp,zcq,zcr,zcs,zct,zcu,zcv,zcw,zcx,zcy,zcz,zcA,zcB,zcC,zcD,zcE,zcF,zcG,zcH,zcI,zcJ,zcK,zcL,zcM,zcN,zcO,zcP,zcQ,zcR,zcS,zcT,zcU,zcV,zcW,zcX,zcY,zcZ,zc0,zc1,zc2,zc3,zc4,zc5,zc6,zc7,zc8,zc9,zda,zdb,zdc,Bool.true_or,Bool.or_true,Bool.false_or,Bool.or_false,Bool.and_true,Bool.true_and,Bool.and_false,Bool.false_and,Int.cast_ofNat_Int,Int.natCast_zero,Int.natCast_one,beq_self_eq_true,zdd,zde,zdf,zdg,zdh,wipeR,abs_nat,h2,p1,f2,f3,hy,l5,ne_eq,not_false_eq_true]
        exact hq _ (by simp) ⟨⟨own.natAbs, _, 0, by simp, by omega, x0, by omega, by omega, by omega⟩, mkI _ _ _⟩
      · simp -dsimp (disch := first | assumption | omega) only [zaa,zab,zac,zad,zae,zaf,zag,zah,zai,zaj,zak,zal,zam,zan,zao,zap,zaq,zar,zas,zat,zau,zav,zaw,zax,zay,zaz,zaA,zaB,zaC,zaD,zaE,zaF,zaG,zaH,zaI,zaJ,zaK,zaL,zaM,zaN,zaO,zaP,zaQ,zaR,zaS,zaT,zaU,zaV,zaW,zaX,zaY,zaZ,za0,za1,za2,za3,za4,za5,za6,za7,za8,za9,zba,zbb,zbc,zbd,zbe,zbf,zbg,zbh,zbi,zbj,zbk,zbl,zbm,zbn,zbo,zbp,zbq,zbr,zbs,zbt,zbu,zbv,zbw,zbx,zby,zbz,zbA,zbB,zbC,zbD,zbE,zbF,zbG,zbH,zbI,zbJ,zbK,zbL,zbM,zbN,zbO,zbP,zbQ,zbR,zbS,zbT,zbU,zbV,zbW,zbX,zbY,zbZ,zb0,zb1,zb2,zb3,zb4,zb5,zb6,zb7,zb8,zb9,zca,zcb,eq_self,zcc,zcd,zce,zcf,zcg,zch,zci,zcj,zck,zcl,zcm,List.getElem?_cons_succ,List.getElem?_cons_zero,List.set_cons_succ,List.set_cons_zero,List.map_cons,List.map_nil,List.length_cons,List.length_nil,List.cons_append,List.nil_append,List.append_nil,List.isEmpty_cons,List.isEmpty_nil,if_true,if_false,ite_true,ite_false,Bool.not_true,Bool.not_false,Bool.not_not,decide_true,true_and,and_true,false_and,and_false,Bool.false_eq_true,reduceCtorEq,decide_true,decide_false,ite_self,forall_const,Nat.zero_add,Nat.reduceAdd,Nat.reduceLeDiff,Nat.reduceLT,Nat.reduceEqDiff,Nat.reduceSub,Nat.reduceMul,Nat.reduceBEq,Int.reduceLT,Int.reduceLE,Int.reduceEq,Int.reduceNe,Int.reduceAdd,Int.reduceMul,Int.reduceSub,Int.reduceNeg,Int.reducePow,Int.reduceBEq,Int.reduceToNat,Int.reduceGT,Int.reduceGE,String.reduceBEq,zcn,zco,List.replicate_succ,List.replicate_zero,zcp,zcq,zcr,zcs,zct,zcu,zcv,zcw,zcx,zcy,zcz,zcA,zcB,zcC,zcD,zcE,zcF,zcG,zcH,zcI,zcJ,zcK,zcL,zcM,zcN,zcO,zcP,zcQ,zcR,zcS,zcT,zcU,zcV,zcW,zcX,zcY,zcZ,zc0,zc1,zc2,zc3,zc4,zc5,zc6,zc7,zc8,zc9,zda,zdb,zdc,Bool.true_or,Bool.or_true,Bool.false_or,Bool.or_false,Bool.and_true,Bool.true_and,Bool.and_false,Bool.false_and,Int.cast_ofNat_Int,Int.natCast_zero,Int.natCast_one,beq_self_eq_true,zdd,zde,zdf,zdg,zdh,wipeR,abs_nat,h2,p1,f2,f3,hy,l5,ne_eq,not_false_eq_true]
        exact hq _ (by simp) ⟨⟨0, _, 0, by simp, by omega, x0, by omega, by omega, by omega⟩, mkI _ _ _⟩
    show Ok (sSeq _ _ _ _) _
    rw [zbk]
    refine Ok.mono (Q := fun r S1 => S = S1 ∧ ∃ own, r = .nx [some (.frz (ns.map PV.int)), some (.int lap), some (.int ch), x, some (.int own), none]) ?_ ?_
    · by_cases hlt : (lap : Int) < ns.length
      · have hd : lap < ns.length := by omega
        have ea : atI (ns.map PV.int) (lap : Int) = some (.int ns[lap]) := by
          unfold atI ixN
          rw [if_pos (by omega), if_pos (by simpa using hlt)]
          simp [hd]
        simp -dsimp (disch := first | assumption | omega) only [zaa,zab,zac,zad,zae,zaf,zag,zah,zai,zaj,zak,zal,zam,zan,zao,zap,zaq,zar,zas,zat,zau,zav,zaw,zax,zay,zaz,zaA,zaB,zaC,zaD,zaE,zaF,zaG,zaH,zaI,zaJ,zaK,zaL,zaM,zaN,zaO,zaP,zaQ,zaR,zaS,zaT,zaU,zaV,zaW,zaX,zaY,zaZ,za0,za1,za2,za3,za4,za5,za6,za7,za8,za9,zba,zbb,zbc,zbd,zbe,zbf,zbg,zbh,zbi,zbj,zbk,zbl,zbm,zbn,zbo,zbp,zbq,zbr,zbs,zbt,zbu,zbv,zbw,zbx,zby,zbz,zbA,zbB,zbC,zbD,zbE,zbF,zbG,zbH,zbI,zbJ,zbK,zbL,zbM,zbN,zbO,zbP,zbQ,zbR,zbS,zbT,zbU,zbV,zbW,zbX,zbY,zbZ,zb0,zb1,zb2,zb3,zb4,zb5,zb6,zb7,zb8,zb9,zca,zcb,eq_self,zcc,zcd,zce,zcf,zcg,zch,zci,zcj,zck,zcl,zcm,List.getElem?_cons_succ,List.getElem?_cons_zero,List.set_cons_succ,List.set_cons_zero,List.map_cons,List.map_nil,List.length_cons,List.length_nil,List.cons_append,List.nil_append,List.append_nil,List.isEmpty_cons,List.isEmpty_nil,if_true,if_false,ite_true,ite_false,Bool.not_true,Bool.not_false,Bool.not_not,decide_true,true_and,and_true,false_and,and_false,Bool.false_eq_true,reduceCtorEq,decide_true,decide_false,ite_self,forall_const,Nat.zero_add,Nat.reduceAdd,Nat.reduceLeDiff,Nat.reduceLT,Nat.reduceEqDiff,Nat.reduceSub,Nat.reduceMul,Nat.reduceBEq,Int.reduceLT,Int.reduceLE,Int.reduceEq,Int.reduceNe,Int.reduceAdd,Int.reduceMul,Int.reduceSub,Int.reduceNeg,Int.reducePow,Int.reduceBEq,Int.reduceToNat,Int.reduceGT,Int.reduceGE,String.reduceBEq,zcn,zco,List.replicate_succ,List.replicate_zero,zcp,zcq,zcr,zcs,zct,zcu,zcv,zcw,zcx,zcy,zcz,zcA,zcB,zcC,zcD,zcE,zcF,zcG,zcH,zcI,zcJ,zcK,zcL,zcM,zcN,zcO,zcP,zcQ,zcR,zcS,zcT,zcU,zcV,zcW,zcX,zcY,zcZ,zc0,zc1,zc2,zc3,zc4,zc5,zc6,zc7,zc8,zc9,zda,zdb,zdc,Bool.true_or,Bool.or_true,Bool.false_or,Bool.or_false,Bool.and_true,Bool.true_and,Bool.and_false,Bool.false_and,Int.cast_ofNat_Int,Int.natCast_zero,Int.natCast_one,beq_self_eq_true,zdd,zde,zdf,zdg,zdh,wipeR,hlt,List.length_map,ea]
        exact ⟨_, rfl⟩
      · simp -dsimp (disch := first | assumption | omega) only [zaa,zab,zac,zad,zae,zaf,zag,zah,zai,zaj,zak,zal,zam,zan,zao,zap,zaq,zar,zas,zat,zau,zav,zaw,zax,zay,zaz,zaA,zaB,zaC,zaD,zaE,zaF,zaG,zaH,zaI,zaJ,zaK,zaL,zaM,zaN,zaO,zaP,zaQ,zaR,zaS,zaT,zaU,zaV,zaW,zaX,zaY,zaZ,za0,za1,za2,za3,za4,za5,za6,za7,za8,za9,zba,zbb,zbc,zbd,zbe,zbf,zbg,zbh,zbi,zbj,zbk,zbl,zbm,zbn,zbo,zbp,zbq,zbr,zbs,zbt,zbu,zbv,zbw,zbx,zby,zbz,zbA,zbB,zbC,zbD,zbE,zbF,zbG,zbH,zbI,zbJ,zbK,zbL,zbM,zbN,zbO,zbP,zbQ,zbR,zbS,zbT,zbU,zbV,zbW,zbX,zbY,zbZ,zb0,zb1,zb2,zb3,zb4,zb5,zb6,zb7,zb8,zb9,zca,zcb,eq_self,zcc,zcd,zce,zcf,zcg,zch,zci,zcj,zck,zcl,zcm,List.getElem?_cons_succ,List.getElem?_cons_zero,List.set_cons_succ,List.set_cons_zero,List.map_cons,List.map_nil,List.length_cons,List.length_nil,List.cons_append,List.nil_append,List.append_nil,List.isEmpty_cons,List.isEmpty_nil,if_true,if_false,ite_true,ite_false,Bool.not_true,Bool.not_false,Bool.not_not,decide_true,true_and,and_true,false_and,and_false,Bool.false_eq_true,reduceCtorEq,decide_true,decide_false,ite_self,forall_const,Nat.zero_add,Nat.reduceAdd,Nat.reduceLeDiff,Nat.reduceLT,Nat.reduceEqDiff,Nat.reduceSub,Nat.reduceMul,Nat.reduceBEq,Int.reduceLT,Int.reduceLE,Int.reduceEq,Int.reduceNe,Int.reduceAdd,Int.reduceMul,Int.reduceSub,Int.reduceNeg,Int.reducePow,Int.reduceBEq,Int.reduceToNat,Int.reduceGT,Int.reduceGE,String.reduceBEq,zcn,zco,List.replicate_succ,List.replicate_zero,zcp,zcq,zcr,zcs,zct,zcu,zcv,zcw,zcx,zcy,zcz,zcA,zcB,zcC,zcD,zcE,zcF,zcG,zcH,zcI,zcJ,zcK,zcL,zcM,zcN,zcO,zcP,zcQ,zcR,zcS,zcT,zcU,zcV,zcW,zcX,zcY,zcZ,zc0,zc1,zc2,zc3,zc4,zc5,zc6,zc7,zc8,zc9,zda,zdb,zdc,Bool.true_or,Bool.or_true,Bool.false_or,Bool.or_false,Bool.and_true,Bool.true_and,Bool.and_false,Bool.false_and,Int.cast_ofNat_Int,Int.natCast_zero,Int.natCast_one,beq_self_eq_true,zdd,zde,zdf,zdg,zdh,wipeR,hlt,List.length_map]
        exact ⟨_, rfl⟩
    · rintro r S1 ⟨rfl, own, rfl⟩
      exact rest own
end
end Pm.L


namespace Pm.L
open PySem PySem.Spec L2 Pm
/-! shares between two jets -/
def SH (f l lo hi : Rat) : Option (Rat × Rat) :=
  if 0 ≤ f ∧ 0 ≤ l then some (lo, hi) else if f < 0 ∧ l < 0 then none
  else if f < 0 then (if hi < (if lo < f / (f - l) then f / (f - l) else lo) then none else some (if lo < f / (f - l) then f / (f - l) else lo, hi))
  else (if (if f / (f - l) < hi then f / (f - l) else hi) < lo then none else some (lo, if f / (f - l) < hi then f / (f - l) else hi))
def shV : Option (Rat × Rat) → PV
  | none => .non
  | some (a, b) => .tup [rv a, rv b]
def WT (f l : Rat) : Option (Rat × Rat) := if f = l then (if f = 0 then some (0, 1) else none) else if f / (f - l) < 0 ∨ 1 < f / (f - l) then none else some (f / (f - l), f / (f - l))
section
variable {f l t d : Rat}
theorem rtri (a b : Rat) : a < b ∨ a = b ∨ b < a := by grind
theorem q_lt0 (hd : d ≠ 0) : (f / d < 0) ↔ (0 < f ∧ d < 0) ∨ (f < 0 ∧ 0 < d) := by
  rcases rtri d 0 with h | h | h
  · have e : f / d = -(f * (-d)⁻¹) := by grind
    have hi : 0 < (-d)⁻¹ := Rat.inv_pos.mpr (by grind)
    rw [e]
    constructor
    · intro z
      have : 0 < f * (-d)⁻¹ := by grind
      exact .inl ⟨(Rat.mul_pos_iff_of_pos_right hi).mp this, h⟩
    · rintro (⟨a, b⟩ | ⟨a, b⟩)
      · have := Rat.mul_pos a hi
        grind
      · grind
  · exact absurd h hd
  · have hi : 0 < d⁻¹ := Rat.inv_pos.mpr h
    rw [Rat.div_def]
    constructor
    · intro z
      refine .inr ⟨?_, h⟩
      have : 0 < -f * d⁻¹ := by grind
      have := (Rat.mul_pos_iff_of_pos_right hi).mp this
      grind
    · rintro (⟨a, b⟩ | ⟨a, b⟩)
      · grind
      · have := Rat.mul_pos (show 0 < -f by grind) hi
        grind
theorem q_gt1 (hd : d ≠ 0) : (1 < f / d) ↔ (d < f ∧ 0 < d) ∨ (f < d ∧ d < 0) := by
  have e : 1 < f / d ↔ (d - f) / d < 0 := by
    have : (d - f) / d = 1 - f / d := by grind
    rw [this]
    constructor <;> intro z <;> grind
  rw [e, q_lt0 hd]
  constructor
  · rintro (⟨a, b⟩ | ⟨a, b⟩)
    · exact .inr ⟨by grind, b⟩
    · exact .inl ⟨by grind, b⟩
  · rintro (⟨a, b⟩ | ⟨a, b⟩)
    · exact .inr ⟨by grind, b⟩
    · exact .inl ⟨by grind, b⟩
theorem wt_back : WT l f = (WT f l).map fun p => (1 - p.2, 1 - p.1) := by
  unfold WT
  by_cases h : f = l
  · subst h
    by_cases h0 : f = 0
    · simp only [h0, if_true, Option.map_some]
      rw [show (1 : Rat) - 1 = 0 by grind, show (1 : Rat) - 0 = 1 by grind]
    · simp only [h0, if_true, if_false, Option.map_none]
  · have hd : f - l ≠ 0 := by grind
    have e : l / (l - f) = 1 - f / (f - l) := by grind
    rw [if_neg h, if_neg (fun z => h z.symm), e]
    by_cases c : f / (f - l) < 0 ∨ 1 < f / (f - l)
    · have c2 : 1 - f / (f - l) < 0 ∨ 1 < 1 - f / (f - l) := by
        rcases c with c | c
        · exact .inr (by grind)
        · exact .inl (by grind)
      rw [if_pos c, if_pos c2]
      rfl
    · have c2 : ¬ (1 - f / (f - l) < 0 ∨ 1 < 1 - f / (f - l)) := by
        intro z
        apply c
        rcases z with z | z
        · exact .inr (by grind)
        · exact .inl (by grind)
      rw [if_neg c, if_neg c2]
      rfl
theorem sh_wt : ((SH f l 0 1).bind fun p => SH (-f) (-l) p.1 p.2) = WT f l := by
  unfold WT
  by_cases h : f = l
  · subst h
    rcases rtri f 0 with c | c | c
    · rw [if_pos rfl, if_neg (by grind)]
      unfold SH
      rw [if_neg (by grind), if_pos (by grind)]
      rfl
    · subst c
      rfl
    · rw [if_pos rfl, if_neg (by grind)]
      have : SH f f 0 1 = some (0, 1) := by unfold SH; rw [if_pos (by grind)]
      rw [this, Option.bind_some]
      unfold SH
      rw [if_neg (by grind), if_pos (by grind)]
  · have hd : f - l ≠ 0 := by grind
    have g0 := q_lt0 (f := f) hd
    have g1 := q_gt1 (f := f) hd
    have e2 : -f / (-f - -l) = f / (f - l) := by grind
    rw [if_neg h]
    by_cases cf : f < 0
    · by_cases cl : l < 0
      · have : SH f l 0 1 = none := by unfold SH; rw [if_neg (by grind), if_pos (by grind)]
        rw [this, Option.bind_none]
        rw [if_pos]
        by_cases z : l < f
        · exact .inl (g0.mpr (.inr ⟨cf, by grind⟩))
        · exact .inr (g1.mpr (.inr ⟨by grind, by grind⟩))
      · have z0 : ¬ f / (f - l) < 0 := fun z => by rcases g0.mp z with ⟨a, b⟩ | ⟨a, b⟩ <;> grind
        have z1 : ¬ 1 < f / (f - l) := fun z => by rcases g1.mp z with ⟨a, b⟩ | ⟨a, b⟩ <;> grind
        have nz : f / (f - l) ≠ 0 := by
          intro z
          have : f = 0 := by grind
          grind
        generalize hr : f / (f - l) = r at *
        have z2 : 0 < r := by grind
        have a1 : SH f l 0 1 = some (r, 1) := by
          unfold SH
          rw [if_neg (by grind), if_neg (by grind), if_pos cf, hr, if_pos z2, if_neg z1]
        rw [a1, Option.bind_some, if_neg (by grind)]
        unfold SH
        simp only [e2]
        by_cases c0 : l = 0
        · have : r = 1 := by rw [← hr, c0]; grind
          rw [if_pos (by grind), this]
        · have r1 : r < 1 := by
            have : r ≠ 1 := by intro z; rw [z] at hr; grind
            grind
          rw [if_neg (by grind), if_neg (by grind), if_neg (by grind), if_pos r1, if_neg (by grind)]
    · by_cases cl : l < 0
      · have z0 : ¬ f / (f - l) < 0 := fun z => by rcases g0.mp z with ⟨a, b⟩ | ⟨a, b⟩ <;> grind
        have z1 : ¬ 1 < f / (f - l) := fun z => by rcases g1.mp z with ⟨a, b⟩ | ⟨a, b⟩ <;> grind
        have n1 : f / (f - l) ≠ 1 := by
          intro z
          have : l = 0 := by grind
          grind
        generalize hr : f / (f - l) = r at *
        have r1 : r < 1 := by grind
        have a1 : SH f l 0 1 = some (0, r) := by
          unfold SH
          rw [if_neg (by grind), if_neg (by grind), if_neg cf, hr, if_pos r1, if_neg z0]
        rw [a1, Option.bind_some, if_neg (by grind)]
        unfold SH
        simp only [e2]
        by_cases c0 : f = 0
        · have : r = 0 := by rw [← hr, c0]; grind
          rw [if_pos (by grind), this]
        · have r0 : 0 < r := by
            have : r ≠ 0 := by intro z; rw [z] at hr; grind
            grind
          rw [if_neg (by grind), if_neg (by grind), if_pos (by grind), if_pos r0, if_neg (by grind)]
      · have a1 : SH f l 0 1 = some (0, 1) := by unfold SH; rw [if_pos (by grind)]
        rw [a1, Option.bind_some]
        unfold SH
        simp only [e2]
        by_cases c0 : f = 0
        · subst c0
          have : (0 : Rat) / (0 - l) = 0 := by grind
          rw [this, if_neg (by grind), if_neg (by grind), if_neg (by grind), if_neg (by grind), if_pos (by decide), if_neg (by decide)]
        · by_cases c1 : l = 0
          · subst c1
            have : f / (f - 0) = 1 := by grind
            rw [this, if_neg (by grind), if_neg (by grind), if_pos (by grind), if_neg (by grind), if_pos (by decide), if_neg (by decide)]
          · rw [if_neg (by grind), if_pos (by grind), if_pos]
            by_cases z : l < f
            · exact .inr (g1.mpr (.inl ⟨by grind, by grind⟩))
            · exact .inl (g0.mpr (.inl ⟨by grind, by grind⟩))
end
end Pm.L


namespace Pm.L
open PySem PySem.Spec L2 Pm
section
variable {S : Sto} {Q : PV → Sto → Prop}
theorem Ok_zip_tup {xs ys : List PV} {S : Sto} {Q : Src → Sto → Prop} : Ok (zipA [.tup xs, .tup ys] S) Q = Q ⟨zipF xs ys, fun _ => True⟩ S := rfl
theorem p_is_lower {a b : Rat} {k l : Nat} [hs : Sz a k] [hz : Sz b l] (hk : k + l ≤ 8000) : Ok (m_is_lower [rv a, rv b] S) Q = Q (.bl (decide (a < b))) S := by
  have e : m_is_lower [rv a, rv b] S = .ok (.bl (decide (a < b))) S := by
    refine Ok.eq (Ok_defM rfl ?_)
    have n1 : a.num.natAbs.log2 + (b.den : Int).natAbs.log2 < 1000000 := lg hs.n hz.d (by omega)
    have n2 : b.num.natAbs.log2 + (a.den : Int).natAbs.log2 < 1000000 := lg hz.n hs.d (by omega)
    simp -dsimp (disch := first | assumption | omega) only [zaa,zab,zac,zad,zae,zaf,zag,zah,zai,zaj,zak,zal,zam,zan,zao,zap,zaq,zar,zas,zat,zau,zav,zaw,zax,zay,zaz,zaA,zaB,zaC,zaD,zaE,zaF,zaG,zaH,zaI,zaJ,zaK,zaL,zaM,zaN,zaO,zaP,zaQ,zaR,zaS,zaT,zaU,zaV,zaW,zaX,zaY,zaZ,za0,za1,za2,za3,za4,za5,za6,za7,za8,za9,zba,zbb,zbc,zbd,zbe,zbf,zbg,zbh,zbi,zbj,zbk,zbl,zbm,zbn,zbo,zbp,zbq,zbr,zbs,zbt,zbu,zbv,zbw,zbx,zby,zbz,zbA,zbB,zbC,zbD,zbE,zbF,zbG,zbH,zbI,zbJ,zbK,zbL,zbM,zbN,zbO,zbP,zbQ,zbR,zbS,zbT,zbU,zbV,zbW,zbX,zbY,zbZ,zb0,zb1,zb2,zb3,zb4,zb5,zb6,zb7,zb8,zb9,zca,zcb,eq_self,zcc,zcd,zce,zcf,zcg,zch,zci,zcj,zck,zcl,zcm,List.getElem?_cons_succ,List.getElem?_cons_zero,List.set_cons_succ,List.set_cons_zero,List.map_cons,List.map_nil,List.length_cons,List.length_nil,List.cons_append,List.nil_append,List.append_nil,List.isEmpty_cons,List.isEmpty_nil,if_true,if_false,ite_true,ite_false,Bool.not_true,Bool.not_false,Bool.not_not,decide_true,true_and,and_true,false_and,and_false,Bool.false_eq_true,reduceCtorEq,decide_true,decide_false,ite_self,forall_const,Nat.zero_add,Nat.reduceAdd,Nat.reduceLeDiff,Nat.reduceLT,Nat.reduceEqDiff,Nat.reduceSub,Nat.reduceMul,Nat.reduceBEq,Int.reduceLT,Int.reduceLE,Int.reduceEq,Int.reduceNe,Int.reduceAdd,Int.reduceMul,Int.reduceSub,Int.reduceNeg,Int.reducePow,Int.reduceBEq,Int.reduceToNat,Int.reduceGT,Int.reduceGE,String.reduceBEq,zcn,zco,List.replicate_succ,List.replicate_zero,zcp,zcq,zcr,zcs,zct,zcu,zcv,zcw,zcx,zcy,zcz,zcA,zcB,zcC,zcD,zcE,zcF,zcG,zcH,zcI,zcJ,zcK,zcL,zcM,zcN,zcO,zcP,zcQ,zcR,zcS,zcT,zcU,zcV,zcW,zcX,zcY,zcZ,zc0,zc1,zc2,zc3,zc4,zc5,zc6,zc7,zc8,zc9,zda,zdb,zdc,Bool.true_or,Bool.or_true,Bool.false_or,Bool.or_false,Bool.and_true,Bool.true_and,Bool.and_false,Bool.false_and,Int.cast_ofNat_Int,Int.natCast_zero,Int.natCast_one,beq_self_eq_true,zdd,zde,zdf,zdg,zdh,wipeR,n1,n2]
    simp only [Rat.lt_iff]
  rw [e, zaa]
theorem p_back {a : Rat} : Ok (m_ratio_back [rv a] S) Q = Q (rv (-a)) S := by
  have e : m_ratio_back [rv a] S = .ok (rv (-a)) S := by
    refine Ok.eq (Ok_defM rfl ?_)
    simp -dsimp (disch := first | assumption | omega) only [zaa,zab,zac,zad,zae,zaf,zag,zah,zai,zaj,zak,zal,zam,zan,zao,zap,zaq,zar,zas,zat,zau,zav,zaw,zax,zay,zaz,zaA,zaB,zaC,zaD,zaE,zaF,zaG,zaH,zaI,zaJ,zaK,zaL,zaM,zaN,zaO,zaP,zaQ,zaR,zaS,zaT,zaU,zaV,zaW,zaX,zaY,zaZ,za0,za1,za2,za3,za4,za5,za6,za7,za8,za9,zba,zbb,zbc,zbd,zbe,zbf,zbg,zbh,zbi,zbj,zbk,zbl,zbm,zbn,zbo,zbp,zbq,zbr,zbs,zbt,zbu,zbv,zbw,zbx,zby,zbz,zbA,zbB,zbC,zbD,zbE,zbF,zbG,zbH,zbI,zbJ,zbK,zbL,zbM,zbN,zbO,zbP,zbQ,zbR,zbS,zbT,zbU,zbV,zbW,zbX,zbY,zbZ,zb0,zb1,zb2,zb3,zb4,zb5,zb6,zb7,zb8,zb9,zca,zcb,eq_self,zcc,zcd,zce,zcf,zcg,zch,zci,zcj,zck,zcl,zcm,List.getElem?_cons_succ,List.getElem?_cons_zero,List.set_cons_succ,List.set_cons_zero,List.map_cons,List.map_nil,List.length_cons,List.length_nil,List.cons_append,List.nil_append,List.append_nil,List.isEmpty_cons,List.isEmpty_nil,if_true,if_false,ite_true,ite_false,Bool.not_true,Bool.not_false,Bool.not_not,decide_true,true_and,and_true,false_and,and_false,Bool.false_eq_true,reduceCtorEq,decide_true,decide_false,ite_self,forall_const,Nat.zero_add,Nat.reduceAdd,Nat.reduceLeDiff,Nat.reduceLT,Nat.reduceEqDiff,Nat.reduceSub,Nat.reduceMul,Nat.reduceBEq,Int.reduceLT,Int.reduceLE,Int.reduceEq,Int.reduceNe,Int.reduceAdd,Int.reduceMul,Int.reduceSub,Int.reduceNeg,Int.reducePow,Int.reduceBEq,Int.reduceToNat,Int.reduceGT,Int.reduceGE,String.reduceBEq,zcn,zco,List.replicate_succ,List.replicate_zero,zcp,zcq,zcr,zcs,zct,zcu,zcv,zcw,zcx,zcy,zcz,zcA,zcB,zcC,zcD,zcE,zcF,zcG,zcH,zcI,zcJ,zcK,zcL,zcM,zcN,zcO,zcP,zcQ,zcR,zcS,zcT,zcU,zcV,zcW,zcX,zcY,zcZ,zc0,zc1,zc2,zc3,zc4,zc5,zc6,zc7,zc8,zc9,zda,zdb,zdc,Bool.true_or,Bool.or_true,Bool.false_or,Bool.or_false,Bool.and_true,Bool.true_and,Bool.and_false,Bool.false_and,Int.cast_ofNat_Int,Int.natCast_zero,Int.natCast_one,beq_self_eq_true,zdd,zde,zdf,zdg,zdh,wipeR]
    unfold rv
    rw [Rat.neg_num, Rat.neg_den]
  rw [e, zaa]
/-- the jet at a share of the way -/
abbrev bt (s b s2 b2 r : Rat) : PV := jv (s + r * (s2 - s)) (b + r * (b2 - b))
section
variable {s b s2 b2 r : Rat} {i : Nat} [h1 : Sz s 5] [h2 : Sz b 5] [h3 : Sz s2 5] [h4 : Sz b2 5] [h5 : Sz r i]
end
theorem nneg {q : Rat} (h : 0 ≤ q) : 0 ≤ q.num ∧ ¬ q.num < 0 := by
  have := Rat.num_nonneg.mpr h
  exact ⟨this, by omega⟩
theorem nlt {q : Rat} (h : q < 0) : ¬ 0 ≤ q.num ∧ q.num < 0 := by
  have : ¬ 0 ≤ q.num := fun z => by have := Rat.num_nonneg.mp z; grind
  exact ⟨this, by omega⟩
end
end Pm.L


namespace Pm.L
open PySem PySem.Spec L2 Pm
/-! surds -/
abbrev sv (p : Rat) (e : Int) (r : Rat) : PV := .tup [rv p, .int e, rv r]
def GS (e : Int) (r : Rat) : Prop := (e = 0 ∧ r = 0) ∨ ((e = 1 ∨ e = -1) ∧ 0 ≤ r ∧ sq? r = none)
def sqV (q : Rat) : PV := match sq? q with
  | some r => rv r
  | none => .non
def sF (p f q : Rat) : PV := match sq? (f * f * q) with
  | some r => sv (p + (if 0 < f then r else -r)) 0 0
  | none => sv p f.num.sign (f * f * q)
theorem sq_ge {f q : Rat} (h : 0 ≤ q) : 0 ≤ f * f * q := Rat.mul_nonneg (sq_nonneg f) h
theorem sz_root {q r : Rat} {k : Nat} (hq : Sz q k) (h0 : 0 ≤ q) (h : sq? q = some r) : Sz r k := by
  obtain ⟨e1, e2⟩ := rt_red h0 h
  constructor
  · rw [e1]
    have := rt_le q.num.toNat
    have h1 := hq.n
    simp only [Int.natAbs_natCast]
    omega
  · rw [e2]
    exact Nat.lt_of_le_of_lt (rt_le _) hq.d
theorem GS.nonneg {e : Int} {r : Rat} (h : GS e r) : 0 ≤ r := by
  rcases h with ⟨_, h⟩ | ⟨_, h, _⟩
  · rw [h]; decide
  · exact h
section
variable {S : Sto} {Q : PV → Sto → Prop}
theorem t_sq {q r : Rat} (h : 0 ≤ q) (e : sq? q = some r) : PV.tup [.int (rt q.num.toNat : Nat), .int (rt q.den : Nat)] = rv r := by
  obtain ⟨e1, e2⟩ := rt_red h e
  unfold rv
  rw [e1, e2]
theorem sq_test {q : Rat} (h : 0 ≤ q) : (rt q.num.toNat * rt q.num.toNat = q.num.toNat ∧ rt q.den * rt q.den = q.den) ↔ ((rt q.num.toNat : Int) * rt q.num.toNat = q.num ∧ (rt q.den : Int) * rt q.den = q.den) := by
  rw [← toNat_nonneg h, ← Int.natCast_mul, ← Int.natCast_mul]
  simp only [Int.toNat_natCast]
  omega
theorem sqV_if {q : Rat} (h : 0 ≤ q) : sqV q = if ((rt q.num.toNat : Int) * rt q.num.toNat = q.num ∧ (rt q.den : Int) * rt q.den = q.den) then PV.tup [.int (rt q.num.toNat : Nat), .int (rt q.den : Nat)] else .non := by
  have e : sq? q = if rt q.num.toNat * rt q.num.toNat = q.num.toNat ∧ rt q.den * rt q.den = q.den then some (Rat.divInt (rt q.num.toNat) (rt q.den)) else none := rfl
  unfold sqV
  by_cases c : rt q.num.toNat * rt q.num.toNat = q.num.toNat ∧ rt q.den * rt q.den = q.den
  · rw [if_pos ((sq_test h).mp c)]
    rw [if_pos c] at e
    rw [t_sq h e, e]
  · rw [if_neg fun k => c ((sq_test h).mpr k)]
    rw [if_neg c] at e
    rw [e]
theorem rt_log {n k : Nat} (h : n < 2 ^ k) : rt n < 2 ^ k := Nat.lt_of_le_of_lt (rt_le n) h
theorem o_square_root {q : Rat} {k : Nat} [hz : Sz q k] (h : 0 ≤ q) (hk : k ≤ 8000) : Ok (m_square_root [rv q] S) Q = Q (sqV q) S := by
  have n0 : 0 ≤ q.num := Rat.num_nonneg.mpr h
  have n1 : q.num.toNat < 2 ^ k := by have := hz.n; omega
  have l1 : q.num.toNat.log2 < 13000 := by have := log_le n1; omega
  have l2 : q.den.log2 < 13000 := by have := log_le hz.d; omega
  have d0 : (0 : Int) ≤ q.den := by omega
  have m1 : ((rt q.num.toNat : Nat) : Int).natAbs.log2 + ((rt q.num.toNat : Nat) : Int).natAbs.log2 < 1000000 := lg (k := k) (l := k) (by simpa using rt_log n1) (by simpa using rt_log n1) (by omega)
  have m2 : ((rt q.den : Nat) : Int).natAbs.log2 + ((rt q.den : Nat) : Int).natAbs.log2 < 1000000 := lg (k := k) (l := k) (by simpa using rt_log hz.d) (by simpa using rt_log hz.d) (by omega)
  have e : m_square_root [rv q] S = .ok (sqV q) S := by
    refine Ok.eq (Ok_defM rfl ?_)
    rw [sqV_if h]
    by_cases c1 : (rt q.num.toNat : Int) * rt q.num.toNat = q.num
    · by_cases c2 : (rt q.den : Int) * rt q.den = q.den
      · simp -dsimp (disch := first | assumption | omega) only [zaa,zab,zac,zad,zae,zaf,zag,zah,zai,zaj,zak,zal,zam,zan,zao,zap,zaq,zar,zas,zat,zau,zav,zaw,zax,zay,zaz,zaA,zaB,zaC,zaD,zaE,zaF,zaG,zaH,zaI,zaJ,zaK,zaL,zaM,zaN,zaO,zaP,zaQ,zaR,zaS,zaT,zaU,zaV,zaW,zaX,zaY,zaZ,za0,za1,za2,za3,za4,za5,za6,za7,za8,za9,zba,zbb,zbc,zbd,zbe,zbf,zbg,zbh,zbi,zbj,zbk,zbl,zbm,zbn,zbo,zbp,zbq,zbr,zbs,zbt,zbu,zbv,zbw,zbx,zby,zbz,zbA,zbB,zbC,zbD,zbE,zbF,zbG,zbH,zbI,zbJ,zbK,zbL,zbM,zbN,zbO,zbP,zbQ,zbR,zbS,zbT,zbU,zbV,zbW,zbX,zbY,zbZ,zb0,zb1,zb2,zb3,zb4,zb5,zb6,zb7,zb8,zb9,zca,zcb,eq_self,zcc,zcd,zce,zcf,zcg,zch,zci,zcj,zck,zcl,zcm,List.getElem?_cons_succ,List.getElem?_cons_zero,List.set_cons_succ,List.set_cons_zero,List.map_cons,List.map_nil,List.length_cons,List.length_nil,List.cons_append,List.nil_append,List.append_nil,List.isEmpty_cons,List.isEmpty_nil,if_true,if_false,ite_true,ite_false,Bool.not_true,Bool.not_false,Bool.not_not,decide_true,true_and,and_true,false_and,and_false,Bool.false_eq_true,reduceCtorEq,decide_true,decide_false,ite_self,forall_const,Nat.zero_add,Nat.reduceAdd,Nat.reduceLeDiff,Nat.reduceLT,Nat.reduceEqDiff,Nat.reduceSub,Nat.reduceMul,Nat.reduceBEq,Int.reduceLT,Int.reduceLE,Int.reduceEq,Int.reduceNe,Int.reduceAdd,Int.reduceMul,Int.reduceSub,Int.reduceNeg,Int.reducePow,Int.reduceBEq,Int.reduceToNat,Int.reduceGT,Int.reduceGE,String.reduceBEq,zcn,zco,List.replicate_succ,List.replicate_zero,zcp,zcq,zcr,zcs,zct,zcu,zcv,zcw,zcx,zcy,zcz,zcA,zcB,zcC,zcD,zcE,zcF,zcG,zcH,zcI,zcJ,zcK,zcL,zcM,zcN,zcO,zcP,zcQ,zcR,zcS,zcT,zcU,zcV,zcW,zcX,zcY,zcZ,zc0,zc1,zc2,zc3,zc4,zc5,zc6,zc7,zc8,zc9,zda,zdb,zdc,Bool.true_or,Bool.or_true,Bool.false_or,Bool.or_false,Bool.and_true,Bool.true_and,Bool.and_false,Bool.false_and,Int.cast_ofNat_Int,Int.natCast_zero,Int.natCast_one,beq_self_eq_true,zdd,zde,zdf,zdg,zdh,wipeR,Ok_isqrt,n0,l1,l2,d0,Int.toNat_natCast,m1,m2,c1,c2]
      · simp -dsimp (disch := first | assumption | omega) only [zaa,zab,zac,zad,zae,zaf,zag,zah,zai,zaj,zak,zal,zam,zan,zao,zap,zaq,zar,zas,zat,zau,zav,zaw,zax,zay,zaz,zaA,zaB,zaC,zaD,zaE,zaF,zaG,zaH,zaI,zaJ,zaK,zaL,zaM,zaN,zaO,zaP,zaQ,zaR,zaS,zaT,zaU,zaV,zaW,zaX,zaY,zaZ,za0,za1,za2,za3,za4,za5,za6,za7,za8,za9,zba,zbb,zbc,zbd,zbe,zbf,zbg,zbh,zbi,zbj,zbk,zbl,zbm,zbn,zbo,zbp,zbq,zbr,zbs,zbt,zbu,zbv,zbw,zbx,zby,zbz,zbA,zbB,zbC,zbD,zbE,zbF,zbG,zbH,zbI,zbJ,zbK,zbL,zbM,zbN,zbO,zbP,zbQ,zbR,zbS,zbT,zbU,zbV,zbW,zbX,zbY,zbZ,zb0,zb1,zb2,zb3,zb4,zb5,zb6,zb7,zb8,zb9,zca,zcb,eq_self,zcc,zcd,zce,zcf,zcg,zch,zci,zcj,zck,zcl,zcm,List.getElem?_cons_succ,List.getElem?_cons_zero,List.set_cons_succ,List.set_cons_zero,List.map_cons,List.map_nil,List.length_cons,List.length_nil,List.cons_append,List.nil_append,List.append_nil,List.isEmpty_cons,List.isEmpty_nil,if_true,if_false,ite_true,ite_false,Bool.not_true,Bool.not_false,Bool.not_not,decide_true,true_and,and_true,false_and,and_false,Bool.false_eq_true,reduceCtorEq,decide_true,decide_false,ite_self,forall_const,Nat.zero_add,Nat.reduceAdd,Nat.reduceLeDiff,Nat.reduceLT,Nat.reduceEqDiff,Nat.reduceSub,Nat.reduceMul,Nat.reduceBEq,Int.reduceLT,Int.reduceLE,Int.reduceEq,Int.reduceNe,Int.reduceAdd,Int.reduceMul,Int.reduceSub,Int.reduceNeg,Int.reducePow,Int.reduceBEq,Int.reduceToNat,Int.reduceGT,Int.reduceGE,String.reduceBEq,zcn,zco,List.replicate_succ,List.replicate_zero,zcp,zcq,zcr,zcs,zct,zcu,zcv,zcw,zcx,zcy,zcz,zcA,zcB,zcC,zcD,zcE,zcF,zcG,zcH,zcI,zcJ,zcK,zcL,zcM,zcN,zcO,zcP,zcQ,zcR,zcS,zcT,zcU,zcV,zcW,zcX,zcY,zcZ,zc0,zc1,zc2,zc3,zc4,zc5,zc6,zc7,zc8,zc9,zda,zdb,zdc,Bool.true_or,Bool.or_true,Bool.false_or,Bool.or_false,Bool.and_true,Bool.true_and,Bool.and_false,Bool.false_and,Int.cast_ofNat_Int,Int.natCast_zero,Int.natCast_one,beq_self_eq_true,zdd,zde,zdf,zdg,zdh,wipeR,Ok_isqrt,n0,l1,l2,d0,Int.toNat_natCast,m1,m2,c1,c2,beq_eq_false_iff_ne,show ((rt q.den : Int) * rt q.den == (q.den : Int)) = false from by simpa using c2]
    · simp -dsimp (disch := first | assumption | omega) only [zaa,zab,zac,zad,zae,zaf,zag,zah,zai,zaj,zak,zal,zam,zan,zao,zap,zaq,zar,zas,zat,zau,zav,zaw,zax,zay,zaz,zaA,zaB,zaC,zaD,zaE,zaF,zaG,zaH,zaI,zaJ,zaK,zaL,zaM,zaN,zaO,zaP,zaQ,zaR,zaS,zaT,zaU,zaV,zaW,zaX,zaY,zaZ,za0,za1,za2,za3,za4,za5,za6,za7,za8,za9,zba,zbb,zbc,zbd,zbe,zbf,zbg,zbh,zbi,zbj,zbk,zbl,zbm,zbn,zbo,zbp,zbq,zbr,zbs,zbt,zbu,zbv,zbw,zbx,zby,zbz,zbA,zbB,zbC,zbD,zbE,zbF,zbG,zbH,zbI,zbJ,zbK,zbL,zbM,zbN,zbO,zbP,zbQ,zbR,zbS,zbT,zbU,zbV,zbW,zbX,zbY,zbZ,zb0,zb1,zb2,zb3,zb4,zb5,zb6,zb7,zb8,zb9,zca,zcb,eq_self,zcc,zcd,zce,zcf,zcg,zch,zci,zcj,zck,zcl,zcm,List.getElem?_cons_succ,List.getElem?_cons_zero,List.set_cons_succ,List.set_cons_zero,List.map_cons,List.map_nil,List.length_cons,List.length_nil,List.cons_append,List.nil_append,List.append_nil,List.isEmpty_cons,List.isEmpty_nil,if_true,if_false,ite_true,ite_false,Bool.not_true,Bool.not_false,Bool.not_not,decide_true,true_and,and_true,false_and,and_false,Bool.false_eq_true,reduceCtorEq,decide_true,decide_false,ite_self,forall_const,Nat.zero_add,Nat.reduceAdd,Nat.reduceLeDiff,Nat.reduceLT,Nat.reduceEqDiff,Nat.reduceSub,Nat.reduceMul,Nat.reduceBEq,Int.reduceLT,Int.reduceLE,Int.reduceEq,Int.reduceNe,Int.reduceAdd,Int.reduceMul,Int.reduceSub,Int.reduceNeg,Int.reducePow,Int.reduceBEq,Int.reduceToNat,Int.reduceGT,Int.reduceGE,String.reduceBEq,zcn,zco,List.replicate_succ,List.replicate_zero,zcp,zcq,zcr,zcs,zct,zcu,zcv,zcw,zcx,zcy,zcz,zcA,zcB,zcC,zcD,zcE,zcF,zcG,zcH,zcI,zcJ,zcK,zcL,zcM,zcN,zcO,zcP,zcQ,zcR,zcS,zcT,zcU,zcV,zcW,zcX,zcY,zcZ,zc0,zc1,zc2,zc3,zc4,zc5,zc6,zc7,zc8,zc9,zda,zdb,zdc,Bool.true_or,Bool.or_true,Bool.false_or,Bool.or_false,Bool.and_true,Bool.true_and,Bool.and_false,Bool.false_and,Int.cast_ofNat_Int,Int.natCast_zero,Int.natCast_one,beq_self_eq_true,zdd,zde,zdf,zdg,zdh,wipeR,Ok_isqrt,n0,l1,l2,d0,Int.toNat_natCast,m1,m2,c1,show ((rt q.num.toNat : Int) * rt q.num.toNat == q.num) = false from by simpa using c1]
  rw [e, zaa]
end
end Pm.L


namespace Pm.L
open PySem PySem.Spec L2 Pm
section
variable {S : Sto} {Q : PV → Sto → Prop}
theorem o_sign_of {i : Int} : Ok (m_sign_of [.int i] S) Q = Q (.int i.sign) S := by
  have e : m_sign_of [.int i] S = .ok (.int i.sign) S := by
    refine Ok.eq (Ok_defM rfl ?_)
    by_cases h1 : 0 < i
    · rw [Int.sign_eq_one_of_pos h1]
      simp -dsimp (disch := first | assumption | omega) only [zaa,zab,zac,zad,zae,zaf,zag,zah,zai,zaj,zak,zal,zam,zan,zao,zap,zaq,zar,zas,zat,zau,zav,zaw,zax,zay,zaz,zaA,zaB,zaC,zaD,zaE,zaF,zaG,zaH,zaI,zaJ,zaK,zaL,zaM,zaN,zaO,zaP,zaQ,zaR,zaS,zaT,zaU,zaV,zaW,zaX,zaY,zaZ,za0,za1,za2,za3,za4,za5,za6,za7,za8,za9,zba,zbb,zbc,zbd,zbe,zbf,zbg,zbh,zbi,zbj,zbk,zbl,zbm,zbn,zbo,zbp,zbq,zbr,zbs,zbt,zbu,zbv,zbw,zbx,zby,zbz,zbA,zbB,zbC,zbD,zbE,zbF,zbG,zbH,zbI,zbJ,zbK,zbL,zbM,zbN,zbO,zbP,zbQ,zbR,zbS,zbT,zbU,zbV,zbW,zbX,zbY,zbZ,zb0,zb1,zb2,zb3,zb4,zb5,zb6,zb7,zb8,zb9,zca,zcb,eq_self,zcc,zcd,zce,zcf,zcg,zch,zci,zcj,zck,zcl,zcm,List.getElem?_cons_succ,List.getElem?_cons_zero,List.set_cons_succ,List.set_cons_zero,List.map_cons,List.map_nil,List.length_cons,List.length_nil,List.cons_append,List.nil_append,List.append_nil,List.isEmpty_cons,List.isEmpty_nil,if_true,if_false,ite_true,ite_false,Bool.not_true,Bool.not_false,Bool.not_not,decide_true,true_and,and_true,false_and,and_false,Bool.false_eq_true,reduceCtorEq,decide_true,decide_false,ite_self,forall_const,Nat.zero_add,Nat.reduceAdd,Nat.reduceLeDiff,Nat.reduceLT,Nat.reduceEqDiff,Nat.reduceSub,Nat.reduceMul,Nat.reduceBEq,Int.reduceLT,Int.reduceLE,Int.reduceEq,Int.reduceNe,Int.reduceAdd,Int.reduceMul,Int.reduceSub,Int.reduceNeg,Int.reducePow,Int.reduceBEq,Int.reduceToNat,Int.reduceGT,Int.reduceGE,String.reduceBEq,zcn,zco,List.replicate_succ,List.replicate_zero,zcp,zcq,zcr,zcs,zct,zcu,zcv,zcw,zcx,zcy,zcz,zcA,zcB,zcC,zcD,zcE,zcF,zcG,zcH,zcI,zcJ,zcK,zcL,zcM,zcN,zcO,zcP,zcQ,zcR,zcS,zcT,zcU,zcV,zcW,zcX,zcY,zcZ,zc0,zc1,zc2,zc3,zc4,zc5,zc6,zc7,zc8,zc9,zda,zdb,zdc,Bool.true_or,Bool.or_true,Bool.false_or,Bool.or_false,Bool.and_true,Bool.true_and,Bool.and_false,Bool.false_and,Int.cast_ofNat_Int,Int.natCast_zero,Int.natCast_one,beq_self_eq_true,zdd,zde,zdf,zdg,zdh,wipeR,h1]
    · by_cases h2 : i < 0
      · rw [Int.sign_eq_neg_one_of_neg h2]
        simp -dsimp (disch := first | assumption | omega) only [zaa,zab,zac,zad,zae,zaf,zag,zah,zai,zaj,zak,zal,zam,zan,zao,zap,zaq,zar,zas,zat,zau,zav,zaw,zax,zay,zaz,zaA,zaB,zaC,zaD,zaE,zaF,zaG,zaH,zaI,zaJ,zaK,zaL,zaM,zaN,zaO,zaP,zaQ,zaR,zaS,zaT,zaU,zaV,zaW,zaX,zaY,zaZ,za0,za1,za2,za3,za4,za5,za6,za7,za8,za9,zba,zbb,zbc,zbd,zbe,zbf,zbg,zbh,zbi,zbj,zbk,zbl,zbm,zbn,zbo,zbp,zbq,zbr,zbs,zbt,zbu,zbv,zbw,zbx,zby,zbz,zbA,zbB,zbC,zbD,zbE,zbF,zbG,zbH,zbI,zbJ,zbK,zbL,zbM,zbN,zbO,zbP,zbQ,zbR,zbS,zbT,zbU,zbV,zbW,zbX,zbY,zbZ,zb0,zb1,zb2,zb3,zb4,zb5,zb6,zb7,zb8,zb9,zca,zcb,eq_self,zcc,zcd,zce,zcf,zcg,zch,zci,zcj,zck,zcl,zcm,List.getElem?_cons_succ,List.getElem?_cons_zero,List.set_cons_succ,List.set_cons_zero,List.map_cons,List.map_nil,List.length_cons,List.length_nil,List.cons_append,List.nil_append,List.append_nil,List.isEmpty_cons,List.isEmpty_nil,if_true,if_false,ite_true,ite_false,Bool.not_true,Bool.not_false,Bool.not_not,decide_true,true_and,and_true,false_and,and_false,Bool.false_eq_true,reduceCtorEq,decide_true,decide_false,ite_self,forall_const,Nat.zero_add,Nat.reduceAdd,Nat.reduceLeDiff,Nat.reduceLT,Nat.reduceEqDiff,Nat.reduceSub,Nat.reduceMul,Nat.reduceBEq,Int.reduceLT,Int.reduceLE,Int.reduceEq,Int.reduceNe,Int.reduceAdd,Int.reduceMul,Int.reduceSub,Int.reduceNeg,Int.reducePow,Int.reduceBEq,Int.reduceToNat,Int.reduceGT,Int.reduceGE,String.reduceBEq,zcn,zco,List.replicate_succ,List.replicate_zero,zcp,zcq,zcr,zcs,zct,zcu,zcv,zcw,zcx,zcy,zcz,zcA,zcB,zcC,zcD,zcE,zcF,zcG,zcH,zcI,zcJ,zcK,zcL,zcM,zcN,zcO,zcP,zcQ,zcR,zcS,zcT,zcU,zcV,zcW,zcX,zcY,zcZ,zc0,zc1,zc2,zc3,zc4,zc5,zc6,zc7,zc8,zc9,zda,zdb,zdc,Bool.true_or,Bool.or_true,Bool.false_or,Bool.or_false,Bool.and_true,Bool.true_and,Bool.and_false,Bool.false_and,Int.cast_ofNat_Int,Int.natCast_zero,Int.natCast_one,beq_self_eq_true,zdd,zde,zdf,zdg,zdh,wipeR,h1,h2]
      · have h3 : i = 0 := by omega
        subst h3
        simp -dsimp (disch := first | assumption | omega) only [zaa,zab,zac,zad,zae,zaf,zag,zah,zai,zaj,zak,zal,zam,zan,zao,zap,zaq,zar,zas,zat,zau,zav,zaw,zax,zay,zaz,zaA,zaB,zaC,zaD,zaE,zaF,zaG,zaH,zaI,zaJ,zaK,zaL,zaM,zaN,zaO,zaP,zaQ,zaR,zaS,zaT,zaU,zaV,zaW,zaX,zaY,zaZ,za0,za1,za2,za3,za4,za5,za6,za7,za8,za9,zba,zbb,zbc,zbd,zbe,zbf,zbg,zbh,zbi,zbj,zbk,zbl,zbm,zbn,zbo,zbp,zbq,zbr,zbs,zbt,zbu,zbv,zbw,zbx,zby,zbz,zbA,zbB,zbC,zbD,zbE,zbF,zbG,zbH,zbI,zbJ,zbK,zbL,zbM,zbN,zbO,zbP,zbQ,zbR,zbS,zbT,zbU,zbV,zbW,zbX,zbY,zbZ,zb0,zb1,zb2,zb3,zb4,zb5,zb6,zb7,zb8,zb9,zca,zcb,eq_self,zcc,zcd,zce,zcf,zcg,zch,zci,zcj,zck,zcl,zcm,List.getElem?_cons_succ,List.getElem?_cons_zero,List.set_cons_succ,List.set_cons_zero,List.map_cons,List.map_nil,List.length_cons,List.length_nil,List.cons_append,List.nil_append,List.append_nil,List.isEmpty_cons,List.isEmpty_nil,if_true,if_false,ite_true,ite_false,Bool.not_true,Bool.not_false,Bool.not_not,decide_true,true_and,and_true,false_and,and_false,Bool.false_eq_true,reduceCtorEq,decide_true,decide_false,ite_self,forall_const,Nat.zero_add,Nat.reduceAdd,Nat.reduceLeDiff,Nat.reduceLT,Nat.reduceEqDiff,Nat.reduceSub,Nat.reduceMul,Nat.reduceBEq,Int.reduceLT,Int.reduceLE,Int.reduceEq,Int.reduceNe,Int.reduceAdd,Int.reduceMul,Int.reduceSub,Int.reduceNeg,Int.reducePow,Int.reduceBEq,Int.reduceToNat,Int.reduceGT,Int.reduceGE,String.reduceBEq,zcn,zco,List.replicate_succ,List.replicate_zero,zcp,zcq,zcr,zcs,zct,zcu,zcv,zcw,zcx,zcy,zcz,zcA,zcB,zcC,zcD,zcE,zcF,zcG,zcH,zcI,zcJ,zcK,zcL,zcM,zcN,zcO,zcP,zcQ,zcR,zcS,zcT,zcU,zcV,zcW,zcX,zcY,zcZ,zc0,zc1,zc2,zc3,zc4,zc5,zc6,zc7,zc8,zc9,zda,zdb,zdc,Bool.true_or,Bool.or_true,Bool.false_or,Bool.or_false,Bool.and_true,Bool.true_and,Bool.and_false,Bool.false_and,Int.cast_ofNat_Int,Int.natCast_zero,Int.natCast_one,beq_self_eq_true,zdd,zde,zdf,zdg,zdh,wipeR]
        rfl
  rw [e, zaa]
theorem o_between {i a b : Int} (ha : a ≤ i) (hb : i ≤ b) : Ok (m_is_between [.int i, .int a, .int b] S) Q = Q (.bl true) S := by
  have e : m_is_between [.int i, .int a, .int b] S = .ok (.bl true) S := by
    refine Ok.eq (Ok_defM rfl ?_)
    simp -dsimp (disch := first | assumption | omega) only [zaa,zab,zac,zad,zae,zaf,zag,zah,zai,zaj,zak,zal,zam,zan,zao,zap,zaq,zar,zas,zat,zau,zav,zaw,zax,zay,zaz,zaA,zaB,zaC,zaD,zaE,zaF,zaG,zaH,zaI,zaJ,zaK,zaL,zaM,zaN,zaO,zaP,zaQ,zaR,zaS,zaT,zaU,zaV,zaW,zaX,zaY,zaZ,za0,za1,za2,za3,za4,za5,za6,za7,za8,za9,zba,zbb,zbc,zbd,zbe,zbf,zbg,zbh,zbi,zbj,zbk,zbl,zbm,zbn,zbo,zbp,zbq,zbr,zbs,zbt,zbu,zbv,zbw,zbx,zby,zbz,zbA,zbB,zbC,zbD,zbE,zbF,zbG,zbH,zbI,zbJ,zbK,zbL,zbM,zbN,zbO,zbP,zbQ,zbR,zbS,zbT,zbU,zbV,zbW,zbX,zbY,zbZ,zb0,zb1,zb2,zb3,zb4,zb5,zb6,zb7,zb8,zb9,zca,zcb,eq_self,zcc,zcd,zce,zcf,zcg,zch,zci,zcj,zck,zcl,zcm,List.getElem?_cons_succ,List.getElem?_cons_zero,List.set_cons_succ,List.set_cons_zero,List.map_cons,List.map_nil,List.length_cons,List.length_nil,List.cons_append,List.nil_append,List.append_nil,List.isEmpty_cons,List.isEmpty_nil,if_true,if_false,ite_true,ite_false,Bool.not_true,Bool.not_false,Bool.not_not,decide_true,true_and,and_true,false_and,and_false,Bool.false_eq_true,reduceCtorEq,decide_true,decide_false,ite_self,forall_const,Nat.zero_add,Nat.reduceAdd,Nat.reduceLeDiff,Nat.reduceLT,Nat.reduceEqDiff,Nat.reduceSub,Nat.reduceMul,Nat.reduceBEq,Int.reduceLT,Int.reduceLE,Int.reduceEq,Int.reduceNe,Int.reduceAdd,Int.reduceMul,Int.reduceSub,Int.reduceNeg,Int.reducePow,Int.reduceBEq,Int.reduceToNat,Int.reduceGT,Int.reduceGE,String.reduceBEq,zcn,zco,List.replicate_succ,List.replicate_zero,zcp,zcq,zcr,zcs,zct,zcu,zcv,zcw,zcx,zcy,zcz,zcA,zcB,zcC,zcD,zcE,zcF,zcG,zcH,zcI,zcJ,zcK,zcL,zcM,zcN,zcO,zcP,zcQ,zcR,zcS,zcT,zcU,zcV,zcW,zcX,zcY,zcZ,zc0,zc1,zc2,zc3,zc4,zc5,zc6,zc7,zc8,zc9,zda,zdb,zdc,Bool.true_or,Bool.or_true,Bool.false_or,Bool.or_false,Bool.and_true,Bool.true_and,Bool.and_false,Bool.false_and,Int.cast_ofNat_Int,Int.natCast_zero,Int.natCast_one,beq_self_eq_true,zdd,zde,zdf,zdg,zdh,wipeR,o_is_whole,ha,hb]
  rw [e, zaa]
theorem sqV_none {q : Rat} (h : sq? q = none) : sqV q = .non := by unfold sqV; rw [h]
theorem sqV_some {q r : Rat} (h : sq? q = some r) : sqV q = rv r := by unfold sqV; rw [h]
theorem o_plain {p : Rat} : Ok (m_plain [rv p] S) Q = Q (sv p 0 0) S := by
  have e1 : m_plain [rv p] S = .ok (sv p 0 0) S := by
    refine Ok.eq (Ok_defM rfl ?_)
    simp -dsimp (disch := first | assumption | omega) only [zaa,zab,zac,zad,zae,zaf,zag,zah,zai,zaj,zak,zal,zam,zan,zao,zap,zaq,zar,zas,zat,zau,zav,zaw,zax,zay,zaz,zaA,zaB,zaC,zaD,zaE,zaF,zaG,zaH,zaI,zaJ,zaK,zaL,zaM,zaN,zaO,zaP,zaQ,zaR,zaS,zaT,zaU,zaV,zaW,zaX,zaY,zaZ,za0,za1,za2,za3,za4,za5,za6,za7,za8,za9,zba,zbb,zbc,zbd,zbe,zbf,zbg,zbh,zbi,zbj,zbk,zbl,zbm,zbn,zbo,zbp,zbq,zbr,zbs,zbt,zbu,zbv,zbw,zbx,zby,zbz,zbA,zbB,zbC,zbD,zbE,zbF,zbG,zbH,zbI,zbJ,zbK,zbL,zbM,zbN,zbO,zbP,zbQ,zbR,zbS,zbT,zbU,zbV,zbW,zbX,zbY,zbZ,zb0,zb1,zb2,zb3,zb4,zb5,zb6,zb7,zb8,zb9,zca,zcb,eq_self,zcc,zcd,zce,zcf,zcg,zch,zci,zcj,zck,zcl,zcm,List.getElem?_cons_succ,List.getElem?_cons_zero,List.set_cons_succ,List.set_cons_zero,List.map_cons,List.map_nil,List.length_cons,List.length_nil,List.cons_append,List.nil_append,List.append_nil,List.isEmpty_cons,List.isEmpty_nil,if_true,if_false,ite_true,ite_false,Bool.not_true,Bool.not_false,Bool.not_not,decide_true,true_and,and_true,false_and,and_false,Bool.false_eq_true,reduceCtorEq,decide_true,decide_false,ite_self,forall_const,Nat.zero_add,Nat.reduceAdd,Nat.reduceLeDiff,Nat.reduceLT,Nat.reduceEqDiff,Nat.reduceSub,Nat.reduceMul,Nat.reduceBEq,Int.reduceLT,Int.reduceLE,Int.reduceEq,Int.reduceNe,Int.reduceAdd,Int.reduceMul,Int.reduceSub,Int.reduceNeg,Int.reducePow,Int.reduceBEq,Int.reduceToNat,Int.reduceGT,Int.reduceGE,String.reduceBEq,zcn,zco,List.replicate_succ,List.replicate_zero,zcp,zcq,zcr,zcs,zct,zcu,zcv,zcw,zcx,zcy,zcz,zcA,zcB,zcC,zcD,zcE,zcF,zcG,zcH,zcI,zcJ,zcK,zcL,zcM,zcN,zcO,zcP,zcQ,zcR,zcS,zcT,zcU,zcV,zcW,zcX,zcY,zcZ,zc0,zc1,zc2,zc3,zc4,zc5,zc6,zc7,zc8,zc9,zda,zdb,zdc,Bool.true_or,Bool.or_true,Bool.false_or,Bool.or_false,Bool.and_true,Bool.true_and,Bool.and_false,Bool.false_and,Int.cast_ofNat_Int,Int.natCast_zero,Int.natCast_one,beq_self_eq_true,zdd,zde,zdf,zdg,zdh,wipeR,v_ZERO_rv]
  rw [e1, zaa]
/-- the root with the factor's sign -/
theorem t_way {f r : Rat} (h : f = 0 → r = 0) : PV.tup [.int (f.num.sign * r.num), .int r.den] = rv (if 0 < f then r else -r) := by
  have tri : f < 0 ∨ f = 0 ∨ 0 < f := by grind
  rcases tri with t | t | t
  · rw [sg_neg t, if_neg (by grind)]
    unfold rv
    rw [Rat.neg_num, Rat.neg_den]
    congr 3
    omega
  · rw [h t, sg_zero t, if_neg (by grind)]
    rfl
  · rw [sg_pos t, if_pos t]
    unfold rv
    rw [Int.one_mul]
theorem root_zero {f q r : Rat} (hq : 0 ≤ q) (h : sq? (f * f * q) = some r) (hf : f = 0) : r = 0 := by
  subst hf
  have : (0 : Rat) * 0 * q = 0 := by grind
  rw [this, sq?_zero] at h
  cases h; rfl
theorem o_surd_from {p f q : Rat} {k l m : Nat} [hp : Sz p k] [hf : Sz f l] [hz : Sz q m] (hq : 0 ≤ q) (hk : k + 2 * l + m ≤ 3000) : Ok (m_surd_from [rv p, rv f, rv q] S) Q = Q (sF p f q) S := by
  have h0 := sq_ge (f := f) hq
  have iw : Sz (f * f * q) (l + l + m) := inferInstance
  have e1 : m_surd_from [rv p, rv f, rv q] S = .ok (sF p f q) S := by
    refine Ok.eq (Ok_defM rfl ?_)
    unfold sF
    cases h : sq? (f * f * q) with
    | none =>
      simp -dsimp (disch := first | assumption | omega) only [zaa,zab,zac,zad,zae,zaf,zag,zah,zai,zaj,zak,zal,zam,zan,zao,zap,zaq,zar,zas,zat,zau,zav,zaw,zax,zay,zaz,zaA,zaB,zaC,zaD,zaE,zaF,zaG,zaH,zaI,zaJ,zaK,zaL,zaM,zaN,zaO,zaP,zaQ,zaR,zaS,zaT,zaU,zaV,zaW,zaX,zaY,zaZ,za0,za1,za2,za3,za4,za5,za6,za7,za8,za9,zba,zbb,zbc,zbd,zbe,zbf,zbg,zbh,zbi,zbj,zbk,zbl,zbm,zbn,zbo,zbp,zbq,zbr,zbs,zbt,zbu,zbv,zbw,zbx,zby,zbz,zbA,zbB,zbC,zbD,zbE,zbF,zbG,zbH,zbI,zbJ,zbK,zbL,zbM,zbN,zbO,zbP,zbQ,zbR,zbS,zbT,zbU,zbV,zbW,zbX,zbY,zbZ,zb0,zb1,zb2,zb3,zb4,zb5,zb6,zb7,zb8,zb9,zca,zcb,eq_self,zcc,zcd,zce,zcf,zcg,zch,zci,zcj,zck,zcl,zcm,List.getElem?_cons_succ,List.getElem?_cons_zero,List.set_cons_succ,List.set_cons_zero,List.map_cons,List.map_nil,List.length_cons,List.length_nil,List.cons_append,List.nil_append,List.append_nil,List.isEmpty_cons,List.isEmpty_nil,if_true,if_false,ite_true,ite_false,Bool.not_true,Bool.not_false,Bool.not_not,decide_true,true_and,and_true,false_and,and_false,Bool.false_eq_true,reduceCtorEq,decide_true,decide_false,ite_self,forall_const,Nat.zero_add,Nat.reduceAdd,Nat.reduceLeDiff,Nat.reduceLT,Nat.reduceEqDiff,Nat.reduceSub,Nat.reduceMul,Nat.reduceBEq,Int.reduceLT,Int.reduceLE,Int.reduceEq,Int.reduceNe,Int.reduceAdd,Int.reduceMul,Int.reduceSub,Int.reduceNeg,Int.reducePow,Int.reduceBEq,Int.reduceToNat,Int.reduceGT,Int.reduceGE,String.reduceBEq,zcn,zco,List.replicate_succ,List.replicate_zero,zcp,zcq,zcr,zcs,zct,zcu,zcv,zcw,zcx,zcy,zcz,zcA,zcB,zcC,zcD,zcE,zcF,zcG,zcH,zcI,zcJ,zcK,zcL,zcM,zcN,zcO,zcP,zcQ,zcR,zcS,zcT,zcU,zcV,zcW,zcX,zcY,zcZ,zc0,zc1,zc2,zc3,zc4,zc5,zc6,zc7,zc8,zc9,zda,zdb,zdc,Bool.true_or,Bool.or_true,Bool.false_or,Bool.or_false,Bool.and_true,Bool.true_and,Bool.and_false,Bool.false_and,Int.cast_ofNat_Int,Int.natCast_zero,Int.natCast_one,beq_self_eq_true,zdd,zde,zdf,zdg,zdh,wipeR,o_ratio_product,o_square_root,sqV_none h,o_sign_of]
    | some r =>
      have ir := sz_root iw h0 h
      have tw := t_way (f := f) (root_zero hq h)
      have iw2 : Sz (if 0 < f then r else -r) (l + l + m) := by split <;> infer_instance
      have lw : f.num.sign.natAbs.log2 + r.num.natAbs.log2 < 1000000 := lg (k := 1) (by
        rcases Int.lt_trichotomy f.num 0 with h | h | h
        · rw [Int.sign_eq_neg_one_of_neg h]; decide
        · rw [h]; decide
        · rw [Int.sign_eq_one_of_pos h]; decide) ir.n (by omega)
      simp -dsimp (disch := first | assumption | omega) only [zaa,zab,zac,zad,zae,zaf,zag,zah,zai,zaj,zak,zal,zam,zan,zao,zap,zaq,zar,zas,zat,zau,zav,zaw,zax,zay,zaz,zaA,zaB,zaC,zaD,zaE,zaF,zaG,zaH,zaI,zaJ,zaK,zaL,zaM,zaN,zaO,zaP,zaQ,zaR,zaS,zaT,zaU,zaV,zaW,zaX,zaY,zaZ,za0,za1,za2,za3,za4,za5,za6,za7,za8,za9,zba,zbb,zbc,zbd,zbe,zbf,zbg,zbh,zbi,zbj,zbk,zbl,zbm,zbn,zbo,zbp,zbq,zbr,zbs,zbt,zbu,zbv,zbw,zbx,zby,zbz,zbA,zbB,zbC,zbD,zbE,zbF,zbG,zbH,zbI,zbJ,zbK,zbL,zbM,zbN,zbO,zbP,zbQ,zbR,zbS,zbT,zbU,zbV,zbW,zbX,zbY,zbZ,zb0,zb1,zb2,zb3,zb4,zb5,zb6,zb7,zb8,zb9,zca,zcb,eq_self,zcc,zcd,zce,zcf,zcg,zch,zci,zcj,zck,zcl,zcm,List.getElem?_cons_succ,List.getElem?_cons_zero,List.set_cons_succ,List.set_cons_zero,List.map_cons,List.map_nil,List.length_cons,List.length_nil,List.cons_append,List.nil_append,List.append_nil,List.isEmpty_cons,List.isEmpty_nil,if_true,if_false,ite_true,ite_false,Bool.not_true,Bool.not_false,Bool.not_not,decide_true,true_and,and_true,false_and,and_false,Bool.false_eq_true,reduceCtorEq,decide_true,decide_false,ite_self,forall_const,Nat.zero_add,Nat.reduceAdd,Nat.reduceLeDiff,Nat.reduceLT,Nat.reduceEqDiff,Nat.reduceSub,Nat.reduceMul,Nat.reduceBEq,Int.reduceLT,Int.reduceLE,Int.reduceEq,Int.reduceNe,Int.reduceAdd,Int.reduceMul,Int.reduceSub,Int.reduceNeg,Int.reducePow,Int.reduceBEq,Int.reduceToNat,Int.reduceGT,Int.reduceGE,String.reduceBEq,zcn,zco,List.replicate_succ,List.replicate_zero,zcp,zcq,zcr,zcs,zct,zcu,zcv,zcw,zcx,zcy,zcz,zcA,zcB,zcC,zcD,zcE,zcF,zcG,zcH,zcI,zcJ,zcK,zcL,zcM,zcN,zcO,zcP,zcQ,zcR,zcS,zcT,zcU,zcV,zcW,zcX,zcY,zcZ,zc0,zc1,zc2,zc3,zc4,zc5,zc6,zc7,zc8,zc9,zda,zdb,zdc,Bool.true_or,Bool.or_true,Bool.false_or,Bool.or_false,Bool.and_true,Bool.true_and,Bool.and_false,Bool.false_and,Int.cast_ofNat_Int,Int.natCast_zero,Int.natCast_one,beq_self_eq_true,zdd,zde,zdf,zdg,zdh,wipeR,o_ratio_product,o_square_root,sqV_some h,o_sign_of,lw,tw,o_ratio_sum,o_plain]
  rw [e1, zaa]
end
end Pm.L


namespace Pm.L
open PySem PySem.Spec L2 Pm
def mk0 (e : Int) (n : Rat) : Int := e * n.num.sign
def sq0 (e : Int) (r n : Rat) : Rat := if e * n.num.sign = 0 then 0 else r * (n * n)
theorem nz_sign {n : Rat} (h : n ≠ 0) : n.num.sign ≠ 0 := by
  have := num_nz h
  intro k
  exact this (Int.sign_eq_zero_iff_zero.mp k)
theorem neg_sign (n : Rat) : (-n).num.sign = -n.num.sign := by rw [Rat.neg_num, Int.sign_neg]
theorem prod_sF {p r n : Rat} {e : Int} (g : GS e r) : sF (p * n) ((e : Rat) * n) r = sv (p * n) (mk0 e n) (sq0 e r n) := by
  have zero : ∀ f : Rat, f * f * r = 0 → sF (p * n) f r = sv (p * n) 0 0 := by
    intro f hf
    unfold sF
    rw [hf, sq?_zero]
    have : (if 0 < f then (0 : Rat) else -0) = 0 := by split <;> rfl
    simp only [this, Rat.add_zero]
  rcases g with ⟨rfl, rfl⟩ | ⟨he, g1, g2⟩
  · rw [zero _ (by grind)]
    have h1 : mk0 0 n = 0 := by unfold mk0; rw [Int.zero_mul]
    have h2 : sq0 0 0 n = 0 := by unfold sq0; rw [if_pos (by rw [Int.zero_mul])]
    rw [h1, h2]
  · by_cases hn : n = 0
    · subst hn
      rw [zero _ (by grind)]
      have h1 : mk0 e 0 = 0 := by unfold mk0; rw [show (0 : Rat).num.sign = 0 from rfl, Int.mul_zero]
      have h2 : sq0 e r 0 = 0 := by unfold sq0; rw [if_pos (by rw [show (0 : Rat).num.sign = 0 from rfl, Int.mul_zero])]
      rw [h1, h2]
    · have hs := nz_sign hn
      rcases he with rfl | rfl
      · have e1 : ((1 : Int) : Rat) * n = n := by grind
        have h2 : sq0 1 r n = r * (n * n) := by unfold sq0; rw [if_neg (by rw [Int.one_mul]; exact hs)]
        have h3 : n * n * r = r * (n * n) := by grind
        have h4 := sq?_scale g1 hn g2
        have h1 : mk0 1 n = n.num.sign := by unfold mk0; rw [Int.one_mul]
        rw [e1, h1, h2]
        unfold sF
        rw [h4, h3]
      · have e1 : ((-1 : Int) : Rat) * n = -n := by grind
        have h2 : sq0 (-1) r n = r * (n * n) := by unfold sq0; rw [if_neg (by rw [Int.neg_mul, Int.one_mul]; omega)]
        have h3 : -n * -n * r = r * (n * n) := by grind
        have h4 := sq?_scale g1 hn g2
        have h5 : n * n * r = r * (n * n) := by grind
        have h1 : mk0 (-1) n = -n.num.sign := by unfold mk0; rw [Int.neg_mul, Int.one_mul]
        rw [e1, h1, h2]
        unfold sF
        rw [h3, ← h5, h4]
        simp only [neg_sign]
theorem GS_prod {r n : Rat} {e : Int} (g : GS e r) : GS (mk0 e n) (sq0 e r n) := by
  unfold mk0 sq0
  by_cases hz : e * n.num.sign = 0
  · rw [if_pos hz, hz]; exact .inl ⟨rfl, rfl⟩
  · rw [if_neg hz]
    have hn : n ≠ 0 := fun k => hz (by rw [k, show (0 : Rat).num.sign = 0 from rfl, Int.mul_zero])
    rcases g with ⟨rfl, rfl⟩ | ⟨he, g1, g2⟩
    · exact absurd (Int.zero_mul _) hz
    · refine .inr ⟨?_, Rat.mul_nonneg g1 (sq_nonneg n), ?_⟩
      · have hs : n.num.sign = 1 ∨ n.num.sign = -1 := by
          rcases Int.lt_trichotomy n.num 0 with h | h | h
          · exact .inr (Int.sign_eq_neg_one_of_neg h)
          · exact absurd h (num_nz hn)
          · exact .inl (Int.sign_eq_one_of_pos h)
        rcases he with rfl | rfl <;> rcases hs with h | h <;> rw [h] <;> decide
      · have h3 : r * (n * n) = n * n * r := by grind
        rw [h3]
        exact sq?_scale g1 hn g2
section
variable {r n : Rat} {e : Int} {k l : Nat}
instance Sz.sq0 [h : Sz r k] [g : Sz n l] : Sz (Pm.L.sq0 e r n) (k + (l + l)) := by
  unfold Pm.L.sq0
  split
  · exact Sz.zero.le (by have := h.pos; omega)
  · infer_instance
theorem sz_e (he : e = 0 ∨ e = 1 ∨ e = -1) : Sz ((e : Int) : Rat) 1 := by
  rcases he with rfl | rfl | rfl <;> exact ⟨by decide, by decide⟩
theorem GS.e3 {e : Int} {r : Rat} (g : GS e r) : e = 0 ∨ e = 1 ∨ e = -1 := by
  rcases g with ⟨h, _⟩ | ⟨h, _⟩
  · exact .inl h
  · exact .inr h
theorem t_e1 (e : Int) : PV.tup [.int e, .int 1] = rv (e : Rat) := by
  unfold rv
  rw [Rat.num_intCast, Rat.den_intCast]
  rfl
end
section
variable {S : Sto} {Q : PV → Sto → Prop} {p r n : Rat} {e : Int} {k l m : Nat}
/-! the law's own roots -/
end
end Pm.L


namespace Pm.L
open PySem PySem.Spec L2 Pm
/-! signs of p + q √r and p + q √r + s √t -/
def sg (q : Rat) : Int := q.num.sign
def S1 (p q r : Rat) : Int := if sg p = 0 ∨ (if 0 < r then sg q else 0) = 0 ∨ sg p = (if 0 < r then sg q else 0) then (if sg p ≠ 0 then sg p else if 0 < r then sg q else 0) else sg p * sg (p * p - q * q * r)
def S2 (p q r s t : Rat) : Int := if S1 p q r = 0 ∨ (if 0 < t then sg s else 0) = 0 ∨ S1 p q r = (if 0 < t then sg s else 0) then (if S1 p q r ≠ 0 then S1 p q r else if 0 < t then sg s else 0) else S1 p q r * S1 (p * p + q * q * r - s * s * t) (2 * p * q) r
theorem sg_int (i : Int) : sg (i : Rat) = i.sign := by unfold sg; rw [Rat.num_intCast]
theorem sign_mul2 (a b : Rat) : (a * b).num.sign = a.num.sign * b.num.sign := by
  have ta : a < 0 ∨ a = 0 ∨ 0 < a := by grind
  have tb : b < 0 ∨ b = 0 ∨ 0 < b := by grind
  have mp : ∀ {a b : Rat}, 0 < a → 0 < b → 0 < a * b := Rat.mul_pos
  rcases ta with t | t | t <;> rcases tb with u | u | u
  · rw [sg_neg t, sg_neg u, sg_pos (by have := mp (show 0 < -a by grind) (show 0 < -b by grind); grind)]; rfl
  · rw [u, Rat.mul_zero, sg_zero rfl, Int.mul_zero]
  · rw [sg_neg t, sg_pos u, sg_neg (by have := mp (show 0 < -a by grind) u; grind)]; rfl
  · rw [t, Rat.zero_mul, sg_zero rfl, Int.zero_mul]
  · rw [t, Rat.zero_mul, sg_zero rfl, Int.zero_mul]
  · rw [t, Rat.zero_mul, sg_zero rfl, Int.zero_mul]
  · rw [sg_pos t, sg_neg u, sg_neg (by have := mp t (show 0 < -b by grind); grind)]; rfl
  · rw [u, Rat.mul_zero, sg_zero rfl, Int.mul_zero]
  · rw [sg_pos t, sg_pos u, sg_pos (mp t u)]; rfl
theorem sg_mul (a b : Rat) : sg (a * b) = sg a * sg b := sign_mul2 a b
theorem sg_scale {q k : Rat} (h : 0 < k) : sg (q * k) = sg q := by
  rw [sg_mul, show sg k = 1 from sg_pos h, Int.mul_one]
theorem pos_scale {r k : Rat} (h : 0 < k) : (0 < r * k) ↔ 0 < r := Rat.mul_pos_iff_of_pos_right h
theorem S1_scale {p q r c d : Rat} (hc : 0 < c) (hd : 0 < d) : S1 (p * c * d) (q * c) (r * (d * d)) = S1 p q r := by
  have h2 : 0 < d * d := Rat.mul_pos hd hd
  have h3 : 0 < (c * d) * (c * d) := Rat.mul_pos (Rat.mul_pos hc hd) (Rat.mul_pos hc hd)
  have e1 : sg (p * c * d) = sg p := by rw [sg_scale hd, sg_scale hc]
  have e2 : sg (q * c) = sg q := sg_scale hc
  have e3 : p * c * d * (p * c * d) - q * c * (q * c) * (r * (d * d)) = (p * p - q * q * r) * ((c * d) * (c * d)) := by grind
  unfold S1
  rw [e1, e2, e3, sg_scale h3]
  simp only [pos_scale h2]
theorem S2_scale {p q r s t c d g : Rat} (hc : 0 < c) (hd : 0 < d) (hg : 0 < g) : S2 (p * c * d * g) (q * c * g) (r * (d * d)) (s * c * d) (t * (g * g)) = S2 p q r s t := by
  have h2 : 0 < g * g := Rat.mul_pos hg hg
  have e1 : S1 (p * c * d * g) (q * c * g) (r * (d * d)) = S1 p q r := by
    have := S1_scale (p := p) (q := q) (r := r) (Rat.mul_pos hc hg) hd
    have z1 : p * (c * g) * d = p * c * d * g := by grind
    have z2 : q * (c * g) = q * c * g := by grind
    rw [z1, z2] at this
    exact this
  have e2 : sg (s * c * d) = sg s := by rw [sg_scale hd, sg_scale hc]
  have e3 : S1 (p * c * d * g * (p * c * d * g) + q * c * g * (q * c * g) * (r * (d * d)) - s * c * d * (s * c * d) * (t * (g * g))) (2 * (p * c * d * g) * (q * c * g)) (r * (d * d)) = S1 (p * p + q * q * r - s * s * t) (2 * p * q) r := by
    have := S1_scale (p := p * p + q * q * r - s * s * t) (q := 2 * p * q) (r := r) (c := c * c * d * (g * g)) (d := d) (Rat.mul_pos (Rat.mul_pos (Rat.mul_pos hc hc) hd) h2) hd
    rw [← this]
    congr 1 <;> grind
  unfold S2
  rw [e1, e2, e3]
  simp only [pos_scale h2]
theorem S1_q0 (p r : Rat) : S1 p 0 r = sg p := by
  have : (if 0 < r then sg 0 else 0) = 0 := by split <;> rfl
  unfold S1
  rw [this]
  by_cases h : sg p = 0 <;> simp [h]
theorem S2_t0 (p q r s : Rat) : S2 p q r s 0 = S1 p q r := by
  unfold S2
  have : ¬ (0 : Rat) < 0 := by decide
  by_cases h : S1 p q r = 0 <;> simp [this, h]
theorem S2_s0 (p q r t : Rat) : S2 p q r 0 t = S1 p q r := by
  have : (if 0 < t then sg 0 else 0) = 0 := by split <;> rfl
  unfold S2
  rw [this]
  by_cases h : S1 p q r = 0 <;> simp [h]
section
variable {S : Sto} {Q : PV → Sto → Prop}
theorem rpos (r : Int) : (0 : Rat) < (r : Rat) ↔ 0 < r := Rat.intCast_pos
theorem bsq {p : Int} {k : Nat} (h : p.natAbs < 2 ^ k) : (p * p).natAbs < 2 ^ (k + k) := by rw [Int.natAbs_mul]; exact prod_lt h h
theorem bmul {p q : Int} {k l : Nat} (h : p.natAbs < 2 ^ k) (g : q.natAbs < 2 ^ l) : (p * q).natAbs < 2 ^ (k + l) := by rw [Int.natAbs_mul]; exact prod_lt h g
theorem bsub {p q : Int} {k : Nat} (h : p.natAbs < 2 ^ k) (g : q.natAbs < 2 ^ k) : (p - q).natAbs < 2 ^ (k + 1) := by
  have := Int.natAbs_sub_le p q
  rw [Nat.pow_succ]; omega
theorem badd {p q : Int} {k : Nat} (h : p.natAbs < 2 ^ k) (g : q.natAbs < 2 ^ k) : (p + q).natAbs < 2 ^ (k + 1) := by
  have := Int.natAbs_add_le p q
  rw [Nat.pow_succ]; omega
theorem bup {p : Int} {k l : Nat} (h : p.natAbs < 2 ^ k) (hl : k ≤ l) : p.natAbs < 2 ^ l := Nat.lt_of_lt_of_le h (Nat.pow_le_pow_right (by decide) hl)
theorem bsg (p : Int) : p.sign.natAbs < 2 ^ 1 := by
  rcases Int.lt_trichotomy p 0 with h | h | h
  · rw [Int.sign_eq_neg_one_of_neg h]; decide
  · rw [h]; decide
  · rw [Int.sign_eq_one_of_pos h]; decide
theorem o_s1 {p q r : Int} {k : Nat} (hp : p.natAbs < 2 ^ k) (hq : q.natAbs < 2 ^ k) (hr : r.natAbs < 2 ^ k) (hk : k ≤ 100000) : Ok (m_sign_of_one [.int p, .int q, .int r] S) Q = Q (.int (S1 p q r)) S := by
  have l1 := lg hp hp (by omega)
  have l2 := lg hq hq (by omega)
  have l3 := lg (bmul hq hq) hr (by omega)
  have l4 : ∀ z : Int, p.sign.natAbs.log2 + z.sign.natAbs.log2 < 1000000 := fun z => lg (bsg p) (bsg z) (by omega)
  have e : m_sign_of_one [.int p, .int q, .int r] S = .ok (.int (S1 p q r)) S := by
    refine Ok.eq (Ok_defM rfl ?_)
    have ec : (p : Rat) * p - (q : Rat) * q * (r : Rat) = ((p * p - q * q * r : Int) : Rat) := by
      rw [Rat.intCast_sub, Rat.intCast_mul, Rat.intCast_mul, Rat.intCast_mul]
    have eS : S1 p q r = if p.sign = 0 ∨ (if 0 < r then q.sign else 0) = 0 ∨ p.sign = (if 0 < r then q.sign else 0) then (if p.sign ≠ 0 then p.sign else if 0 < r then q.sign else 0) else p.sign * (p * p - q * q * r).sign := by
      unfold S1
      rw [ec, sg_int, sg_int, sg_int]
      simp only [rpos]
    by_cases h : 0 < r
    · by_cases c1 : p.sign = 0
      · have eS : S1 p q r = q.sign := by rw [eS]; simp [h, c1]
        rw [eS]
        simp -dsimp (disch := first | assumption | omega) only [zaa,zab,zac,zad,zae,zaf,zag,zah,zai,zaj,zak,zal,zam,zan,zao,zap,zaq,zar,zas,zat,zau,zav,zaw,zax,zay,zaz,zaA,zaB,zaC,zaD,zaE,zaF,zaG,zaH,zaI,zaJ,zaK,zaL,zaM,zaN,zaO,zaP,zaQ,zaR,zaS,zaT,zaU,zaV,zaW,zaX,zaY,zaZ,za0,za1,za2,za3,za4,za5,za6,za7,za8,za9,zba,zbb,zbc,zbd,zbe,zbf,zbg,zbh,zbi,zbj,zbk,zbl,zbm,zbn,zbo,zbp,zbq,zbr,zbs,zbt,zbu,zbv,zbw,zbx,zby,zbz,zbA,zbB,zbC,zbD,zbE,zbF,zbG,zbH,zbI,zbJ,zbK,zbL,zbM,zbN,zbO,zbP,zbQ,zbR,zbS,zbT,zbU,zbV,zbW,zbX,zbY,zbZ,zb0,zb1,zb2,zb3,zb4,zb5,zb6,zb7,zb8,zb9,zca,zcb,eq_self,zcc,zcd,zce,zcf,zcg,zch,zci,zcj,zck,zcl,zcm,List.getElem?_cons_succ,List.getElem?_cons_zero,List.set_cons_succ,List.set_cons_zero,List.map_cons,List.map_nil,List.length_cons,List.length_nil,List.cons_append,List.nil_append,List.append_nil,List.isEmpty_cons,List.isEmpty_nil,if_true,if_false,ite_true,ite_false,Bool.not_true,Bool.not_false,Bool.not_not,decide_true,true_and,and_true,false_and,and_false,Bool.false_eq_true,reduceCtorEq,decide_true,decide_false,ite_self,forall_const,Nat.zero_add,Nat.reduceAdd,Nat.reduceLeDiff,Nat.reduceLT,Nat.reduceEqDiff,Nat.reduceSub,Nat.reduceMul,Nat.reduceBEq,Int.reduceLT,Int.reduceLE,Int.reduceEq,Int.reduceNe,Int.reduceAdd,Int.reduceMul,Int.reduceSub,Int.reduceNeg,Int.reducePow,Int.reduceBEq,Int.reduceToNat,Int.reduceGT,Int.reduceGE,String.reduceBEq,zcn,zco,List.replicate_succ,List.replicate_zero,zcp,zcq,zcr,zcs,zct,zcu,zcv,zcw,zcx,zcy,zcz,zcA,zcB,zcC,zcD,zcE,zcF,zcG,zcH,zcI,zcJ,zcK,zcL,zcM,zcN,zcO,zcP,zcQ,zcR,zcS,zcT,zcU,zcV,zcW,zcX,zcY,zcZ,zc0,zc1,zc2,zc3,zc4,zc5,zc6,zc7,zc8,zc9,zda,zdb,zdc,Bool.true_or,Bool.or_true,Bool.false_or,Bool.or_false,Bool.and_true,Bool.true_and,Bool.and_false,Bool.false_and,Int.cast_ofNat_Int,Int.natCast_zero,Int.natCast_one,beq_self_eq_true,zdd,zde,zdf,zdg,zdh,wipeR,o_sign_of,h,c1,l1,l2,l3,l4]
      · have c1' : (p.sign == 0) = false := by simpa using c1
        by_cases c2 : q.sign = 0
        · have eS : S1 p q r = p.sign := by rw [eS]; simp [h, c1, c2]
          rw [eS]
          simp -dsimp (disch := first | assumption | omega) only [zaa,zab,zac,zad,zae,zaf,zag,zah,zai,zaj,zak,zal,zam,zan,zao,zap,zaq,zar,zas,zat,zau,zav,zaw,zax,zay,zaz,zaA,zaB,zaC,zaD,zaE,zaF,zaG,zaH,zaI,zaJ,zaK,zaL,zaM,zaN,zaO,zaP,zaQ,zaR,zaS,zaT,zaU,zaV,zaW,zaX,zaY,zaZ,za0,za1,za2,za3,za4,za5,za6,za7,za8,za9,zba,zbb,zbc,zbd,zbe,zbf,zbg,zbh,zbi,zbj,zbk,zbl,zbm,zbn,zbo,zbp,zbq,zbr,zbs,zbt,zbu,zbv,zbw,zbx,zby,zbz,zbA,zbB,zbC,zbD,zbE,zbF,zbG,zbH,zbI,zbJ,zbK,zbL,zbM,zbN,zbO,zbP,zbQ,zbR,zbS,zbT,zbU,zbV,zbW,zbX,zbY,zbZ,zb0,zb1,zb2,zb3,zb4,zb5,zb6,zb7,zb8,zb9,zca,zcb,eq_self,zcc,zcd,zce,zcf,zcg,zch,zci,zcj,zck,zcl,zcm,List.getElem?_cons_succ,List.getElem?_cons_zero,List.set_cons_succ,List.set_cons_zero,List.map_cons,List.map_nil,List.length_cons,List.length_nil,List.cons_append,List.nil_append,List.append_nil,List.isEmpty_cons,List.isEmpty_nil,if_true,if_false,ite_true,ite_false,Bool.not_true,Bool.not_false,Bool.not_not,decide_true,true_and,and_true,false_and,and_false,Bool.false_eq_true,reduceCtorEq,decide_true,decide_false,ite_self,forall_const,Nat.zero_add,Nat.reduceAdd,Nat.reduceLeDiff,Nat.reduceLT,Nat.reduceEqDiff,Nat.reduceSub,Nat.reduceMul,Nat.reduceBEq,Int.reduceLT,Int.reduceLE,Int.reduceEq,Int.reduceNe,Int.reduceAdd,Int.reduceMul,Int.reduceSub,Int.reduceNeg,Int.reducePow,Int.reduceBEq,Int.reduceToNat,Int.reduceGT,Int.reduceGE,String.reduceBEq,zcn,zco,List.replicate_succ,List.replicate_zero,zcp,zcq,zcr,zcs,zct,zcu,zcv,zcw,zcx,zcy,zcz,zcA,zcB,zcC,zcD,zcE,zcF,zcG,zcH,zcI,zcJ,zcK,zcL,zcM,zcN,zcO,zcP,zcQ,zcR,zcS,zcT,zcU,zcV,zcW,zcX,zcY,zcZ,zc0,zc1,zc2,zc3,zc4,zc5,zc6,zc7,zc8,zc9,zda,zdb,zdc,Bool.true_or,Bool.or_true,Bool.false_or,Bool.or_false,Bool.and_true,Bool.true_and,Bool.and_false,Bool.false_and,Int.cast_ofNat_Int,Int.natCast_zero,Int.natCast_one,beq_self_eq_true,zdd,zde,zdf,zdg,zdh,wipeR,o_sign_of,h,c1',c2,l1,l2,l3,l4]
        · have c2' : (q.sign == 0) = false := by simpa using c2
          by_cases c3 : p.sign = q.sign
          · have eS : S1 p q r = q.sign := by rw [eS]; simp [h, c2, c3]
            rw [eS]
            simp -dsimp (disch := first | assumption | omega) only [zaa,zab,zac,zad,zae,zaf,zag,zah,zai,zaj,zak,zal,zam,zan,zao,zap,zaq,zar,zas,zat,zau,zav,zaw,zax,zay,zaz,zaA,zaB,zaC,zaD,zaE,zaF,zaG,zaH,zaI,zaJ,zaK,zaL,zaM,zaN,zaO,zaP,zaQ,zaR,zaS,zaT,zaU,zaV,zaW,zaX,zaY,zaZ,za0,za1,za2,za3,za4,za5,za6,za7,za8,za9,zba,zbb,zbc,zbd,zbe,zbf,zbg,zbh,zbi,zbj,zbk,zbl,zbm,zbn,zbo,zbp,zbq,zbr,zbs,zbt,zbu,zbv,zbw,zbx,zby,zbz,zbA,zbB,zbC,zbD,zbE,zbF,zbG,zbH,zbI,zbJ,zbK,zbL,zbM,zbN,zbO,zbP,zbQ,zbR,zbS,zbT,zbU,zbV,zbW,zbX,zbY,zbZ,zb0,zb1,zb2,zb3,zb4,zb5,zb6,zb7,zb8,zb9,zca,zcb,eq_self,zcc,zcd,zce,zcf,zcg,zch,zci,zcj,zck,zcl,zcm,List.getElem?_cons_succ,List.getElem?_cons_zero,List.set_cons_succ,List.set_cons_zero,List.map_cons,List.map_nil,List.length_cons,List.length_nil,List.cons_append,List.nil_append,List.append_nil,List.isEmpty_cons,List.isEmpty_nil,if_true,if_false,ite_true,ite_false,Bool.not_true,Bool.not_false,Bool.not_not,decide_true,true_and,and_true,false_and,and_false,Bool.false_eq_true,reduceCtorEq,decide_true,decide_false,ite_self,forall_const,Nat.zero_add,Nat.reduceAdd,Nat.reduceLeDiff,Nat.reduceLT,Nat.reduceEqDiff,Nat.reduceSub,Nat.reduceMul,Nat.reduceBEq,Int.reduceLT,Int.reduceLE,Int.reduceEq,Int.reduceNe,Int.reduceAdd,Int.reduceMul,Int.reduceSub,Int.reduceNeg,Int.reducePow,Int.reduceBEq,Int.reduceToNat,Int.reduceGT,Int.reduceGE,String.reduceBEq,zcn,zco,List.replicate_succ,List.replicate_zero,zcp,zcq,zcr,zcs,zct,zcu,zcv,zcw,zcx,zcy,zcz,zcA,zcB,zcC,zcD,zcE,zcF,zcG,zcH,zcI,zcJ,zcK,zcL,zcM,zcN,zcO,zcP,zcQ,zcR,zcS,zcT,zcU,zcV,zcW,zcX,zcY,zcZ,zc0,zc1,zc2,zc3,zc4,zc5,zc6,zc7,zc8,zc9,zda,zdb,zdc,Bool.true_or,Bool.or_true,Bool.false_or,Bool.or_false,Bool.and_true,Bool.true_and,Bool.and_false,Bool.false_and,Int.cast_ofNat_Int,Int.natCast_zero,Int.natCast_one,beq_self_eq_true,zdd,zde,zdf,zdg,zdh,wipeR,o_sign_of,h,c3,c2',l1,l2,l3,l4]
          · have c3' : (p.sign == q.sign) = false := by simpa using c3
            have eS : S1 p q r = p.sign * (p * p - q * q * r).sign := by rw [eS]; simp [h, c1, c2, c3]
            rw [eS]
            simp -dsimp (disch := first | assumption | omega) only [zaa,zab,zac,zad,zae,zaf,zag,zah,zai,zaj,zak,zal,zam,zan,zao,zap,zaq,zar,zas,zat,zau,zav,zaw,zax,zay,zaz,zaA,zaB,zaC,zaD,zaE,zaF,zaG,zaH,zaI,zaJ,zaK,zaL,zaM,zaN,zaO,zaP,zaQ,zaR,zaS,zaT,zaU,zaV,zaW,zaX,zaY,zaZ,za0,za1,za2,za3,za4,za5,za6,za7,za8,za9,zba,zbb,zbc,zbd,zbe,zbf,zbg,zbh,zbi,zbj,zbk,zbl,zbm,zbn,zbo,zbp,zbq,zbr,zbs,zbt,zbu,zbv,zbw,zbx,zby,zbz,zbA,zbB,zbC,zbD,zbE,zbF,zbG,zbH,zbI,zbJ,zbK,zbL,zbM,zbN,zbO,zbP,zbQ,zbR,zbS,zbT,zbU,zbV,zbW,zbX,zbY,zbZ,zb0,zb1,zb2,zb3,zb4,zb5,zb6,zb7,zb8,zb9,zca,zcb,eq_self,zcc,zcd,zce,zcf,zcg,zch,zci,zcj,zck,zcl,zcm,List.getElem?_cons_succ,List.getElem?_cons_zero,List.set_cons_succ,List.set_cons_zero,List.map_cons,List.map_nil,List.length_cons,List.length_nil,List.cons_append,List.nil_append,List.append_nil,List.isEmpty_cons,List.isEmpty_nil,if_true,if_false,ite_true,ite_false,Bool.not_true,Bool.not_false,Bool.not_not,decide_true,true_and,and_true,false_and,and_false,Bool.false_eq_true,reduceCtorEq,decide_true,decide_false,ite_self,forall_const,Nat.zero_add,Nat.reduceAdd,Nat.reduceLeDiff,Nat.reduceLT,Nat.reduceEqDiff,Nat.reduceSub,Nat.reduceMul,Nat.reduceBEq,Int.reduceLT,Int.reduceLE,Int.reduceEq,Int.reduceNe,Int.reduceAdd,Int.reduceMul,Int.reduceSub,Int.reduceNeg,Int.reducePow,Int.reduceBEq,Int.reduceToNat,Int.reduceGT,Int.reduceGE,String.reduceBEq,zcn,zco,List.replicate_succ,List.replicate_zero,zcp,zcq,zcr,zcs,zct,zcu,zcv,zcw,zcx,zcy,zcz,zcA,zcB,zcC,zcD,zcE,zcF,zcG,zcH,zcI,zcJ,zcK,zcL,zcM,zcN,zcO,zcP,zcQ,zcR,zcS,zcT,zcU,zcV,zcW,zcX,zcY,zcZ,zc0,zc1,zc2,zc3,zc4,zc5,zc6,zc7,zc8,zc9,zda,zdb,zdc,Bool.true_or,Bool.or_true,Bool.false_or,Bool.or_false,Bool.and_true,Bool.true_and,Bool.and_false,Bool.false_and,Int.cast_ofNat_Int,Int.natCast_zero,Int.natCast_one,beq_self_eq_true,zdd,zde,zdf,zdg,zdh,wipeR,o_sign_of,h,c1',c2',c3',l1,l2,l3,l4]
    · by_cases c1 : p.sign = 0
      · have eS : S1 p q r = 0 := by rw [eS]; simp [h, c1]
        rw [eS]
        simp -dsimp (disch := first | assumption | omega) only [zaa,zab,zac,zad,zae,zaf,zag,zah,zai,zaj,zak,zal,zam,zan,zao,zap,zaq,zar,zas,zat,zau,zav,zaw,zax,zay,zaz,zaA,zaB,zaC,zaD,zaE,zaF,zaG,zaH,zaI,zaJ,zaK,zaL,zaM,zaN,zaO,zaP,zaQ,zaR,zaS,zaT,zaU,zaV,zaW,zaX,zaY,zaZ,za0,za1,za2,za3,za4,za5,za6,za7,za8,za9,zba,zbb,zbc,zbd,zbe,zbf,zbg,zbh,zbi,zbj,zbk,zbl,zbm,zbn,zbo,zbp,zbq,zbr,zbs,zbt,zbu,zbv,zbw,zbx,zby,zbz,zbA,zbB,zbC,zbD,zbE,zbF,zbG,zbH,zbI,zbJ,zbK,zbL,zbM,zbN,zbO,zbP,zbQ,zbR,zbS,zbT,zbU,zbV,zbW,zbX,zbY,zbZ,zb0,zb1,zb2,zb3,zb4,zb5,zb6,zb7,zb8,zb9,zca,zcb,eq_self,zcc,zcd,zce,zcf,zcg,zch,zci,zcj,zck,zcl,zcm,List.getElem?_cons_succ,List.getElem?_cons_zero,List.set_cons_succ,List.set_cons_zero,List.map_cons,List.map_nil,List.length_cons,List.length_nil,List.cons_append,List.nil_append,List.append_nil,List.isEmpty_cons,List.isEmpty_nil,if_true,if_false,ite_true,ite_false,Bool.not_true,Bool.not_false,Bool.not_not,decide_true,true_and,and_true,false_and,and_false,Bool.false_eq_true,reduceCtorEq,decide_true,decide_false,ite_self,forall_const,Nat.zero_add,Nat.reduceAdd,Nat.reduceLeDiff,Nat.reduceLT,Nat.reduceEqDiff,Nat.reduceSub,Nat.reduceMul,Nat.reduceBEq,Int.reduceLT,Int.reduceLE,Int.reduceEq,Int.reduceNe,Int.reduceAdd,Int.reduceMul,Int.reduceSub,Int.reduceNeg,Int.reducePow,Int.reduceBEq,Int.reduceToNat,Int.reduceGT,Int.reduceGE,String.reduceBEq,zcn,zco,List.replicate_succ,List.replicate_zero,zcp,zcq,zcr,zcs,zct,zcu,zcv,zcw,zcx,zcy,zcz,zcA,zcB,zcC,zcD,zcE,zcF,zcG,zcH,zcI,zcJ,zcK,zcL,zcM,zcN,zcO,zcP,zcQ,zcR,zcS,zcT,zcU,zcV,zcW,zcX,zcY,zcZ,zc0,zc1,zc2,zc3,zc4,zc5,zc6,zc7,zc8,zc9,zda,zdb,zdc,Bool.true_or,Bool.or_true,Bool.false_or,Bool.or_false,Bool.and_true,Bool.true_and,Bool.and_false,Bool.false_and,Int.cast_ofNat_Int,Int.natCast_zero,Int.natCast_one,beq_self_eq_true,zdd,zde,zdf,zdg,zdh,wipeR,o_sign_of,h,c1,l1,l2,l3,l4]
      · have c1' : (p.sign == 0) = false := by simpa using c1
        have eS : S1 p q r = p.sign := by rw [eS]; simp [h, c1]
        rw [eS]
        simp -dsimp (disch := first | assumption | omega) only [zaa,zab,zac,zad,zae,zaf,zag,zah,zai,zaj,zak,zal,zam,zan,zao,zap,zaq,zar,zas,zat,zau,zav,zaw,zax,zay,zaz,zaA,zaB,zaC,zaD,zaE,zaF,zaG,zaH,zaI,zaJ,zaK,zaL,zaM,zaN,zaO,zaP,zaQ,zaR,zaS,zaT,zaU,zaV,zaW,zaX,zaY,zaZ,za0,za1,za2,za3,za4,za5,za6,za7,za8,za9,zba,zbb,zbc,zbd,zbe,zbf,zbg,zbh,zbi,zbj,zbk,zbl,zbm,zbn,zbo,zbp,zbq,zbr,zbs,zbt,zbu,zbv,zbw,zbx,zby,zbz,zbA,zbB,zbC,zbD,zbE,zbF,zbG,zbH,zbI,zbJ,zbK,zbL,zbM,zbN,zbO,zbP,zbQ,zbR,zbS,zbT,zbU,zbV,zbW,zbX,zbY,zbZ,zb0,zb1,zb2,zb3,zb4,zb5,zb6,zb7,zb8,zb9,zca,zcb,eq_self,zcc,zcd,zce,zcf,zcg,zch,zci,zcj,zck,zcl,zcm,List.getElem?_cons_succ,List.getElem?_cons_zero,List.set_cons_succ,List.set_cons_zero,List.map_cons,List.map_nil,List.length_cons,List.length_nil,List.cons_append,List.nil_append,List.append_nil,List.isEmpty_cons,List.isEmpty_nil,if_true,if_false,ite_true,ite_false,Bool.not_true,Bool.not_false,Bool.not_not,decide_true,true_and,and_true,false_and,and_false,Bool.false_eq_true,reduceCtorEq,decide_true,decide_false,ite_self,forall_const,Nat.zero_add,Nat.reduceAdd,Nat.reduceLeDiff,Nat.reduceLT,Nat.reduceEqDiff,Nat.reduceSub,Nat.reduceMul,Nat.reduceBEq,Int.reduceLT,Int.reduceLE,Int.reduceEq,Int.reduceNe,Int.reduceAdd,Int.reduceMul,Int.reduceSub,Int.reduceNeg,Int.reducePow,Int.reduceBEq,Int.reduceToNat,Int.reduceGT,Int.reduceGE,String.reduceBEq,zcn,zco,List.replicate_succ,List.replicate_zero,zcp,zcq,zcr,zcs,zct,zcu,zcv,zcw,zcx,zcy,zcz,zcA,zcB,zcC,zcD,zcE,zcF,zcG,zcH,zcI,zcJ,zcK,zcL,zcM,zcN,zcO,zcP,zcQ,zcR,zcS,zcT,zcU,zcV,zcW,zcX,zcY,zcZ,zc0,zc1,zc2,zc3,zc4,zc5,zc6,zc7,zc8,zc9,zda,zdb,zdc,Bool.true_or,Bool.or_true,Bool.false_or,Bool.or_false,Bool.and_true,Bool.true_and,Bool.and_false,Bool.false_and,Int.cast_ofNat_Int,Int.natCast_zero,Int.natCast_one,beq_self_eq_true,zdd,zde,zdf,zdg,zdh,wipeR,o_sign_of,h,c1',l1,l2,l3,l4]
  rw [e, zaa]
end
end Pm.L


namespace Pm.L
open PySem PySem.Spec L2 Pm
section
variable {S : Sto} {Q : PV → Sto → Prop}
theorem S1_abs (p q r : Rat) : (S1 p q r).natAbs < 2 ^ 1 := by
  have h1 : ∀ x : Rat, (sg x).natAbs < 2 ^ 1 := fun x => bsg _
  have h2 : (if 0 < r then sg q else 0).natAbs < 2 ^ 1 := by
    split
    · exact h1 _
    · decide
  have h3 : ∀ x y : Rat, (sg x * sg y).natAbs < 2 ^ 1 := fun x y => by
    unfold sg
    rw [← Int.sign_mul]
    exact bsg _
  unfold S1
  generalize (if 0 < r then sg q else 0) = b at *
  split
  · split
    · exact h1 _
    · exact h2
  · exact h3 _ _
theorem o_s2 {p q r s t : Int} {k : Nat} (hp : p.natAbs < 2 ^ k) (hq : q.natAbs < 2 ^ k) (hr : r.natAbs < 2 ^ k) (hs : s.natAbs < 2 ^ k) (ht : t.natAbs < 2 ^ k) (hk : k ≤ 30000) (h3 : 3 ≤ k) : Ok (m_sign_of_two [.int p, .int q, .int r, .int s, .int t] S) Q = Q (.int (S2 p q r s t)) S := by
  have l1 := lg hp hp (by omega)
  have l2 := lg hq hq (by omega)
  have l3 := lg (bmul hq hq) hr (by omega)
  have l4 := lg hs hs (by omega)
  have l5 := lg (bmul hs hs) ht (by omega)
  have b2 : (2 : Int).natAbs < 2 ^ k := Nat.lt_of_lt_of_le (m := 2 ^ 3) (by decide) (Nat.pow_le_pow_right (by decide) h3)
  have l6 := lg b2 hp (by omega)
  have l7 := lg (bmul b2 hp) hq (by omega)
  have e : m_sign_of_two [.int p, .int q, .int r, .int s, .int t] S = .ok (.int (S2 p q r s t)) S := by
    refine Ok.eq (Ok_defM rfl ?_)
    have e1 : (p : Rat) * p + (q : Rat) * q * (r : Rat) - (s : Rat) * s * t = ((p * p + q * q * r - s * s * t : Int) : Rat) := by
      rw [Rat.intCast_sub, Rat.intCast_add, Rat.intCast_mul, Rat.intCast_mul, Rat.intCast_mul, Rat.intCast_mul, Rat.intCast_mul]
    have e2 : 2 * (p : Rat) * q = ((2 * p * q : Int) : Rat) := by
      rw [Rat.intCast_mul, Rat.intCast_mul]; rfl
    have eS : S2 p q r s t = if S1 p q r = 0 ∨ (if 0 < t then s.sign else 0) = 0 ∨ S1 p q r = (if 0 < t then s.sign else 0) then (if S1 p q r ≠ 0 then S1 p q r else if 0 < t then s.sign else 0) else S1 p q r * S1 ((p * p + q * q * r - s * s * t : Int) : Rat) ((2 * p * q : Int) : Rat) r := by
      unfold S2
      rw [e1, e2, sg_int]
      simp only [rpos]
    have f1 : ∀ S Q, Ok (m_sign_of_one [.int p, .int q, .int r] S) Q = Q (.int (S1 p q r)) S := fun S Q => o_s1 hp hq hr (by omega)
    have f2 : ∀ S Q, Ok (m_sign_of_one [.int (p * p + q * q * r - s * s * t), .int (2 * p * q), .int r] S) Q = Q (.int (S1 ((p * p + q * q * r - s * s * t : Int) : Rat) ((2 * p * q : Int) : Rat) r)) S := fun S Q =>
      o_s1 (k := k + k + k + 2) (bup (bsub (badd (bup (bmul hp hp) (by omega : k + k ≤ k + k + k)) (bmul (bmul hq hq) hr)) (bup (bmul (bmul hs hs) ht) (by omega : k + k + k ≤ k + k + k + 1))) (by omega)) (bup (bmul (bmul b2 hp) hq) (by omega)) (bup hr (by omega)) (by omega)
    have l8 := lg (S1_abs p q r) (S1_abs ((p * p + q * q * r - s * s * t : Int) : Rat) ((2 * p * q : Int) : Rat) r) (by omega)
    generalize S1 (p : Rat) q r = A at *
    generalize S1 ((p * p + q * q * r - s * s * t : Int) : Rat) ((2 * p * q : Int) : Rat) r = B at *
    by_cases h : 0 < t
    · by_cases c1 : A = 0
      · have eS : S2 p q r s t = s.sign := by rw [eS]; simp [h, c1]
        rw [eS]
        simp -dsimp (disch := first | assumption | omega) only [zaa,zab,zac,zad,zae,zaf,zag,zah,zai,zaj,zak,zal,zam,zan,zao,zap,zaq,zar,zas,zat,zau,zav,zaw,zax,zay,zaz,zaA,zaB,zaC,zaD,zaE,zaF,zaG,zaH,zaI,zaJ,zaK,zaL,zaM,zaN,zaO,zaP,zaQ,zaR,zaS,zaT,zaU,zaV,zaW,zaX,zaY,zaZ,za0,za1,za2,za3,za4,za5,za6,za7,za8,za9,zba,zbb,zbc,zbd,zbe,zbf,zbg,zbh,zbi,zbj,zbk,zbl,zbm,zbn,zbo,zbp,zbq,zbr,zbs,zbt,zbu,zbv,zbw,zbx,zby,zbz,zbA,zbB,zbC,zbD,zbE,zbF,zbG,zbH,zbI,zbJ,zbK,zbL,zbM,zbN,zbO,zbP,zbQ,zbR,zbS,zbT,zbU,zbV,zbW,zbX,zbY,zbZ,zb0,zb1,zb2,zb3,zb4,zb5,zb6,zb7,zb8,zb9,zca,zcb,eq_self,zcc,zcd,zce,zcf,zcg,zch,zci,zcj,zck,zcl,zcm,List.getElem?_cons_succ,List.getElem?_cons_zero,List.set_cons_succ,List.set_cons_zero,List.map_cons,List.map_nil,List.length_cons,List.length_nil,List.cons_append,List.nil_append,List.append_nil,List.isEmpty_cons,List.isEmpty_nil,if_true,if_false,ite_true,ite_false,Bool.not_true,Bool.not_false,Bool.not_not,decide_true,true_and,and_true,false_and,and_false,Bool.false_eq_true,reduceCtorEq,decide_true,decide_false,ite_self,forall_const,Nat.zero_add,Nat.reduceAdd,Nat.reduceLeDiff,Nat.reduceLT,Nat.reduceEqDiff,Nat.reduceSub,Nat.reduceMul,Nat.reduceBEq,Int.reduceLT,Int.reduceLE,Int.reduceEq,Int.reduceNe,Int.reduceAdd,Int.reduceMul,Int.reduceSub,Int.reduceNeg,Int.reducePow,Int.reduceBEq,Int.reduceToNat,Int.reduceGT,Int.reduceGE,String.reduceBEq,zcn,zco,List.replicate_succ,List.replicate_zero,zcp,zcq,zcr,zcs,zct,zcu,zcv,zcw,zcx,zcy,zcz,zcA,zcB,zcC,zcD,zcE,zcF,zcG,zcH,zcI,zcJ,zcK,zcL,zcM,zcN,zcO,zcP,zcQ,zcR,zcS,zcT,zcU,zcV,zcW,zcX,zcY,zcZ,zc0,zc1,zc2,zc3,zc4,zc5,zc6,zc7,zc8,zc9,zda,zdb,zdc,Bool.true_or,Bool.or_true,Bool.false_or,Bool.or_false,Bool.and_true,Bool.true_and,Bool.and_false,Bool.false_and,Int.cast_ofNat_Int,Int.natCast_zero,Int.natCast_one,beq_self_eq_true,zdd,zde,zdf,zdg,zdh,wipeR,o_sign_of,f1,f2,h,c1,l1,l2,l3,l4,l5,l6,l7]
      · have c1' : (A == 0) = false := by simpa using c1
        by_cases c2 : s.sign = 0
        · have eS : S2 p q r s t = A := by rw [eS]; simp [h, c1, c2]
          rw [eS]
          simp -dsimp (disch := first | assumption | omega) only [zaa,zab,zac,zad,zae,zaf,zag,zah,zai,zaj,zak,zal,zam,zan,zao,zap,zaq,zar,zas,zat,zau,zav,zaw,zax,zay,zaz,zaA,zaB,zaC,zaD,zaE,zaF,zaG,zaH,zaI,zaJ,zaK,zaL,zaM,zaN,zaO,zaP,zaQ,zaR,zaS,zaT,zaU,zaV,zaW,zaX,zaY,zaZ,za0,za1,za2,za3,za4,za5,za6,za7,za8,za9,zba,zbb,zbc,zbd,zbe,zbf,zbg,zbh,zbi,zbj,zbk,zbl,zbm,zbn,zbo,zbp,zbq,zbr,zbs,zbt,zbu,zbv,zbw,zbx,zby,zbz,zbA,zbB,zbC,zbD,zbE,zbF,zbG,zbH,zbI,zbJ,zbK,zbL,zbM,zbN,zbO,zbP,zbQ,zbR,zbS,zbT,zbU,zbV,zbW,zbX,zbY,zbZ,zb0,zb1,zb2,zb3,zb4,zb5,zb6,zb7,zb8,zb9,zca,zcb,eq_self,zcc,zcd,zce,zcf,zcg,zch,zci,zcj,zck,zcl,zcm,List.getElem?_cons_succ,List.getElem?_cons_zero,List.set_cons_succ,List.set_cons_zero,List.map_cons,List.map_nil,List.length_cons,List.length_nil,List.cons_append,List.nil_append,List.append_nil,List.isEmpty_cons,List.isEmpty_nil,if_true,if_false,ite_true,ite_false,Bool.not_true,Bool.not_false,Bool.not_not,decide_true,true_and,and_true,false_and,and_false,Bool.false_eq_true,reduceCtorEq,decide_true,decide_false,ite_self,forall_const,Nat.zero_add,Nat.reduceAdd,Nat.reduceLeDiff,Nat.reduceLT,Nat.reduceEqDiff,Nat.reduceSub,Nat.reduceMul,Nat.reduceBEq,Int.reduceLT,Int.reduceLE,Int.reduceEq,Int.reduceNe,Int.reduceAdd,Int.reduceMul,Int.reduceSub,Int.reduceNeg,Int.reducePow,Int.reduceBEq,Int.reduceToNat,Int.reduceGT,Int.reduceGE,String.reduceBEq,zcn,zco,List.replicate_succ,List.replicate_zero,zcp,zcq,zcr,zcs,zct,zcu,zcv,zcw,zcx,zcy,zcz,zcA,zcB,zcC,zcD,zcE,zcF,zcG,zcH,zcI,zcJ,zcK,zcL,zcM,zcN,zcO,zcP,zcQ,zcR,zcS,zcT,zcU,zcV,zcW,zcX,zcY,zcZ,zc0,zc1,zc2,zc3,zc4,zc5,zc6,zc7,zc8,zc9,zda,zdb,zdc,Bool.true_or,Bool.or_true,Bool.false_or,Bool.or_false,Bool.and_true,Bool.true_and,Bool.and_false,Bool.false_and,Int.cast_ofNat_Int,Int.natCast_zero,Int.natCast_one,beq_self_eq_true,zdd,zde,zdf,zdg,zdh,wipeR,o_sign_of,f1,f2,h,c1',c2,l1,l2,l3,l4,l5,l6,l7]
        · have c2' : (s.sign == 0) = false := by simpa using c2
          by_cases c3 : A = s.sign
          · have eS : S2 p q r s t = s.sign := by rw [eS]; simp [h, c2, c3]
            rw [eS]
            simp -dsimp (disch := first | assumption | omega) only [zaa,zab,zac,zad,zae,zaf,zag,zah,zai,zaj,zak,zal,zam,zan,zao,zap,zaq,zar,zas,zat,zau,zav,zaw,zax,zay,zaz,zaA,zaB,zaC,zaD,zaE,zaF,zaG,zaH,zaI,zaJ,zaK,zaL,zaM,zaN,zaO,zaP,zaQ,zaR,zaS,zaT,zaU,zaV,zaW,zaX,zaY,zaZ,za0,za1,za2,za3,za4,za5,za6,za7,za8,za9,zba,zbb,zbc,zbd,zbe,zbf,zbg,zbh,zbi,zbj,zbk,zbl,zbm,zbn,zbo,zbp,zbq,zbr,zbs,zbt,zbu,zbv,zbw,zbx,zby,zbz,zbA,zbB,zbC,zbD,zbE,zbF,zbG,zbH,zbI,zbJ,zbK,zbL,zbM,zbN,zbO,zbP,zbQ,zbR,zbS,zbT,zbU,zbV,zbW,zbX,zbY,zbZ,zb0,zb1,zb2,zb3,zb4,zb5,zb6,zb7,zb8,zb9,zca,zcb,eq_self,zcc,zcd,zce,zcf,zcg,zch,zci,zcj,zck,zcl,zcm,List.getElem?_cons_succ,List.getElem?_cons_zero,List.set_cons_succ,List.set_cons_zero,List.map_cons,List.map_nil,List.length_cons,List.length_nil,List.cons_append,List.nil_append,List.append_nil,List.isEmpty_cons,List.isEmpty_nil,if_true,if_false,ite_true,ite_false,Bool.not_true,Bool.not_false,Bool.not_not,decide_true,true_and,and_true,false_and,and_false,Bool.false_eq_true,reduceCtorEq,decide_true,decide_false,ite_self,forall_const,Nat.zero_add,Nat.reduceAdd,Nat.reduceLeDiff,Nat.reduceLT,Nat.reduceEqDiff,Nat.reduceSub,Nat.reduceMul,Nat.reduceBEq,Int.reduceLT,Int.reduceLE,Int.reduceEq,Int.reduceNe,Int.reduceAdd,Int.reduceMul,Int.reduceSub,Int.reduceNeg,Int.reducePow,Int.reduceBEq,Int.reduceToNat,Int.reduceGT,Int.reduceGE,String.reduceBEq,zcn,zco,List.replicate_succ,List.replicate_zero,zcp,zcq,zcr,zcs,zct,zcu,zcv,zcw,zcx,zcy,zcz,zcA,zcB,zcC,zcD,zcE,zcF,zcG,zcH,zcI,zcJ,zcK,zcL,zcM,zcN,zcO,zcP,zcQ,zcR,zcS,zcT,zcU,zcV,zcW,zcX,zcY,zcZ,zc0,zc1,zc2,zc3,zc4,zc5,zc6,zc7,zc8,zc9,zda,zdb,zdc,Bool.true_or,Bool.or_true,Bool.false_or,Bool.or_false,Bool.and_true,Bool.true_and,Bool.and_false,Bool.false_and,Int.cast_ofNat_Int,Int.natCast_zero,Int.natCast_one,beq_self_eq_true,zdd,zde,zdf,zdg,zdh,wipeR,o_sign_of,f1,f2,h,c3,c2',l1,l2,l3,l4,l5,l6,l7]
          · have c3' : (A == s.sign) = false := by simpa using c3
            have eS : S2 p q r s t = A * B := by rw [eS]; simp [h, c1, c2, c3]
            rw [eS]
            simp -dsimp (disch := first | assumption | omega) only [zaa,zab,zac,zad,zae,zaf,zag,zah,zai,zaj,zak,zal,zam,zan,zao,zap,zaq,zar,zas,zat,zau,zav,zaw,zax,zay,zaz,zaA,zaB,zaC,zaD,zaE,zaF,zaG,zaH,zaI,zaJ,zaK,zaL,zaM,zaN,zaO,zaP,zaQ,zaR,zaS,zaT,zaU,zaV,zaW,zaX,zaY,zaZ,za0,za1,za2,za3,za4,za5,za6,za7,za8,za9,zba,zbb,zbc,zbd,zbe,zbf,zbg,zbh,zbi,zbj,zbk,zbl,zbm,zbn,zbo,zbp,zbq,zbr,zbs,zbt,zbu,zbv,zbw,zbx,zby,zbz,zbA,zbB,zbC,zbD,zbE,zbF,zbG,zbH,zbI,zbJ,zbK,zbL,zbM,zbN,zbO,zbP,zbQ,zbR,zbS,zbT,zbU,zbV,zbW,zbX,zbY,zbZ,zb0,zb1,zb2,zb3,zb4,zb5,zb6,zb7,zb8,zb9,zca,zcb,eq_self,zcc,zcd,zce,zcf,zcg,zch,zci,zcj,zck,zcl,zcm,List.getElem?_cons_succ,List.getElem?_cons_zero,List.set_cons_succ,List.set_cons_zero,List.map_cons,List.map_nil,List.length_cons,List.length_nil,List.cons_append,List.nil_append,List.append_nil,List.isEmpty_cons,List.isEmpty_nil,if_true,if_false,ite_true,ite_false,Bool.not_true,Bool.not_false,Bool.not_not,decide_true,true_and,and_true,false_and,and_false,Bool.false_eq_true,reduceCtorEq,decide_true,decide_false,ite_self,forall_const,Nat.zero_add,Nat.reduceAdd,Nat.reduceLeDiff,Nat.reduceLT,Nat.reduceEqDiff,Nat.reduceSub,Nat.reduceMul,Nat.reduceBEq,Int.reduceLT,Int.reduceLE,Int.reduceEq,Int.reduceNe,Int.reduceAdd,Int.reduceMul,Int.reduceSub,Int.reduceNeg,Int.reducePow,Int.reduceBEq,Int.reduceToNat,Int.reduceGT,Int.reduceGE,String.reduceBEq,zcn,zco,List.replicate_succ,List.replicate_zero,zcp,zcq,zcr,zcs,zct,zcu,zcv,zcw,zcx,zcy,zcz,zcA,zcB,zcC,zcD,zcE,zcF,zcG,zcH,zcI,zcJ,zcK,zcL,zcM,zcN,zcO,zcP,zcQ,zcR,zcS,zcT,zcU,zcV,zcW,zcX,zcY,zcZ,zc0,zc1,zc2,zc3,zc4,zc5,zc6,zc7,zc8,zc9,zda,zdb,zdc,Bool.true_or,Bool.or_true,Bool.false_or,Bool.or_false,Bool.and_true,Bool.true_and,Bool.and_false,Bool.false_and,Int.cast_ofNat_Int,Int.natCast_zero,Int.natCast_one,beq_self_eq_true,zdd,zde,zdf,zdg,zdh,wipeR,o_sign_of,f1,f2,h,c1',c2',c3',l1,l2,l3,l4,l5,l6,l7,l8]
    · by_cases c1 : A = 0
      · have eS : S2 p q r s t = 0 := by rw [eS]; simp [h, c1]
        rw [eS]
        simp -dsimp (disch := first | assumption | omega) only [zaa,zab,zac,zad,zae,zaf,zag,zah,zai,zaj,zak,zal,zam,zan,zao,zap,zaq,zar,zas,zat,zau,zav,zaw,zax,zay,zaz,zaA,zaB,zaC,zaD,zaE,zaF,zaG,zaH,zaI,zaJ,zaK,zaL,zaM,zaN,zaO,zaP,zaQ,zaR,zaS,zaT,zaU,zaV,zaW,zaX,zaY,zaZ,za0,za1,za2,za3,za4,za5,za6,za7,za8,za9,zba,zbb,zbc,zbd,zbe,zbf,zbg,zbh,zbi,zbj,zbk,zbl,zbm,zbn,zbo,zbp,zbq,zbr,zbs,zbt,zbu,zbv,zbw,zbx,zby,zbz,zbA,zbB,zbC,zbD,zbE,zbF,zbG,zbH,zbI,zbJ,zbK,zbL,zbM,zbN,zbO,zbP,zbQ,zbR,zbS,zbT,zbU,zbV,zbW,zbX,zbY,zbZ,zb0,zb1,zb2,zb3,zb4,zb5,zb6,zb7,zb8,zb9,zca,zcb,eq_self,zcc,zcd,zce,zcf,zcg,zch,zci,zcj,zck,zcl,zcm,List.getElem?_cons_succ,List.getElem?_cons_zero,List.set_cons_succ,List.set_cons_zero,List.map_cons,List.map_nil,List.length_cons,List.length_nil,List.cons_append,List.nil_append,List.append_nil,List.isEmpty_cons,List.isEmpty_nil,if_true,if_false,ite_true,ite_false,Bool.not_true,Bool.not_false,Bool.not_not,decide_true,true_and,and_true,false_and,and_false,Bool.false_eq_true,reduceCtorEq,decide_true,decide_false,ite_self,forall_const,Nat.zero_add,Nat.reduceAdd,Nat.reduceLeDiff,Nat.reduceLT,Nat.reduceEqDiff,Nat.reduceSub,Nat.reduceMul,Nat.reduceBEq,Int.reduceLT,Int.reduceLE,Int.reduceEq,Int.reduceNe,Int.reduceAdd,Int.reduceMul,Int.reduceSub,Int.reduceNeg,Int.reducePow,Int.reduceBEq,Int.reduceToNat,Int.reduceGT,Int.reduceGE,String.reduceBEq,zcn,zco,List.replicate_succ,List.replicate_zero,zcp,zcq,zcr,zcs,zct,zcu,zcv,zcw,zcx,zcy,zcz,zcA,zcB,zcC,zcD,zcE,zcF,zcG,zcH,zcI,zcJ,zcK,zcL,zcM,zcN,zcO,zcP,zcQ,zcR,zcS,zcT,zcU,zcV,zcW,zcX,zcY,zcZ,zc0,zc1,zc2,zc3,zc4,zc5,zc6,zc7,zc8,zc9,zda,zdb,zdc,Bool.true_or,Bool.or_true,Bool.false_or,Bool.or_false,Bool.and_true,Bool.true_and,Bool.and_false,Bool.false_and,Int.cast_ofNat_Int,Int.natCast_zero,Int.natCast_one,beq_self_eq_true,zdd,zde,zdf,zdg,zdh,wipeR,o_sign_of,f1,f2,h,c1,l1,l2,l3,l4,l5,l6,l7]
      · have c1' : (A == 0) = false := by simpa using c1
        have eS : S2 p q r s t = A := by rw [eS]; simp [h, c1]
        rw [eS]
        simp -dsimp (disch := first | assumption | omega) only [zaa,zab,zac,zad,zae,zaf,zag,zah,zai,zaj,zak,zal,zam,zan,zao,zap,zaq,zar,zas,zat,zau,zav,zaw,zax,zay,zaz,zaA,zaB,zaC,zaD,zaE,zaF,zaG,zaH,zaI,zaJ,zaK,zaL,zaM,zaN,zaO,zaP,zaQ,zaR,zaS,zaT,zaU,zaV,zaW,zaX,zaY,zaZ,za0,za1,za2,za3,za4,za5,za6,za7,za8,za9,zba,zbb,zbc,zbd,zbe,zbf,zbg,zbh,zbi,zbj,zbk,zbl,zbm,zbn,zbo,zbp,zbq,zbr,zbs,zbt,zbu,zbv,zbw,zbx,zby,zbz,zbA,zbB,zbC,zbD,zbE,zbF,zbG,zbH,zbI,zbJ,zbK,zbL,zbM,zbN,zbO,zbP,zbQ,zbR,zbS,zbT,zbU,zbV,zbW,zbX,zbY,zbZ,zb0,zb1,zb2,zb3,zb4,zb5,zb6,zb7,zb8,zb9,zca,zcb,eq_self,zcc,zcd,zce,zcf,zcg,zch,zci,zcj,zck,zcl,zcm,List.getElem?_cons_succ,List.getElem?_cons_zero,List.set_cons_succ,List.set_cons_zero,List.map_cons,List.map_nil,List.length_cons,List.length_nil,List.cons_append,List.nil_append,List.append_nil,List.isEmpty_cons,List.isEmpty_nil,if_true,if_false,ite_true,ite_false,Bool.not_true,Bool.not_false,Bool.not_not,decide_true,true_and,and_true,false_and,and_false,Bool.false_eq_true,reduceCtorEq,decide_true,decide_false,ite_self,forall_const,Nat.zero_add,Nat.reduceAdd,Nat.reduceLeDiff,Nat.reduceLT,Nat.reduceEqDiff,Nat.reduceSub,Nat.reduceMul,Nat.reduceBEq,Int.reduceLT,Int.reduceLE,Int.reduceEq,Int.reduceNe,Int.reduceAdd,Int.reduceMul,Int.reduceSub,Int.reduceNeg,Int.reducePow,Int.reduceBEq,Int.reduceToNat,Int.reduceGT,Int.reduceGE,String.reduceBEq,zcn,zco,List.replicate_succ,List.replicate_zero,zcp,zcq,zcr,zcs,zct,zcu,zcv,zcw,zcx,zcy,zcz,zcA,zcB,zcC,zcD,zcE,zcF,zcG,zcH,zcI,zcJ,zcK,zcL,zcM,zcN,zcO,zcP,zcQ,zcR,zcS,zcT,zcU,zcV,zcW,zcX,zcY,zcZ,zc0,zc1,zc2,zc3,zc4,zc5,zc6,zc7,zc8,zc9,zda,zdb,zdc,Bool.true_or,Bool.or_true,Bool.false_or,Bool.or_false,Bool.and_true,Bool.true_and,Bool.and_false,Bool.false_and,Int.cast_ofNat_Int,Int.natCast_zero,Int.natCast_one,beq_self_eq_true,zdd,zde,zdf,zdg,zdh,wipeR,o_sign_of,f1,f2,h,c1',l1,l2,l3,l4,l5,l6,l7]
  rw [e, zaa]
end
end Pm.L


namespace Pm.L
open PySem PySem.Spec L2 Pm
theorem num_cast (q : Rat) : (q.num : Rat) = q * ((q.den : Int) : Rat) := by
  have h := Rat.num_divInt_den q
  rw [Rat.divInt_eq_div] at h
  have hw : ((q.den : Int) : Rat) ≠ 0 := Rat.ne_of_gt (Rat.intCast_pos.mpr (by have := q.den_pos; omega))
  grind
theorem dpos (q : Rat) : (0 : Rat) < ((q.den : Int) : Rat) := Rat.intCast_pos.mpr (by have := q.den_pos; omega)
/-- the sign of the difference of two surds -/
def cmp (p : Rat) (e : Int) (r : Rat) (k : Rat) (f : Int) (u : Rat) : Int := S2 (p - k) e r (-f) u
theorem cmp_zero (p : Rat) (e : Int) (r : Rat) : cmp p e r 0 0 0 = S1 p e r := by
  unfold cmp
  rw [S2_t0]
  congr 1; grind
section
variable {S : Sto} {Q : PV → Sto → Prop}
theorem Ok_gTup_rv {n : Nat} {gs : GDs} {q : Rat} {ρ : Rho} {K : Rho → Sto → Prop} : Ok (gTup n gs (rv q) ρ S) K = (([PV.int q.num, PV.int q.den] : List PV).length = n ∧ Ok (gs [.int q.num, .int q.den] ρ S) K) := zbw
theorem o_compared {p r k u : Rat} {e f : Int} {a b c d : Nat} [hp : Sz p a] [hr : Sz r b] [hk : Sz k c] [hu : Sz u d] (he : e.natAbs < 2 ^ 1) (hf : f.natAbs < 2 ^ 1) (hl : a + b + c + d ≤ 7000) : Ok (m_compared [sv p e r, sv k f u] S) Q = Q (.int (cmp p e r k f u)) S := by
  have b1 := nSub hp hk
  have b2 : (p.den : Int).natAbs < 2 ^ a := hp.d
  have b3 : (k.den : Int).natAbs < 2 ^ c := hk.d
  have b4 : (r.den : Int).natAbs < 2 ^ b := hr.d
  have b5 : (u.den : Int).natAbs < 2 ^ d := hu.d
  have bf : (-f).natAbs < 2 ^ 1 := by rw [Int.natAbs_neg]; exact hf
  have n1 : p.num.natAbs.log2 + (k.den : Int).natAbs.log2 < 1000000 := lg hp.n hk.d (by omega)
  have n2 : k.num.natAbs.log2 + (p.den : Int).natAbs.log2 < 1000000 := lg hk.n hp.d (by omega)
  have n3 := lg b1 b4 (by omega)
  have n4 := lg (bmul b1 b4) b5 (by omega)
  have n5 := lg he b2 (by omega)
  have n6 := lg (bmul he b2) b3 (by omega)
  have n7 := lg (bmul (bmul he b2) b3) b5 (by omega)
  have n8 := lg hr.n b4 (by omega)
  have n9 := lg bf b2 (by omega)
  have n10 := lg (bmul bf b2) b3 (by omega)
  have n11 := lg (bmul (bmul bf b2) b3) b4 (by omega)
  have n12 := lg hu.n b5 (by omega)
  have c1 : ((p.num * k.den - k.num * p.den : Int) : Rat) = (p - k) * ((p.den : Int) * (k.den : Int)) := by
    rw [Rat.intCast_sub, Rat.intCast_mul, Rat.intCast_mul, num_cast p, num_cast k]; grind
  have hc : (0 : Rat) < ((p.den : Int) : Rat) * ((k.den : Int) : Rat) := Rat.mul_pos (dpos p) (dpos k)
  have f1 : ∀ S Q, Ok (m_sign_of_two [.int ((p.num * k.den - k.num * p.den) * r.den * u.den), .int (e * p.den * k.den * u.den), .int (r.num * r.den), .int (-f * p.den * k.den * r.den), .int (u.num * u.den)] S) Q = Q (.int (cmp p e r k f u)) S := fun S Q => by
    rw [o_s2 (k := a + b + c + d + (b + d) + 3) (bup (bmul (bmul b1 b4) b5) (by omega)) (bup (bmul (bmul (bmul he b2) b3) b5) (by omega)) (bup (bmul hr.n b4) (by have := hp.pos; omega)) (bup (bmul (bmul (bmul bf b2) b3) b4) (by omega)) (bup (bmul hu.n b5) (by omega)) (by omega) (by omega)]
    have := S2_scale (p := p - k) (q := e) (r := r) (s := -(f : Rat)) (t := u) hc (dpos r) (dpos u)
    unfold cmp
    rw [← this]
    congr 3
    · rw [Rat.intCast_mul, Rat.intCast_mul, c1]
    · rw [Rat.intCast_mul, Rat.intCast_mul, Rat.intCast_mul]; grind
    · rw [Rat.intCast_mul, num_cast r]; grind
    · rw [Rat.intCast_mul, Rat.intCast_mul, Rat.intCast_mul, Rat.intCast_neg]; grind
    · rw [Rat.intCast_mul, num_cast u]; grind
  have e1 : m_compared [sv p e r, sv k f u] S = .ok (.int (cmp p e r k f u)) S := by
    refine Ok.eq (Ok_defM rfl ?_)
    unfold sv rv
    by_cases z : e = 0
    · by_cases y : f = 0
      · subst z; subst y
        have ec : cmp p (0 : Int) r k (0 : Int) u = (p.num * k.den - k.num * p.den).sign := by
          unfold cmp
          have h0 : -((0 : Int) : Rat) = 0 := by decide
          rw [h0, S2_s0, show ((0 : Int) : Rat) = 0 from rfl, S1_q0, ← sg_int, c1, sg_scale hc]
        rw [ec]
        simp -dsimp (disch := first | assumption | omega) only [zaa,zab,zac,zad,zae,zaf,zag,zah,zai,zaj,zak,zal,zam,zan,zao,zap,zaq,zar,zas,zat,zau,zav,zaw,zax,zay,zaz,zaA,zaB,zaC,zaD,zaE,zaF,zaG,zaH,zaI,zaJ,zaK,zaL,zaM,zaN,zaO,zaP,zaQ,zaR,zaS,zaT,zaU,zaV,zaW,zaX,zaY,zaZ,za0,za1,za2,za3,za4,za5,za6,za7,za8,za9,zba,zbb,zbc,zbd,zbe,zbf,zbg,zbh,zbi,zbj,zbk,zbl,zbm,zbn,zbo,zbp,zbq,zbr,zbs,zbt,zbu,zbv,zbw,zbx,zby,zbz,zbA,zbB,zbC,zbD,zbE,zbF,zbG,zbH,zbI,zbJ,zbK,zbL,zbM,zbN,zbO,zbP,zbQ,zbR,zbS,zbT,zbU,zbV,zbW,zbX,zbY,zbZ,zb0,zb1,zb2,zb3,zb4,zb5,zb6,zb7,zb8,zb9,zca,zcb,eq_self,zcc,zcd,zce,zcf,zcg,zch,zci,zcj,zck,zcl,zcm,List.getElem?_cons_succ,List.getElem?_cons_zero,List.set_cons_succ,List.set_cons_zero,List.map_cons,List.map_nil,List.length_cons,List.length_nil,List.cons_append,List.nil_append,List.append_nil,List.isEmpty_cons,List.isEmpty_nil,if_true,if_false,ite_true,ite_false,Bool.not_true,Bool.not_false,Bool.not_not,decide_true,true_and,and_true,false_and,and_false,Bool.false_eq_true,reduceCtorEq,decide_true,decide_false,ite_self,forall_const,Nat.zero_add,Nat.reduceAdd,Nat.reduceLeDiff,Nat.reduceLT,Nat.reduceEqDiff,Nat.reduceSub,Nat.reduceMul,Nat.reduceBEq,Int.reduceLT,Int.reduceLE,Int.reduceEq,Int.reduceNe,Int.reduceAdd,Int.reduceMul,Int.reduceSub,Int.reduceNeg,Int.reducePow,Int.reduceBEq,Int.reduceToNat,Int.reduceGT,Int.reduceGE,String.reduceBEq,zcn,zco,List.replicate_succ,List.replicate_zero,zcp,zcq,zcr,zcs,zct,zcu,zcv,zcw,zcx,zcy,zcz,zcA,zcB,zcC,zcD,zcE,zcF,zcG,zcH,zcI,zcJ,zcK,zcL,zcM,zcN,zcO,zcP,zcQ,zcR,zcS,zcT,zcU,zcV,zcW,zcX,zcY,zcZ,zc0,zc1,zc2,zc3,zc4,zc5,zc6,zc7,zc8,zc9,zda,zdb,zdc,Bool.true_or,Bool.or_true,Bool.false_or,Bool.or_false,Bool.and_true,Bool.true_and,Bool.and_false,Bool.false_and,Int.cast_ofNat_Int,Int.natCast_zero,Int.natCast_one,beq_self_eq_true,zdd,zde,zdf,zdg,zdh,wipeR,n1,n2,o_sign_of]
      · have y' : (f == 0) = false := by simpa using y
        simp -dsimp (disch := first | assumption | omega) only [zaa,zab,zac,zad,zae,zaf,zag,zah,zai,zaj,zak,zal,zam,zan,zao,zap,zaq,zar,zas,zat,zau,zav,zaw,zax,zay,zaz,zaA,zaB,zaC,zaD,zaE,zaF,zaG,zaH,zaI,zaJ,zaK,zaL,zaM,zaN,zaO,zaP,zaQ,zaR,zaS,zaT,zaU,zaV,zaW,zaX,zaY,zaZ,za0,za1,za2,za3,za4,za5,za6,za7,za8,za9,zba,zbb,zbc,zbd,zbe,zbf,zbg,zbh,zbi,zbj,zbk,zbl,zbm,zbn,zbo,zbp,zbq,zbr,zbs,zbt,zbu,zbv,zbw,zbx,zby,zbz,zbA,zbB,zbC,zbD,zbE,zbF,zbG,zbH,zbI,zbJ,zbK,zbL,zbM,zbN,zbO,zbP,zbQ,zbR,zbS,zbT,zbU,zbV,zbW,zbX,zbY,zbZ,zb0,zb1,zb2,zb3,zb4,zb5,zb6,zb7,zb8,zb9,zca,zcb,eq_self,zcc,zcd,zce,zcf,zcg,zch,zci,zcj,zck,zcl,zcm,List.getElem?_cons_succ,List.getElem?_cons_zero,List.set_cons_succ,List.set_cons_zero,List.map_cons,List.map_nil,List.length_cons,List.length_nil,List.cons_append,List.nil_append,List.append_nil,List.isEmpty_cons,List.isEmpty_nil,if_true,if_false,ite_true,ite_false,Bool.not_true,Bool.not_false,Bool.not_not,decide_true,true_and,and_true,false_and,and_false,Bool.false_eq_true,reduceCtorEq,decide_true,decide_false,ite_self,forall_const,Nat.zero_add,Nat.reduceAdd,Nat.reduceLeDiff,Nat.reduceLT,Nat.reduceEqDiff,Nat.reduceSub,Nat.reduceMul,Nat.reduceBEq,Int.reduceLT,Int.reduceLE,Int.reduceEq,Int.reduceNe,Int.reduceAdd,Int.reduceMul,Int.reduceSub,Int.reduceNeg,Int.reducePow,Int.reduceBEq,Int.reduceToNat,Int.reduceGT,Int.reduceGE,String.reduceBEq,zcn,zco,List.replicate_succ,List.replicate_zero,zcp,zcq,zcr,zcs,zct,zcu,zcv,zcw,zcx,zcy,zcz,zcA,zcB,zcC,zcD,zcE,zcF,zcG,zcH,zcI,zcJ,zcK,zcL,zcM,zcN,zcO,zcP,zcQ,zcR,zcS,zcT,zcU,zcV,zcW,zcX,zcY,zcZ,zc0,zc1,zc2,zc3,zc4,zc5,zc6,zc7,zc8,zc9,zda,zdb,zdc,Bool.true_or,Bool.or_true,Bool.false_or,Bool.or_false,Bool.and_true,Bool.true_and,Bool.and_false,Bool.false_and,Int.cast_ofNat_Int,Int.natCast_zero,Int.natCast_one,beq_self_eq_true,zdd,zde,zdf,zdg,zdh,wipeR,n1,n2,n3,n4,n5,n6,n7,n8,n9,n10,n11,n12,z,y',f1]
        rw [z] at n5 n6 n7 f1
        simp -dsimp (disch := first | assumption | omega) only [zaa,zab,zac,zad,zae,zaf,zag,zah,zai,zaj,zak,zal,zam,zan,zao,zap,zaq,zar,zas,zat,zau,zav,zaw,zax,zay,zaz,zaA,zaB,zaC,zaD,zaE,zaF,zaG,zaH,zaI,zaJ,zaK,zaL,zaM,zaN,zaO,zaP,zaQ,zaR,zaS,zaT,zaU,zaV,zaW,zaX,zaY,zaZ,za0,za1,za2,za3,za4,za5,za6,za7,za8,za9,zba,zbb,zbc,zbd,zbe,zbf,zbg,zbh,zbi,zbj,zbk,zbl,zbm,zbn,zbo,zbp,zbq,zbr,zbs,zbt,zbu,zbv,zbw,zbx,zby,zbz,zbA,zbB,zbC,zbD,zbE,zbF,zbG,zbH,zbI,zbJ,zbK,zbL,zbM,zbN,zbO,zbP,zbQ,zbR,zbS,zbT,zbU,zbV,zbW,zbX,zbY,zbZ,zb0,zb1,zb2,zb3,zb4,zb5,zb6,zb7,zb8,zb9,zca,zcb,eq_self,zcc,zcd,zce,zcf,zcg,zch,zci,zcj,zck,zcl,zcm,List.getElem?_cons_succ,List.getElem?_cons_zero,List.set_cons_succ,List.set_cons_zero,List.map_cons,List.map_nil,List.length_cons,List.length_nil,List.cons_append,List.nil_append,List.append_nil,List.isEmpty_cons,List.isEmpty_nil,if_true,if_false,ite_true,ite_false,Bool.not_true,Bool.not_false,Bool.not_not,decide_true,true_and,and_true,false_and,and_false,Bool.false_eq_true,reduceCtorEq,decide_true,decide_false,ite_self,forall_const,Nat.zero_add,Nat.reduceAdd,Nat.reduceLeDiff,Nat.reduceLT,Nat.reduceEqDiff,Nat.reduceSub,Nat.reduceMul,Nat.reduceBEq,Int.reduceLT,Int.reduceLE,Int.reduceEq,Int.reduceNe,Int.reduceAdd,Int.reduceMul,Int.reduceSub,Int.reduceNeg,Int.reducePow,Int.reduceBEq,Int.reduceToNat,Int.reduceGT,Int.reduceGE,String.reduceBEq,zcn,zco,List.replicate_succ,List.replicate_zero,zcp,zcq,zcr,zcs,zct,zcu,zcv,zcw,zcx,zcy,zcz,zcA,zcB,zcC,zcD,zcE,zcF,zcG,zcH,zcI,zcJ,zcK,zcL,zcM,zcN,zcO,zcP,zcQ,zcR,zcS,zcT,zcU,zcV,zcW,zcX,zcY,zcZ,zc0,zc1,zc2,zc3,zc4,zc5,zc6,zc7,zc8,zc9,zda,zdb,zdc,Bool.true_or,Bool.or_true,Bool.false_or,Bool.or_false,Bool.and_true,Bool.true_and,Bool.and_false,Bool.false_and,Int.cast_ofNat_Int,Int.natCast_zero,Int.natCast_one,beq_self_eq_true,zdd,zde,zdf,zdg,zdh,wipeR,n5,n6,n7,f1]
        rw [z]
    · have z' : (e == 0) = false := by simpa using z
      simp -dsimp (disch := first | assumption | omega) only [zaa,zab,zac,zad,zae,zaf,zag,zah,zai,zaj,zak,zal,zam,zan,zao,zap,zaq,zar,zas,zat,zau,zav,zaw,zax,zay,zaz,zaA,zaB,zaC,zaD,zaE,zaF,zaG,zaH,zaI,zaJ,zaK,zaL,zaM,zaN,zaO,zaP,zaQ,zaR,zaS,zaT,zaU,zaV,zaW,zaX,zaY,zaZ,za0,za1,za2,za3,za4,za5,za6,za7,za8,za9,zba,zbb,zbc,zbd,zbe,zbf,zbg,zbh,zbi,zbj,zbk,zbl,zbm,zbn,zbo,zbp,zbq,zbr,zbs,zbt,zbu,zbv,zbw,zbx,zby,zbz,zbA,zbB,zbC,zbD,zbE,zbF,zbG,zbH,zbI,zbJ,zbK,zbL,zbM,zbN,zbO,zbP,zbQ,zbR,zbS,zbT,zbU,zbV,zbW,zbX,zbY,zbZ,zb0,zb1,zb2,zb3,zb4,zb5,zb6,zb7,zb8,zb9,zca,zcb,eq_self,zcc,zcd,zce,zcf,zcg,zch,zci,zcj,zck,zcl,zcm,List.getElem?_cons_succ,List.getElem?_cons_zero,List.set_cons_succ,List.set_cons_zero,List.map_cons,List.map_nil,List.length_cons,List.length_nil,List.cons_append,List.nil_append,List.append_nil,List.isEmpty_cons,List.isEmpty_nil,if_true,if_false,ite_true,ite_false,Bool.not_true,Bool.not_false,Bool.not_not,decide_true,true_and,and_true,false_and,and_false,Bool.false_eq_true,reduceCtorEq,decide_true,decide_false,ite_self,forall_const,Nat.zero_add,Nat.reduceAdd,Nat.reduceLeDiff,Nat.reduceLT,Nat.reduceEqDiff,Nat.reduceSub,Nat.reduceMul,Nat.reduceBEq,Int.reduceLT,Int.reduceLE,Int.reduceEq,Int.reduceNe,Int.reduceAdd,Int.reduceMul,Int.reduceSub,Int.reduceNeg,Int.reducePow,Int.reduceBEq,Int.reduceToNat,Int.reduceGT,Int.reduceGE,String.reduceBEq,zcn,zco,List.replicate_succ,List.replicate_zero,zcp,zcq,zcr,zcs,zct,zcu,zcv,zcw,zcx,zcy,zcz,zcA,zcB,zcC,zcD,zcE,zcF,zcG,zcH,zcI,zcJ,zcK,zcL,zcM,zcN,zcO,zcP,zcQ,zcR,zcS,zcT,zcU,zcV,zcW,zcX,zcY,zcZ,zc0,zc1,zc2,zc3,zc4,zc5,zc6,zc7,zc8,zc9,zda,zdb,zdc,Bool.true_or,Bool.or_true,Bool.false_or,Bool.or_false,Bool.and_true,Bool.true_and,Bool.and_false,Bool.false_and,Int.cast_ofNat_Int,Int.natCast_zero,Int.natCast_one,beq_self_eq_true,zdd,zde,zdf,zdg,zdh,wipeR,n1,n2,n3,n4,n5,n6,n7,n8,n9,n10,n11,n12,z',f1]
  rw [e1, zaa]
end
end Pm.L


namespace Pm.L
open PySem PySem.Spec L2 Pm
/-! streams -/
abbrev stV (x y : Rat) (w : Int) (s b : Rat) : PV := .tup [pl x y, .int w, jv s b]
abbrev W1 (w : Int) : Prop := w = 1 ∨ w = -1
theorem W1.q {w : Int} (h : W1 w) : ((w : Int) : Rat) = 1 ∨ ((w : Int) : Rat) = -1 := by
  rcases h with rfl | rfl
  · exact .inl rfl
  · exact .inr rfl
theorem W1.sz {w : Int} (h : W1 w) : Sz ((w : Int) : Rat) 1 := sz_e (by rcases h with h | h <;> simp [h])
def hA (x y : Rat) (w : Int) (s b : Rat) : Rat := y - (w : Rat) * s * x - b * (x * x)
def hB (x : Rat) (w : Int) (s b : Rat) : Rat := (w : Rat) * s + 2 * (b * x)
/-- the curve's height -/
abbrev hF (A B b X : Rat) : Rat := A + X * (B + -b * X)
theorem h_own {x y s b : Rat} {w : Int} : hF (hA x y w s b) (hB x w s b) b x = y := by
  unfold hF hA hB
  generalize ((w : Int) : Rat) = v
  grind
theorem t_ws {w : Int} {s : Rat} (h : W1 w) : PV.tup [.int (w * s.num), .int s.den] = rv ((w : Rat) * s) := by
  unfold rv
  rcases h with rfl | rfl
  · rw [show (((1 : Int)) : Rat) * s = s by show (1 : Rat) * s = s; grind, Int.one_mul]
  · rw [show (((-1 : Int)) : Rat) * s = -s by show (-1 : Rat) * s = -s; grind, Rat.neg_num, Rat.neg_den, Int.neg_one_mul]
theorem empty_rv : v_EMPTY = .tup [rv 0, rv 0, rv 0] := rfl
section
variable {S : Sto} {Q : PV → Sto → Prop}
section
variable {x y s b : Rat} {w : Int} {i j k l : Nat} [zx : Sz x i] [zy : Sz y j] [zs : Sz s k] [zb : Sz b l]
theorem p_is_stream (hw : W1 w) (hb : 0 < b) : Ok (m_is_stream [stV x y w s b] S) Q = Q (.bl true) S := by
  have e : m_is_stream [stV x y w s b] S = .ok (.bl true) S := by
    refine Ok.eq (Ok_defM rfl ?_)
    have i1 : ∀ S (Q : PV → Sto → Prop), Ok (inM (.int 1) (.tup [.int 1, .int (-1)]) S) Q = Q (.bl true) S := fun S Q => rfl
    have i2 : ∀ S (Q : PV → Sto → Prop), Ok (inM (.int (-1)) (.tup [.int 1, .int (-1)]) S) Q = Q (.bl true) S := fun S Q => rfl
    rcases hw with rfl | rfl
    · simp -dsimp (disch := first | assumption | omega) only [zaa,zab,zac,zad,zae,zaf,zag,zah,zai,zaj,zak,zal,zam,zan,zao,zap,zaq,zar,zas,zat,zau,zav,zaw,zax,zay,zaz,zaA,zaB,zaC,zaD,zaE,zaF,zaG,zaH,zaI,zaJ,zaK,zaL,zaM,zaN,zaO,zaP,zaQ,zaR,zaS,zaT,zaU,zaV,zaW,zaX,zaY,zaZ,za0,za1,za2,za3,za4,za5,za6,za7,za8,za9,zba,zbb,zbc,zbd,zbe,zbf,zbg,zbh,zbi,zbj,zbk,zbl,zbm,zbn,zbo,zbp,zbq,zbr,zbs,zbt,zbu,zbv,zbw,zbx,zby,zbz,zbA,zbB,zbC,zbD,zbE,zbF,zbG,zbH,zbI,zbJ,zbK,zbL,zbM,zbN,zbO,zbP,zbQ,zbR,zbS,zbT,zbU,zbV,zbW,zbX,zbY,zbZ,zb0,zb1,zb2,zb3,zb4,zb5,zb6,zb7,zb8,zb9,zca,zcb,eq_self,zcc,zcd,zce,zcf,zcg,zch,zci,zcj,zck,zcl,zcm,List.getElem?_cons_succ,List.getElem?_cons_zero,List.set_cons_succ,List.set_cons_zero,List.map_cons,List.map_nil,List.length_cons,List.length_nil,List.cons_append,List.nil_append,List.append_nil,List.isEmpty_cons,List.isEmpty_nil,if_true,if_false,ite_true,ite_false,Bool.not_true,Bool.not_false,Bool.not_not,decide_true,true_and,and_true,false_and,and_false,Bool.false_eq_true,reduceCtorEq,decide_true,decide_false,ite_self,forall_const,Nat.zero_add,Nat.reduceAdd,Nat.reduceLeDiff,Nat.reduceLT,Nat.reduceEqDiff,Nat.reduceSub,Nat.reduceMul,Nat.reduceBEq,Int.reduceLT,Int.reduceLE,Int.reduceEq,Int.reduceNe,Int.reduceAdd,Int.reduceMul,Int.reduceSub,Int.reduceNeg,Int.reducePow,Int.reduceBEq,Int.reduceToNat,Int.reduceGT,Int.reduceGE,String.reduceBEq,zcn,zco,List.replicate_succ,List.replicate_zero,zcp,zcq,zcr,zcs,zct,zcu,zcv,zcw,zcx,zcy,zcz,zcA,zcB,zcC,zcD,zcE,zcF,zcG,zcH,zcI,zcJ,zcK,zcL,zcM,zcN,zcO,zcP,zcQ,zcR,zcS,zcT,zcU,zcV,zcW,zcX,zcY,zcZ,zc0,zc1,zc2,zc3,zc4,zc5,zc6,zc7,zc8,zc9,zda,zdb,zdc,Bool.true_or,Bool.or_true,Bool.false_or,Bool.or_false,Bool.and_true,Bool.true_and,Bool.and_false,Bool.false_and,Int.cast_ofNat_Int,Int.natCast_zero,Int.natCast_one,beq_self_eq_true,zdd,zde,zdf,zdg,zdh,wipeR,o_is_spot,o_is_stream_pair,o_is_whole,i1,i2]
    · simp -dsimp (disch := first | assumption | omega) only [zaa,zab,zac,zad,zae,zaf,zag,zah,zai,zaj,zak,zal,zam,zan,zao,zap,zaq,zar,zas,zat,zau,zav,zaw,zax,zay,zaz,zaA,zaB,zaC,zaD,zaE,zaF,zaG,zaH,zaI,zaJ,zaK,zaL,zaM,zaN,zaO,zaP,zaQ,zaR,zaS,zaT,zaU,zaV,zaW,zaX,zaY,zaZ,za0,za1,za2,za3,za4,za5,za6,za7,za8,za9,zba,zbb,zbc,zbd,zbe,zbf,zbg,zbh,zbi,zbj,zbk,zbl,zbm,zbn,zbo,zbp,zbq,zbr,zbs,zbt,zbu,zbv,zbw,zbx,zby,zbz,zbA,zbB,zbC,zbD,zbE,zbF,zbG,zbH,zbI,zbJ,zbK,zbL,zbM,zbN,zbO,zbP,zbQ,zbR,zbS,zbT,zbU,zbV,zbW,zbX,zbY,zbZ,zb0,zb1,zb2,zb3,zb4,zb5,zb6,zb7,zb8,zb9,zca,zcb,eq_self,zcc,zcd,zce,zcf,zcg,zch,zci,zcj,zck,zcl,zcm,List.getElem?_cons_succ,List.getElem?_cons_zero,List.set_cons_succ,List.set_cons_zero,List.map_cons,List.map_nil,List.length_cons,List.length_nil,List.cons_append,List.nil_append,List.append_nil,List.isEmpty_cons,List.isEmpty_nil,if_true,if_false,ite_true,ite_false,Bool.not_true,Bool.not_false,Bool.not_not,decide_true,true_and,and_true,false_and,and_false,Bool.false_eq_true,reduceCtorEq,decide_true,decide_false,ite_self,forall_const,Nat.zero_add,Nat.reduceAdd,Nat.reduceLeDiff,Nat.reduceLT,Nat.reduceEqDiff,Nat.reduceSub,Nat.reduceMul,Nat.reduceBEq,Int.reduceLT,Int.reduceLE,Int.reduceEq,Int.reduceNe,Int.reduceAdd,Int.reduceMul,Int.reduceSub,Int.reduceNeg,Int.reducePow,Int.reduceBEq,Int.reduceToNat,Int.reduceGT,Int.reduceGE,String.reduceBEq,zcn,zco,List.replicate_succ,List.replicate_zero,zcp,zcq,zcr,zcs,zct,zcu,zcv,zcw,zcx,zcy,zcz,zcA,zcB,zcC,zcD,zcE,zcF,zcG,zcH,zcI,zcJ,zcK,zcL,zcM,zcN,zcO,zcP,zcQ,zcR,zcS,zcT,zcU,zcV,zcW,zcX,zcY,zcZ,zc0,zc1,zc2,zc3,zc4,zc5,zc6,zc7,zc8,zc9,zda,zdb,zdc,Bool.true_or,Bool.or_true,Bool.false_or,Bool.or_false,Bool.and_true,Bool.true_and,Bool.and_false,Bool.false_and,Int.cast_ofNat_Int,Int.natCast_zero,Int.natCast_one,beq_self_eq_true,zdd,zde,zdf,zdg,zdh,wipeR,o_is_spot,o_is_stream_pair,o_is_whole,i1,i2]
  rw [e, zaa]
theorem p_check_stream (hw : W1 w) (hb : 0 < b) : Ok (m_check_stream [stV x y w s b] S) Q = Q .non S := by
  have e : m_check_stream [stV x y w s b] S = .ok .non S := by
    refine Ok.eq (Ok_defM rfl ?_)
    simp -dsimp (disch := first | assumption | omega) only [zaa,zab,zac,zad,zae,zaf,zag,zah,zai,zaj,zak,zal,zam,zan,zao,zap,zaq,zar,zas,zat,zau,zav,zaw,zax,zay,zaz,zaA,zaB,zaC,zaD,zaE,zaF,zaG,zaH,zaI,zaJ,zaK,zaL,zaM,zaN,zaO,zaP,zaQ,zaR,zaS,zaT,zaU,zaV,zaW,zaX,zaY,zaZ,za0,za1,za2,za3,za4,za5,za6,za7,za8,za9,zba,zbb,zbc,zbd,zbe,zbf,zbg,zbh,zbi,zbj,zbk,zbl,zbm,zbn,zbo,zbp,zbq,zbr,zbs,zbt,zbu,zbv,zbw,zbx,zby,zbz,zbA,zbB,zbC,zbD,zbE,zbF,zbG,zbH,zbI,zbJ,zbK,zbL,zbM,zbN,zbO,zbP,zbQ,zbR,zbS,zbT,zbU,zbV,zbW,zbX,zbY,zbZ,zb0,zb1,zb2,zb3,zb4,zb5,zb6,zb7,zb8,zb9,zca,zcb,eq_self,zcc,zcd,zce,zcf,zcg,zch,zci,zcj,zck,zcl,zcm,List.getElem?_cons_succ,List.getElem?_cons_zero,List.set_cons_succ,List.set_cons_zero,List.map_cons,List.map_nil,List.length_cons,List.length_nil,List.cons_append,List.nil_append,List.append_nil,List.isEmpty_cons,List.isEmpty_nil,if_true,if_false,ite_true,ite_false,Bool.not_true,Bool.not_false,Bool.not_not,decide_true,true_and,and_true,false_and,and_false,Bool.false_eq_true,reduceCtorEq,decide_true,decide_false,ite_self,forall_const,Nat.zero_add,Nat.reduceAdd,Nat.reduceLeDiff,Nat.reduceLT,Nat.reduceEqDiff,Nat.reduceSub,Nat.reduceMul,Nat.reduceBEq,Int.reduceLT,Int.reduceLE,Int.reduceEq,Int.reduceNe,Int.reduceAdd,Int.reduceMul,Int.reduceSub,Int.reduceNeg,Int.reducePow,Int.reduceBEq,Int.reduceToNat,Int.reduceGT,Int.reduceGE,String.reduceBEq,zcn,zco,List.replicate_succ,List.replicate_zero,zcp,zcq,zcr,zcs,zct,zcu,zcv,zcw,zcx,zcy,zcz,zcA,zcB,zcC,zcD,zcE,zcF,zcG,zcH,zcI,zcJ,zcK,zcL,zcM,zcN,zcO,zcP,zcQ,zcR,zcS,zcT,zcU,zcV,zcW,zcX,zcY,zcZ,zc0,zc1,zc2,zc3,zc4,zc5,zc6,zc7,zc8,zc9,zda,zdb,zdc,Bool.true_or,Bool.or_true,Bool.false_or,Bool.or_false,Bool.and_true,Bool.true_and,Bool.and_false,Bool.false_and,Int.cast_ofNat_Int,Int.natCast_zero,Int.natCast_one,beq_self_eq_true,zdd,zde,zdf,zdg,zdh,wipeR,p_is_stream hw hb]
  rw [e, zaa]
theorem p_start (hk : i + j ≤ 8000) : Ok (m_start_of [stV x y w s b] S) Q = Q (.tup [rv x, rv y]) S := by
  have e : m_start_of [stV x y w s b] S = .ok (.tup [rv x, rv y]) S := by
    refine Ok.eq (Ok_defM rfl ?_)
    have e1 := fun S Q => o_ratio (S := S) (Q := Q) (a := pX x y) (pW_nz x y) (pW_sz zx zy hk)
    have e2 := fun S Q => o_ratio (S := S) (Q := Q) (a := pY x y) (pW_nz x y) (pW_sz zx zy hk)
    rw [p_far] at e1
    rw [p_tall] at e2
    rw [show stV x y w s b = .tup [.tup [.int (pX x y), .int (pY x y), .int (pW x y)], .int w, jv s b] by unfold stV; rw [pl_eq]; rfl]
    simp -dsimp (disch := first | assumption | omega) only [zaa,zab,zac,zad,zae,zaf,zag,zah,zai,zaj,zak,zal,zam,zan,zao,zap,zaq,zar,zas,zat,zau,zav,zaw,zax,zay,zaz,zaA,zaB,zaC,zaD,zaE,zaF,zaG,zaH,zaI,zaJ,zaK,zaL,zaM,zaN,zaO,zaP,zaQ,zaR,zaS,zaT,zaU,zaV,zaW,zaX,zaY,zaZ,za0,za1,za2,za3,za4,za5,za6,za7,za8,za9,zba,zbb,zbc,zbd,zbe,zbf,zbg,zbh,zbi,zbj,zbk,zbl,zbm,zbn,zbo,zbp,zbq,zbr,zbs,zbt,zbu,zbv,zbw,zbx,zby,zbz,zbA,zbB,zbC,zbD,zbE,zbF,zbG,zbH,zbI,zbJ,zbK,zbL,zbM,zbN,zbO,zbP,zbQ,zbR,zbS,zbT,zbU,zbV,zbW,zbX,zbY,zbZ,zb0,zb1,zb2,zb3,zb4,zb5,zb6,zb7,zb8,zb9,zca,zcb,eq_self,zcc,zcd,zce,zcf,zcg,zch,zci,zcj,zck,zcl,zcm,List.getElem?_cons_succ,List.getElem?_cons_zero,List.set_cons_succ,List.set_cons_zero,List.map_cons,List.map_nil,List.length_cons,List.length_nil,List.cons_append,List.nil_append,List.append_nil,List.isEmpty_cons,List.isEmpty_nil,if_true,if_false,ite_true,ite_false,Bool.not_true,Bool.not_false,Bool.not_not,decide_true,true_and,and_true,false_and,and_false,Bool.false_eq_true,reduceCtorEq,decide_true,decide_false,ite_self,forall_const,Nat.zero_add,Nat.reduceAdd,Nat.reduceLeDiff,Nat.reduceLT,Nat.reduceEqDiff,Nat.reduceSub,Nat.reduceMul,Nat.reduceBEq,Int.reduceLT,Int.reduceLE,Int.reduceEq,Int.reduceNe,Int.reduceAdd,Int.reduceMul,Int.reduceSub,Int.reduceNeg,Int.reducePow,Int.reduceBEq,Int.reduceToNat,Int.reduceGT,Int.reduceGE,String.reduceBEq,zcn,zco,List.replicate_succ,List.replicate_zero,zcp,zcq,zcr,zcs,zct,zcu,zcv,zcw,zcx,zcy,zcz,zcA,zcB,zcC,zcD,zcE,zcF,zcG,zcH,zcI,zcJ,zcK,zcL,zcM,zcN,zcO,zcP,zcQ,zcR,zcS,zcT,zcU,zcV,zcW,zcX,zcY,zcZ,zc0,zc1,zc2,zc3,zc4,zc5,zc6,zc7,zc8,zc9,zda,zdb,zdc,Bool.true_or,Bool.or_true,Bool.false_or,Bool.or_false,Bool.and_true,Bool.true_and,Bool.and_false,Bool.false_and,Int.cast_ofNat_Int,Int.natCast_zero,Int.natCast_one,beq_self_eq_true,zdd,zde,zdf,zdg,zdh,wipeR,e1,e2]
  rw [e, zaa]
theorem p_heights (hw : W1 w) (hk : i + j ≤ 1000) (hl : k + l ≤ 500) : Ok (m_heights_of [stV x y w s b] S) Q = Q (.tup [rv (hA x y w s b), rv (hB x w s b), rv (-b)]) S := by
  have e : m_heights_of [stV x y w s b] S = .ok (.tup [rv (hA x y w s b), rv (hB x w s b), rv (-b)]) S := by
    refine Ok.eq (Ok_defM rfl ?_)
    have ps := fun S Q => p_start (S := S) (Q := Q) (x := x) (y := y) (w := w) (s := s) (b := b) (by omega)
    have zw := hw.sz
    have e1 : y - (w : Rat) * s * x - b * (x * x) = hA x y w s b := rfl
    have e2 : (w : Rat) * s + 2 * (b * x) = hB x w s b := rfl
    simp -dsimp (disch := first | assumption | omega) only [zaa,zab,zac,zad,zae,zaf,zag,zah,zai,zaj,zak,zal,zam,zan,zao,zap,zaq,zar,zas,zat,zau,zav,zaw,zax,zay,zaz,zaA,zaB,zaC,zaD,zaE,zaF,zaG,zaH,zaI,zaJ,zaK,zaL,zaM,zaN,zaO,zaP,zaQ,zaR,zaS,zaT,zaU,zaV,zaW,zaX,zaY,zaZ,za0,za1,za2,za3,za4,za5,za6,za7,za8,za9,zba,zbb,zbc,zbd,zbe,zbf,zbg,zbh,zbi,zbj,zbk,zbl,zbm,zbn,zbo,zbp,zbq,zbr,zbs,zbt,zbu,zbv,zbw,zbx,zby,zbz,zbA,zbB,zbC,zbD,zbE,zbF,zbG,zbH,zbI,zbJ,zbK,zbL,zbM,zbN,zbO,zbP,zbQ,zbR,zbS,zbT,zbU,zbV,zbW,zbX,zbY,zbZ,zb0,zb1,zb2,zb3,zb4,zb5,zb6,zb7,zb8,zb9,zca,zcb,eq_self,zcc,zcd,zce,zcf,zcg,zch,zci,zcj,zck,zcl,zcm,List.getElem?_cons_succ,List.getElem?_cons_zero,List.set_cons_succ,List.set_cons_zero,List.map_cons,List.map_nil,List.length_cons,List.length_nil,List.cons_append,List.nil_append,List.append_nil,List.isEmpty_cons,List.isEmpty_nil,if_true,if_false,ite_true,ite_false,Bool.not_true,Bool.not_false,Bool.not_not,decide_true,true_and,and_true,false_and,and_false,Bool.false_eq_true,reduceCtorEq,decide_true,decide_false,ite_self,forall_const,Nat.zero_add,Nat.reduceAdd,Nat.reduceLeDiff,Nat.reduceLT,Nat.reduceEqDiff,Nat.reduceSub,Nat.reduceMul,Nat.reduceBEq,Int.reduceLT,Int.reduceLE,Int.reduceEq,Int.reduceNe,Int.reduceAdd,Int.reduceMul,Int.reduceSub,Int.reduceNeg,Int.reducePow,Int.reduceBEq,Int.reduceToNat,Int.reduceGT,Int.reduceGE,String.reduceBEq,zcn,zco,List.replicate_succ,List.replicate_zero,zcp,zcq,zcr,zcs,zct,zcu,zcv,zcw,zcx,zcy,zcz,zcA,zcB,zcC,zcD,zcE,zcF,zcG,zcH,zcI,zcJ,zcK,zcL,zcM,zcN,zcO,zcP,zcQ,zcR,zcS,zcT,zcU,zcV,zcW,zcX,zcY,zcZ,zc0,zc1,zc2,zc3,zc4,zc5,zc6,zc7,zc8,zc9,zda,zdb,zdc,Bool.true_or,Bool.or_true,Bool.false_or,Bool.or_false,Bool.and_true,Bool.true_and,Bool.and_false,Bool.false_and,Int.cast_ofNat_Int,Int.natCast_zero,Int.natCast_one,beq_self_eq_true,zdd,zde,zdf,zdg,zdh,wipeR,ps,t_e1 w,t21,o_ratio_product,o_ratio_less,o_ratio_sum,p_back,e1,e2]
  rw [e, zaa]
theorem p_times (hk : i + j ≤ 1000) (hl : k + l ≤ 500) : Ok (m_times_of [stV x y w s b] S) Q = Q (.tup [rv (b * x * x), rv (-2 * (b * x)), rv b]) S := by
  have e : m_times_of [stV x y w s b] S = .ok (.tup [rv (b * x * x), rv (-2 * (b * x)), rv b]) S := by
    refine Ok.eq (Ok_defM rfl ?_)
    have ps := fun S Q => p_start (S := S) (Q := Q) (x := x) (y := y) (w := w) (s := s) (b := b) (by omega)
    have tm : PV.tup [.int (-2), .int 1] = rv (-2) := rfl
    have zm : Sz (-2 : Rat) 2 := inferInstance
    simp -dsimp (disch := first | assumption | omega) only [zaa,zab,zac,zad,zae,zaf,zag,zah,zai,zaj,zak,zal,zam,zan,zao,zap,zaq,zar,zas,zat,zau,zav,zaw,zax,zay,zaz,zaA,zaB,zaC,zaD,zaE,zaF,zaG,zaH,zaI,zaJ,zaK,zaL,zaM,zaN,zaO,zaP,zaQ,zaR,zaS,zaT,zaU,zaV,zaW,zaX,zaY,zaZ,za0,za1,za2,za3,za4,za5,za6,za7,za8,za9,zba,zbb,zbc,zbd,zbe,zbf,zbg,zbh,zbi,zbj,zbk,zbl,zbm,zbn,zbo,zbp,zbq,zbr,zbs,zbt,zbu,zbv,zbw,zbx,zby,zbz,zbA,zbB,zbC,zbD,zbE,zbF,zbG,zbH,zbI,zbJ,zbK,zbL,zbM,zbN,zbO,zbP,zbQ,zbR,zbS,zbT,zbU,zbV,zbW,zbX,zbY,zbZ,zb0,zb1,zb2,zb3,zb4,zb5,zb6,zb7,zb8,zb9,zca,zcb,eq_self,zcc,zcd,zce,zcf,zcg,zch,zci,zcj,zck,zcl,zcm,List.getElem?_cons_succ,List.getElem?_cons_zero,List.set_cons_succ,List.set_cons_zero,List.map_cons,List.map_nil,List.length_cons,List.length_nil,List.cons_append,List.nil_append,List.append_nil,List.isEmpty_cons,List.isEmpty_nil,if_true,if_false,ite_true,ite_false,Bool.not_true,Bool.not_false,Bool.not_not,decide_true,true_and,and_true,false_and,and_false,Bool.false_eq_true,reduceCtorEq,decide_true,decide_false,ite_self,forall_const,Nat.zero_add,Nat.reduceAdd,Nat.reduceLeDiff,Nat.reduceLT,Nat.reduceEqDiff,Nat.reduceSub,Nat.reduceMul,Nat.reduceBEq,Int.reduceLT,Int.reduceLE,Int.reduceEq,Int.reduceNe,Int.reduceAdd,Int.reduceMul,Int.reduceSub,Int.reduceNeg,Int.reducePow,Int.reduceBEq,Int.reduceToNat,Int.reduceGT,Int.reduceGE,String.reduceBEq,zcn,zco,List.replicate_succ,List.replicate_zero,zcp,zcq,zcr,zcs,zct,zcu,zcv,zcw,zcx,zcy,zcz,zcA,zcB,zcC,zcD,zcE,zcF,zcG,zcH,zcI,zcJ,zcK,zcL,zcM,zcN,zcO,zcP,zcQ,zcR,zcS,zcT,zcU,zcV,zcW,zcX,zcY,zcZ,zc0,zc1,zc2,zc3,zc4,zc5,zc6,zc7,zc8,zc9,zda,zdb,zdc,Bool.true_or,Bool.or_true,Bool.false_or,Bool.or_false,Bool.and_true,Bool.true_and,Bool.and_false,Bool.false_and,Int.cast_ofNat_Int,Int.natCast_zero,Int.natCast_one,beq_self_eq_true,zdd,zde,zdf,zdg,zdh,wipeR,ps,tm,o_ratio_product]
  rw [e, zaa]
end
end
end Pm.L


namespace Pm.L
open PySem PySem.Spec L2 Pm
section
variable {S : Sto} {Q : PV → Sto → Prop}
theorem w_sign {i : Int} : Ok (m__law_sign [.int i] S) Q = Q (.int ((if i > 0 then 1 else 0) - (if i < 0 then 1 else 0))) S := by
  have e : m__law_sign [.int i] S = .ok (.int ((if i > 0 then 1 else 0) - (if i < 0 then 1 else 0))) S := by
    refine Ok.eq (Ok_defM rfl ?_)
    simp -dsimp (disch := first | assumption | omega) only [zaa,zab,zac,zad,zae,zaf,zag,zah,zai,zaj,zak,zal,zam,zan,zao,zap,zaq,zar,zas,zat,zau,zav,zaw,zax,zay,zaz,zaA,zaB,zaC,zaD,zaE,zaF,zaG,zaH,zaI,zaJ,zaK,zaL,zaM,zaN,zaO,zaP,zaQ,zaR,zaS,zaT,zaU,zaV,zaW,zaX,zaY,zaZ,za0,za1,za2,za3,za4,za5,za6,za7,za8,za9,zba,zbb,zbc,zbd,zbe,zbf,zbg,zbh,zbi,zbj,zbk,zbl,zbm,zbn,zbo,zbp,zbq,zbr,zbs,zbt,zbu,zbv,zbw,zbx,zby,zbz,zbA,zbB,zbC,zbD,zbE,zbF,zbG,zbH,zbI,zbJ,zbK,zbL,zbM,zbN,zbO,zbP,zbQ,zbR,zbS,zbT,zbU,zbV,zbW,zbX,zbY,zbZ,zb0,zb1,zb2,zb3,zb4,zb5,zb6,zb7,zb8,zb9,zca,zcb,eq_self,zcc,zcd,zce,zcf,zcg,zch,zci,zcj,zck,zcl,zcm,List.getElem?_cons_succ,List.getElem?_cons_zero,List.set_cons_succ,List.set_cons_zero,List.map_cons,List.map_nil,List.length_cons,List.length_nil,List.cons_append,List.nil_append,List.append_nil,List.isEmpty_cons,List.isEmpty_nil,if_true,if_false,ite_true,ite_false,Bool.not_true,Bool.not_false,Bool.not_not,decide_true,true_and,and_true,false_and,and_false,Bool.false_eq_true,reduceCtorEq,decide_true,decide_false,ite_self,forall_const,Nat.zero_add,Nat.reduceAdd,Nat.reduceLeDiff,Nat.reduceLT,Nat.reduceEqDiff,Nat.reduceSub,Nat.reduceMul,Nat.reduceBEq,Int.reduceLT,Int.reduceLE,Int.reduceEq,Int.reduceNe,Int.reduceAdd,Int.reduceMul,Int.reduceSub,Int.reduceNeg,Int.reducePow,Int.reduceBEq,Int.reduceToNat,Int.reduceGT,Int.reduceGE,String.reduceBEq,zcn,zco,List.replicate_succ,List.replicate_zero,zcp,zcq,zcr,zcs,zct,zcu,zcv,zcw,zcx,zcy,zcz,zcA,zcB,zcC,zcD,zcE,zcF,zcG,zcH,zcI,zcJ,zcK,zcL,zcM,zcN,zcO,zcP,zcQ,zcR,zcS,zcT,zcU,zcV,zcW,zcX,zcY,zcZ,zc0,zc1,zc2,zc3,zc4,zc5,zc6,zc7,zc8,zc9,zda,zdb,zdc,Bool.true_or,Bool.or_true,Bool.false_or,Bool.or_false,Bool.and_true,Bool.true_and,Bool.and_false,Bool.false_and,Int.cast_ofNat_Int,Int.natCast_zero,Int.natCast_one,beq_self_eq_true,zdd,zde,zdf,zdg,zdh,wipeR,decide_eq_true_eq]
  rw [e, zaa]
/-- -1, 0, 1 -/
def sgI (q r : Rat) : Int := if q < r then -1 else if q = r then 0 else 1
theorem w_order {q r : Rat} {k l : Nat} [hq : Sz q k] [hr : Sz r l] (hk : k + l ≤ 8000) : Ok (m__law_order [rv q, rv r] S) Q = Q (.int (sgI q r)) S := by
  have n1 : q.num.natAbs.log2 + (r.den : Int).natAbs.log2 < 1000000 := lg hq.n hr.d (by omega)
  have n2 : r.num.natAbs.log2 + (q.den : Int).natAbs.log2 < 1000000 := lg hr.n hq.d (by omega)
  have ev : ((if q.num * (r.den : Int) - r.num * (q.den : Int) > 0 then (1 : Int) else 0) - (if q.num * (r.den : Int) - r.num * (q.den : Int) < 0 then 1 else 0)) = sgI q r := by
    have h1 : q < r ↔ q.num * (r.den : Int) < r.num * (q.den : Int) := Rat.lt_iff _ _
    have h2 : r < q ↔ r.num * (q.den : Int) < q.num * (r.den : Int) := Rat.lt_iff _ _
    unfold sgI
    by_cases a : q < r
    · rw [if_pos a]
      have := h1.mp a
      rw [if_neg (by omega), if_pos (by omega)]; rfl
    · rw [if_neg a]
      have a' := mt h1.mpr a
      by_cases b : q = r
      · rw [if_pos b]
        have c : ¬ r < q := by grind
        have c' := mt h2.mpr c
        rw [if_neg (by omega), if_neg (by omega)]; rfl
      · rw [if_neg b]
        have c : r < q := by grind
        have c' := h2.mp c
        rw [if_pos (by omega), if_neg (by omega)]; rfl
  have e : m__law_order [rv q, rv r] S = .ok (.int (sgI q r)) S := by
    refine Ok.eq (Ok_defM rfl ?_)
    simp -dsimp (disch := first | assumption | omega) only [zaa,zab,zac,zad,zae,zaf,zag,zah,zai,zaj,zak,zal,zam,zan,zao,zap,zaq,zar,zas,zat,zau,zav,zaw,zax,zay,zaz,zaA,zaB,zaC,zaD,zaE,zaF,zaG,zaH,zaI,zaJ,zaK,zaL,zaM,zaN,zaO,zaP,zaQ,zaR,zaS,zaT,zaU,zaV,zaW,zaX,zaY,zaZ,za0,za1,za2,za3,za4,za5,za6,za7,za8,za9,zba,zbb,zbc,zbd,zbe,zbf,zbg,zbh,zbi,zbj,zbk,zbl,zbm,zbn,zbo,zbp,zbq,zbr,zbs,zbt,zbu,zbv,zbw,zbx,zby,zbz,zbA,zbB,zbC,zbD,zbE,zbF,zbG,zbH,zbI,zbJ,zbK,zbL,zbM,zbN,zbO,zbP,zbQ,zbR,zbS,zbT,zbU,zbV,zbW,zbX,zbY,zbZ,zb0,zb1,zb2,zb3,zb4,zb5,zb6,zb7,zb8,zb9,zca,zcb,eq_self,zcc,zcd,zce,zcf,zcg,zch,zci,zcj,zck,zcl,zcm,List.getElem?_cons_succ,List.getElem?_cons_zero,List.set_cons_succ,List.set_cons_zero,List.map_cons,List.map_nil,List.length_cons,List.length_nil,List.cons_append,List.nil_append,List.append_nil,List.isEmpty_cons,List.isEmpty_nil,if_true,if_false,ite_true,ite_false,Bool.not_true,Bool.not_false,Bool.not_not,decide_true,true_and,and_true,false_and,and_false,Bool.false_eq_true,reduceCtorEq,decide_true,decide_false,ite_self,forall_const,Nat.zero_add,Nat.reduceAdd,Nat.reduceLeDiff,Nat.reduceLT,Nat.reduceEqDiff,Nat.reduceSub,Nat.reduceMul,Nat.reduceBEq,Int.reduceLT,Int.reduceLE,Int.reduceEq,Int.reduceNe,Int.reduceAdd,Int.reduceMul,Int.reduceSub,Int.reduceNeg,Int.reducePow,Int.reduceBEq,Int.reduceToNat,Int.reduceGT,Int.reduceGE,String.reduceBEq,zcn,zco,List.replicate_succ,List.replicate_zero,zcp,zcq,zcr,zcs,zct,zcu,zcv,zcw,zcx,zcy,zcz,zcA,zcB,zcC,zcD,zcE,zcF,zcG,zcH,zcI,zcJ,zcK,zcL,zcM,zcN,zcO,zcP,zcQ,zcR,zcS,zcT,zcU,zcV,zcW,zcX,zcY,zcZ,zc0,zc1,zc2,zc3,zc4,zc5,zc6,zc7,zc8,zc9,zda,zdb,zdc,Bool.true_or,Bool.or_true,Bool.false_or,Bool.or_false,Bool.and_true,Bool.true_and,Bool.and_false,Bool.false_and,Int.cast_ofNat_Int,Int.natCast_zero,Int.natCast_one,beq_self_eq_true,zdd,zde,zdf,zdg,zdh,wipeR,n1,n2,w_sign,ev]
  rw [e, zaa]
theorem wpickl_ok {n m : Nat} {xs : List PV} (h : Vat m S n) (hm : m ≤ 1000000000) (h0 : 0 < xs.length) (h1 : xs.length < 1000)
    (hq : ∀ p ∈ xs, ∀ S', S'.length = S.length → Vat (m + 1) S' n → Q p S') : Ok (m__law_pick [.loc n, .lst xs] S) Q := by
  refine Ok_defM rfl ?_
  simp -dsimp (disch := first | assumption | omega) only [zaa,zab,zac,zad,zae,zaf,zag,zah,zai,zaj,zak,zal,zam,zan,zao,zap,zaq,zar,zas,zat,zau,zav,zaw,zax,zay,zaz,zaA,zaB,zaC,zaD,zaE,zaF,zaG,zaH,zaI,zaJ,zaK,zaL,zaM,zaN,zaO,zaP,zaQ,zaR,zaS,zaT,zaU,zaV,zaW,zaX,zaY,zaZ,za0,za1,za2,za3,za4,za5,za6,za7,za8,za9,zba,zbb,zbc,zbd,zbe,zbf,zbg,zbh,zbi,zbj,zbk,zbl,zbm,zbn,zbo,zbp,zbq,zbr,zbs,zbt,zbu,zbv,zbw,zbx,zby,zbz,zbA,zbB,zbC,zbD,zbE,zbF,zbG,zbH,zbI,zbJ,zbK,zbL,zbM,zbN,zbO,zbP,zbQ,zbR,zbS,zbT,zbU,zbV,zbW,zbX,zbY,zbZ,zb0,zb1,zb2,zb3,zb4,zb5,zb6,zb7,zb8,zb9,zca,zcb,eq_self,zcc,zcd,zce,zcf,zcg,zch,zci,zcj,zck,zcl,zcm,List.getElem?_cons_succ,List.getElem?_cons_zero,List.set_cons_succ,List.set_cons_zero,List.map_cons,List.map_nil,List.length_cons,List.length_nil,List.cons_append,List.nil_append,List.append_nil,List.isEmpty_cons,List.isEmpty_nil,if_true,if_false,ite_true,ite_false,Bool.not_true,Bool.not_false,Bool.not_not,decide_true,true_and,and_true,false_and,and_false,Bool.false_eq_true,reduceCtorEq,decide_true,decide_false,ite_self,forall_const,Nat.zero_add,Nat.reduceAdd,Nat.reduceLeDiff,Nat.reduceLT,Nat.reduceEqDiff,Nat.reduceSub,Nat.reduceMul,Nat.reduceBEq,Int.reduceLT,Int.reduceLE,Int.reduceEq,Int.reduceNe,Int.reduceAdd,Int.reduceMul,Int.reduceSub,Int.reduceNeg,Int.reducePow,Int.reduceBEq,Int.reduceToNat,Int.reduceGT,Int.reduceGE,String.reduceBEq,zcn,zco,List.replicate_succ,List.replicate_zero,zcp,zcq,zcr,zcs,zct,zcu,zcv,zcw,zcx,zcy,zcz,zcA,zcB,zcC,zcD,zcE,zcF,zcG,zcH,zcI,zcJ,zcK,zcL,zcM,zcN,zcO,zcP,zcQ,zcR,zcS,zcT,zcU,zcV,zcW,zcX,zcY,zcZ,zc0,zc1,zc2,zc3,zc4,zc5,zc6,zc7,zc8,zc9,zda,zdb,zdc,Bool.true_or,Bool.or_true,Bool.false_or,Bool.or_false,Bool.and_true,Bool.true_and,Bool.and_false,Bool.false_and,Int.cast_ofNat_Int,Int.natCast_zero,Int.natCast_one,beq_self_eq_true,zdd,zde,zdf,zdg,zdh,wipeR]
  refine wdraw_ok h hm (by omega) (by omega) fun d S' d0 d1 hl hv => ?_
  have hd : d.toNat < xs.length := by omega
  have e : atI xs d = some xs[d.toNat] := by
    unfold atI ixN
    rw [if_pos d0, if_pos d1]
    simp [hd]
  simp -dsimp (disch := first | assumption | omega) only [zaa,zab,zac,zad,zae,zaf,zag,zah,zai,zaj,zak,zal,zam,zan,zao,zap,zaq,zar,zas,zat,zau,zav,zaw,zax,zay,zaz,zaA,zaB,zaC,zaD,zaE,zaF,zaG,zaH,zaI,zaJ,zaK,zaL,zaM,zaN,zaO,zaP,zaQ,zaR,zaS,zaT,zaU,zaV,zaW,zaX,zaY,zaZ,za0,za1,za2,za3,za4,za5,za6,za7,za8,za9,zba,zbb,zbc,zbd,zbe,zbf,zbg,zbh,zbi,zbj,zbk,zbl,zbm,zbn,zbo,zbp,zbq,zbr,zbs,zbt,zbu,zbv,zbw,zbx,zby,zbz,zbA,zbB,zbC,zbD,zbE,zbF,zbG,zbH,zbI,zbJ,zbK,zbL,zbM,zbN,zbO,zbP,zbQ,zbR,zbS,zbT,zbU,zbV,zbW,zbX,zbY,zbZ,zb0,zb1,zb2,zb3,zb4,zb5,zb6,zb7,zb8,zb9,zca,zcb,eq_self,zcc,zcd,zce,zcf,zcg,zch,zci,zcj,zck,zcl,zcm,List.getElem?_cons_succ,List.getElem?_cons_zero,List.set_cons_succ,List.set_cons_zero,List.map_cons,List.map_nil,List.length_cons,List.length_nil,List.cons_append,List.nil_append,List.append_nil,List.isEmpty_cons,List.isEmpty_nil,if_true,if_false,ite_true,ite_false,Bool.not_true,Bool.not_false,Bool.not_not,decide_true,true_and,and_true,false_and,and_false,Bool.false_eq_true,reduceCtorEq,decide_true,decide_false,ite_self,forall_const,Nat.zero_add,Nat.reduceAdd,Nat.reduceLeDiff,Nat.reduceLT,Nat.reduceEqDiff,Nat.reduceSub,Nat.reduceMul,Nat.reduceBEq,Int.reduceLT,Int.reduceLE,Int.reduceEq,Int.reduceNe,Int.reduceAdd,Int.reduceMul,Int.reduceSub,Int.reduceNeg,Int.reducePow,Int.reduceBEq,Int.reduceToNat,Int.reduceGT,Int.reduceGE,String.reduceBEq,zcn,zco,List.replicate_succ,List.replicate_zero,zcp,zcq,zcr,zcs,zct,zcu,zcv,zcw,zcx,zcy,zcz,zcA,zcB,zcC,zcD,zcE,zcF,zcG,zcH,zcI,zcJ,zcK,zcL,zcM,zcN,zcO,zcP,zcQ,zcR,zcS,zcT,zcU,zcV,zcW,zcX,zcY,zcZ,zc0,zc1,zc2,zc3,zc4,zc5,zc6,zc7,zc8,zc9,zda,zdb,zdc,Bool.true_or,Bool.or_true,Bool.false_or,Bool.or_false,Bool.and_true,Bool.true_and,Bool.and_false,Bool.false_and,Int.cast_ofNat_Int,Int.natCast_zero,Int.natCast_one,beq_self_eq_true,zdd,zde,zdf,zdg,zdh,wipeR,e]
  exact ⟨hl, hq _ (List.getElem_mem hd) _ hl hv⟩
section
variable {q r : Rat} {k l : Nat} [h : Sz q k] [g : Sz r l]
theorem w_point (hk : k + l ≤ 8000) : Ok (m__law_point [rv q, rv r] S) Q = Q (pl q r) S := by
  have n2 : q.num.natAbs.log2 + (r.den : Int).natAbs.log2 < 1000000 := lg h.n g.d (by omega)
  have n3 : r.num.natAbs.log2 + (q.den : Int).natAbs.log2 < 1000000 := lg g.n h.d (by omega)
  have n4 : (q.den : Int).natAbs.log2 + (r.den : Int).natAbs.log2 < 1000000 := lg h.d g.d (by omega)
  have hw := dd_pos q r
  have b1 := up8 (nDiv h g) (by omega)
  have b2 := up8 (nDiv g h) (by omega)
  have b3 := up8 (nDen h g) (by omega)
  have lean3 : ∀ S Q, Ok (m__law_lean [.tup [.int (q.num * r.den), .int (r.num * q.den), .int (q.den * r.den)]] S) Q = Q (pl q r) S := fun S Q => by
    have e : m__law_lean [.tup [.int (q.num * r.den), .int (r.num * q.den), .int (q.den * r.den)]] S = .ok (pl q r) S := by
      refine Ok.eq (Ok_defM rfl ?_)
      have c := fun S Q => o_common (S := S) (Q := Q) (is := [q.num * r.den, r.num * q.den, q.den * r.den]) (by intro x hx; simp at hx; rcases hx with rfl | rfl | rfl <;> assumption)
      simp only [List.map_cons, List.map_nil, gF_3] at c
      have h1 := g3_nz (a := q.num * r.den) (b := r.num * q.den) hw
      have h2 : (g3 (q.num * r.den) (r.num * q.den) (q.den * r.den)).log2 < 9000 := Nat.lt_succ_of_lt (log_g3 hw b3)
      have g0 : 0 < g3 (q.num * r.den) (r.num * q.den) (q.den * r.den) := by omega
      have mg := max_g g0
      simp only [gt_iff_lt] at mg
      have e1 : (q.num * r.den).fdiv (g3 (q.num * r.den) (r.num * q.den) (q.den * r.den)) = q.num * r.den / g3 (q.num * r.den) (r.num * q.den) (q.den * r.den) := fdiv_of_dvd (g3_a ..)
      have e2 : (r.num * q.den).fdiv (g3 (q.num * r.den) (r.num * q.den) (q.den * r.den)) = r.num * q.den / g3 (q.num * r.den) (r.num * q.den) (q.den * r.den) := fdiv_of_dvd (g3_b ..)
      have e3 : ((q.den : Int) * r.den).fdiv (g3 (q.num * r.den) (r.num * q.den) (q.den * r.den)) = q.den * r.den / g3 (q.num * r.den) (r.num * q.den) (q.den * r.den) := fdiv_of_dvd (g3_w ..)
      simp -dsimp (disch := first | assumption | omega) only [zaa,zab,zac,zad,zae,zaf,zag,zah,zai,zaj,zak,zal,zam,zan,zao,zap,zaq,zar,zas,zat,zau,zav,zaw,zax,zay,zaz,zaA,zaB,zaC,zaD,zaE,zaF,zaG,zaH,zaI,zaJ,zaK,zaL,zaM,zaN,zaO,zaP,zaQ,zaR,zaS,zaT,zaU,zaV,zaW,zaX,zaY,zaZ,za0,za1,za2,za3,za4,za5,za6,za7,za8,za9,zba,zbb,zbc,zbd,zbe,zbf,zbg,zbh,zbi,zbj,zbk,zbl,zbm,zbn,zbo,zbp,zbq,zbr,zbs,zbt,zbu,zbv,zbw,zbx,zby,zbz,zbA,zbB,zbC,zbD,zbE,zbF,zbG,zbH,zbI,zbJ,zbK,zbL,zbM,zbN,zbO,zbP,zbQ,zbR,zbS,zbT,zbU,zbV,zbW,zbX,zbY,zbZ,zb0,zb1,zb2,zb3,zb4,zb5,zb6,zb7,zb8,zb9,zca,zcb,eq_self,zcc,zcd,zce,zcf,zcg,zch,zci,zcj,zck,zcl,zcm,List.getElem?_cons_succ,List.getElem?_cons_zero,List.set_cons_succ,List.set_cons_zero,List.map_cons,List.map_nil,List.length_cons,List.length_nil,List.cons_append,List.nil_append,List.append_nil,List.isEmpty_cons,List.isEmpty_nil,if_true,if_false,ite_true,ite_false,Bool.not_true,Bool.not_false,Bool.not_not,decide_true,true_and,and_true,false_and,and_false,Bool.false_eq_true,reduceCtorEq,decide_true,decide_false,ite_self,forall_const,Nat.zero_add,Nat.reduceAdd,Nat.reduceLeDiff,Nat.reduceLT,Nat.reduceEqDiff,Nat.reduceSub,Nat.reduceMul,Nat.reduceBEq,Int.reduceLT,Int.reduceLE,Int.reduceEq,Int.reduceNe,Int.reduceAdd,Int.reduceMul,Int.reduceSub,Int.reduceNeg,Int.reducePow,Int.reduceBEq,Int.reduceToNat,Int.reduceGT,Int.reduceGE,String.reduceBEq,zcn,zco,List.replicate_succ,List.replicate_zero,zcp,zcq,zcr,zcs,zct,zcu,zcv,zcw,zcx,zcy,zcz,zcA,zcB,zcC,zcD,zcE,zcF,zcG,zcH,zcI,zcJ,zcK,zcL,zcM,zcN,zcO,zcP,zcQ,zcR,zcS,zcT,zcU,zcV,zcW,zcX,zcY,zcZ,zc0,zc1,zc2,zc3,zc4,zc5,zc6,zc7,zc8,zc9,zda,zdb,zdc,Bool.true_or,Bool.or_true,Bool.false_or,Bool.or_false,Bool.and_true,Bool.true_and,Bool.and_false,Bool.false_and,Int.cast_ofNat_Int,Int.natCast_zero,Int.natCast_one,beq_self_eq_true,zdd,zde,zdf,zdg,zdh,wipeR,c,mg,h1,e1,e2,e3,Int.natAbs_natCast,h2,ne_eq,not_false_eq_true]
      rfl
    rw [e, zaa]
  have e : m__law_point [rv q, rv r] S = .ok (pl q r) S := by
    refine Ok.eq (Ok_defM rfl ?_)
    simp -dsimp (disch := first | assumption | omega) only [zaa,zab,zac,zad,zae,zaf,zag,zah,zai,zaj,zak,zal,zam,zan,zao,zap,zaq,zar,zas,zat,zau,zav,zaw,zax,zay,zaz,zaA,zaB,zaC,zaD,zaE,zaF,zaG,zaH,zaI,zaJ,zaK,zaL,zaM,zaN,zaO,zaP,zaQ,zaR,zaS,zaT,zaU,zaV,zaW,zaX,zaY,zaZ,za0,za1,za2,za3,za4,za5,za6,za7,za8,za9,zba,zbb,zbc,zbd,zbe,zbf,zbg,zbh,zbi,zbj,zbk,zbl,zbm,zbn,zbo,zbp,zbq,zbr,zbs,zbt,zbu,zbv,zbw,zbx,zby,zbz,zbA,zbB,zbC,zbD,zbE,zbF,zbG,zbH,zbI,zbJ,zbK,zbL,zbM,zbN,zbO,zbP,zbQ,zbR,zbS,zbT,zbU,zbV,zbW,zbX,zbY,zbZ,zb0,zb1,zb2,zb3,zb4,zb5,zb6,zb7,zb8,zb9,zca,zcb,eq_self,zcc,zcd,zce,zcf,zcg,zch,zci,zcj,zck,zcl,zcm,List.getElem?_cons_succ,List.getElem?_cons_zero,List.set_cons_succ,List.set_cons_zero,List.map_cons,List.map_nil,List.length_cons,List.length_nil,List.cons_append,List.nil_append,List.append_nil,List.isEmpty_cons,List.isEmpty_nil,if_true,if_false,ite_true,ite_false,Bool.not_true,Bool.not_false,Bool.not_not,decide_true,true_and,and_true,false_and,and_false,Bool.false_eq_true,reduceCtorEq,decide_true,decide_false,ite_self,forall_const,Nat.zero_add,Nat.reduceAdd,Nat.reduceLeDiff,Nat.reduceLT,Nat.reduceEqDiff,Nat.reduceSub,Nat.reduceMul,Nat.reduceBEq,Int.reduceLT,Int.reduceLE,Int.reduceEq,Int.reduceNe,Int.reduceAdd,Int.reduceMul,Int.reduceSub,Int.reduceNeg,Int.reducePow,Int.reduceBEq,Int.reduceToNat,Int.reduceGT,Int.reduceGE,String.reduceBEq,zcn,zco,List.replicate_succ,List.replicate_zero,zcp,zcq,zcr,zcs,zct,zcu,zcv,zcw,zcx,zcy,zcz,zcA,zcB,zcC,zcD,zcE,zcF,zcG,zcH,zcI,zcJ,zcK,zcL,zcM,zcN,zcO,zcP,zcQ,zcR,zcS,zcT,zcU,zcV,zcW,zcX,zcY,zcZ,zc0,zc1,zc2,zc3,zc4,zc5,zc6,zc7,zc8,zc9,zda,zdb,zdc,Bool.true_or,Bool.or_true,Bool.false_or,Bool.or_false,Bool.and_true,Bool.true_and,Bool.and_false,Bool.false_and,Int.cast_ofNat_Int,Int.natCast_zero,Int.natCast_one,beq_self_eq_true,zdd,zde,zdf,zdg,zdh,wipeR,n2,n3,n4,lean3]
  rw [e, zaa]
end
section
variable {x y s b X : Rat} {w v : Int} {i j k l m : Nat} [zx : Sz x i] [zy : Sz y j] [zs : Sz s k] [zb : Sz b l] [zX : Sz X m]
theorem w_curve (hw : W1 w) (hk : i + j ≤ 500) (hl : k + l ≤ 300) : Ok (m__law_curve [stV x y w s b] S) Q = Q (.tup [rv (hA x y w s b), rv (hB x w s b), rv (-b)]) S := by
  have e : m__law_curve [stV x y w s b] S = .ok (.tup [rv (hA x y w s b), rv (hB x w s b), rv (-b)]) S := by
    refine Ok.eq (Ok_defM rfl ?_)
    have zw := hw.sz
    have n1 : w.natAbs.log2 + s.num.natAbs.log2 < 1000000 := lg (k := 1) (by rcases hw with rfl | rfl <;> decide) zs.n (by omega)
    have e1 : y - (w : Rat) * s * x - b * (x * x) = hA x y w s b := rfl
    have e2 : (w : Rat) * s + 2 * (b * x) = hB x w s b := rfl
    have e3 : PV.tup [.int (0 - b.num), .int b.den] = rv (-b) := t_neg
    simp -dsimp (disch := first | assumption | omega) only [zaa,zab,zac,zad,zae,zaf,zag,zah,zai,zaj,zak,zal,zam,zan,zao,zap,zaq,zar,zas,zat,zau,zav,zaw,zax,zay,zaz,zaA,zaB,zaC,zaD,zaE,zaF,zaG,zaH,zaI,zaJ,zaK,zaL,zaM,zaN,zaO,zaP,zaQ,zaR,zaS,zaT,zaU,zaV,zaW,zaX,zaY,zaZ,za0,za1,za2,za3,za4,za5,za6,za7,za8,za9,zba,zbb,zbc,zbd,zbe,zbf,zbg,zbh,zbi,zbj,zbk,zbl,zbm,zbn,zbo,zbp,zbq,zbr,zbs,zbt,zbu,zbv,zbw,zbx,zby,zbz,zbA,zbB,zbC,zbD,zbE,zbF,zbG,zbH,zbI,zbJ,zbK,zbL,zbM,zbN,zbO,zbP,zbQ,zbR,zbS,zbT,zbU,zbV,zbW,zbX,zbY,zbZ,zb0,zb1,zb2,zb3,zb4,zb5,zb6,zb7,zb8,zb9,zca,zcb,eq_self,zcc,zcd,zce,zcf,zcg,zch,zci,zcj,zck,zcl,zcm,List.getElem?_cons_succ,List.getElem?_cons_zero,List.set_cons_succ,List.set_cons_zero,List.map_cons,List.map_nil,List.length_cons,List.length_nil,List.cons_append,List.nil_append,List.append_nil,List.isEmpty_cons,List.isEmpty_nil,if_true,if_false,ite_true,ite_false,Bool.not_true,Bool.not_false,Bool.not_not,decide_true,true_and,and_true,false_and,and_false,Bool.false_eq_true,reduceCtorEq,decide_true,decide_false,ite_self,forall_const,Nat.zero_add,Nat.reduceAdd,Nat.reduceLeDiff,Nat.reduceLT,Nat.reduceEqDiff,Nat.reduceSub,Nat.reduceMul,Nat.reduceBEq,Int.reduceLT,Int.reduceLE,Int.reduceEq,Int.reduceNe,Int.reduceAdd,Int.reduceMul,Int.reduceSub,Int.reduceNeg,Int.reducePow,Int.reduceBEq,Int.reduceToNat,Int.reduceGT,Int.reduceGE,String.reduceBEq,zcn,zco,List.replicate_succ,List.replicate_zero,zcp,zcq,zcr,zcs,zct,zcu,zcv,zcw,zcx,zcy,zcz,zcA,zcB,zcC,zcD,zcE,zcF,zcG,zcH,zcI,zcJ,zcK,zcL,zcM,zcN,zcO,zcP,zcQ,zcR,zcS,zcT,zcU,zcV,zcW,zcX,zcY,zcZ,zc0,zc1,zc2,zc3,zc4,zc5,zc6,zc7,zc8,zc9,zda,zdb,zdc,Bool.true_or,Bool.or_true,Bool.false_or,Bool.or_false,Bool.and_true,Bool.true_and,Bool.and_false,Bool.false_and,Int.cast_ofNat_Int,Int.natCast_zero,Int.natCast_one,beq_self_eq_true,zdd,zde,zdf,zdg,zdh,wipeR,w_apart,n1,t_ws hw,t21,w_times,w_plus,w_less,e1,e2,e3]
  rw [e, zaa]
/-- the other stream of a curve -/
def onY (A B b X : Rat) : Rat := hF A B b X
def onS (B b X : Rat) (v : Int) : Rat := (v : Rat) * (B + 2 * (-b * X))
theorem w_on_curve (hw : W1 w) (hv : W1 v) (hk : i + j + m ≤ 100) (hl : k + l ≤ 100) : Ok (m__law_on_curve [stV x y w s b, rv X, .int v] S) Q = Q (stV X (onY (hA x y w s b) (hB x w s b) b X) v (onS (hB x w s b) b X v) b) S := by
  have e : m__law_on_curve [stV x y w s b, rv X, .int v] S = .ok (stV X (onY (hA x y w s b) (hB x w s b) b X) v (onS (hB x w s b) b X v) b) S := by
    refine Ok.eq (Ok_defM rfl ?_)
    have wc := fun S Q => w_curve (S := S) (Q := Q) (x := x) (y := y) (s := s) (b := b) hw (by omega) (by omega)
    have zw := hw.sz
    have zA : Sz (hA x y w s b) (500) := (inferInstance : Sz (y - (w : Rat) * s * x - b * (x * x)) _).le (by omega)
    have zB : Sz (hB x w s b) (500) := (inferInstance : Sz ((w : Rat) * s + 2 * (b * x)) _).le (by omega)
    have e1 : hA x y w s b + X * (hB x w s b + -b * X) = onY (hA x y w s b) (hB x w s b) b X := rfl
    generalize hA x y w s b = A at *
    generalize hB x w s b = B at *
    have zS : Sz (B + 2 * (-b * X)) 800 := (inferInstance : Sz (B + 2 * (-b * X)) _).le (by omega)
    have zY : Sz (onY A B b X) 1500 := (inferInstance : Sz (A + X * (B + -b * X)) _).le (by omega)
    have n1 : v.natAbs.log2 + (B + 2 * (-b * X)).num.natAbs.log2 < 1000000 := lg (k := 1) (by rcases hv with rfl | rfl <;> decide) zS.n (by omega)
    have e2 : (v : Rat) * (B + 2 * (-b * X)) = onS B b X v := rfl
    simp -dsimp (disch := first | assumption | omega) only [zaa,zab,zac,zad,zae,zaf,zag,zah,zai,zaj,zak,zal,zam,zan,zao,zap,zaq,zar,zas,zat,zau,zav,zaw,zax,zay,zaz,zaA,zaB,zaC,zaD,zaE,zaF,zaG,zaH,zaI,zaJ,zaK,zaL,zaM,zaN,zaO,zaP,zaQ,zaR,zaS,zaT,zaU,zaV,zaW,zaX,zaY,zaZ,za0,za1,za2,za3,za4,za5,za6,za7,za8,za9,zba,zbb,zbc,zbd,zbe,zbf,zbg,zbh,zbi,zbj,zbk,zbl,zbm,zbn,zbo,zbp,zbq,zbr,zbs,zbt,zbu,zbv,zbw,zbx,zby,zbz,zbA,zbB,zbC,zbD,zbE,zbF,zbG,zbH,zbI,zbJ,zbK,zbL,zbM,zbN,zbO,zbP,zbQ,zbR,zbS,zbT,zbU,zbV,zbW,zbX,zbY,zbZ,zb0,zb1,zb2,zb3,zb4,zb5,zb6,zb7,zb8,zb9,zca,zcb,eq_self,zcc,zcd,zce,zcf,zcg,zch,zci,zcj,zck,zcl,zcm,List.getElem?_cons_succ,List.getElem?_cons_zero,List.set_cons_succ,List.set_cons_zero,List.map_cons,List.map_nil,List.length_cons,List.length_nil,List.cons_append,List.nil_append,List.append_nil,List.isEmpty_cons,List.isEmpty_nil,if_true,if_false,ite_true,ite_false,Bool.not_true,Bool.not_false,Bool.not_not,decide_true,true_and,and_true,false_and,and_false,Bool.false_eq_true,reduceCtorEq,decide_true,decide_false,ite_self,forall_const,Nat.zero_add,Nat.reduceAdd,Nat.reduceLeDiff,Nat.reduceLT,Nat.reduceEqDiff,Nat.reduceSub,Nat.reduceMul,Nat.reduceBEq,Int.reduceLT,Int.reduceLE,Int.reduceEq,Int.reduceNe,Int.reduceAdd,Int.reduceMul,Int.reduceSub,Int.reduceNeg,Int.reducePow,Int.reduceBEq,Int.reduceToNat,Int.reduceGT,Int.reduceGE,String.reduceBEq,zcn,zco,List.replicate_succ,List.replicate_zero,zcp,zcq,zcr,zcs,zct,zcu,zcv,zcw,zcx,zcy,zcz,zcA,zcB,zcC,zcD,zcE,zcF,zcG,zcH,zcI,zcJ,zcK,zcL,zcM,zcN,zcO,zcP,zcQ,zcR,zcS,zcT,zcU,zcV,zcW,zcX,zcY,zcZ,zc0,zc1,zc2,zc3,zc4,zc5,zc6,zc7,zc8,zc9,zda,zdb,zdc,Bool.true_or,Bool.or_true,Bool.false_or,Bool.or_false,Bool.and_true,Bool.true_and,Bool.and_false,Bool.false_and,Int.cast_ofNat_Int,Int.natCast_zero,Int.natCast_one,beq_self_eq_true,zdd,zde,zdf,zdg,zdh,wipeR,wc,t21,w_times,w_plus,w_less,e1,n1,t_ws hv,e2,w_point]
  rw [e, zaa]
end
end
end Pm.L


namespace Pm.L
open PySem PySem.Spec L2 Pm
theorem t_back {q : Rat} : PV.tup [.int (-q.num), .int q.den] = rv (-q) := by unfold rv; rw [Rat.neg_num, Rat.neg_den]
theorem sF_0 {p f : Rat} : sF p (f * 0) 0 = sv p 0 0 := by
  have e : f * 0 = 0 := by grind
  have e2 : (0 : Rat) * 0 * 0 = 0 := by grind
  unfold sF
  rw [e, e2, sq?_zero]
  show sv (p + (if (0 : Rat) < 0 then 0 else -0)) 0 0 = _
  rw [if_neg (by decide)]
  congr 2; grind
theorem cmp_same (p : Rat) : cmp p 0 0 p 0 0 = 0 := by
  show S2 (p - p) ((0 : Int) : Rat) 0 (-((0 : Int) : Rat)) 0 = 0
  rw [S2_t0, show ((0 : Int) : Rat) = 0 from rfl, S1_q0, show p - p = 0 by grind]
  rfl
section
variable {S : Sto} {Q : PV → Sto → Prop}
theorem Ok_eq_rv_non {q : Rat} : Ok (eqM (rv q) .non S) Q = Q (.bl false) S := rfl
theorem p_bent_less {a b c d e f : Rat} {k : Nat} [z1 : Sz a k] [z2 : Sz b k] [z3 : Sz c k] [z4 : Sz d k] [z5 : Sz e k] [z6 : Sz f k] (hk : k ≤ 1500) : Ok (m_bent_less [.tup [rv a, rv b, rv c], .tup [rv d, rv e, rv f]] S) Q = Q (.tup [rv (a + -d), rv (b + -e), rv (c + -f)]) S := by
  have e : m_bent_less [.tup [rv a, rv b, rv c], .tup [rv d, rv e, rv f]] S = .ok (.tup [rv (a + -d), rv (b + -e), rv (c + -f)]) S := by
    refine Ok.eq (Ok_defM rfl ?_)
    simp -dsimp (disch := first | assumption | omega) only [zaa,zab,zac,zad,zae,zaf,zag,zah,zai,zaj,zak,zal,zam,zan,zao,zap,zaq,zar,zas,zat,zau,zav,zaw,zax,zay,zaz,zaA,zaB,zaC,zaD,zaE,zaF,zaG,zaH,zaI,zaJ,zaK,zaL,zaM,zaN,zaO,zaP,zaQ,zaR,zaS,zaT,zaU,zaV,zaW,zaX,zaY,zaZ,za0,za1,za2,za3,za4,za5,za6,za7,za8,za9,zba,zbb,zbc,zbd,zbe,zbf,zbg,zbh,zbi,zbj,zbk,zbl,zbm,zbn,zbo,zbp,zbq,zbr,zbs,zbt,zbu,zbv,zbw,zbx,zby,zbz,zbA,zbB,zbC,zbD,zbE,zbF,zbG,zbH,zbI,zbJ,zbK,zbL,zbM,zbN,zbO,zbP,zbQ,zbR,zbS,zbT,zbU,zbV,zbW,zbX,zbY,zbZ,zb0,zb1,zb2,zb3,zb4,zb5,zb6,zb7,zb8,zb9,zca,zcb,eq_self,zcc,zcd,zce,zcf,zcg,zch,zci,zcj,zck,zcl,zcm,List.getElem?_cons_succ,List.getElem?_cons_zero,List.set_cons_succ,List.set_cons_zero,List.map_cons,List.map_nil,List.length_cons,List.length_nil,List.cons_append,List.nil_append,List.append_nil,List.isEmpty_cons,List.isEmpty_nil,if_true,if_false,ite_true,ite_false,Bool.not_true,Bool.not_false,Bool.not_not,decide_true,true_and,and_true,false_and,and_false,Bool.false_eq_true,reduceCtorEq,decide_true,decide_false,ite_self,forall_const,Nat.zero_add,Nat.reduceAdd,Nat.reduceLeDiff,Nat.reduceLT,Nat.reduceEqDiff,Nat.reduceSub,Nat.reduceMul,Nat.reduceBEq,Int.reduceLT,Int.reduceLE,Int.reduceEq,Int.reduceNe,Int.reduceAdd,Int.reduceMul,Int.reduceSub,Int.reduceNeg,Int.reducePow,Int.reduceBEq,Int.reduceToNat,Int.reduceGT,Int.reduceGE,String.reduceBEq,zcn,zco,List.replicate_succ,List.replicate_zero,zcp,zcq,zcr,zcs,zct,zcu,zcv,zcw,zcx,zcy,zcz,zcA,zcB,zcC,zcD,zcE,zcF,zcG,zcH,zcI,zcJ,zcK,zcL,zcM,zcN,zcO,zcP,zcQ,zcR,zcS,zcT,zcU,zcV,zcW,zcX,zcY,zcZ,zc0,zc1,zc2,zc3,zc4,zc5,zc6,zc7,zc8,zc9,zda,zdb,zdc,Bool.true_or,Bool.or_true,Bool.false_or,Bool.or_false,Bool.and_true,Bool.true_and,Bool.and_false,Bool.false_and,Int.cast_ofNat_Int,Int.natCast_zero,Int.natCast_one,beq_self_eq_true,zdd,zde,zdf,zdg,zdh,wipeR,Ok_zip_tup,zipF,t_back,o_ratio_sum]
  rw [e, zaa]
theorem p_bent_value {A B C X : Rat} {k l : Nat} [z1 : Sz A k] [z2 : Sz B k] [z3 : Sz C k] [z4 : Sz X l] (hk : k + l ≤ 250) : Ok (m_bent_value [.tup [rv A, rv B, rv C], sv X 0 0] S) Q = Q (sv (A + B * X + C * (X * X + 0 * 0)) 0 0) S := by
  have e : m_bent_value [.tup [rv A, rv B, rv C], sv X 0 0] S = .ok (sv (A + B * X + C * (X * X + 0 * 0)) 0 0) S := by
    refine Ok.eq (Ok_defM rfl ?_)
    have zf : Sz (A + B * X + C * (X * X + 0 * 0)) 1300 := by
      have z0 : Sz (0 * 0 : Rat) 2 := (inferInstance : Sz ((0 : Rat) * 0) _).le (by decide)
      exact (inferInstance : Sz (A + B * X + C * (X * X + 0 * 0)) _).le (by omega)
    have sf := fun (F : Rat) (zF : Sz (F * 0) 800) S Q => o_surd_from (S := S) (Q := Q) (p := A + B * X + C * (X * X + 0 * 0)) (f := F * 0) (q := 0) (Rat.le_refl) (by omega)
    have z00 : Sz (0 : Rat) 1 := Sz.zero
    have zm : Sz ((B + 2 * C * X) * 0) 800 := (inferInstance : Sz ((B + 2 * C * X) * 0) _).le (by omega)
    have sf := sf _ zm
    rw [sF_0] at sf
    generalize hV : A + B * X + C * (X * X + 0 * 0) = V at *
    have l00 : (Int.natAbs 0).log2 + (Int.natAbs 0).log2 < 1000000 := by decide
    simp -dsimp (disch := first | assumption | omega) only [zaa,zab,zac,zad,zae,zaf,zag,zah,zai,zaj,zak,zal,zam,zan,zao,zap,zaq,zar,zas,zat,zau,zav,zaw,zax,zay,zaz,zaA,zaB,zaC,zaD,zaE,zaF,zaG,zaH,zaI,zaJ,zaK,zaL,zaM,zaN,zaO,zaP,zaQ,zaR,zaS,zaT,zaU,zaV,zaW,zaX,zaY,zaZ,za0,za1,za2,za3,za4,za5,za6,za7,za8,za9,zba,zbb,zbc,zbd,zbe,zbf,zbg,zbh,zbi,zbj,zbk,zbl,zbm,zbn,zbo,zbp,zbq,zbr,zbs,zbt,zbu,zbv,zbw,zbx,zby,zbz,zbA,zbB,zbC,zbD,zbE,zbF,zbG,zbH,zbI,zbJ,zbK,zbL,zbM,zbN,zbO,zbP,zbQ,zbR,zbS,zbT,zbU,zbV,zbW,zbX,zbY,zbZ,zb0,zb1,zb2,zb3,zb4,zb5,zb6,zb7,zb8,zb9,zca,zcb,eq_self,zcc,zcd,zce,zcf,zcg,zch,zci,zcj,zck,zcl,zcm,List.getElem?_cons_succ,List.getElem?_cons_zero,List.set_cons_succ,List.set_cons_zero,List.map_cons,List.map_nil,List.length_cons,List.length_nil,List.cons_append,List.nil_append,List.append_nil,List.isEmpty_cons,List.isEmpty_nil,if_true,if_false,ite_true,ite_false,Bool.not_true,Bool.not_false,Bool.not_not,decide_true,true_and,and_true,false_and,and_false,Bool.false_eq_true,reduceCtorEq,decide_true,decide_false,ite_self,forall_const,Nat.zero_add,Nat.reduceAdd,Nat.reduceLeDiff,Nat.reduceLT,Nat.reduceEqDiff,Nat.reduceSub,Nat.reduceMul,Nat.reduceBEq,Int.reduceLT,Int.reduceLE,Int.reduceEq,Int.reduceNe,Int.reduceAdd,Int.reduceMul,Int.reduceSub,Int.reduceNeg,Int.reducePow,Int.reduceBEq,Int.reduceToNat,Int.reduceGT,Int.reduceGE,String.reduceBEq,zcn,zco,List.replicate_succ,List.replicate_zero,zcp,zcq,zcr,zcs,zct,zcu,zcv,zcw,zcx,zcy,zcz,zcA,zcB,zcC,zcD,zcE,zcF,zcG,zcH,zcI,zcJ,zcK,zcL,zcM,zcN,zcO,zcP,zcQ,zcR,zcS,zcT,zcU,zcV,zcW,zcX,zcY,zcZ,zc0,zc1,zc2,zc3,zc4,zc5,zc6,zc7,zc8,zc9,zda,zdb,zdc,Bool.true_or,Bool.or_true,Bool.false_or,Bool.or_false,Bool.and_true,Bool.true_and,Bool.and_false,Bool.false_and,Int.cast_ofNat_Int,Int.natCast_zero,Int.natCast_one,beq_self_eq_true,zdd,zde,zdf,zdg,zdh,wipeR,t01,t21,o_ratio_product,o_ratio_sum,hV,sf,l00]
  rw [e, zaa]
end
end Pm.L


namespace Pm.L
open PySem PySem.Spec L2 Pm
/-- where two streams of one curve meet -/
def metV (x1 : Rat) (w1 : Int) (x2 : Rat) (w2 : Int) : PV :=
  if w1 = w2 then .non
  else if (if w1 = 1 then x2 else x1) < (if w1 = 1 then x1 else x2) then .lst []
  else if (if w1 = 1 then x1 else x2) = (if w1 = 1 then x2 else x1) then .lst [sv (if w1 = 1 then x1 else x2) 0 0] else .non
section
variable {S : Sto} {Q : PV → Sto → Prop}
section
variable {x1 y1 s1 x2 y2 s2 b : Rat} {w1 w2 : Int} {k : Nat} [z1 : Sz x1 20] [z2 : Sz y1 100] [z3 : Sz s1 50] [z4 : Sz x2 20] [z5 : Sz y2 100] [z6 : Sz s2 50] [z7 : Sz b 5]
theorem p_reach1 (hw : W1 w1) : Ok (m_reach_of [.lst [stV x1 y1 w1 s1 b]] S) Q = Q (if w1 = 1 then .tup [rv x1, .non] else .tup [.non, rv x1]) S := by
  have ps := fun S Q => p_start (S := S) (Q := Q) (x := x1) (y := y1) (w := w1) (s := s1) (b := b) (by omega)
  have e : m_reach_of [.lst [stV x1 y1 w1 s1 b]] S = .ok (if w1 = 1 then .tup [rv x1, .non] else .tup [.non, rv x1]) S := by
    refine Ok.eq (Ok_defM rfl ?_)
    rcases hw with rfl | rfl
    · rw [if_pos rfl]
      simp -dsimp (disch := first | assumption | omega) only [zaa,zab,zac,zad,zae,zaf,zag,zah,zai,zaj,zak,zal,zam,zan,zao,zap,zaq,zar,zas,zat,zau,zav,zaw,zax,zay,zaz,zaA,zaB,zaC,zaD,zaE,zaF,zaG,zaH,zaI,zaJ,zaK,zaL,zaM,zaN,zaO,zaP,zaQ,zaR,zaS,zaT,zaU,zaV,zaW,zaX,zaY,zaZ,za0,za1,za2,za3,za4,za5,za6,za7,za8,za9,zba,zbb,zbc,zbd,zbe,zbf,zbg,zbh,zbi,zbj,zbk,zbl,zbm,zbn,zbo,zbp,zbq,zbr,zbs,zbt,zbu,zbv,zbw,zbx,zby,zbz,zbA,zbB,zbC,zbD,zbE,zbF,zbG,zbH,zbI,zbJ,zbK,zbL,zbM,zbN,zbO,zbP,zbQ,zbR,zbS,zbT,zbU,zbV,zbW,zbX,zbY,zbZ,zb0,zb1,zb2,zb3,zb4,zb5,zb6,zb7,zb8,zb9,zca,zcb,eq_self,zcc,zcd,zce,zcf,zcg,zch,zci,zcj,zck,zcl,zcm,List.getElem?_cons_succ,List.getElem?_cons_zero,List.set_cons_succ,List.set_cons_zero,List.map_cons,List.map_nil,List.length_cons,List.length_nil,List.cons_append,List.nil_append,List.append_nil,List.isEmpty_cons,List.isEmpty_nil,if_true,if_false,ite_true,ite_false,Bool.not_true,Bool.not_false,Bool.not_not,decide_true,true_and,and_true,false_and,and_false,Bool.false_eq_true,reduceCtorEq,decide_true,decide_false,ite_self,forall_const,Nat.zero_add,Nat.reduceAdd,Nat.reduceLeDiff,Nat.reduceLT,Nat.reduceEqDiff,Nat.reduceSub,Nat.reduceMul,Nat.reduceBEq,Int.reduceLT,Int.reduceLE,Int.reduceEq,Int.reduceNe,Int.reduceAdd,Int.reduceMul,Int.reduceSub,Int.reduceNeg,Int.reducePow,Int.reduceBEq,Int.reduceToNat,Int.reduceGT,Int.reduceGE,String.reduceBEq,zcn,zco,List.replicate_succ,List.replicate_zero,zcp,zcq,zcr,zcs,zct,zcu,zcv,zcw,zcx,zcy,zcz,zcA,zcB,zcC,zcD,zcE,zcF,zcG,zcH,zcI,zcJ,zcK,zcL,zcM,zcN,zcO,zcP,zcQ,zcR,zcS,zcT,zcU,zcV,zcW,zcX,zcY,zcZ,zc0,zc1,zc2,zc3,zc4,zc5,zc6,zc7,zc8,zc9,zda,zdb,zdc,Bool.true_or,Bool.or_true,Bool.false_or,Bool.or_false,Bool.and_true,Bool.true_and,Bool.and_false,Bool.false_and,Int.cast_ofNat_Int,Int.natCast_zero,Int.natCast_one,beq_self_eq_true,zdd,zde,zdf,zdg,zdh,wipeR,ps]
    · rw [if_neg (by decide)]
      simp -dsimp (disch := first | assumption | omega) only [zaa,zab,zac,zad,zae,zaf,zag,zah,zai,zaj,zak,zal,zam,zan,zao,zap,zaq,zar,zas,zat,zau,zav,zaw,zax,zay,zaz,zaA,zaB,zaC,zaD,zaE,zaF,zaG,zaH,zaI,zaJ,zaK,zaL,zaM,zaN,zaO,zaP,zaQ,zaR,zaS,zaT,zaU,zaV,zaW,zaX,zaY,zaZ,za0,za1,za2,za3,za4,za5,za6,za7,za8,za9,zba,zbb,zbc,zbd,zbe,zbf,zbg,zbh,zbi,zbj,zbk,zbl,zbm,zbn,zbo,zbp,zbq,zbr,zbs,zbt,zbu,zbv,zbw,zbx,zby,zbz,zbA,zbB,zbC,zbD,zbE,zbF,zbG,zbH,zbI,zbJ,zbK,zbL,zbM,zbN,zbO,zbP,zbQ,zbR,zbS,zbT,zbU,zbV,zbW,zbX,zbY,zbZ,zb0,zb1,zb2,zb3,zb4,zb5,zb6,zb7,zb8,zb9,zca,zcb,eq_self,zcc,zcd,zce,zcf,zcg,zch,zci,zcj,zck,zcl,zcm,List.getElem?_cons_succ,List.getElem?_cons_zero,List.set_cons_succ,List.set_cons_zero,List.map_cons,List.map_nil,List.length_cons,List.length_nil,List.cons_append,List.nil_append,List.append_nil,List.isEmpty_cons,List.isEmpty_nil,if_true,if_false,ite_true,ite_false,Bool.not_true,Bool.not_false,Bool.not_not,decide_true,true_and,and_true,false_and,and_false,Bool.false_eq_true,reduceCtorEq,decide_true,decide_false,ite_self,forall_const,Nat.zero_add,Nat.reduceAdd,Nat.reduceLeDiff,Nat.reduceLT,Nat.reduceEqDiff,Nat.reduceSub,Nat.reduceMul,Nat.reduceBEq,Int.reduceLT,Int.reduceLE,Int.reduceEq,Int.reduceNe,Int.reduceAdd,Int.reduceMul,Int.reduceSub,Int.reduceNeg,Int.reducePow,Int.reduceBEq,Int.reduceToNat,Int.reduceGT,Int.reduceGE,String.reduceBEq,zcn,zco,List.replicate_succ,List.replicate_zero,zcp,zcq,zcr,zcs,zct,zcu,zcv,zcw,zcx,zcy,zcz,zcA,zcB,zcC,zcD,zcE,zcF,zcG,zcH,zcI,zcJ,zcK,zcL,zcM,zcN,zcO,zcP,zcQ,zcR,zcS,zcT,zcU,zcV,zcW,zcX,zcY,zcZ,zc0,zc1,zc2,zc3,zc4,zc5,zc6,zc7,zc8,zc9,zda,zdb,zdc,Bool.true_or,Bool.or_true,Bool.false_or,Bool.or_false,Bool.and_true,Bool.true_and,Bool.and_false,Bool.false_and,Int.cast_ofNat_Int,Int.natCast_zero,Int.natCast_one,beq_self_eq_true,zdd,zde,zdf,zdg,zdh,wipeR,ps]
  rw [e, zaa]
def rcL (x1 : Rat) (w1 : Int) (x2 : Rat) (w2 : Int) : PV := if w1 = 1 then (if w2 = 1 then rv (if x1 < x2 then x2 else x1) else rv x1) else (if w2 = 1 then rv x2 else .non)
def rcH (x1 : Rat) (w1 : Int) (x2 : Rat) (w2 : Int) : PV := if w1 = 1 then (if w2 = 1 then .non else rv x2) else (if w2 = 1 then rv x1 else rv (if x2 < x1 then x2 else x1))
theorem p_reach2 (hw : W1 w1) (hv : W1 w2) : Ok (m_reach_of [.lst [stV x1 y1 w1 s1 b, stV x2 y2 w2 s2 b]] S) Q = Q (.tup [rcL x1 w1 x2 w2, rcH x1 w1 x2 w2]) S := by
  have ps := fun S Q => p_start (S := S) (Q := Q) (x := x1) (y := y1) (w := w1) (s := s1) (b := b) (by omega)
  have pt := fun S Q => p_start (S := S) (Q := Q) (x := x2) (y := y2) (w := w2) (s := s2) (b := b) (by omega)
  have e : m_reach_of [.lst [stV x1 y1 w1 s1 b, stV x2 y2 w2 s2 b]] S = .ok (.tup [rcL x1 w1 x2 w2, rcH x1 w1 x2 w2]) S := by
    unfold rcL rcH
    rcases hw with rfl | rfl <;> rcases hv with rfl | rfl
    · by_cases c : x1 < x2
      · rw [if_pos rfl, if_pos rfl, if_pos rfl, if_pos rfl, if_pos c]
        refine Ok.eq (Ok_defM rfl ?_)
        simp -dsimp (disch := first | assumption | omega) only [zaa,zab,zac,zad,zae,zaf,zag,zah,zai,zaj,zak,zal,zam,zan,zao,zap,zaq,zar,zas,zat,zau,zav,zaw,zax,zay,zaz,zaA,zaB,zaC,zaD,zaE,zaF,zaG,zaH,zaI,zaJ,zaK,zaL,zaM,zaN,zaO,zaP,zaQ,zaR,zaS,zaT,zaU,zaV,zaW,zaX,zaY,zaZ,za0,za1,za2,za3,za4,za5,za6,za7,za8,za9,zba,zbb,zbc,zbd,zbe,zbf,zbg,zbh,zbi,zbj,zbk,zbl,zbm,zbn,zbo,zbp,zbq,zbr,zbs,zbt,zbu,zbv,zbw,zbx,zby,zbz,zbA,zbB,zbC,zbD,zbE,zbF,zbG,zbH,zbI,zbJ,zbK,zbL,zbM,zbN,zbO,zbP,zbQ,zbR,zbS,zbT,zbU,zbV,zbW,zbX,zbY,zbZ,zb0,zb1,zb2,zb3,zb4,zb5,zb6,zb7,zb8,zb9,zca,zcb,eq_self,zcc,zcd,zce,zcf,zcg,zch,zci,zcj,zck,zcl,zcm,List.getElem?_cons_succ,List.getElem?_cons_zero,List.set_cons_succ,List.set_cons_zero,List.map_cons,List.map_nil,List.length_cons,List.length_nil,List.cons_append,List.nil_append,List.append_nil,List.isEmpty_cons,List.isEmpty_nil,if_true,if_false,ite_true,ite_false,Bool.not_true,Bool.not_false,Bool.not_not,decide_true,true_and,and_true,false_and,and_false,Bool.false_eq_true,reduceCtorEq,decide_true,decide_false,ite_self,forall_const,Nat.zero_add,Nat.reduceAdd,Nat.reduceLeDiff,Nat.reduceLT,Nat.reduceEqDiff,Nat.reduceSub,Nat.reduceMul,Nat.reduceBEq,Int.reduceLT,Int.reduceLE,Int.reduceEq,Int.reduceNe,Int.reduceAdd,Int.reduceMul,Int.reduceSub,Int.reduceNeg,Int.reducePow,Int.reduceBEq,Int.reduceToNat,Int.reduceGT,Int.reduceGE,String.reduceBEq,zcn,zco,List.replicate_succ,List.replicate_zero,zcp,zcq,zcr,zcs,zct,zcu,zcv,zcw,zcx,zcy,zcz,zcA,zcB,zcC,zcD,zcE,zcF,zcG,zcH,zcI,zcJ,zcK,zcL,zcM,zcN,zcO,zcP,zcQ,zcR,zcS,zcT,zcU,zcV,zcW,zcX,zcY,zcZ,zc0,zc1,zc2,zc3,zc4,zc5,zc6,zc7,zc8,zc9,zda,zdb,zdc,Bool.true_or,Bool.or_true,Bool.false_or,Bool.or_false,Bool.and_true,Bool.true_and,Bool.and_false,Bool.false_and,Int.cast_ofNat_Int,Int.natCast_zero,Int.natCast_one,beq_self_eq_true,zdd,zde,zdf,zdg,zdh,wipeR,ps,pt,p_is_lower,c]
      · rw [if_pos rfl, if_pos rfl, if_pos rfl, if_pos rfl, if_neg c]
        refine Ok.eq (Ok_defM rfl ?_)
        simp -dsimp (disch := first | assumption | omega) only [zaa,zab,zac,zad,zae,zaf,zag,zah,zai,zaj,zak,zal,zam,zan,zao,zap,zaq,zar,zas,zat,zau,zav,zaw,zax,zay,zaz,zaA,zaB,zaC,zaD,zaE,zaF,zaG,zaH,zaI,zaJ,zaK,zaL,zaM,zaN,zaO,zaP,zaQ,zaR,zaS,zaT,zaU,zaV,zaW,zaX,zaY,zaZ,za0,za1,za2,za3,za4,za5,za6,za7,za8,za9,zba,zbb,zbc,zbd,zbe,zbf,zbg,zbh,zbi,zbj,zbk,zbl,zbm,zbn,zbo,zbp,zbq,zbr,zbs,zbt,zbu,zbv,zbw,zbx,zby,zbz,zbA,zbB,zbC,zbD,zbE,zbF,zbG,zbH,zbI,zbJ,zbK,zbL,zbM,zbN,zbO,zbP,zbQ,zbR,zbS,zbT,zbU,zbV,zbW,zbX,zbY,zbZ,zb0,zb1,zb2,zb3,zb4,zb5,zb6,zb7,zb8,zb9,zca,zcb,eq_self,zcc,zcd,zce,zcf,zcg,zch,zci,zcj,zck,zcl,zcm,List.getElem?_cons_succ,List.getElem?_cons_zero,List.set_cons_succ,List.set_cons_zero,List.map_cons,List.map_nil,List.length_cons,List.length_nil,List.cons_append,List.nil_append,List.append_nil,List.isEmpty_cons,List.isEmpty_nil,if_true,if_false,ite_true,ite_false,Bool.not_true,Bool.not_false,Bool.not_not,decide_true,true_and,and_true,false_and,and_false,Bool.false_eq_true,reduceCtorEq,decide_true,decide_false,ite_self,forall_const,Nat.zero_add,Nat.reduceAdd,Nat.reduceLeDiff,Nat.reduceLT,Nat.reduceEqDiff,Nat.reduceSub,Nat.reduceMul,Nat.reduceBEq,Int.reduceLT,Int.reduceLE,Int.reduceEq,Int.reduceNe,Int.reduceAdd,Int.reduceMul,Int.reduceSub,Int.reduceNeg,Int.reducePow,Int.reduceBEq,Int.reduceToNat,Int.reduceGT,Int.reduceGE,String.reduceBEq,zcn,zco,List.replicate_succ,List.replicate_zero,zcp,zcq,zcr,zcs,zct,zcu,zcv,zcw,zcx,zcy,zcz,zcA,zcB,zcC,zcD,zcE,zcF,zcG,zcH,zcI,zcJ,zcK,zcL,zcM,zcN,zcO,zcP,zcQ,zcR,zcS,zcT,zcU,zcV,zcW,zcX,zcY,zcZ,zc0,zc1,zc2,zc3,zc4,zc5,zc6,zc7,zc8,zc9,zda,zdb,zdc,Bool.true_or,Bool.or_true,Bool.false_or,Bool.or_false,Bool.and_true,Bool.true_and,Bool.and_false,Bool.false_and,Int.cast_ofNat_Int,Int.natCast_zero,Int.natCast_one,beq_self_eq_true,zdd,zde,zdf,zdg,zdh,wipeR,ps,pt,p_is_lower,c]
    · rw [if_pos rfl, if_neg (by decide), if_pos rfl, if_neg (by decide)]
      refine Ok.eq (Ok_defM rfl ?_)
      simp -dsimp (disch := first | assumption | omega) only [zaa,zab,zac,zad,zae,zaf,zag,zah,zai,zaj,zak,zal,zam,zan,zao,zap,zaq,zar,zas,zat,zau,zav,zaw,zax,zay,zaz,zaA,zaB,zaC,zaD,zaE,zaF,zaG,zaH,zaI,zaJ,zaK,zaL,zaM,zaN,zaO,zaP,zaQ,zaR,zaS,zaT,zaU,zaV,zaW,zaX,zaY,zaZ,za0,za1,za2,za3,za4,za5,za6,za7,za8,za9,zba,zbb,zbc,zbd,zbe,zbf,zbg,zbh,zbi,zbj,zbk,zbl,zbm,zbn,zbo,zbp,zbq,zbr,zbs,zbt,zbu,zbv,zbw,zbx,zby,zbz,zbA,zbB,zbC,zbD,zbE,zbF,zbG,zbH,zbI,zbJ,zbK,zbL,zbM,zbN,zbO,zbP,zbQ,zbR,zbS,zbT,zbU,zbV,zbW,zbX,zbY,zbZ,zb0,zb1,zb2,zb3,zb4,zb5,zb6,zb7,zb8,zb9,zca,zcb,eq_self,zcc,zcd,zce,zcf,zcg,zch,zci,zcj,zck,zcl,zcm,List.getElem?_cons_succ,List.getElem?_cons_zero,List.set_cons_succ,List.set_cons_zero,List.map_cons,List.map_nil,List.length_cons,List.length_nil,List.cons_append,List.nil_append,List.append_nil,List.isEmpty_cons,List.isEmpty_nil,if_true,if_false,ite_true,ite_false,Bool.not_true,Bool.not_false,Bool.not_not,decide_true,true_and,and_true,false_and,and_false,Bool.false_eq_true,reduceCtorEq,decide_true,decide_false,ite_self,forall_const,Nat.zero_add,Nat.reduceAdd,Nat.reduceLeDiff,Nat.reduceLT,Nat.reduceEqDiff,Nat.reduceSub,Nat.reduceMul,Nat.reduceBEq,Int.reduceLT,Int.reduceLE,Int.reduceEq,Int.reduceNe,Int.reduceAdd,Int.reduceMul,Int.reduceSub,Int.reduceNeg,Int.reducePow,Int.reduceBEq,Int.reduceToNat,Int.reduceGT,Int.reduceGE,String.reduceBEq,zcn,zco,List.replicate_succ,List.replicate_zero,zcp,zcq,zcr,zcs,zct,zcu,zcv,zcw,zcx,zcy,zcz,zcA,zcB,zcC,zcD,zcE,zcF,zcG,zcH,zcI,zcJ,zcK,zcL,zcM,zcN,zcO,zcP,zcQ,zcR,zcS,zcT,zcU,zcV,zcW,zcX,zcY,zcZ,zc0,zc1,zc2,zc3,zc4,zc5,zc6,zc7,zc8,zc9,zda,zdb,zdc,Bool.true_or,Bool.or_true,Bool.false_or,Bool.or_false,Bool.and_true,Bool.true_and,Bool.and_false,Bool.false_and,Int.cast_ofNat_Int,Int.natCast_zero,Int.natCast_one,beq_self_eq_true,zdd,zde,zdf,zdg,zdh,wipeR,ps,pt,p_is_lower]
    · rw [if_neg (by decide), if_pos rfl, if_neg (by decide), if_pos rfl]
      refine Ok.eq (Ok_defM rfl ?_)
      simp -dsimp (disch := first | assumption | omega) only [zaa,zab,zac,zad,zae,zaf,zag,zah,zai,zaj,zak,zal,zam,zan,zao,zap,zaq,zar,zas,zat,zau,zav,zaw,zax,zay,zaz,zaA,zaB,zaC,zaD,zaE,zaF,zaG,zaH,zaI,zaJ,zaK,zaL,zaM,zaN,zaO,zaP,zaQ,zaR,zaS,zaT,zaU,zaV,zaW,zaX,zaY,zaZ,za0,za1,za2,za3,za4,za5,za6,za7,za8,za9,zba,zbb,zbc,zbd,zbe,zbf,zbg,zbh,zbi,zbj,zbk,zbl,zbm,zbn,zbo,zbp,zbq,zbr,zbs,zbt,zbu,zbv,zbw,zbx,zby,zbz,zbA,zbB,zbC,zbD,zbE,zbF,zbG,zbH,zbI,zbJ,zbK,zbL,zbM,zbN,zbO,zbP,zbQ,zbR,zbS,zbT,zbU,zbV,zbW,zbX,zbY,zbZ,zb0,zb1,zb2,zb3,zb4,zb5,zb6,zb7,zb8,zb9,zca,zcb,eq_self,zcc,zcd,zce,zcf,zcg,zch,zci,zcj,zck,zcl,zcm,List.getElem?_cons_succ,List.getElem?_cons_zero,List.set_cons_succ,List.set_cons_zero,List.map_cons,List.map_nil,List.length_cons,List.length_nil,List.cons_append,List.nil_append,List.append_nil,List.isEmpty_cons,List.isEmpty_nil,if_true,if_false,ite_true,ite_false,Bool.not_true,Bool.not_false,Bool.not_not,decide_true,true_and,and_true,false_and,and_false,Bool.false_eq_true,reduceCtorEq,decide_true,decide_false,ite_self,forall_const,Nat.zero_add,Nat.reduceAdd,Nat.reduceLeDiff,Nat.reduceLT,Nat.reduceEqDiff,Nat.reduceSub,Nat.reduceMul,Nat.reduceBEq,Int.reduceLT,Int.reduceLE,Int.reduceEq,Int.reduceNe,Int.reduceAdd,Int.reduceMul,Int.reduceSub,Int.reduceNeg,Int.reducePow,Int.reduceBEq,Int.reduceToNat,Int.reduceGT,Int.reduceGE,String.reduceBEq,zcn,zco,List.replicate_succ,List.replicate_zero,zcp,zcq,zcr,zcs,zct,zcu,zcv,zcw,zcx,zcy,zcz,zcA,zcB,zcC,zcD,zcE,zcF,zcG,zcH,zcI,zcJ,zcK,zcL,zcM,zcN,zcO,zcP,zcQ,zcR,zcS,zcT,zcU,zcV,zcW,zcX,zcY,zcZ,zc0,zc1,zc2,zc3,zc4,zc5,zc6,zc7,zc8,zc9,zda,zdb,zdc,Bool.true_or,Bool.or_true,Bool.false_or,Bool.or_false,Bool.and_true,Bool.true_and,Bool.and_false,Bool.false_and,Int.cast_ofNat_Int,Int.natCast_zero,Int.natCast_one,beq_self_eq_true,zdd,zde,zdf,zdg,zdh,wipeR,ps,pt,p_is_lower]
    · by_cases c : x2 < x1
      · rw [if_neg (by decide), if_neg (by decide), if_neg (by decide), if_neg (by decide), if_pos c]
        refine Ok.eq (Ok_defM rfl ?_)
        simp -dsimp (disch := first | assumption | omega) only [zaa,zab,zac,zad,zae,zaf,zag,zah,zai,zaj,zak,zal,zam,zan,zao,zap,zaq,zar,zas,zat,zau,zav,zaw,zax,zay,zaz,zaA,zaB,zaC,zaD,zaE,zaF,zaG,zaH,zaI,zaJ,zaK,zaL,zaM,zaN,zaO,zaP,zaQ,zaR,zaS,zaT,zaU,zaV,zaW,zaX,zaY,zaZ,za0,za1,za2,za3,za4,za5,za6,za7,za8,za9,zba,zbb,zbc,zbd,zbe,zbf,zbg,zbh,zbi,zbj,zbk,zbl,zbm,zbn,zbo,zbp,zbq,zbr,zbs,zbt,zbu,zbv,zbw,zbx,zby,zbz,zbA,zbB,zbC,zbD,zbE,zbF,zbG,zbH,zbI,zbJ,zbK,zbL,zbM,zbN,zbO,zbP,zbQ,zbR,zbS,zbT,zbU,zbV,zbW,zbX,zbY,zbZ,zb0,zb1,zb2,zb3,zb4,zb5,zb6,zb7,zb8,zb9,zca,zcb,eq_self,zcc,zcd,zce,zcf,zcg,zch,zci,zcj,zck,zcl,zcm,List.getElem?_cons_succ,List.getElem?_cons_zero,List.set_cons_succ,List.set_cons_zero,List.map_cons,List.map_nil,List.length_cons,List.length_nil,List.cons_append,List.nil_append,List.append_nil,List.isEmpty_cons,List.isEmpty_nil,if_true,if_false,ite_true,ite_false,Bool.not_true,Bool.not_false,Bool.not_not,decide_true,true_and,and_true,false_and,and_false,Bool.false_eq_true,reduceCtorEq,decide_true,decide_false,ite_self,forall_const,Nat.zero_add,Nat.reduceAdd,Nat.reduceLeDiff,Nat.reduceLT,Nat.reduceEqDiff,Nat.reduceSub,Nat.reduceMul,Nat.reduceBEq,Int.reduceLT,Int.reduceLE,Int.reduceEq,Int.reduceNe,Int.reduceAdd,Int.reduceMul,Int.reduceSub,Int.reduceNeg,Int.reducePow,Int.reduceBEq,Int.reduceToNat,Int.reduceGT,Int.reduceGE,String.reduceBEq,zcn,zco,List.replicate_succ,List.replicate_zero,zcp,zcq,zcr,zcs,zct,zcu,zcv,zcw,zcx,zcy,zcz,zcA,zcB,zcC,zcD,zcE,zcF,zcG,zcH,zcI,zcJ,zcK,zcL,zcM,zcN,zcO,zcP,zcQ,zcR,zcS,zcT,zcU,zcV,zcW,zcX,zcY,zcZ,zc0,zc1,zc2,zc3,zc4,zc5,zc6,zc7,zc8,zc9,zda,zdb,zdc,Bool.true_or,Bool.or_true,Bool.false_or,Bool.or_false,Bool.and_true,Bool.true_and,Bool.and_false,Bool.false_and,Int.cast_ofNat_Int,Int.natCast_zero,Int.natCast_one,beq_self_eq_true,zdd,zde,zdf,zdg,zdh,wipeR,ps,pt,p_is_lower,c]
      · rw [if_neg (by decide), if_neg (by decide), if_neg (by decide), if_neg (by decide), if_neg c]
        refine Ok.eq (Ok_defM rfl ?_)
        simp -dsimp (disch := first | assumption | omega) only [zaa,zab,zac,zad,zae,zaf,zag,zah,zai,zaj,zak,zal,zam,zan,zao,zap,zaq,zar,zas,zat,zau,zav,zaw,zax,zay,zaz,zaA,zaB,zaC,zaD,zaE,zaF,zaG,zaH,zaI,zaJ,zaK,zaL,zaM,zaN,zaO,zaP,zaQ,zaR,zaS,zaT,zaU,zaV,zaW,zaX,zaY,zaZ,za0,za1,za2,za3,za4,za5,za6,za7,za8,za9,zba,zbb,zbc,zbd,zbe,zbf,zbg,zbh,zbi,zbj,zbk,zbl,zbm,zbn,zbo,zbp,zbq,zbr,zbs,zbt,zbu,zbv,zbw,zbx,zby,zbz,zbA,zbB,zbC,zbD,zbE,zbF,zbG,zbH,zbI,zbJ,zbK,zbL,zbM,zbN,zbO,zbP,zbQ,zbR,zbS,zbT,zbU,zbV,zbW,zbX,zbY,zbZ,zb0,zb1,zb2,zb3,zb4,zb5,zb6,zb7,zb8,zb9,zca,zcb,eq_self,zcc,zcd,zce,zcf,zcg,zch,zci,zcj,zck,zcl,zcm,List.getElem?_cons_succ,List.getElem?_cons_zero,List.set_cons_succ,List.set_cons_zero,List.map_cons,List.map_nil,List.length_cons,List.length_nil,List.cons_append,List.nil_append,List.append_nil,List.isEmpty_cons,List.isEmpty_nil,if_true,if_false,ite_true,ite_false,Bool.not_true,Bool.not_false,Bool.not_not,decide_true,true_and,and_true,false_and,and_false,Bool.false_eq_true,reduceCtorEq,decide_true,decide_false,ite_self,forall_const,Nat.zero_add,Nat.reduceAdd,Nat.reduceLeDiff,Nat.reduceLT,Nat.reduceEqDiff,Nat.reduceSub,Nat.reduceMul,Nat.reduceBEq,Int.reduceLT,Int.reduceLE,Int.reduceEq,Int.reduceNe,Int.reduceAdd,Int.reduceMul,Int.reduceSub,Int.reduceNeg,Int.reducePow,Int.reduceBEq,Int.reduceToNat,Int.reduceGT,Int.reduceGE,String.reduceBEq,zcn,zco,List.replicate_succ,List.replicate_zero,zcp,zcq,zcr,zcs,zct,zcu,zcv,zcw,zcx,zcy,zcz,zcA,zcB,zcC,zcD,zcE,zcF,zcG,zcH,zcI,zcJ,zcK,zcL,zcM,zcN,zcO,zcP,zcQ,zcR,zcS,zcT,zcU,zcV,zcW,zcX,zcY,zcZ,zc0,zc1,zc2,zc3,zc4,zc5,zc6,zc7,zc8,zc9,zda,zdb,zdc,Bool.true_or,Bool.or_true,Bool.false_or,Bool.or_false,Bool.and_true,Bool.true_and,Bool.and_false,Bool.false_and,Int.cast_ofNat_Int,Int.natCast_zero,Int.natCast_one,beq_self_eq_true,zdd,zde,zdf,zdg,zdh,wipeR,ps,pt,p_is_lower,c]
  rw [e, zaa]
theorem hA_sz {x y s : Rat} {w : Int} [z1 : Sz x 20] [z2 : Sz y 100] [z3 : Sz s 50] (hw : W1 w) : Sz (hA x y w s b) 220 := by
  have zw := hw.sz
  exact (inferInstance : Sz (y - (w : Rat) * s * x - b * (x * x)) _).le (by decide)
theorem hB_sz {x s : Rat} {w : Int} [z1 : Sz x 20] [z3 : Sz s 50] (hw : W1 w) : Sz (hB x w s b) 220 := by
  have zw := hw.sz
  exact (inferInstance : Sz ((w : Rat) * s + 2 * (b * x)) _).le (by decide)
theorem p_met (hw : W1 w1) (hv : W1 w2) (eA : hA x2 y2 w2 s2 b = hA x1 y1 w1 s1 b) (eB : hB x2 w2 s2 b = hB x1 w1 s1 b) : Ok (m_met_at [stV x1 y1 w1 s1 b, stV x2 y2 w2 s2 b] S) Q = Q (metV x1 w1 x2 w2) S := by
  have pr := fun S Q => p_reach2 (S := S) (Q := Q) (x1 := x1) (y1 := y1) (s1 := s1) (x2 := x2) (y2 := y2) (s2 := s2) (b := b) hw hv
  have h1 := fun S Q => p_heights (S := S) (Q := Q) (x := x1) (y := y1) (s := s1) (b := b) hw (by omega) (by omega)
  have h2 := fun S Q => p_heights (S := S) (Q := Q) (x := x2) (y := y2) (s := s2) (b := b) hv (by omega) (by omega)
  have zA := hA_sz (x := x1) (y := y1) (s := s1) (b := b) hw
  have zB := hB_sz (x := x1) (s := s1) (b := b) hw
  rw [eA, eB] at h2
  generalize hA x1 y1 w1 s1 b = A at *
  generalize hB x1 w1 s1 b = B at *
  have zC : Sz (-b) 220 := (inferInstance : Sz (-b) _).le (by decide)
  have bl := fun S Q => p_bent_less (S := S) (Q := Q) (a := A) (b := B) (c := -b) (d := A) (e := B) (f := -b) (by omega)
  rw [show A + -A = 0 by grind, show B + -B = 0 by grind, show -b + -(-b) = 0 by grind] at bl
  have ee : ∀ S (Q : PV → Sto → Prop), Ok (eqM (.tup [rv 0, rv 0, rv 0]) (.tup [rv 0, rv 0, rv 0]) S) Q = Q (.bl true) S := fun S Q => rfl
  unfold rcL rcH at pr
  unfold metV
  have e : m_met_at [stV x1 y1 w1 s1 b, stV x2 y2 w2 s2 b] S = .ok (if w1 = w2 then .non
  else if (if w1 = 1 then x2 else x1) < (if w1 = 1 then x1 else x2) then .lst []
  else if (if w1 = 1 then x1 else x2) = (if w1 = 1 then x2 else x1) then .lst [sv (if w1 = 1 then x1 else x2) 0 0] else .non) S := by
    rcases hw with rfl | rfl <;> rcases hv with rfl | rfl
    · rw [if_pos rfl]
      simp only [if_true] at pr
      refine Ok.eq (Ok_defM rfl ?_)
      simp -dsimp (disch := first | assumption | omega) only [zaa,zab,zac,zad,zae,zaf,zag,zah,zai,zaj,zak,zal,zam,zan,zao,zap,zaq,zar,zas,zat,zau,zav,zaw,zax,zay,zaz,zaA,zaB,zaC,zaD,zaE,zaF,zaG,zaH,zaI,zaJ,zaK,zaL,zaM,zaN,zaO,zaP,zaQ,zaR,zaS,zaT,zaU,zaV,zaW,zaX,zaY,zaZ,za0,za1,za2,za3,za4,za5,za6,za7,za8,za9,zba,zbb,zbc,zbd,zbe,zbf,zbg,zbh,zbi,zbj,zbk,zbl,zbm,zbn,zbo,zbp,zbq,zbr,zbs,zbt,zbu,zbv,zbw,zbx,zby,zbz,zbA,zbB,zbC,zbD,zbE,zbF,zbG,zbH,zbI,zbJ,zbK,zbL,zbM,zbN,zbO,zbP,zbQ,zbR,zbS,zbT,zbU,zbV,zbW,zbX,zbY,zbZ,zb0,zb1,zb2,zb3,zb4,zb5,zb6,zb7,zb8,zb9,zca,zcb,eq_self,zcc,zcd,zce,zcf,zcg,zch,zci,zcj,zck,zcl,zcm,List.getElem?_cons_succ,List.getElem?_cons_zero,List.set_cons_succ,List.set_cons_zero,List.map_cons,List.map_nil,List.length_cons,List.length_nil,List.cons_append,List.nil_append,List.append_nil,List.isEmpty_cons,List.isEmpty_nil,if_true,if_false,ite_true,ite_false,Bool.not_true,Bool.not_false,Bool.not_not,decide_true,true_and,and_true,false_and,and_false,Bool.false_eq_true,reduceCtorEq,decide_true,decide_false,ite_self,forall_const,Nat.zero_add,Nat.reduceAdd,Nat.reduceLeDiff,Nat.reduceLT,Nat.reduceEqDiff,Nat.reduceSub,Nat.reduceMul,Nat.reduceBEq,Int.reduceLT,Int.reduceLE,Int.reduceEq,Int.reduceNe,Int.reduceAdd,Int.reduceMul,Int.reduceSub,Int.reduceNeg,Int.reducePow,Int.reduceBEq,Int.reduceToNat,Int.reduceGT,Int.reduceGE,String.reduceBEq,zcn,zco,List.replicate_succ,List.replicate_zero,zcp,zcq,zcr,zcs,zct,zcu,zcv,zcw,zcx,zcy,zcz,zcA,zcB,zcC,zcD,zcE,zcF,zcG,zcH,zcI,zcJ,zcK,zcL,zcM,zcN,zcO,zcP,zcQ,zcR,zcS,zcT,zcU,zcV,zcW,zcX,zcY,zcZ,zc0,zc1,zc2,zc3,zc4,zc5,zc6,zc7,zc8,zc9,zda,zdb,zdc,Bool.true_or,Bool.or_true,Bool.false_or,Bool.or_false,Bool.and_true,Bool.true_and,Bool.and_false,Bool.false_and,Int.cast_ofNat_Int,Int.natCast_zero,Int.natCast_one,beq_self_eq_true,zdd,zde,zdf,zdg,zdh,wipeR,pr,h1,h2,bl,ee,empty_rv,Ok_eq_rv_non]
    · rw [if_neg (by decide), if_pos rfl, if_pos rfl]
      rw [if_pos rfl, if_neg (by decide), if_pos rfl, if_neg (by decide)] at pr
      by_cases c : x2 < x1
      · rw [if_pos c]
        refine Ok.eq (Ok_defM rfl ?_)
        simp -dsimp (disch := first | assumption | omega) only [zaa,zab,zac,zad,zae,zaf,zag,zah,zai,zaj,zak,zal,zam,zan,zao,zap,zaq,zar,zas,zat,zau,zav,zaw,zax,zay,zaz,zaA,zaB,zaC,zaD,zaE,zaF,zaG,zaH,zaI,zaJ,zaK,zaL,zaM,zaN,zaO,zaP,zaQ,zaR,zaS,zaT,zaU,zaV,zaW,zaX,zaY,zaZ,za0,za1,za2,za3,za4,za5,za6,za7,za8,za9,zba,zbb,zbc,zbd,zbe,zbf,zbg,zbh,zbi,zbj,zbk,zbl,zbm,zbn,zbo,zbp,zbq,zbr,zbs,zbt,zbu,zbv,zbw,zbx,zby,zbz,zbA,zbB,zbC,zbD,zbE,zbF,zbG,zbH,zbI,zbJ,zbK,zbL,zbM,zbN,zbO,zbP,zbQ,zbR,zbS,zbT,zbU,zbV,zbW,zbX,zbY,zbZ,zb0,zb1,zb2,zb3,zb4,zb5,zb6,zb7,zb8,zb9,zca,zcb,eq_self,zcc,zcd,zce,zcf,zcg,zch,zci,zcj,zck,zcl,zcm,List.getElem?_cons_succ,List.getElem?_cons_zero,List.set_cons_succ,List.set_cons_zero,List.map_cons,List.map_nil,List.length_cons,List.length_nil,List.cons_append,List.nil_append,List.append_nil,List.isEmpty_cons,List.isEmpty_nil,if_true,if_false,ite_true,ite_false,Bool.not_true,Bool.not_false,Bool.not_not,decide_true,true_and,and_true,false_and,and_false,Bool.false_eq_true,reduceCtorEq,decide_true,decide_false,ite_self,forall_const,Nat.zero_add,Nat.reduceAdd,Nat.reduceLeDiff,Nat.reduceLT,Nat.reduceEqDiff,Nat.reduceSub,Nat.reduceMul,Nat.reduceBEq,Int.reduceLT,Int.reduceLE,Int.reduceEq,Int.reduceNe,Int.reduceAdd,Int.reduceMul,Int.reduceSub,Int.reduceNeg,Int.reducePow,Int.reduceBEq,Int.reduceToNat,Int.reduceGT,Int.reduceGE,String.reduceBEq,zcn,zco,List.replicate_succ,List.replicate_zero,zcp,zcq,zcr,zcs,zct,zcu,zcv,zcw,zcx,zcy,zcz,zcA,zcB,zcC,zcD,zcE,zcF,zcG,zcH,zcI,zcJ,zcK,zcL,zcM,zcN,zcO,zcP,zcQ,zcR,zcS,zcT,zcU,zcV,zcW,zcX,zcY,zcZ,zc0,zc1,zc2,zc3,zc4,zc5,zc6,zc7,zc8,zc9,zda,zdb,zdc,Bool.true_or,Bool.or_true,Bool.false_or,Bool.or_false,Bool.and_true,Bool.true_and,Bool.and_false,Bool.false_and,Int.cast_ofNat_Int,Int.natCast_zero,Int.natCast_one,beq_self_eq_true,zdd,zde,zdf,zdg,zdh,wipeR,pr,p_is_lower,c]
      · rw [if_neg c]
        by_cases d : x1 = x2
        · rw [if_pos d]
          have d := eq_true d
          refine Ok.eq (Ok_defM rfl ?_)
          simp -dsimp (disch := first | assumption | omega) only [zaa,zab,zac,zad,zae,zaf,zag,zah,zai,zaj,zak,zal,zam,zan,zao,zap,zaq,zar,zas,zat,zau,zav,zaw,zax,zay,zaz,zaA,zaB,zaC,zaD,zaE,zaF,zaG,zaH,zaI,zaJ,zaK,zaL,zaM,zaN,zaO,zaP,zaQ,zaR,zaS,zaT,zaU,zaV,zaW,zaX,zaY,zaZ,za0,za1,za2,za3,za4,za5,za6,za7,za8,za9,zba,zbb,zbc,zbd,zbe,zbf,zbg,zbh,zbi,zbj,zbk,zbl,zbm,zbn,zbo,zbp,zbq,zbr,zbs,zbt,zbu,zbv,zbw,zbx,zby,zbz,zbA,zbB,zbC,zbD,zbE,zbF,zbG,zbH,zbI,zbJ,zbK,zbL,zbM,zbN,zbO,zbP,zbQ,zbR,zbS,zbT,zbU,zbV,zbW,zbX,zbY,zbZ,zb0,zb1,zb2,zb3,zb4,zb5,zb6,zb7,zb8,zb9,zca,zcb,eq_self,zcc,zcd,zce,zcf,zcg,zch,zci,zcj,zck,zcl,zcm,List.getElem?_cons_succ,List.getElem?_cons_zero,List.set_cons_succ,List.set_cons_zero,List.map_cons,List.map_nil,List.length_cons,List.length_nil,List.cons_append,List.nil_append,List.append_nil,List.isEmpty_cons,List.isEmpty_nil,if_true,if_false,ite_true,ite_false,Bool.not_true,Bool.not_false,Bool.not_not,decide_true,true_and,and_true,false_and,and_false,Bool.false_eq_true,reduceCtorEq,decide_true,decide_false,ite_self,forall_const,Nat.zero_add,Nat.reduceAdd,Nat.reduceLeDiff,Nat.reduceLT,Nat.reduceEqDiff,Nat.reduceSub,Nat.reduceMul,Nat.reduceBEq,Int.reduceLT,Int.reduceLE,Int.reduceEq,Int.reduceNe,Int.reduceAdd,Int.reduceMul,Int.reduceSub,Int.reduceNeg,Int.reducePow,Int.reduceBEq,Int.reduceToNat,Int.reduceGT,Int.reduceGE,String.reduceBEq,zcn,zco,List.replicate_succ,List.replicate_zero,zcp,zcq,zcr,zcs,zct,zcu,zcv,zcw,zcx,zcy,zcz,zcA,zcB,zcC,zcD,zcE,zcF,zcG,zcH,zcI,zcJ,zcK,zcL,zcM,zcN,zcO,zcP,zcQ,zcR,zcS,zcT,zcU,zcV,zcW,zcX,zcY,zcZ,zc0,zc1,zc2,zc3,zc4,zc5,zc6,zc7,zc8,zc9,zda,zdb,zdc,Bool.true_or,Bool.or_true,Bool.false_or,Bool.or_false,Bool.and_true,Bool.true_and,Bool.and_false,Bool.false_and,Int.cast_ofNat_Int,Int.natCast_zero,Int.natCast_one,beq_self_eq_true,zdd,zde,zdf,zdg,zdh,wipeR,pr,p_is_lower,c,h1,h2,bl,ee,empty_rv,d,o_plain]
        · rw [if_neg d]
          refine Ok.eq (Ok_defM rfl ?_)
          simp -dsimp (disch := first | assumption | omega) only [zaa,zab,zac,zad,zae,zaf,zag,zah,zai,zaj,zak,zal,zam,zan,zao,zap,zaq,zar,zas,zat,zau,zav,zaw,zax,zay,zaz,zaA,zaB,zaC,zaD,zaE,zaF,zaG,zaH,zaI,zaJ,zaK,zaL,zaM,zaN,zaO,zaP,zaQ,zaR,zaS,zaT,zaU,zaV,zaW,zaX,zaY,zaZ,za0,za1,za2,za3,za4,za5,za6,za7,za8,za9,zba,zbb,zbc,zbd,zbe,zbf,zbg,zbh,zbi,zbj,zbk,zbl,zbm,zbn,zbo,zbp,zbq,zbr,zbs,zbt,zbu,zbv,zbw,zbx,zby,zbz,zbA,zbB,zbC,zbD,zbE,zbF,zbG,zbH,zbI,zbJ,zbK,zbL,zbM,zbN,zbO,zbP,zbQ,zbR,zbS,zbT,zbU,zbV,zbW,zbX,zbY,zbZ,zb0,zb1,zb2,zb3,zb4,zb5,zb6,zb7,zb8,zb9,zca,zcb,eq_self,zcc,zcd,zce,zcf,zcg,zch,zci,zcj,zck,zcl,zcm,List.getElem?_cons_succ,List.getElem?_cons_zero,List.set_cons_succ,List.set_cons_zero,List.map_cons,List.map_nil,List.length_cons,List.length_nil,List.cons_append,List.nil_append,List.append_nil,List.isEmpty_cons,List.isEmpty_nil,if_true,if_false,ite_true,ite_false,Bool.not_true,Bool.not_false,Bool.not_not,decide_true,true_and,and_true,false_and,and_false,Bool.false_eq_true,reduceCtorEq,decide_true,decide_false,ite_self,forall_const,Nat.zero_add,Nat.reduceAdd,Nat.reduceLeDiff,Nat.reduceLT,Nat.reduceEqDiff,Nat.reduceSub,Nat.reduceMul,Nat.reduceBEq,Int.reduceLT,Int.reduceLE,Int.reduceEq,Int.reduceNe,Int.reduceAdd,Int.reduceMul,Int.reduceSub,Int.reduceNeg,Int.reducePow,Int.reduceBEq,Int.reduceToNat,Int.reduceGT,Int.reduceGE,String.reduceBEq,zcn,zco,List.replicate_succ,List.replicate_zero,zcp,zcq,zcr,zcs,zct,zcu,zcv,zcw,zcx,zcy,zcz,zcA,zcB,zcC,zcD,zcE,zcF,zcG,zcH,zcI,zcJ,zcK,zcL,zcM,zcN,zcO,zcP,zcQ,zcR,zcS,zcT,zcU,zcV,zcW,zcX,zcY,zcZ,zc0,zc1,zc2,zc3,zc4,zc5,zc6,zc7,zc8,zc9,zda,zdb,zdc,Bool.true_or,Bool.or_true,Bool.false_or,Bool.or_false,Bool.and_true,Bool.true_and,Bool.and_false,Bool.false_and,Int.cast_ofNat_Int,Int.natCast_zero,Int.natCast_one,beq_self_eq_true,zdd,zde,zdf,zdg,zdh,wipeR,pr,p_is_lower,c,h1,h2,bl,ee,empty_rv,d,o_plain]
    · have n1 : ¬ ((-1 : Int) = 1) := by decide
      simp only [if_neg n1]
      rw [if_neg (by decide), if_pos rfl, if_neg (by decide), if_pos rfl] at pr
      by_cases c : x1 < x2
      · rw [if_pos c]
        refine Ok.eq (Ok_defM rfl ?_)
        simp -dsimp (disch := first | assumption | omega) only [zaa,zab,zac,zad,zae,zaf,zag,zah,zai,zaj,zak,zal,zam,zan,zao,zap,zaq,zar,zas,zat,zau,zav,zaw,zax,zay,zaz,zaA,zaB,zaC,zaD,zaE,zaF,zaG,zaH,zaI,zaJ,zaK,zaL,zaM,zaN,zaO,zaP,zaQ,zaR,zaS,zaT,zaU,zaV,zaW,zaX,zaY,zaZ,za0,za1,za2,za3,za4,za5,za6,za7,za8,za9,zba,zbb,zbc,zbd,zbe,zbf,zbg,zbh,zbi,zbj,zbk,zbl,zbm,zbn,zbo,zbp,zbq,zbr,zbs,zbt,zbu,zbv,zbw,zbx,zby,zbz,zbA,zbB,zbC,zbD,zbE,zbF,zbG,zbH,zbI,zbJ,zbK,zbL,zbM,zbN,zbO,zbP,zbQ,zbR,zbS,zbT,zbU,zbV,zbW,zbX,zbY,zbZ,zb0,zb1,zb2,zb3,zb4,zb5,zb6,zb7,zb8,zb9,zca,zcb,eq_self,zcc,zcd,zce,zcf,zcg,zch,zci,zcj,zck,zcl,zcm,List.getElem?_cons_succ,List.getElem?_cons_zero,List.set_cons_succ,List.set_cons_zero,List.map_cons,List.map_nil,List.length_cons,List.length_nil,List.cons_append,List.nil_append,List.append_nil,List.isEmpty_cons,List.isEmpty_nil,if_true,if_false,ite_true,ite_false,Bool.not_true,Bool.not_false,Bool.not_not,decide_true,true_and,and_true,false_and,and_false,Bool.false_eq_true,reduceCtorEq,decide_true,decide_false,ite_self,forall_const,Nat.zero_add,Nat.reduceAdd,Nat.reduceLeDiff,Nat.reduceLT,Nat.reduceEqDiff,Nat.reduceSub,Nat.reduceMul,Nat.reduceBEq,Int.reduceLT,Int.reduceLE,Int.reduceEq,Int.reduceNe,Int.reduceAdd,Int.reduceMul,Int.reduceSub,Int.reduceNeg,Int.reducePow,Int.reduceBEq,Int.reduceToNat,Int.reduceGT,Int.reduceGE,String.reduceBEq,zcn,zco,List.replicate_succ,List.replicate_zero,zcp,zcq,zcr,zcs,zct,zcu,zcv,zcw,zcx,zcy,zcz,zcA,zcB,zcC,zcD,zcE,zcF,zcG,zcH,zcI,zcJ,zcK,zcL,zcM,zcN,zcO,zcP,zcQ,zcR,zcS,zcT,zcU,zcV,zcW,zcX,zcY,zcZ,zc0,zc1,zc2,zc3,zc4,zc5,zc6,zc7,zc8,zc9,zda,zdb,zdc,Bool.true_or,Bool.or_true,Bool.false_or,Bool.or_false,Bool.and_true,Bool.true_and,Bool.and_false,Bool.false_and,Int.cast_ofNat_Int,Int.natCast_zero,Int.natCast_one,beq_self_eq_true,zdd,zde,zdf,zdg,zdh,wipeR,pr,p_is_lower,c]
      · rw [if_neg c]
        by_cases d : x2 = x1
        · rw [if_pos d]
          have d := eq_true d
          refine Ok.eq (Ok_defM rfl ?_)
          simp -dsimp (disch := first | assumption | omega) only [zaa,zab,zac,zad,zae,zaf,zag,zah,zai,zaj,zak,zal,zam,zan,zao,zap,zaq,zar,zas,zat,zau,zav,zaw,zax,zay,zaz,zaA,zaB,zaC,zaD,zaE,zaF,zaG,zaH,zaI,zaJ,zaK,zaL,zaM,zaN,zaO,zaP,zaQ,zaR,zaS,zaT,zaU,zaV,zaW,zaX,zaY,zaZ,za0,za1,za2,za3,za4,za5,za6,za7,za8,za9,zba,zbb,zbc,zbd,zbe,zbf,zbg,zbh,zbi,zbj,zbk,zbl,zbm,zbn,zbo,zbp,zbq,zbr,zbs,zbt,zbu,zbv,zbw,zbx,zby,zbz,zbA,zbB,zbC,zbD,zbE,zbF,zbG,zbH,zbI,zbJ,zbK,zbL,zbM,zbN,zbO,zbP,zbQ,zbR,zbS,zbT,zbU,zbV,zbW,zbX,zbY,zbZ,zb0,zb1,zb2,zb3,zb4,zb5,zb6,zb7,zb8,zb9,zca,zcb,eq_self,zcc,zcd,zce,zcf,zcg,zch,zci,zcj,zck,zcl,zcm,List.getElem?_cons_succ,List.getElem?_cons_zero,List.set_cons_succ,List.set_cons_zero,List.map_cons,List.map_nil,List.length_cons,List.length_nil,List.cons_append,List.nil_append,List.append_nil,List.isEmpty_cons,List.isEmpty_nil,if_true,if_false,ite_true,ite_false,Bool.not_true,Bool.not_false,Bool.not_not,decide_true,true_and,and_true,false_and,and_false,Bool.false_eq_true,reduceCtorEq,decide_true,decide_false,ite_self,forall_const,Nat.zero_add,Nat.reduceAdd,Nat.reduceLeDiff,Nat.reduceLT,Nat.reduceEqDiff,Nat.reduceSub,Nat.reduceMul,Nat.reduceBEq,Int.reduceLT,Int.reduceLE,Int.reduceEq,Int.reduceNe,Int.reduceAdd,Int.reduceMul,Int.reduceSub,Int.reduceNeg,Int.reducePow,Int.reduceBEq,Int.reduceToNat,Int.reduceGT,Int.reduceGE,String.reduceBEq,zcn,zco,List.replicate_succ,List.replicate_zero,zcp,zcq,zcr,zcs,zct,zcu,zcv,zcw,zcx,zcy,zcz,zcA,zcB,zcC,zcD,zcE,zcF,zcG,zcH,zcI,zcJ,zcK,zcL,zcM,zcN,zcO,zcP,zcQ,zcR,zcS,zcT,zcU,zcV,zcW,zcX,zcY,zcZ,zc0,zc1,zc2,zc3,zc4,zc5,zc6,zc7,zc8,zc9,zda,zdb,zdc,Bool.true_or,Bool.or_true,Bool.false_or,Bool.or_false,Bool.and_true,Bool.true_and,Bool.and_false,Bool.false_and,Int.cast_ofNat_Int,Int.natCast_zero,Int.natCast_one,beq_self_eq_true,zdd,zde,zdf,zdg,zdh,wipeR,pr,p_is_lower,c,h1,h2,bl,ee,empty_rv,d,o_plain]
        · rw [if_neg d]
          refine Ok.eq (Ok_defM rfl ?_)
          simp -dsimp (disch := first | assumption | omega) only [zaa,zab,zac,zad,zae,zaf,zag,zah,zai,zaj,zak,zal,zam,zan,zao,zap,zaq,zar,zas,zat,zau,zav,zaw,zax,zay,zaz,zaA,zaB,zaC,zaD,zaE,zaF,zaG,zaH,zaI,zaJ,zaK,zaL,zaM,zaN,zaO,zaP,zaQ,zaR,zaS,zaT,zaU,zaV,zaW,zaX,zaY,zaZ,za0,za1,za2,za3,za4,za5,za6,za7,za8,za9,zba,zbb,zbc,zbd,zbe,zbf,zbg,zbh,zbi,zbj,zbk,zbl,zbm,zbn,zbo,zbp,zbq,zbr,zbs,zbt,zbu,zbv,zbw,zbx,zby,zbz,zbA,zbB,zbC,zbD,zbE,zbF,zbG,zbH,zbI,zbJ,zbK,zbL,zbM,zbN,zbO,zbP,zbQ,zbR,zbS,zbT,zbU,zbV,zbW,zbX,zbY,zbZ,zb0,zb1,zb2,zb3,zb4,zb5,zb6,zb7,zb8,zb9,zca,zcb,eq_self,zcc,zcd,zce,zcf,zcg,zch,zci,zcj,zck,zcl,zcm,List.getElem?_cons_succ,List.getElem?_cons_zero,List.set_cons_succ,List.set_cons_zero,List.map_cons,List.map_nil,List.length_cons,List.length_nil,List.cons_append,List.nil_append,List.append_nil,List.isEmpty_cons,List.isEmpty_nil,if_true,if_false,ite_true,ite_false,Bool.not_true,Bool.not_false,Bool.not_not,decide_true,true_and,and_true,false_and,and_false,Bool.false_eq_true,reduceCtorEq,decide_true,decide_false,ite_self,forall_const,Nat.zero_add,Nat.reduceAdd,Nat.reduceLeDiff,Nat.reduceLT,Nat.reduceEqDiff,Nat.reduceSub,Nat.reduceMul,Nat.reduceBEq,Int.reduceLT,Int.reduceLE,Int.reduceEq,Int.reduceNe,Int.reduceAdd,Int.reduceMul,Int.reduceSub,Int.reduceNeg,Int.reducePow,Int.reduceBEq,Int.reduceToNat,Int.reduceGT,Int.reduceGE,String.reduceBEq,zcn,zco,List.replicate_succ,List.replicate_zero,zcp,zcq,zcr,zcs,zct,zcu,zcv,zcw,zcx,zcy,zcz,zcA,zcB,zcC,zcD,zcE,zcF,zcG,zcH,zcI,zcJ,zcK,zcL,zcM,zcN,zcO,zcP,zcQ,zcR,zcS,zcT,zcU,zcV,zcW,zcX,zcY,zcZ,zc0,zc1,zc2,zc3,zc4,zc5,zc6,zc7,zc8,zc9,zda,zdb,zdc,Bool.true_or,Bool.or_true,Bool.false_or,Bool.or_false,Bool.and_true,Bool.true_and,Bool.and_false,Bool.false_and,Int.cast_ofNat_Int,Int.natCast_zero,Int.natCast_one,beq_self_eq_true,zdd,zde,zdf,zdg,zdh,wipeR,pr,p_is_lower,c,h1,h2,bl,ee,empty_rv,d,o_plain]
    · rw [if_pos rfl]
      rw [if_neg (by decide), if_neg (by decide), if_neg (by decide), if_neg (by decide)] at pr
      refine Ok.eq (Ok_defM rfl ?_)
      simp -dsimp (disch := first | assumption | omega) only [zaa,zab,zac,zad,zae,zaf,zag,zah,zai,zaj,zak,zal,zam,zan,zao,zap,zaq,zar,zas,zat,zau,zav,zaw,zax,zay,zaz,zaA,zaB,zaC,zaD,zaE,zaF,zaG,zaH,zaI,zaJ,zaK,zaL,zaM,zaN,zaO,zaP,zaQ,zaR,zaS,zaT,zaU,zaV,zaW,zaX,zaY,zaZ,za0,za1,za2,za3,za4,za5,za6,za7,za8,za9,zba,zbb,zbc,zbd,zbe,zbf,zbg,zbh,zbi,zbj,zbk,zbl,zbm,zbn,zbo,zbp,zbq,zbr,zbs,zbt,zbu,zbv,zbw,zbx,zby,zbz,zbA,zbB,zbC,zbD,zbE,zbF,zbG,zbH,zbI,zbJ,zbK,zbL,zbM,zbN,zbO,zbP,zbQ,zbR,zbS,zbT,zbU,zbV,zbW,zbX,zbY,zbZ,zb0,zb1,zb2,zb3,zb4,zb5,zb6,zb7,zb8,zb9,zca,zcb,eq_self,zcc,zcd,zce,zcf,zcg,zch,zci,zcj,zck,zcl,zcm,List.getElem?_cons_succ,List.getElem?_cons_zero,List.set_cons_succ,List.set_cons_zero,List.map_cons,List.map_nil,List.length_cons,List.length_nil,List.cons_append,List.nil_append,List.append_nil,List.isEmpty_cons,List.isEmpty_nil,if_true,if_false,ite_true,ite_false,Bool.not_true,Bool.not_false,Bool.not_not,decide_true,true_and,and_true,false_and,and_false,Bool.false_eq_true,reduceCtorEq,decide_true,decide_false,ite_self,forall_const,Nat.zero_add,Nat.reduceAdd,Nat.reduceLeDiff,Nat.reduceLT,Nat.reduceEqDiff,Nat.reduceSub,Nat.reduceMul,Nat.reduceBEq,Int.reduceLT,Int.reduceLE,Int.reduceEq,Int.reduceNe,Int.reduceAdd,Int.reduceMul,Int.reduceSub,Int.reduceNeg,Int.reducePow,Int.reduceBEq,Int.reduceToNat,Int.reduceGT,Int.reduceGE,String.reduceBEq,zcn,zco,List.replicate_succ,List.replicate_zero,zcp,zcq,zcr,zcs,zct,zcu,zcv,zcw,zcx,zcy,zcz,zcA,zcB,zcC,zcD,zcE,zcF,zcG,zcH,zcI,zcJ,zcK,zcL,zcM,zcN,zcO,zcP,zcQ,zcR,zcS,zcT,zcU,zcV,zcW,zcX,zcY,zcZ,zc0,zc1,zc2,zc3,zc4,zc5,zc6,zc7,zc8,zc9,zda,zdb,zdc,Bool.true_or,Bool.or_true,Bool.false_or,Bool.or_false,Bool.and_true,Bool.true_and,Bool.and_false,Bool.false_and,Int.cast_ofNat_Int,Int.natCast_zero,Int.natCast_one,beq_self_eq_true,zdd,zde,zdf,zdg,zdh,wipeR,pr,h1,h2,bl,ee,empty_rv]
  rw [e, zaa]
end
end
end Pm.L


namespace Pm.L
open PySem PySem.Spec L2 Pm
theorem h_own2 {x y s b : Rat} {w : Int} : hA x y w s b + hB x w s b * x + -b * (x * x + 0 * 0) = y := by
  unfold hA hB
  generalize ((w : Int) : Rat) = v
  grind
section
variable {S : Sto} {Q : PV → Sto → Prop}
section
variable {x1 y1 s1 x2 y2 s2 b : Rat} {w1 w2 : Int} [z1 : Sz x1 20] [z2 : Sz y1 100] [z3 : Sz s1 50] [z4 : Sz x2 20] [z5 : Sz y2 100] [z6 : Sz s2 50] [z7 : Sz b 5]
theorem p_check_both (hw : W1 w1) (hv : W1 w2) (hb : 0 < b) : Ok (m_check_both [stV x1 y1 w1 s1 b, stV x2 y2 w2 s2 b] S) Q = Q .non S := by
  have e : m_check_both [stV x1 y1 w1 s1 b, stV x2 y2 w2 s2 b] S = .ok .non S := by
    refine Ok.eq (Ok_defM rfl ?_)
    simp -dsimp (disch := first | assumption | omega) only [zaa,zab,zac,zad,zae,zaf,zag,zah,zai,zaj,zak,zal,zam,zan,zao,zap,zaq,zar,zas,zat,zau,zav,zaw,zax,zay,zaz,zaA,zaB,zaC,zaD,zaE,zaF,zaG,zaH,zaI,zaJ,zaK,zaL,zaM,zaN,zaO,zaP,zaQ,zaR,zaS,zaT,zaU,zaV,zaW,zaX,zaY,zaZ,za0,za1,za2,za3,za4,za5,za6,za7,za8,za9,zba,zbb,zbc,zbd,zbe,zbf,zbg,zbh,zbi,zbj,zbk,zbl,zbm,zbn,zbo,zbp,zbq,zbr,zbs,zbt,zbu,zbv,zbw,zbx,zby,zbz,zbA,zbB,zbC,zbD,zbE,zbF,zbG,zbH,zbI,zbJ,zbK,zbL,zbM,zbN,zbO,zbP,zbQ,zbR,zbS,zbT,zbU,zbV,zbW,zbX,zbY,zbZ,zb0,zb1,zb2,zb3,zb4,zb5,zb6,zb7,zb8,zb9,zca,zcb,eq_self,zcc,zcd,zce,zcf,zcg,zch,zci,zcj,zck,zcl,zcm,List.getElem?_cons_succ,List.getElem?_cons_zero,List.set_cons_succ,List.set_cons_zero,List.map_cons,List.map_nil,List.length_cons,List.length_nil,List.cons_append,List.nil_append,List.append_nil,List.isEmpty_cons,List.isEmpty_nil,if_true,if_false,ite_true,ite_false,Bool.not_true,Bool.not_false,Bool.not_not,decide_true,true_and,and_true,false_and,and_false,Bool.false_eq_true,reduceCtorEq,decide_true,decide_false,ite_self,forall_const,Nat.zero_add,Nat.reduceAdd,Nat.reduceLeDiff,Nat.reduceLT,Nat.reduceEqDiff,Nat.reduceSub,Nat.reduceMul,Nat.reduceBEq,Int.reduceLT,Int.reduceLE,Int.reduceEq,Int.reduceNe,Int.reduceAdd,Int.reduceMul,Int.reduceSub,Int.reduceNeg,Int.reducePow,Int.reduceBEq,Int.reduceToNat,Int.reduceGT,Int.reduceGE,String.reduceBEq,zcn,zco,List.replicate_succ,List.replicate_zero,zcp,zcq,zcr,zcs,zct,zcu,zcv,zcw,zcx,zcy,zcz,zcA,zcB,zcC,zcD,zcE,zcF,zcG,zcH,zcI,zcJ,zcK,zcL,zcM,zcN,zcO,zcP,zcQ,zcR,zcS,zcT,zcU,zcV,zcW,zcX,zcY,zcZ,zc0,zc1,zc2,zc3,zc4,zc5,zc6,zc7,zc8,zc9,zda,zdb,zdc,Bool.true_or,Bool.or_true,Bool.false_or,Bool.or_false,Bool.and_true,Bool.true_and,Bool.and_false,Bool.false_and,Int.cast_ofNat_Int,Int.natCast_zero,Int.natCast_one,beq_self_eq_true,zdd,zde,zdf,zdg,zdh,wipeR,p_check_stream hw hb,p_check_stream hv hb]
  rw [e, zaa]
theorem p_meet_non (hw : W1 w1) (hv : W1 w2) (hb : 0 < b) (met : ∀ S Q, Ok (m_met_at [stV x1 y1 w1 s1 b, stV x2 y2 w2 s2 b] S) Q = Q .non S) : Ok (m_meetings [stV x1 y1 w1 s1 b, stV x2 y2 w2 s2 b] S) Q = Q .non S := by
  have e : m_meetings [stV x1 y1 w1 s1 b, stV x2 y2 w2 s2 b] S = .ok .non S := by
    refine Ok.eq (Ok_defM rfl ?_)
    simp -dsimp (disch := first | assumption | omega) only [zaa,zab,zac,zad,zae,zaf,zag,zah,zai,zaj,zak,zal,zam,zan,zao,zap,zaq,zar,zas,zat,zau,zav,zaw,zax,zay,zaz,zaA,zaB,zaC,zaD,zaE,zaF,zaG,zaH,zaI,zaJ,zaK,zaL,zaM,zaN,zaO,zaP,zaQ,zaR,zaS,zaT,zaU,zaV,zaW,zaX,zaY,zaZ,za0,za1,za2,za3,za4,za5,za6,za7,za8,za9,zba,zbb,zbc,zbd,zbe,zbf,zbg,zbh,zbi,zbj,zbk,zbl,zbm,zbn,zbo,zbp,zbq,zbr,zbs,zbt,zbu,zbv,zbw,zbx,zby,zbz,zbA,zbB,zbC,zbD,zbE,zbF,zbG,zbH,zbI,zbJ,zbK,zbL,zbM,zbN,zbO,zbP,zbQ,zbR,zbS,zbT,zbU,zbV,zbW,zbX,zbY,zbZ,zb0,zb1,zb2,zb3,zb4,zb5,zb6,zb7,zb8,zb9,zca,zcb,eq_self,zcc,zcd,zce,zcf,zcg,zch,zci,zcj,zck,zcl,zcm,List.getElem?_cons_succ,List.getElem?_cons_zero,List.set_cons_succ,List.set_cons_zero,List.map_cons,List.map_nil,List.length_cons,List.length_nil,List.cons_append,List.nil_append,List.append_nil,List.isEmpty_cons,List.isEmpty_nil,if_true,if_false,ite_true,ite_false,Bool.not_true,Bool.not_false,Bool.not_not,decide_true,true_and,and_true,false_and,and_false,Bool.false_eq_true,reduceCtorEq,decide_true,decide_false,ite_self,forall_const,Nat.zero_add,Nat.reduceAdd,Nat.reduceLeDiff,Nat.reduceLT,Nat.reduceEqDiff,Nat.reduceSub,Nat.reduceMul,Nat.reduceBEq,Int.reduceLT,Int.reduceLE,Int.reduceEq,Int.reduceNe,Int.reduceAdd,Int.reduceMul,Int.reduceSub,Int.reduceNeg,Int.reducePow,Int.reduceBEq,Int.reduceToNat,Int.reduceGT,Int.reduceGE,String.reduceBEq,zcn,zco,List.replicate_succ,List.replicate_zero,zcp,zcq,zcr,zcs,zct,zcu,zcv,zcw,zcx,zcy,zcz,zcA,zcB,zcC,zcD,zcE,zcF,zcG,zcH,zcI,zcJ,zcK,zcL,zcM,zcN,zcO,zcP,zcQ,zcR,zcS,zcT,zcU,zcV,zcW,zcX,zcY,zcZ,zc0,zc1,zc2,zc3,zc4,zc5,zc6,zc7,zc8,zc9,zda,zdb,zdc,Bool.true_or,Bool.or_true,Bool.false_or,Bool.or_false,Bool.and_true,Bool.true_and,Bool.and_false,Bool.false_and,Int.cast_ofNat_Int,Int.natCast_zero,Int.natCast_one,beq_self_eq_true,zdd,zde,zdf,zdg,zdh,wipeR,p_check_both hw hv hb,met]
  rw [e, zaa]
theorem p_meet_nil (hw : W1 w1) (hv : W1 w2) (hb : 0 < b) (met : ∀ S Q, Ok (m_met_at [stV x1 y1 w1 s1 b, stV x2 y2 w2 s2 b] S) Q = Q (.lst []) S) : Ok (m_meetings [stV x1 y1 w1 s1 b, stV x2 y2 w2 s2 b] S) Q = Q (.tup []) S := by
  have e : m_meetings [stV x1 y1 w1 s1 b, stV x2 y2 w2 s2 b] S = .ok (.tup []) S := by
    have hN : isN (.lst []) = false := rfl
    refine Ok.eq (Ok_defM rfl ?_)
    simp -dsimp (disch := first | assumption | omega) only [zaa,zab,zac,zad,zae,zaf,zag,zah,zai,zaj,zak,zal,zam,zan,zao,zap,zaq,zar,zas,zat,zau,zav,zaw,zax,zay,zaz,zaA,zaB,zaC,zaD,zaE,zaF,zaG,zaH,zaI,zaJ,zaK,zaL,zaM,zaN,zaO,zaP,zaQ,zaR,zaS,zaT,zaU,zaV,zaW,zaX,zaY,zaZ,za0,za1,za2,za3,za4,za5,za6,za7,za8,za9,zba,zbb,zbc,zbd,zbe,zbf,zbg,zbh,zbi,zbj,zbk,zbl,zbm,zbn,zbo,zbp,zbq,zbr,zbs,zbt,zbu,zbv,zbw,zbx,zby,zbz,zbA,zbB,zbC,zbD,zbE,zbF,zbG,zbH,zbI,zbJ,zbK,zbL,zbM,zbN,zbO,zbP,zbQ,zbR,zbS,zbT,zbU,zbV,zbW,zbX,zbY,zbZ,zb0,zb1,zb2,zb3,zb4,zb5,zb6,zb7,zb8,zb9,zca,zcb,eq_self,zcc,zcd,zce,zcf,zcg,zch,zci,zcj,zck,zcl,zcm,List.getElem?_cons_succ,List.getElem?_cons_zero,List.set_cons_succ,List.set_cons_zero,List.map_cons,List.map_nil,List.length_cons,List.length_nil,List.cons_append,List.nil_append,List.append_nil,List.isEmpty_cons,List.isEmpty_nil,if_true,if_false,ite_true,ite_false,Bool.not_true,Bool.not_false,Bool.not_not,decide_true,true_and,and_true,false_and,and_false,Bool.false_eq_true,reduceCtorEq,decide_true,decide_false,ite_self,forall_const,Nat.zero_add,Nat.reduceAdd,Nat.reduceLeDiff,Nat.reduceLT,Nat.reduceEqDiff,Nat.reduceSub,Nat.reduceMul,Nat.reduceBEq,Int.reduceLT,Int.reduceLE,Int.reduceEq,Int.reduceNe,Int.reduceAdd,Int.reduceMul,Int.reduceSub,Int.reduceNeg,Int.reducePow,Int.reduceBEq,Int.reduceToNat,Int.reduceGT,Int.reduceGE,String.reduceBEq,zcn,zco,List.replicate_succ,List.replicate_zero,zcp,zcq,zcr,zcs,zct,zcu,zcv,zcw,zcx,zcy,zcz,zcA,zcB,zcC,zcD,zcE,zcF,zcG,zcH,zcI,zcJ,zcK,zcL,zcM,zcN,zcO,zcP,zcQ,zcR,zcS,zcT,zcU,zcV,zcW,zcX,zcY,zcZ,zc0,zc1,zc2,zc3,zc4,zc5,zc6,zc7,zc8,zc9,zda,zdb,zdc,Bool.true_or,Bool.or_true,Bool.false_or,Bool.or_false,Bool.and_true,Bool.true_and,Bool.and_false,Bool.false_and,Int.cast_ofNat_Int,Int.natCast_zero,Int.natCast_one,beq_self_eq_true,zdd,zde,zdf,zdg,zdh,wipeR,p_check_both hw hv hb,met,hN]
  rw [e, zaa]
theorem p_meet_one (hw : W1 w1) (hv : W1 w2) (hb : 0 < b) (met : ∀ S Q, Ok (m_met_at [stV x1 y1 w1 s1 b, stV x2 y2 w2 s2 b] S) Q = Q (.lst [sv x1 0 0]) S) : Ok (m_meetings [stV x1 y1 w1 s1 b, stV x2 y2 w2 s2 b] S) Q = Q (.tup [.tup [sv x1 0 0, sv y1 0 0]]) S := by
  have e : m_meetings [stV x1 y1 w1 s1 b, stV x2 y2 w2 s2 b] S = .ok (.tup [.tup [sv x1 0 0, sv y1 0 0]]) S := by
    have hN : isN (.lst [sv x1 0 0]) = false := rfl
    have h1 := fun S Q => p_heights (S := S) (Q := Q) (x := x1) (y := y1) (s := s1) (b := b) hw (by omega) (by omega)
    have zA := hA_sz (x := x1) (y := y1) (s := s1) (b := b) hw
    have zB := hB_sz (x := x1) (s := s1) (b := b) hw
    have zC : Sz (-b) 220 := (inferInstance : Sz (-b) _).le (by decide)
    have bv := fun S Q => @p_bent_value S Q (hA x1 y1 w1 s1 b) (hB x1 w1 s1 b) (-b) x1 220 20 zA zB zC z1 (by omega)
    rw [h_own2] at bv
    refine Ok.eq (Ok_defM rfl ?_)
    simp -dsimp (disch := first | assumption | omega) only [zaa,zab,zac,zad,zae,zaf,zag,zah,zai,zaj,zak,zal,zam,zan,zao,zap,zaq,zar,zas,zat,zau,zav,zaw,zax,zay,zaz,zaA,zaB,zaC,zaD,zaE,zaF,zaG,zaH,zaI,zaJ,zaK,zaL,zaM,zaN,zaO,zaP,zaQ,zaR,zaS,zaT,zaU,zaV,zaW,zaX,zaY,zaZ,za0,za1,za2,za3,za4,za5,za6,za7,za8,za9,zba,zbb,zbc,zbd,zbe,zbf,zbg,zbh,zbi,zbj,zbk,zbl,zbm,zbn,zbo,zbp,zbq,zbr,zbs,zbt,zbu,zbv,zbw,zbx,zby,zbz,zbA,zbB,zbC,zbD,zbE,zbF,zbG,zbH,zbI,zbJ,zbK,zbL,zbM,zbN,zbO,zbP,zbQ,zbR,zbS,zbT,zbU,zbV,zbW,zbX,zbY,zbZ,zb0,zb1,zb2,zb3,zb4,zb5,zb6,zb7,zb8,zb9,zca,zcb,eq_self,zcc,zcd,zce,zcf,zcg,zch,zci,zcj,zck,zcl,zcm,List.getElem?_cons_succ,List.getElem?_cons_zero,List.set_cons_succ,List.set_cons_zero,List.map_cons,List.map_nil,List.length_cons,List.length_nil,List.cons_append,List.nil_append,List.append_nil,List.isEmpty_cons,List.isEmpty_nil,if_true,if_false,ite_true,ite_false,Bool.not_true,Bool.not_false,Bool.not_not,decide_true,true_and,and_true,false_and,and_false,Bool.false_eq_true,reduceCtorEq,decide_true,decide_false,ite_self,forall_const,Nat.zero_add,Nat.reduceAdd,Nat.reduceLeDiff,Nat.reduceLT,Nat.reduceEqDiff,Nat.reduceSub,Nat.reduceMul,Nat.reduceBEq,Int.reduceLT,Int.reduceLE,Int.reduceEq,Int.reduceNe,Int.reduceAdd,Int.reduceMul,Int.reduceSub,Int.reduceNeg,Int.reducePow,Int.reduceBEq,Int.reduceToNat,Int.reduceGT,Int.reduceGE,String.reduceBEq,zcn,zco,List.replicate_succ,List.replicate_zero,zcp,zcq,zcr,zcs,zct,zcu,zcv,zcw,zcx,zcy,zcz,zcA,zcB,zcC,zcD,zcE,zcF,zcG,zcH,zcI,zcJ,zcK,zcL,zcM,zcN,zcO,zcP,zcQ,zcR,zcS,zcT,zcU,zcV,zcW,zcX,zcY,zcZ,zc0,zc1,zc2,zc3,zc4,zc5,zc6,zc7,zc8,zc9,zda,zdb,zdc,Bool.true_or,Bool.or_true,Bool.false_or,Bool.or_false,Bool.and_true,Bool.true_and,Bool.and_false,Bool.false_and,Int.cast_ofNat_Int,Int.natCast_zero,Int.natCast_one,beq_self_eq_true,zdd,zde,zdf,zdg,zdh,wipeR,p_check_both hw hv hb,met,hN,h1,bv]
  rw [e, zaa]
theorem p_order_same (hx : x2 = x1) : Ok (m_order_at [stV x1 y1 w1 s1 b, stV x2 y2 w2 s2 b, sv x1 0 0] S) Q = Q (.int 0) S := by
  subst hx
  have e : m_order_at [stV x2 y1 w1 s1 b, stV x2 y2 w2 s2 b, sv x2 0 0] S = .ok (.int 0) S := by
    have t1 := fun S Q => p_times (S := S) (Q := Q) (x := x2) (y := y1) (w := w1) (s := s1) (b := b) (by omega) (by omega)
    have t2 := fun S Q => p_times (S := S) (Q := Q) (x := x2) (y := y2) (w := w2) (s := s2) (b := b) (by omega) (by omega)
    have q1 : Sz (b * x2 * x2) 100 := (inferInstance : Sz (b * x2 * x2) _).le (by decide)
    have q2 : Sz (-2 * (b * x2)) 100 := by
      have zm : Sz (-2 : Rat) 2 := inferInstance
      exact (inferInstance : Sz (-2 * (b * x2)) _).le (by decide)
    have q3 : Sz b 100 := z7.le (by decide)
    have bv := fun S Q => @p_bent_value S Q (b * x2 * x2) (-2 * (b * x2)) b x2 100 20 q1 q2 q3 z4 (by omega)
    have zT : Sz (b * x2 * x2 + -2 * (b * x2) * x2 + b * (x2 * x2 + 0 * 0)) 1000 := by
      have z0 : Sz (0 * 0 : Rat) 2 := (inferInstance : Sz ((0 : Rat) * 0) _).le (by decide)
      exact (inferInstance : Sz (b * x2 * x2 + -2 * (b * x2) * x2 + b * (x2 * x2 + 0 * 0)) _).le (by decide)
    generalize b * x2 * x2 + -2 * (b * x2) * x2 + b * (x2 * x2 + 0 * 0) = T at *
    have z00 : Sz (0 : Rat) 1 := Sz.zero
    have cp := fun S Q => o_compared (S := S) (Q := Q) (p := T) (e := 0) (r := 0) (k := T) (f := 0) (u := 0) (by decide) (by decide) (by omega)
    rw [cmp_same] at cp
    refine Ok.eq (Ok_defM rfl ?_)
    simp -dsimp (disch := first | assumption | omega) only [zaa,zab,zac,zad,zae,zaf,zag,zah,zai,zaj,zak,zal,zam,zan,zao,zap,zaq,zar,zas,zat,zau,zav,zaw,zax,zay,zaz,zaA,zaB,zaC,zaD,zaE,zaF,zaG,zaH,zaI,zaJ,zaK,zaL,zaM,zaN,zaO,zaP,zaQ,zaR,zaS,zaT,zaU,zaV,zaW,zaX,zaY,zaZ,za0,za1,za2,za3,za4,za5,za6,za7,za8,za9,zba,zbb,zbc,zbd,zbe,zbf,zbg,zbh,zbi,zbj,zbk,zbl,zbm,zbn,zbo,zbp,zbq,zbr,zbs,zbt,zbu,zbv,zbw,zbx,zby,zbz,zbA,zbB,zbC,zbD,zbE,zbF,zbG,zbH,zbI,zbJ,zbK,zbL,zbM,zbN,zbO,zbP,zbQ,zbR,zbS,zbT,zbU,zbV,zbW,zbX,zbY,zbZ,zb0,zb1,zb2,zb3,zb4,zb5,zb6,zb7,zb8,zb9,zca,zcb,eq_self,zcc,zcd,zce,zcf,zcg,zch,zci,zcj,zck,zcl,zcm,List.getElem?_cons_succ,List.getElem?_cons_zero,List.set_cons_succ,List.set_cons_zero,List.map_cons,List.map_nil,List.length_cons,List.length_nil,List.cons_append,List.nil_append,List.append_nil,List.isEmpty_cons,List.isEmpty_nil,if_true,if_false,ite_true,ite_false,Bool.not_true,Bool.not_false,Bool.not_not,decide_true,true_and,and_true,false_and,and_false,Bool.false_eq_true,reduceCtorEq,decide_true,decide_false,ite_self,forall_const,Nat.zero_add,Nat.reduceAdd,Nat.reduceLeDiff,Nat.reduceLT,Nat.reduceEqDiff,Nat.reduceSub,Nat.reduceMul,Nat.reduceBEq,Int.reduceLT,Int.reduceLE,Int.reduceEq,Int.reduceNe,Int.reduceAdd,Int.reduceMul,Int.reduceSub,Int.reduceNeg,Int.reducePow,Int.reduceBEq,Int.reduceToNat,Int.reduceGT,Int.reduceGE,String.reduceBEq,zcn,zco,List.replicate_succ,List.replicate_zero,zcp,zcq,zcr,zcs,zct,zcu,zcv,zcw,zcx,zcy,zcz,zcA,zcB,zcC,zcD,zcE,zcF,zcG,zcH,zcI,zcJ,zcK,zcL,zcM,zcN,zcO,zcP,zcQ,zcR,zcS,zcT,zcU,zcV,zcW,zcX,zcY,zcZ,zc0,zc1,zc2,zc3,zc4,zc5,zc6,zc7,zc8,zc9,zda,zdb,zdc,Bool.true_or,Bool.or_true,Bool.false_or,Bool.or_false,Bool.and_true,Bool.true_and,Bool.and_false,Bool.false_and,Int.cast_ofNat_Int,Int.natCast_zero,Int.natCast_one,beq_self_eq_true,zdd,zde,zdf,zdg,zdh,wipeR,t1,t2,bv,cp]
  rw [e, zaa]
theorem p_drops_non (hw : W1 w1) (hv : W1 w2) (hb : 0 < b) (met : ∀ S Q, Ok (m_met_at [stV x1 y1 w1 s1 b, stV x2 y2 w2 s2 b] S) Q = Q .non S) : Ok (m_drops_meet [stV x1 y1 w1 s1 b, stV x2 y2 w2 s2 b] S) Q = Q (.bl (!decide (w1 = w2) || decide (x1 = x2 ∧ y1 = y2))) S := by
  have e : m_drops_meet [stV x1 y1 w1 s1 b, stV x2 y2 w2 s2 b] S = .ok (.bl (!decide (w1 = w2) || decide (x1 = x2 ∧ y1 = y2))) S := by
    have p1 : ∀ (S : Sto) (Q : PV → Sto → Prop), Ok (neM (.int w1) (.int w2) S) Q = Q (.bl (!decide (w1 = w2))) S := fun S Q => by
      rw [za2]
      congr 2
    by_cases c : w1 = w2
    · have c := eq_true c
      refine Ok.eq (Ok_defM rfl ?_)
      simp -dsimp (disch := first | assumption | omega) only [zaa,zab,zac,zad,zae,zaf,zag,zah,zai,zaj,zak,zal,zam,zan,zao,zap,zaq,zar,zas,zat,zau,zav,zaw,zax,zay,zaz,zaA,zaB,zaC,zaD,zaE,zaF,zaG,zaH,zaI,zaJ,zaK,zaL,zaM,zaN,zaO,zaP,zaQ,zaR,zaS,zaT,zaU,zaV,zaW,zaX,zaY,zaZ,za0,za1,za2,za3,za4,za5,za6,za7,za8,za9,zba,zbb,zbc,zbd,zbe,zbf,zbg,zbh,zbi,zbj,zbk,zbl,zbm,zbn,zbo,zbp,zbq,zbr,zbs,zbt,zbu,zbv,zbw,zbx,zby,zbz,zbA,zbB,zbC,zbD,zbE,zbF,zbG,zbH,zbI,zbJ,zbK,zbL,zbM,zbN,zbO,zbP,zbQ,zbR,zbS,zbT,zbU,zbV,zbW,zbX,zbY,zbZ,zb0,zb1,zb2,zb3,zb4,zb5,zb6,zb7,zb8,zb9,zca,zcb,eq_self,zcc,zcd,zce,zcf,zcg,zch,zci,zcj,zck,zcl,zcm,List.getElem?_cons_succ,List.getElem?_cons_zero,List.set_cons_succ,List.set_cons_zero,List.map_cons,List.map_nil,List.length_cons,List.length_nil,List.cons_append,List.nil_append,List.append_nil,List.isEmpty_cons,List.isEmpty_nil,if_true,if_false,ite_true,ite_false,Bool.not_true,Bool.not_false,Bool.not_not,decide_true,true_and,and_true,false_and,and_false,Bool.false_eq_true,reduceCtorEq,decide_true,decide_false,ite_self,forall_const,Nat.zero_add,Nat.reduceAdd,Nat.reduceLeDiff,Nat.reduceLT,Nat.reduceEqDiff,Nat.reduceSub,Nat.reduceMul,Nat.reduceBEq,Int.reduceLT,Int.reduceLE,Int.reduceEq,Int.reduceNe,Int.reduceAdd,Int.reduceMul,Int.reduceSub,Int.reduceNeg,Int.reducePow,Int.reduceBEq,Int.reduceToNat,Int.reduceGT,Int.reduceGE,String.reduceBEq,zcn,zco,List.replicate_succ,List.replicate_zero,zcp,zcq,zcr,zcs,zct,zcu,zcv,zcw,zcx,zcy,zcz,zcA,zcB,zcC,zcD,zcE,zcF,zcG,zcH,zcI,zcJ,zcK,zcL,zcM,zcN,zcO,zcP,zcQ,zcR,zcS,zcT,zcU,zcV,zcW,zcX,zcY,zcZ,zc0,zc1,zc2,zc3,zc4,zc5,zc6,zc7,zc8,zc9,zda,zdb,zdc,Bool.true_or,Bool.or_true,Bool.false_or,Bool.or_false,Bool.and_true,Bool.true_and,Bool.and_false,Bool.false_and,Int.cast_ofNat_Int,Int.natCast_zero,Int.natCast_one,beq_self_eq_true,zdd,zde,zdf,zdg,zdh,wipeR,p_check_both hw hv hb,met,p1,c]
    · refine Ok.eq (Ok_defM rfl ?_)
      simp -dsimp (disch := first | assumption | omega) only [zaa,zab,zac,zad,zae,zaf,zag,zah,zai,zaj,zak,zal,zam,zan,zao,zap,zaq,zar,zas,zat,zau,zav,zaw,zax,zay,zaz,zaA,zaB,zaC,zaD,zaE,zaF,zaG,zaH,zaI,zaJ,zaK,zaL,zaM,zaN,zaO,zaP,zaQ,zaR,zaS,zaT,zaU,zaV,zaW,zaX,zaY,zaZ,za0,za1,za2,za3,za4,za5,za6,za7,za8,za9,zba,zbb,zbc,zbd,zbe,zbf,zbg,zbh,zbi,zbj,zbk,zbl,zbm,zbn,zbo,zbp,zbq,zbr,zbs,zbt,zbu,zbv,zbw,zbx,zby,zbz,zbA,zbB,zbC,zbD,zbE,zbF,zbG,zbH,zbI,zbJ,zbK,zbL,zbM,zbN,zbO,zbP,zbQ,zbR,zbS,zbT,zbU,zbV,zbW,zbX,zbY,zbZ,zb0,zb1,zb2,zb3,zb4,zb5,zb6,zb7,zb8,zb9,zca,zcb,eq_self,zcc,zcd,zce,zcf,zcg,zch,zci,zcj,zck,zcl,zcm,List.getElem?_cons_succ,List.getElem?_cons_zero,List.set_cons_succ,List.set_cons_zero,List.map_cons,List.map_nil,List.length_cons,List.length_nil,List.cons_append,List.nil_append,List.append_nil,List.isEmpty_cons,List.isEmpty_nil,if_true,if_false,ite_true,ite_false,Bool.not_true,Bool.not_false,Bool.not_not,decide_true,true_and,and_true,false_and,and_false,Bool.false_eq_true,reduceCtorEq,decide_true,decide_false,ite_self,forall_const,Nat.zero_add,Nat.reduceAdd,Nat.reduceLeDiff,Nat.reduceLT,Nat.reduceEqDiff,Nat.reduceSub,Nat.reduceMul,Nat.reduceBEq,Int.reduceLT,Int.reduceLE,Int.reduceEq,Int.reduceNe,Int.reduceAdd,Int.reduceMul,Int.reduceSub,Int.reduceNeg,Int.reducePow,Int.reduceBEq,Int.reduceToNat,Int.reduceGT,Int.reduceGE,String.reduceBEq,zcn,zco,List.replicate_succ,List.replicate_zero,zcp,zcq,zcr,zcs,zct,zcu,zcv,zcw,zcx,zcy,zcz,zcA,zcB,zcC,zcD,zcE,zcF,zcG,zcH,zcI,zcJ,zcK,zcL,zcM,zcN,zcO,zcP,zcQ,zcR,zcS,zcT,zcU,zcV,zcW,zcX,zcY,zcZ,zc0,zc1,zc2,zc3,zc4,zc5,zc6,zc7,zc8,zc9,zda,zdb,zdc,Bool.true_or,Bool.or_true,Bool.false_or,Bool.or_false,Bool.and_true,Bool.true_and,Bool.and_false,Bool.false_and,Int.cast_ofNat_Int,Int.natCast_zero,Int.natCast_one,beq_self_eq_true,zdd,zde,zdf,zdg,zdh,wipeR,p_check_both hw hv hb,met,p1,c]
  rw [e, zaa]
theorem p_drops_nil (hw : W1 w1) (hv : W1 w2) (hb : 0 < b) (met : ∀ S Q, Ok (m_met_at [stV x1 y1 w1 s1 b, stV x2 y2 w2 s2 b] S) Q = Q (.lst []) S) : Ok (m_drops_meet [stV x1 y1 w1 s1 b, stV x2 y2 w2 s2 b] S) Q = Q (.bl false) S := by
  have e : m_drops_meet [stV x1 y1 w1 s1 b, stV x2 y2 w2 s2 b] S = .ok (.bl false) S := by
    have hN : isN (.lst []) = false := rfl
    refine Ok.eq (Ok_defM rfl ?_)
    simp -dsimp (disch := first | assumption | omega) only [zaa,zab,zac,zad,zae,zaf,zag,zah,zai,zaj,zak,zal,zam,zan,zao,zap,zaq,zar,zas,zat,zau,zav,zaw,zax,zay,zaz,zaA,zaB,zaC,zaD,zaE,zaF,zaG,zaH,zaI,zaJ,zaK,zaL,zaM,zaN,zaO,zaP,zaQ,zaR,zaS,zaT,zaU,zaV,zaW,zaX,zaY,zaZ,za0,za1,za2,za3,za4,za5,za6,za7,za8,za9,zba,zbb,zbc,zbd,zbe,zbf,zbg,zbh,zbi,zbj,zbk,zbl,zbm,zbn,zbo,zbp,zbq,zbr,zbs,zbt,zbu,zbv,zbw,zbx,zby,zbz,zbA,zbB,zbC,zbD,zbE,zbF,zbG,zbH,zbI,zbJ,zbK,zbL,zbM,zbN,zbO,zbP,zbQ,zbR,zbS,zbT,zbU,zbV,zbW,zbX,zbY,zbZ,zb0,zb1,zb2,zb3,zb4,zb5,zb6,zb7,zb8,zb9,zca,zcb,eq_self,zcc,zcd,zce,zcf,zcg,zch,zci,zcj,zck,zcl,zcm,List.getElem?_cons_succ,List.getElem?_cons_zero,List.set_cons_succ,List.set_cons_zero,List.map_cons,List.map_nil,List.length_cons,List.length_nil,List.cons_append,List.nil_append,List.append_nil,List.isEmpty_cons,List.isEmpty_nil,if_true,if_false,ite_true,ite_false,Bool.not_true,Bool.not_false,Bool.not_not,decide_true,true_and,and_true,false_and,and_false,Bool.false_eq_true,reduceCtorEq,decide_true,decide_false,ite_self,forall_const,Nat.zero_add,Nat.reduceAdd,Nat.reduceLeDiff,Nat.reduceLT,Nat.reduceEqDiff,Nat.reduceSub,Nat.reduceMul,Nat.reduceBEq,Int.reduceLT,Int.reduceLE,Int.reduceEq,Int.reduceNe,Int.reduceAdd,Int.reduceMul,Int.reduceSub,Int.reduceNeg,Int.reducePow,Int.reduceBEq,Int.reduceToNat,Int.reduceGT,Int.reduceGE,String.reduceBEq,zcn,zco,List.replicate_succ,List.replicate_zero,zcp,zcq,zcr,zcs,zct,zcu,zcv,zcw,zcx,zcy,zcz,zcA,zcB,zcC,zcD,zcE,zcF,zcG,zcH,zcI,zcJ,zcK,zcL,zcM,zcN,zcO,zcP,zcQ,zcR,zcS,zcT,zcU,zcV,zcW,zcX,zcY,zcZ,zc0,zc1,zc2,zc3,zc4,zc5,zc6,zc7,zc8,zc9,zda,zdb,zdc,Bool.true_or,Bool.or_true,Bool.false_or,Bool.or_false,Bool.and_true,Bool.true_and,Bool.and_false,Bool.false_and,Int.cast_ofNat_Int,Int.natCast_zero,Int.natCast_one,beq_self_eq_true,zdd,zde,zdf,zdg,zdh,wipeR,p_check_both hw hv hb,met,hN,Ok_any (xs := []) (bs := []) rfl,show ([] : List Bool).any id = false from rfl]
  rw [e, zaa]
theorem p_drops_one (hw : W1 w1) (hv : W1 w2) (hb : 0 < b) (hx : x2 = x1) (met : ∀ S Q, Ok (m_met_at [stV x1 y1 w1 s1 b, stV x2 y2 w2 s2 b] S) Q = Q (.lst [sv x1 0 0]) S) : Ok (m_drops_meet [stV x1 y1 w1 s1 b, stV x2 y2 w2 s2 b] S) Q = Q (.bl true) S := by
  have e : m_drops_meet [stV x1 y1 w1 s1 b, stV x2 y2 w2 s2 b] S = .ok (.bl true) S := by
    have hN : isN (.lst [sv x1 0 0]) = false := rfl
    have po := fun S Q => p_order_same (S := S) (Q := Q) (y1 := y1) (y2 := y2) (s1 := s1) (s2 := s2) (b := b) (w1 := w1) (w2 := w2) hx
    refine Ok.eq (Ok_defM rfl ?_)
    simp -dsimp (disch := first | assumption | omega) only [zaa,zab,zac,zad,zae,zaf,zag,zah,zai,zaj,zak,zal,zam,zan,zao,zap,zaq,zar,zas,zat,zau,zav,zaw,zax,zay,zaz,zaA,zaB,zaC,zaD,zaE,zaF,zaG,zaH,zaI,zaJ,zaK,zaL,zaM,zaN,zaO,zaP,zaQ,zaR,zaS,zaT,zaU,zaV,zaW,zaX,zaY,zaZ,za0,za1,za2,za3,za4,za5,za6,za7,za8,za9,zba,zbb,zbc,zbd,zbe,zbf,zbg,zbh,zbi,zbj,zbk,zbl,zbm,zbn,zbo,zbp,zbq,zbr,zbs,zbt,zbu,zbv,zbw,zbx,zby,zbz,zbA,zbB,zbC,zbD,zbE,zbF,zbG,zbH,zbI,zbJ,zbK,zbL,zbM,zbN,zbO,zbP,zbQ,zbR,zbS,zbT,zbU,zbV,zbW,zbX,zbY,zbZ,zb0,zb1,zb2,zb3,zb4,zb5,zb6,zb7,zb8,zb9,zca,zcb,eq_self,zcc,zcd,zce,zcf,zcg,zch,zci,zcj,zck,zcl,zcm,List.getElem?_cons_succ,List.getElem?_cons_zero,List.set_cons_succ,List.set_cons_zero,List.map_cons,List.map_nil,List.length_cons,List.length_nil,List.cons_append,List.nil_append,List.append_nil,List.isEmpty_cons,List.isEmpty_nil,if_true,if_false,ite_true,ite_false,Bool.not_true,Bool.not_false,Bool.not_not,decide_true,true_and,and_true,false_and,and_false,Bool.false_eq_true,reduceCtorEq,decide_true,decide_false,ite_self,forall_const,Nat.zero_add,Nat.reduceAdd,Nat.reduceLeDiff,Nat.reduceLT,Nat.reduceEqDiff,Nat.reduceSub,Nat.reduceMul,Nat.reduceBEq,Int.reduceLT,Int.reduceLE,Int.reduceEq,Int.reduceNe,Int.reduceAdd,Int.reduceMul,Int.reduceSub,Int.reduceNeg,Int.reducePow,Int.reduceBEq,Int.reduceToNat,Int.reduceGT,Int.reduceGE,String.reduceBEq,zcn,zco,List.replicate_succ,List.replicate_zero,zcp,zcq,zcr,zcs,zct,zcu,zcv,zcw,zcx,zcy,zcz,zcA,zcB,zcC,zcD,zcE,zcF,zcG,zcH,zcI,zcJ,zcK,zcL,zcM,zcN,zcO,zcP,zcQ,zcR,zcS,zcT,zcU,zcV,zcW,zcX,zcY,zcZ,zc0,zc1,zc2,zc3,zc4,zc5,zc6,zc7,zc8,zc9,zda,zdb,zdc,Bool.true_or,Bool.or_true,Bool.false_or,Bool.or_false,Bool.and_true,Bool.true_and,Bool.and_false,Bool.false_and,Int.cast_ofNat_Int,Int.natCast_zero,Int.natCast_one,beq_self_eq_true,zdd,zde,zdf,zdg,zdh,wipeR,p_check_both hw hv hb,met,hN,po,Ok_any (xs := [.bl true]) (bs := [true]) rfl,show ([true] : List Bool).any id = true from rfl]
  rw [e, zaa]
theorem Ok_dix {l : List (Int × Str)} {i : Int} {y : Str} (h : l.lookup i = some y) : Ok (dixM l (.int i) S) Q = Q (.str y) S := by
  unfold dixM
  simp only [h]
  rfl
theorem p_first_one (hw : W1 w1) (hv : W1 w2) (hb : 0 < b) (hx : x2 = x1) (met : ∀ S Q, Ok (m_met_at [stV x1 y1 w1 s1 b, stV x2 y2 w2 s2 b] S) Q = Q (.lst [sv x1 0 0]) S) : Ok (m_first_there [stV x1 y1 w1 s1 b, stV x2 y2 w2 s2 b, .int 0] S) Q = Q (.str "both") S := by
  have e : m_first_there [stV x1 y1 w1 s1 b, stV x2 y2 w2 s2 b, .int 0] S = .ok (.str "both") S := by
    have hN : isN (.lst [sv x1 0 0]) = false := rfl
    have po := fun S Q => p_order_same (S := S) (Q := Q) (y1 := y1) (y2 := y2) (s1 := s1) (s2 := s2) (b := b) (w1 := w1) (w2 := w2) hx
    have ob := fun S Q => o_between (S := S) (Q := Q) (i := 0) (a := 0) (b := 0) (by decide) (by decide)
    have dx := fun S Q => Ok_dix (S := S) (Q := Q) (l := dl_FIRSTS) (i := 0) (y := "both") (by decide +kernel)
    refine Ok.eq (Ok_defM rfl ?_)
    simp -dsimp (disch := first | assumption | omega) only [zaa,zab,zac,zad,zae,zaf,zag,zah,zai,zaj,zak,zal,zam,zan,zao,zap,zaq,zar,zas,zat,zau,zav,zaw,zax,zay,zaz,zaA,zaB,zaC,zaD,zaE,zaF,zaG,zaH,zaI,zaJ,zaK,zaL,zaM,zaN,zaO,zaP,zaQ,zaR,zaS,zaT,zaU,zaV,zaW,zaX,zaY,zaZ,za0,za1,za2,za3,za4,za5,za6,za7,za8,za9,zba,zbb,zbc,zbd,zbe,zbf,zbg,zbh,zbi,zbj,zbk,zbl,zbm,zbn,zbo,zbp,zbq,zbr,zbs,zbt,zbu,zbv,zbw,zbx,zby,zbz,zbA,zbB,zbC,zbD,zbE,zbF,zbG,zbH,zbI,zbJ,zbK,zbL,zbM,zbN,zbO,zbP,zbQ,zbR,zbS,zbT,zbU,zbV,zbW,zbX,zbY,zbZ,zb0,zb1,zb2,zb3,zb4,zb5,zb6,zb7,zb8,zb9,zca,zcb,eq_self,zcc,zcd,zce,zcf,zcg,zch,zci,zcj,zck,zcl,zcm,List.getElem?_cons_succ,List.getElem?_cons_zero,List.set_cons_succ,List.set_cons_zero,List.map_cons,List.map_nil,List.length_cons,List.length_nil,List.cons_append,List.nil_append,List.append_nil,List.isEmpty_cons,List.isEmpty_nil,if_true,if_false,ite_true,ite_false,Bool.not_true,Bool.not_false,Bool.not_not,decide_true,true_and,and_true,false_and,and_false,Bool.false_eq_true,reduceCtorEq,decide_true,decide_false,ite_self,forall_const,Nat.zero_add,Nat.reduceAdd,Nat.reduceLeDiff,Nat.reduceLT,Nat.reduceEqDiff,Nat.reduceSub,Nat.reduceMul,Nat.reduceBEq,Int.reduceLT,Int.reduceLE,Int.reduceEq,Int.reduceNe,Int.reduceAdd,Int.reduceMul,Int.reduceSub,Int.reduceNeg,Int.reducePow,Int.reduceBEq,Int.reduceToNat,Int.reduceGT,Int.reduceGE,String.reduceBEq,zcn,zco,List.replicate_succ,List.replicate_zero,zcp,zcq,zcr,zcs,zct,zcu,zcv,zcw,zcx,zcy,zcz,zcA,zcB,zcC,zcD,zcE,zcF,zcG,zcH,zcI,zcJ,zcK,zcL,zcM,zcN,zcO,zcP,zcQ,zcR,zcS,zcT,zcU,zcV,zcW,zcX,zcY,zcZ,zc0,zc1,zc2,zc3,zc4,zc5,zc6,zc7,zc8,zc9,zda,zdb,zdc,Bool.true_or,Bool.or_true,Bool.false_or,Bool.or_false,Bool.and_true,Bool.true_and,Bool.and_false,Bool.false_and,Int.cast_ofNat_Int,Int.natCast_zero,Int.natCast_one,beq_self_eq_true,zdd,zde,zdf,zdg,zdh,wipeR,p_check_both hw hv hb,met,hN,po,ob,dx]
  rw [e, zaa]
theorem p_water {X : Rat} [zX : Sz X 60] (hw : W1 w1) (hb : 0 < b) (h1 : w1 = 1 → ¬ X < x1) (h2 : w1 = -1 → ¬ x1 < X) : Ok (m_water_at [stV x1 y1 w1 s1 b, rv X] S) Q = Q (rv (hF (hA x1 y1 w1 s1 b) (hB x1 w1 s1 b) b X)) S := by
  have pr := fun S Q => p_reach1 (S := S) (Q := Q) (x1 := x1) (y1 := y1) (s1 := s1) (b := b) hw
  have ph := fun S Q => p_heights (S := S) (Q := Q) (x := x1) (y := y1) (s := s1) (b := b) hw (by omega) (by omega)
  have zA := hA_sz (x := x1) (y := y1) (s := s1) (b := b) hw
  have zB := hB_sz (x := x1) (s := s1) (b := b) hw
  have pc := fun S Q => p_check_stream (S := S) (Q := Q) (x := x1) (y := y1) (s := s1) hw hb
  generalize hA x1 y1 w1 s1 b = A at *
  generalize hB x1 w1 s1 b = B at *
  have e1 : A + X * (B + -b * X) = hF A B b X := rfl
  have br : ∀ S (Q : PV → Sto → Prop), Ok (m_bent_ratio [.tup [rv A, rv B, rv (-b)], rv X] S) Q = Q (rv (hF A B b X)) S := fun S Q => by
    have e : m_bent_ratio [.tup [rv A, rv B, rv (-b)], rv X] S = .ok (rv (hF A B b X)) S := by
      refine Ok.eq (Ok_defM rfl ?_)
      simp -dsimp (disch := first | assumption | omega) only [zaa,zab,zac,zad,zae,zaf,zag,zah,zai,zaj,zak,zal,zam,zan,zao,zap,zaq,zar,zas,zat,zau,zav,zaw,zax,zay,zaz,zaA,zaB,zaC,zaD,zaE,zaF,zaG,zaH,zaI,zaJ,zaK,zaL,zaM,zaN,zaO,zaP,zaQ,zaR,zaS,zaT,zaU,zaV,zaW,zaX,zaY,zaZ,za0,za1,za2,za3,za4,za5,za6,za7,za8,za9,zba,zbb,zbc,zbd,zbe,zbf,zbg,zbh,zbi,zbj,zbk,zbl,zbm,zbn,zbo,zbp,zbq,zbr,zbs,zbt,zbu,zbv,zbw,zbx,zby,zbz,zbA,zbB,zbC,zbD,zbE,zbF,zbG,zbH,zbI,zbJ,zbK,zbL,zbM,zbN,zbO,zbP,zbQ,zbR,zbS,zbT,zbU,zbV,zbW,zbX,zbY,zbZ,zb0,zb1,zb2,zb3,zb4,zb5,zb6,zb7,zb8,zb9,zca,zcb,eq_self,zcc,zcd,zce,zcf,zcg,zch,zci,zcj,zck,zcl,zcm,List.getElem?_cons_succ,List.getElem?_cons_zero,List.set_cons_succ,List.set_cons_zero,List.map_cons,List.map_nil,List.length_cons,List.length_nil,List.cons_append,List.nil_append,List.append_nil,List.isEmpty_cons,List.isEmpty_nil,if_true,if_false,ite_true,ite_false,Bool.not_true,Bool.not_false,Bool.not_not,decide_true,true_and,and_true,false_and,and_false,Bool.false_eq_true,reduceCtorEq,decide_true,decide_false,ite_self,forall_const,Nat.zero_add,Nat.reduceAdd,Nat.reduceLeDiff,Nat.reduceLT,Nat.reduceEqDiff,Nat.reduceSub,Nat.reduceMul,Nat.reduceBEq,Int.reduceLT,Int.reduceLE,Int.reduceEq,Int.reduceNe,Int.reduceAdd,Int.reduceMul,Int.reduceSub,Int.reduceNeg,Int.reducePow,Int.reduceBEq,Int.reduceToNat,Int.reduceGT,Int.reduceGE,String.reduceBEq,zcn,zco,List.replicate_succ,List.replicate_zero,zcp,zcq,zcr,zcs,zct,zcu,zcv,zcw,zcx,zcy,zcz,zcA,zcB,zcC,zcD,zcE,zcF,zcG,zcH,zcI,zcJ,zcK,zcL,zcM,zcN,zcO,zcP,zcQ,zcR,zcS,zcT,zcU,zcV,zcW,zcX,zcY,zcZ,zc0,zc1,zc2,zc3,zc4,zc5,zc6,zc7,zc8,zc9,zda,zdb,zdc,Bool.true_or,Bool.or_true,Bool.false_or,Bool.or_false,Bool.and_true,Bool.true_and,Bool.and_false,Bool.false_and,Int.cast_ofNat_Int,Int.natCast_zero,Int.natCast_one,beq_self_eq_true,zdd,zde,zdf,zdg,zdh,wipeR,o_ratio_product,o_ratio_sum,e1]
    rw [e, zaa]
  have e : m_water_at [stV x1 y1 w1 s1 b, rv X] S = .ok (rv (hF A B b X)) S := by
    rcases hw with rfl | rfl
    · have h1 := h1 rfl
      rw [if_pos rfl] at pr
      refine Ok.eq (Ok_defM rfl ?_)
      simp -dsimp (disch := first | assumption | omega) only [zaa,zab,zac,zad,zae,zaf,zag,zah,zai,zaj,zak,zal,zam,zan,zao,zap,zaq,zar,zas,zat,zau,zav,zaw,zax,zay,zaz,zaA,zaB,zaC,zaD,zaE,zaF,zaG,zaH,zaI,zaJ,zaK,zaL,zaM,zaN,zaO,zaP,zaQ,zaR,zaS,zaT,zaU,zaV,zaW,zaX,zaY,zaZ,za0,za1,za2,za3,za4,za5,za6,za7,za8,za9,zba,zbb,zbc,zbd,zbe,zbf,zbg,zbh,zbi,zbj,zbk,zbl,zbm,zbn,zbo,zbp,zbq,zbr,zbs,zbt,zbu,zbv,zbw,zbx,zby,zbz,zbA,zbB,zbC,zbD,zbE,zbF,zbG,zbH,zbI,zbJ,zbK,zbL,zbM,zbN,zbO,zbP,zbQ,zbR,zbS,zbT,zbU,zbV,zbW,zbX,zbY,zbZ,zb0,zb1,zb2,zb3,zb4,zb5,zb6,zb7,zb8,zb9,zca,zcb,eq_self,zcc,zcd,zce,zcf,zcg,zch,zci,zcj,zck,zcl,zcm,List.getElem?_cons_succ,List.getElem?_cons_zero,List.set_cons_succ,List.set_cons_zero,List.map_cons,List.map_nil,List.length_cons,List.length_nil,List.cons_append,List.nil_append,List.append_nil,List.isEmpty_cons,List.isEmpty_nil,if_true,if_false,ite_true,ite_false,Bool.not_true,Bool.not_false,Bool.not_not,decide_true,true_and,and_true,false_and,and_false,Bool.false_eq_true,reduceCtorEq,decide_true,decide_false,ite_self,forall_const,Nat.zero_add,Nat.reduceAdd,Nat.reduceLeDiff,Nat.reduceLT,Nat.reduceEqDiff,Nat.reduceSub,Nat.reduceMul,Nat.reduceBEq,Int.reduceLT,Int.reduceLE,Int.reduceEq,Int.reduceNe,Int.reduceAdd,Int.reduceMul,Int.reduceSub,Int.reduceNeg,Int.reducePow,Int.reduceBEq,Int.reduceToNat,Int.reduceGT,Int.reduceGE,String.reduceBEq,zcn,zco,List.replicate_succ,List.replicate_zero,zcp,zcq,zcr,zcs,zct,zcu,zcv,zcw,zcx,zcy,zcz,zcA,zcB,zcC,zcD,zcE,zcF,zcG,zcH,zcI,zcJ,zcK,zcL,zcM,zcN,zcO,zcP,zcQ,zcR,zcS,zcT,zcU,zcV,zcW,zcX,zcY,zcZ,zc0,zc1,zc2,zc3,zc4,zc5,zc6,zc7,zc8,zc9,zda,zdb,zdc,Bool.true_or,Bool.or_true,Bool.false_or,Bool.or_false,Bool.and_true,Bool.true_and,Bool.and_false,Bool.false_and,Int.cast_ofNat_Int,Int.natCast_zero,Int.natCast_one,beq_self_eq_true,zdd,zde,zdf,zdg,zdh,wipeR,pc,o_check_fraction,pr,p_is_lower,h1,ph,br]
    · have h2 := h2 rfl
      rw [if_neg (by decide)] at pr
      refine Ok.eq (Ok_defM rfl ?_)
      simp -dsimp (disch := first | assumption | omega) only [zaa,zab,zac,zad,zae,zaf,zag,zah,zai,zaj,zak,zal,zam,zan,zao,zap,zaq,zar,zas,zat,zau,zav,zaw,zax,zay,zaz,zaA,zaB,zaC,zaD,zaE,zaF,zaG,zaH,zaI,zaJ,zaK,zaL,zaM,zaN,zaO,zaP,zaQ,zaR,zaS,zaT,zaU,zaV,zaW,zaX,zaY,zaZ,za0,za1,za2,za3,za4,za5,za6,za7,za8,za9,zba,zbb,zbc,zbd,zbe,zbf,zbg,zbh,zbi,zbj,zbk,zbl,zbm,zbn,zbo,zbp,zbq,zbr,zbs,zbt,zbu,zbv,zbw,zbx,zby,zbz,zbA,zbB,zbC,zbD,zbE,zbF,zbG,zbH,zbI,zbJ,zbK,zbL,zbM,zbN,zbO,zbP,zbQ,zbR,zbS,zbT,zbU,zbV,zbW,zbX,zbY,zbZ,zb0,zb1,zb2,zb3,zb4,zb5,zb6,zb7,zb8,zb9,zca,zcb,eq_self,zcc,zcd,zce,zcf,zcg,zch,zci,zcj,zck,zcl,zcm,List.getElem?_cons_succ,List.getElem?_cons_zero,List.set_cons_succ,List.set_cons_zero,List.map_cons,List.map_nil,List.length_cons,List.length_nil,List.cons_append,List.nil_append,List.append_nil,List.isEmpty_cons,List.isEmpty_nil,if_true,if_false,ite_true,ite_false,Bool.not_true,Bool.not_false,Bool.not_not,decide_true,true_and,and_true,false_and,and_false,Bool.false_eq_true,reduceCtorEq,decide_true,decide_false,ite_self,forall_const,Nat.zero_add,Nat.reduceAdd,Nat.reduceLeDiff,Nat.reduceLT,Nat.reduceEqDiff,Nat.reduceSub,Nat.reduceMul,Nat.reduceBEq,Int.reduceLT,Int.reduceLE,Int.reduceEq,Int.reduceNe,Int.reduceAdd,Int.reduceMul,Int.reduceSub,Int.reduceNeg,Int.reducePow,Int.reduceBEq,Int.reduceToNat,Int.reduceGT,Int.reduceGE,String.reduceBEq,zcn,zco,List.replicate_succ,List.replicate_zero,zcp,zcq,zcr,zcs,zct,zcu,zcv,zcw,zcx,zcy,zcz,zcA,zcB,zcC,zcD,zcE,zcF,zcG,zcH,zcI,zcJ,zcK,zcL,zcM,zcN,zcO,zcP,zcQ,zcR,zcS,zcT,zcU,zcV,zcW,zcX,zcY,zcZ,zc0,zc1,zc2,zc3,zc4,zc5,zc6,zc7,zc8,zc9,zda,zdb,zdc,Bool.true_or,Bool.or_true,Bool.false_or,Bool.or_false,Bool.and_true,Bool.true_and,Bool.and_false,Bool.false_and,Int.cast_ofNat_Int,Int.natCast_zero,Int.natCast_one,beq_self_eq_true,zdd,zde,zdf,zdg,zdh,wipeR,pc,o_check_fraction,pr,p_is_lower,h2,ph,br]
  rw [e, zaa]
end
end
end Pm.L


namespace Pm.L
open PySem PySem.Spec L2 Pm
theorem t12 : PV.tup [.int 1, .int 2] = rv (1 / 2) := by
  have h1 : (1 / 2 : Rat).num = 1 := by decide +kernel
  have h2 : (1 / 2 : Rat).den = 2 := by decide +kernel
  unfold rv
  rw [h1, h2]; rfl
theorem tx_non : txt (.lst [.non, .non]) = "[None, None]" := by decide +kernel
theorem tx_nil : txt (.lst [.tup [], .tup []]) = "[(), ()]" := by decide +kernel
theorem on_A {x y s b X : Rat} {w v : Int} (hv : W1 v) : hA X (onY (hA x y w s b) (hB x w s b) b X) v (onS (hB x w s b) b X v) b = hA x y w s b := by
  generalize hA x y w s b = A
  generalize hB x w s b = B
  have h2 : ((v : Int) : Rat) * ((v : Int) : Rat) = 1 := by rcases hv.q with h | h <;> rw [h] <;> grind
  unfold hA onY onS hF
  generalize ((v : Int) : Rat) = u at *
  grind
theorem on_B {x s b X : Rat} {w v : Int} (hv : W1 v) : hB X v (onS (hB x w s b) b X v) b = hB x w s b := by
  generalize hB x w s b = B
  have h2 : ((v : Int) : Rat) * ((v : Int) : Rat) = 1 := by rcases hv.q with h | h <;> rw [h] <;> grind
  unfold hB onS
  generalize ((v : Int) : Rat) = u at *
  grind
theorem on_s {x s b : Rat} {w : Int} (hw : W1 w) : onS (hB x w s b) b x w = s := by
  have h2 : ((w : Int) : Rat) * ((w : Int) : Rat) = 1 := by rcases hw.q with h | h <;> rw [h] <;> grind
  unfold hB onS
  generalize ((w : Int) : Rat) = u at *
  grind
theorem sg_cases (X x : Rat) : (X < x ∧ sgI X x = -1) ∨ (X = x ∧ sgI X x = 0) ∨ (x < X ∧ sgI X x = 1) := by
  unfold sgI
  by_cases a : X < x
  · exact .inl ⟨a, by rw [if_pos a]⟩
  · by_cases c : X = x
    · exact .inr (.inl ⟨c, by rw [if_neg a, if_pos c]⟩)
    · exact .inr (.inr ⟨by grind, by rw [if_neg a, if_neg c]⟩)
theorem met_pm {x X : Rat} {w v : Int} (hw : W1 w) (hv : W1 v) (h : v ≠ w) :
    (0 < sgI X x * w ∧ metV x w X v = .non ∧ metV X v x w = .non ∧ (w = 1 → x < X) ∧ (w = -1 → X < x)) ∨ (sgI X x * w < 0 ∧ metV x w X v = .lst [] ∧ metV X v x w = .lst []) ∨ (sgI X x * w = 0 ∧ X = x ∧ metV x w X v = .lst [sv x 0 0] ∧ metV X v x w = .lst [sv x 0 0]) := by
  have n1 : ¬ ((-1 : Int) = 1) := by decide
  have n2 : ¬ ((1 : Int) = -1) := by decide
  unfold metV
  rcases hw with rfl | rfl <;> rcases hv with rfl | rfl
  · exact absurd rfl h
  · simp only [if_neg n1, if_neg n2, if_true]
    rcases sg_cases X x with ⟨a, e⟩ | ⟨a, e⟩ | ⟨a, e⟩
    · rw [e]
      simp only [if_pos a]
      exact .inr (.inl ⟨by decide, by simp⟩)
    · subst a
      have a1 : ¬ X < X := by grind
      rw [e]
      simp only [if_neg a1, if_true]
      exact .inr (.inr ⟨by decide, by simp⟩)
    · have a1 : ¬ X < x := by grind
      have a2 : ¬ x = X := by grind
      rw [e]
      simp only [if_neg a1, if_neg a2]
      exact .inl ⟨by decide, trivial, trivial, fun _ => a, fun z => absurd z n2⟩
  · simp only [if_neg n1, if_neg n2, if_true]
    rcases sg_cases X x with ⟨a, e⟩ | ⟨a, e⟩ | ⟨a, e⟩
    · have a1 : ¬ x < X := by grind
      have a2 : ¬ X = x := by grind
      rw [e]
      simp only [if_neg a1, if_neg a2]
      exact .inl ⟨by decide, trivial, trivial, fun z => absurd z n1, fun _ => a⟩
    · subst a
      have a1 : ¬ X < X := by grind
      rw [e]
      simp only [if_neg a1, if_true]
      exact .inr (.inr ⟨by decide, by simp⟩)
    · rw [e]
      simp only [if_pos a]
      exact .inr (.inl ⟨by decide, by simp⟩)
  · exact absurd rfl h
section
variable {S : Sto} {Q : PV → Sto → Prop}
theorem wstream_ok {n m : Nat} (h : Vat m S n) (hm : m < 999990000) (hq : ∀ x y w s b S', Sz x 5 → Sz y 5 → W1 w → Sz s 5 → Sz b 5 → 0 < b → S'.length = S.length → Vat (m + 40) S' n → Q (stV x y w s b) S') : Ok (m__law_stream [.loc n] S) Q := by
  refine Ok_defM rfl ?_
  simp -dsimp (disch := first | assumption | omega) only [zaa,zab,zac,zad,zae,zaf,zag,zah,zai,zaj,zak,zal,zam,zan,zao,zap,zaq,zar,zas,zat,zau,zav,zaw,zax,zay,zaz,zaA,zaB,zaC,zaD,zaE,zaF,zaG,zaH,zaI,zaJ,zaK,zaL,zaM,zaN,zaO,zaP,zaQ,zaR,zaS,zaT,zaU,zaV,zaW,zaX,zaY,zaZ,za0,za1,za2,za3,za4,za5,za6,za7,za8,za9,zba,zbb,zbc,zbd,zbe,zbf,zbg,zbh,zbi,zbj,zbk,zbl,zbm,zbn,zbp,zbq,zbr,zbs,zbt,zbu,zbv,zbw,zbx,zby,zbz,zbA,zbB,zbC,zbD,zbE,zbF,zbG,zbH,zbI,zbJ,zbK,zbL,zbM,zbN,zbO,zbP,zbQ,zbR,zbS,zbT,zbU,zbV,zbW,zbX,zbY,zbZ,zb0,zb1,zb2,zb3,zb4,zb5,zb6,zb7,zb8,zb9,zca,zcb,eq_self,zcc,zcd,zce,zcf,zcg,zch,zci,zcj,zck,zcl,zcm,List.getElem?_cons_succ,List.getElem?_cons_zero,List.set_cons_succ,List.set_cons_zero,List.map_cons,List.map_nil,List.length_cons,List.length_nil,List.cons_append,List.nil_append,List.append_nil,List.isEmpty_cons,List.isEmpty_nil,if_true,if_false,ite_true,ite_false,Bool.not_true,Bool.not_false,Bool.not_not,decide_true,true_and,and_true,false_and,and_false,Bool.false_eq_true,reduceCtorEq,decide_true,decide_false,ite_self,forall_const,Nat.zero_add,Nat.reduceAdd,Nat.reduceLeDiff,Nat.reduceLT,Nat.reduceEqDiff,Nat.reduceSub,Nat.reduceMul,Nat.reduceBEq,Int.reduceLT,Int.reduceLE,Int.reduceEq,Int.reduceNe,Int.reduceAdd,Int.reduceMul,Int.reduceSub,Int.reduceNeg,Int.reducePow,Int.reduceBEq,Int.reduceToNat,Int.reduceGT,Int.reduceGE,String.reduceBEq,zcn,zco,List.replicate_succ,List.replicate_zero,zcp,zcq,zcr,zcs,zct,zcu,zcv,zcw,zcx,zcy,zcz,zcA,zcB,zcC,zcD,zcE,zcF,zcG,zcH,zcI,zcJ,zcK,zcL,zcM,zcN,zcO,zcP,zcQ,zcR,zcS,zcT,zcU,zcV,zcW,zcX,zcY,zcZ,zc0,zc1,zc2,zc3,zc4,zc5,zc6,zc7,zc8,zc9,zda,zdb,zdc,Bool.true_or,Bool.or_true,Bool.false_or,Bool.or_false,Bool.and_true,Bool.true_and,Bool.and_false,Bool.false_and,Int.cast_ofNat_Int,Int.natCast_zero,Int.natCast_one,beq_self_eq_true,zdd,wipeR]
  refine wpart_ok h (by omega) fun x S1 zx l1 v1 => ?_
  simp -dsimp (disch := first | assumption | omega) only [zaa,zab,zac,zad,zae,zaf,zag,zah,zai,zaj,zak,zal,zam,zan,zao,zap,zaq,zar,zas,zat,zau,zav,zaw,zax,zay,zaz,zaA,zaB,zaC,zaD,zaE,zaF,zaG,zaH,zaI,zaJ,zaK,zaL,zaM,zaN,zaO,zaP,zaQ,zaR,zaS,zaT,zaU,zaV,zaW,zaX,zaY,zaZ,za0,za1,za2,za3,za4,za5,za6,za7,za8,za9,zba,zbb,zbc,zbd,zbe,zbf,zbg,zbh,zbi,zbj,zbk,zbl,zbm,zbn,zbp,zbq,zbr,zbs,zbt,zbu,zbv,zbw,zbx,zby,zbz,zbA,zbB,zbC,zbD,zbE,zbF,zbG,zbH,zbI,zbJ,zbK,zbL,zbM,zbN,zbO,zbP,zbQ,zbR,zbS,zbT,zbU,zbV,zbW,zbX,zbY,zbZ,zb0,zb1,zb2,zb3,zb4,zb5,zb6,zb7,zb8,zb9,zca,zcb,eq_self,zcc,zcd,zce,zcf,zcg,zch,zci,zcj,zck,zcl,zcm,List.getElem?_cons_succ,List.getElem?_cons_zero,List.set_cons_succ,List.set_cons_zero,List.map_cons,List.map_nil,List.length_cons,List.length_nil,List.cons_append,List.nil_append,List.append_nil,List.isEmpty_cons,List.isEmpty_nil,if_true,if_false,ite_true,ite_false,Bool.not_true,Bool.not_false,Bool.not_not,decide_true,true_and,and_true,false_and,and_false,Bool.false_eq_true,reduceCtorEq,decide_true,decide_false,ite_self,forall_const,Nat.zero_add,Nat.reduceAdd,Nat.reduceLeDiff,Nat.reduceLT,Nat.reduceEqDiff,Nat.reduceSub,Nat.reduceMul,Nat.reduceBEq,Int.reduceLT,Int.reduceLE,Int.reduceEq,Int.reduceNe,Int.reduceAdd,Int.reduceMul,Int.reduceSub,Int.reduceNeg,Int.reducePow,Int.reduceBEq,Int.reduceToNat,Int.reduceGT,Int.reduceGE,String.reduceBEq,zcn,zco,List.replicate_succ,List.replicate_zero,zcp,zcq,zcr,zcs,zct,zcu,zcv,zcw,zcx,zcy,zcz,zcA,zcB,zcC,zcD,zcE,zcF,zcG,zcH,zcI,zcJ,zcK,zcL,zcM,zcN,zcO,zcP,zcQ,zcR,zcS,zcT,zcU,zcV,zcW,zcX,zcY,zcZ,zc0,zc1,zc2,zc3,zc4,zc5,zc6,zc7,zc8,zc9,zda,zdb,zdc,Bool.true_or,Bool.or_true,Bool.false_or,Bool.or_false,Bool.and_true,Bool.true_and,Bool.and_false,Bool.false_and,Int.cast_ofNat_Int,Int.natCast_zero,Int.natCast_one,beq_self_eq_true,zdd,wipeR]
  refine wpart_ok v1 (by omega) fun y S2 zy l2 v2 => ?_
  simp -dsimp (disch := first | assumption | omega) only [zaa,zab,zac,zad,zae,zaf,zag,zah,zai,zaj,zak,zal,zam,zan,zao,zap,zaq,zar,zas,zat,zau,zav,zaw,zax,zay,zaz,zaA,zaB,zaC,zaD,zaE,zaF,zaG,zaH,zaI,zaJ,zaK,zaL,zaM,zaN,zaO,zaP,zaQ,zaR,zaS,zaT,zaU,zaV,zaW,zaX,zaY,zaZ,za0,za1,za2,za3,za4,za5,za6,za7,za8,za9,zba,zbb,zbc,zbd,zbe,zbf,zbg,zbh,zbi,zbj,zbk,zbl,zbm,zbn,zbp,zbq,zbr,zbs,zbt,zbu,zbv,zbw,zbx,zby,zbz,zbA,zbB,zbC,zbD,zbE,zbF,zbG,zbH,zbI,zbJ,zbK,zbL,zbM,zbN,zbO,zbP,zbQ,zbR,zbS,zbT,zbU,zbV,zbW,zbX,zbY,zbZ,zb0,zb1,zb2,zb3,zb4,zb5,zb6,zb7,zb8,zb9,zca,zcb,eq_self,zcc,zcd,zce,zcf,zcg,zch,zci,zcj,zck,zcl,zcm,List.getElem?_cons_succ,List.getElem?_cons_zero,List.set_cons_succ,List.set_cons_zero,List.map_cons,List.map_nil,List.length_cons,List.length_nil,List.cons_append,List.nil_append,List.append_nil,List.isEmpty_cons,List.isEmpty_nil,if_true,if_false,ite_true,ite_false,Bool.not_true,Bool.not_false,Bool.not_not,decide_true,true_and,and_true,false_and,and_false,Bool.false_eq_true,reduceCtorEq,decide_true,decide_false,ite_self,forall_const,Nat.zero_add,Nat.reduceAdd,Nat.reduceLeDiff,Nat.reduceLT,Nat.reduceEqDiff,Nat.reduceSub,Nat.reduceMul,Nat.reduceBEq,Int.reduceLT,Int.reduceLE,Int.reduceEq,Int.reduceNe,Int.reduceAdd,Int.reduceMul,Int.reduceSub,Int.reduceNeg,Int.reducePow,Int.reduceBEq,Int.reduceToNat,Int.reduceGT,Int.reduceGE,String.reduceBEq,zcn,zco,List.replicate_succ,List.replicate_zero,zcp,zcq,zcr,zcs,zct,zcu,zcv,zcw,zcx,zcy,zcz,zcA,zcB,zcC,zcD,zcE,zcF,zcG,zcH,zcI,zcJ,zcK,zcL,zcM,zcN,zcO,zcP,zcQ,zcR,zcS,zcT,zcU,zcV,zcW,zcX,zcY,zcZ,zc0,zc1,zc2,zc3,zc4,zc5,zc6,zc7,zc8,zc9,zda,zdb,zdc,Bool.true_or,Bool.or_true,Bool.false_or,Bool.or_false,Bool.and_true,Bool.true_and,Bool.and_false,Bool.false_and,Int.cast_ofNat_Int,Int.natCast_zero,Int.natCast_one,beq_self_eq_true,zdd,wipeR,w_point]
  refine wdraw_ok v2 (by omega) (by omega) (by omega) fun d S3 d0 d1 l3 v3 => ?_
  have l20 : (2 : Int).natAbs.log2 + (0 : Int).natAbs.log2 < 1000000 := by decide
  have l21 : (2 : Int).natAbs.log2 + (1 : Int).natAbs.log2 < 1000000 := by decide
  rcases (show d = 0 ∨ d = 1 by omega) with rfl | rfl
  · simp -dsimp (disch := first | assumption | omega) only [zaa,zab,zac,zad,zae,zaf,zag,zah,zai,zaj,zak,zal,zam,zan,zao,zap,zaq,zar,zas,zat,zau,zav,zaw,zax,zay,zaz,zaA,zaB,zaC,zaD,zaE,zaF,zaG,zaH,zaI,zaJ,zaK,zaL,zaM,zaN,zaO,zaP,zaQ,zaR,zaS,zaT,zaU,zaV,zaW,zaX,zaY,zaZ,za0,za1,za2,za3,za4,za5,za6,za7,za8,za9,zba,zbb,zbc,zbd,zbe,zbf,zbg,zbh,zbi,zbj,zbk,zbl,zbm,zbn,zbp,zbq,zbr,zbs,zbt,zbu,zbv,zbw,zbx,zby,zbz,zbA,zbB,zbC,zbD,zbE,zbF,zbG,zbH,zbI,zbJ,zbK,zbL,zbM,zbN,zbO,zbP,zbQ,zbR,zbS,zbT,zbU,zbV,zbW,zbX,zbY,zbZ,zb0,zb1,zb2,zb3,zb4,zb5,zb6,zb7,zb8,zb9,zca,zcb,eq_self,zcc,zcd,zce,zcf,zcg,zch,zci,zcj,zck,zcl,zcm,List.getElem?_cons_succ,List.getElem?_cons_zero,List.set_cons_succ,List.set_cons_zero,List.map_cons,List.map_nil,List.length_cons,List.length_nil,List.cons_append,List.nil_append,List.append_nil,List.isEmpty_cons,List.isEmpty_nil,if_true,if_false,ite_true,ite_false,Bool.not_true,Bool.not_false,Bool.not_not,decide_true,true_and,and_true,false_and,and_false,Bool.false_eq_true,reduceCtorEq,decide_true,decide_false,ite_self,forall_const,Nat.zero_add,Nat.reduceAdd,Nat.reduceLeDiff,Nat.reduceLT,Nat.reduceEqDiff,Nat.reduceSub,Nat.reduceMul,Nat.reduceBEq,Int.reduceLT,Int.reduceLE,Int.reduceEq,Int.reduceNe,Int.reduceAdd,Int.reduceMul,Int.reduceSub,Int.reduceNeg,Int.reducePow,Int.reduceBEq,Int.reduceToNat,Int.reduceGT,Int.reduceGE,String.reduceBEq,zcn,zco,List.replicate_succ,List.replicate_zero,zcp,zcq,zcr,zcs,zct,zcu,zcv,zcw,zcx,zcy,zcz,zcA,zcB,zcC,zcD,zcE,zcF,zcG,zcH,zcI,zcJ,zcK,zcL,zcM,zcN,zcO,zcP,zcQ,zcR,zcS,zcT,zcU,zcV,zcW,zcX,zcY,zcZ,zc0,zc1,zc2,zc3,zc4,zc5,zc6,zc7,zc8,zc9,zda,zdb,zdc,Bool.true_or,Bool.or_true,Bool.false_or,Bool.or_false,Bool.and_true,Bool.true_and,Bool.and_false,Bool.false_and,Int.cast_ofNat_Int,Int.natCast_zero,Int.natCast_one,beq_self_eq_true,zdd,wipeR,l20]
    refine wjet_ok v3 (by omega) fun s b S4 z1 z2 b0 l4 v4 => ?_
    simp -dsimp (disch := first | assumption | omega) only [zaa,zab,zac,zad,zae,zaf,zag,zah,zai,zaj,zak,zal,zam,zan,zao,zap,zaq,zar,zas,zat,zau,zav,zaw,zax,zay,zaz,zaA,zaB,zaC,zaD,zaE,zaF,zaG,zaH,zaI,zaJ,zaK,zaL,zaM,zaN,zaO,zaP,zaQ,zaR,zaS,zaT,zaU,zaV,zaW,zaX,zaY,zaZ,za0,za1,za2,za3,za4,za5,za6,za7,za8,za9,zba,zbb,zbc,zbd,zbe,zbf,zbg,zbh,zbi,zbj,zbk,zbl,zbm,zbn,zbp,zbq,zbr,zbs,zbt,zbu,zbv,zbw,zbx,zby,zbz,zbA,zbB,zbC,zbD,zbE,zbF,zbG,zbH,zbI,zbJ,zbK,zbL,zbM,zbN,zbO,zbP,zbQ,zbR,zbS,zbT,zbU,zbV,zbW,zbX,zbY,zbZ,zb0,zb1,zb2,zb3,zb4,zb5,zb6,zb7,zb8,zb9,zca,zcb,eq_self,zcc,zcd,zce,zcf,zcg,zch,zci,zcj,zck,zcl,zcm,List.getElem?_cons_succ,List.getElem?_cons_zero,List.set_cons_succ,List.set_cons_zero,List.map_cons,List.map_nil,List.length_cons,List.length_nil,List.cons_append,List.nil_append,List.append_nil,List.isEmpty_cons,List.isEmpty_nil,if_true,if_false,ite_true,ite_false,Bool.not_true,Bool.not_false,Bool.not_not,decide_true,true_and,and_true,false_and,and_false,Bool.false_eq_true,reduceCtorEq,decide_true,decide_false,ite_self,forall_const,Nat.zero_add,Nat.reduceAdd,Nat.reduceLeDiff,Nat.reduceLT,Nat.reduceEqDiff,Nat.reduceSub,Nat.reduceMul,Nat.reduceBEq,Int.reduceLT,Int.reduceLE,Int.reduceEq,Int.reduceNe,Int.reduceAdd,Int.reduceMul,Int.reduceSub,Int.reduceNeg,Int.reducePow,Int.reduceBEq,Int.reduceToNat,Int.reduceGT,Int.reduceGE,String.reduceBEq,zcn,zco,List.replicate_succ,List.replicate_zero,zcp,zcq,zcr,zcs,zct,zcu,zcv,zcw,zcx,zcy,zcz,zcA,zcB,zcC,zcD,zcE,zcF,zcG,zcH,zcI,zcJ,zcK,zcL,zcM,zcN,zcO,zcP,zcQ,zcR,zcS,zcT,zcU,zcV,zcW,zcX,zcY,zcZ,zc0,zc1,zc2,zc3,zc4,zc5,zc6,zc7,zc8,zc9,zda,zdb,zdc,Bool.true_or,Bool.or_true,Bool.false_or,Bool.or_false,Bool.and_true,Bool.true_and,Bool.and_false,Bool.false_and,Int.cast_ofNat_Int,Int.natCast_zero,Int.natCast_one,beq_self_eq_true,zdd,wipeR]
    exact ⟨by omega, hq _ _ _ _ _ _ zx zy (.inl rfl) z1 z2 b0 (by omega) (v4.le (by omega))⟩
  · simp -dsimp (disch := first | assumption | omega) only [zaa,zab,zac,zad,zae,zaf,zag,zah,zai,zaj,zak,zal,zam,zan,zao,zap,zaq,zar,zas,zat,zau,zav,zaw,zax,zay,zaz,zaA,zaB,zaC,zaD,zaE,zaF,zaG,zaH,zaI,zaJ,zaK,zaL,zaM,zaN,zaO,zaP,zaQ,zaR,zaS,zaT,zaU,zaV,zaW,zaX,zaY,zaZ,za0,za1,za2,za3,za4,za5,za6,za7,za8,za9,zba,zbb,zbc,zbd,zbe,zbf,zbg,zbh,zbi,zbj,zbk,zbl,zbm,zbn,zbp,zbq,zbr,zbs,zbt,zbu,zbv,zbw,zbx,zby,zbz,zbA,zbB,zbC,zbD,zbE,zbF,zbG,zbH,zbI,zbJ,zbK,zbL,zbM,zbN,zbO,zbP,zbQ,zbR,zbS,zbT,zbU,zbV,zbW,zbX,zbY,zbZ,zb0,zb1,zb2,zb3,zb4,zb5,zb6,zb7,zb8,zb9,zca,zcb,eq_self,zcc,zcd,zce,zcf,zcg,zch,zci,zcj,zck,zcl,zcm,List.getElem?_cons_succ,List.getElem?_cons_zero,List.set_cons_succ,List.set_cons_zero,List.map_cons,List.map_nil,List.length_cons,List.length_nil,List.cons_append,List.nil_append,List.append_nil,List.isEmpty_cons,List.isEmpty_nil,if_true,if_false,ite_true,ite_false,Bool.not_true,Bool.not_false,Bool.not_not,decide_true,true_and,and_true,false_and,and_false,Bool.false_eq_true,reduceCtorEq,decide_true,decide_false,ite_self,forall_const,Nat.zero_add,Nat.reduceAdd,Nat.reduceLeDiff,Nat.reduceLT,Nat.reduceEqDiff,Nat.reduceSub,Nat.reduceMul,Nat.reduceBEq,Int.reduceLT,Int.reduceLE,Int.reduceEq,Int.reduceNe,Int.reduceAdd,Int.reduceMul,Int.reduceSub,Int.reduceNeg,Int.reducePow,Int.reduceBEq,Int.reduceToNat,Int.reduceGT,Int.reduceGE,String.reduceBEq,zcn,zco,List.replicate_succ,List.replicate_zero,zcp,zcq,zcr,zcs,zct,zcu,zcv,zcw,zcx,zcy,zcz,zcA,zcB,zcC,zcD,zcE,zcF,zcG,zcH,zcI,zcJ,zcK,zcL,zcM,zcN,zcO,zcP,zcQ,zcR,zcS,zcT,zcU,zcV,zcW,zcX,zcY,zcZ,zc0,zc1,zc2,zc3,zc4,zc5,zc6,zc7,zc8,zc9,zda,zdb,zdc,Bool.true_or,Bool.or_true,Bool.false_or,Bool.or_false,Bool.and_true,Bool.true_and,Bool.and_false,Bool.false_and,Int.cast_ofNat_Int,Int.natCast_zero,Int.natCast_one,beq_self_eq_true,zdd,wipeR,l21]
    refine wjet_ok v3 (by omega) fun s b S4 z1 z2 b0 l4 v4 => ?_
    simp -dsimp (disch := first | assumption | omega) only [zaa,zab,zac,zad,zae,zaf,zag,zah,zai,zaj,zak,zal,zam,zan,zao,zap,zaq,zar,zas,zat,zau,zav,zaw,zax,zay,zaz,zaA,zaB,zaC,zaD,zaE,zaF,zaG,zaH,zaI,zaJ,zaK,zaL,zaM,zaN,zaO,zaP,zaQ,zaR,zaS,zaT,zaU,zaV,zaW,zaX,zaY,zaZ,za0,za1,za2,za3,za4,za5,za6,za7,za8,za9,zba,zbb,zbc,zbd,zbe,zbf,zbg,zbh,zbi,zbj,zbk,zbl,zbm,zbn,zbp,zbq,zbr,zbs,zbt,zbu,zbv,zbw,zbx,zby,zbz,zbA,zbB,zbC,zbD,zbE,zbF,zbG,zbH,zbI,zbJ,zbK,zbL,zbM,zbN,zbO,zbP,zbQ,zbR,zbS,zbT,zbU,zbV,zbW,zbX,zbY,zbZ,zb0,zb1,zb2,zb3,zb4,zb5,zb6,zb7,zb8,zb9,zca,zcb,eq_self,zcc,zcd,zce,zcf,zcg,zch,zci,zcj,zck,zcl,zcm,List.getElem?_cons_succ,List.getElem?_cons_zero,List.set_cons_succ,List.set_cons_zero,List.map_cons,List.map_nil,List.length_cons,List.length_nil,List.cons_append,List.nil_append,List.append_nil,List.isEmpty_cons,List.isEmpty_nil,if_true,if_false,ite_true,ite_false,Bool.not_true,Bool.not_false,Bool.not_not,decide_true,true_and,and_true,false_and,and_false,Bool.false_eq_true,reduceCtorEq,decide_true,decide_false,ite_self,forall_const,Nat.zero_add,Nat.reduceAdd,Nat.reduceLeDiff,Nat.reduceLT,Nat.reduceEqDiff,Nat.reduceSub,Nat.reduceMul,Nat.reduceBEq,Int.reduceLT,Int.reduceLE,Int.reduceEq,Int.reduceNe,Int.reduceAdd,Int.reduceMul,Int.reduceSub,Int.reduceNeg,Int.reducePow,Int.reduceBEq,Int.reduceToNat,Int.reduceGT,Int.reduceGE,String.reduceBEq,zcn,zco,List.replicate_succ,List.replicate_zero,zcp,zcq,zcr,zcs,zct,zcu,zcv,zcw,zcx,zcy,zcz,zcA,zcB,zcC,zcD,zcE,zcF,zcG,zcH,zcI,zcJ,zcK,zcL,zcM,zcN,zcO,zcP,zcQ,zcR,zcS,zcT,zcU,zcV,zcW,zcX,zcY,zcZ,zc0,zc1,zc2,zc3,zc4,zc5,zc6,zc7,zc8,zc9,zda,zdb,zdc,Bool.true_or,Bool.or_true,Bool.false_or,Bool.or_false,Bool.and_true,Bool.true_and,Bool.and_false,Bool.false_and,Int.cast_ofNat_Int,Int.natCast_zero,Int.natCast_one,beq_self_eq_true,zdd,wipeR]
    exact ⟨by omega, hq _ _ _ _ _ _ zx zy (.inr rfl) z1 z2 b0 (by omega) (v4.le (by omega))⟩
noncomputable abbrev restK : SD := (sSeq (sPar 5 6 (dCons (dAp mkLst (dCons (dAp m_meetings (dCons (dVar 1) (dCons (dVar 4) dNil))) (dCons (dApK 0 2 [0, 1] m_meetings dNil (dCons (dVar 4) (dCons (dVar 1) dNil))) dNil))) (dCons (dOp mulM (dAp m__law_order (dCons (dVar 3) (dCons (dVar 2) dNil))) (dOp ixM (dVar 1) (dC (.int 1)))) dNil)))
      (sSeq (sIf (bCmp (dOp eqM (dOp ixM (dVar 4) (dC (.int 1))) (dOp ixM (dVar 1) (dC (.int 1))))) (sSeq (sAsg (dAp m_drops_meet (dCons (dVar 1) (dCons (dVar 4) dNil))) (gName 9))
      (sRet (dAnd (dOp eqM (dAp reprM (dCons (dVar 5) dNil)) (dC (.str "[None, None]"))) (dAnd (dOp eqM (dAp reprM (dCons (dVar 9) dNil)) (dAp reprM (dCons (dOp eqM (dVar 6) (dC (.int 0))) dNil))) (dOr (dOp neM (dVar 6) (dC (.int 0))) (dOp eqM (dVar 1) (dVar 4))))))) sNil)
      (sSeq (sIf (bCmp (dOp gtM (dVar 6) (dC (.int 0)))) (sSeq (sAsg (dAp m__law_times (dCons (dAp mkTup (dCons (dC (.int 1)) (dCons (dC (.int 2)) dNil))) (dCons (dAp m__law_plus (dCons (dVar 2) (dCons (dVar 3) dNil))) dNil))) (gName 10))
      (sSeq (sIf (bOr (bCmp (dOp neM (dAp reprM (dCons (dAp m_water_at (dCons (dVar 1) (dCons (dVar 10) dNil))) dNil)) (dAp reprM (dCons (dAp m_water_at (dCons (dVar 4) (dCons (dVar 10) dNil))) dNil)))) (bCmp (dOp (fun p q => match q with | .non => isNM p q | _ => stk) (dAp m_water_at (dCons (dVar 1) (dCons (dVar 10) dNil))) (dC .non)))) (sRet (dC (.bl false))) sNil)
      (sRet (dAnd (dOp eqM (dAp reprM (dCons (dVar 5) dNil)) (dC (.str "[None, None]"))) (dOp isBM (dAp m_drops_meet (dCons (dVar 1) (dCons (dVar 4) dNil))) (dC (.bl true))))))) sNil)
      (sSeq (sIf (bCmp (dOp ltM (dVar 6) (dC (.int 0)))) (sRet (dAnd (dOp eqM (dAp reprM (dCons (dVar 5) dNil)) (dC (.str "[(), ()]"))) (dOp isBM (dAp m_drops_meet (dCons (dVar 1) (dCons (dVar 4) dNil))) (dC (.bl false))))) sNil)
      (sSeq (sAsg (dAp m__law_apart (dCons (dOp ixM (dVar 1) (dC (.int 0))) dNil)) (gName 7))
      (sSeq (sAsg (dAp mkTup (dCons (dAp mkTup (dCons (dAp mkTup (dCons (dOp ixM (dVar 7) (dC (.int 0))) (dCons (dC (.int 0)) (dCons (dAp mkTup (dCons (dC (.int 0)) (dCons (dC (.int 1)) dNil))) dNil)))) (dCons (dAp mkTup (dCons (dOp ixM (dVar 7) (dC (.int 1))) (dCons (dC (.int 0)) (dCons (dAp mkTup (dCons (dC (.int 0)) (dCons (dC (.int 1)) dNil))) dNil)))) dNil))) dNil)) (gName 8))
      (sSeq (sIf (bCmp (dOp neM (dAp reprM (dCons (dVar 5) dNil)) (dAp reprM (dCons (dAp mkLst (dCons (dVar 8) (dCons (dVar 8) dNil))) dNil)))) (sRet (dC (.bl false))) sNil)
      (sRet (dAnd (dOp eqM (dAp m_first_there (dCons (dVar 1) (dCons (dVar 4) (dCons (dC (.int 0)) dNil)))) (dC (.str "both"))) (dOp isBM (dAp m_drops_meet (dCons (dVar 4) (dCons (dVar 1) dNil))) (dC (.bl true))))))))))))
theorem wfar_ok {n m : Nat} {x y s b : Rat} {w : Int} [zx : Sz x 5] [zy : Sz y 5] (hw : W1 w) (h : Vat m S n) (hm : m < 999990000) (hq : ∀ X S', Sz X 11 → S'.length = S.length → Vat (m + 10) S' n → Q (rv X) S') : Ok (m__law_far_x [.loc n, stV x y w s b] S) Q := by
  refine Ok_defM rfl ?_
  rcases hw with rfl | rfl
  · simp -dsimp (disch := first | assumption | omega) only [zaa,zab,zac,zad,zae,zaf,zag,zah,zai,zaj,zak,zal,zam,zan,zao,zap,zaq,zar,zas,zat,zau,zav,zaw,zax,zay,zaz,zaA,zaB,zaC,zaD,zaE,zaF,zaG,zaH,zaI,zaJ,zaK,zaL,zaM,zaN,zaO,zaP,zaQ,zaR,zaS,zaT,zaU,zaV,zaW,zaX,zaY,zaZ,za0,za1,za2,za3,za4,za5,za6,za7,za8,za9,zba,zbb,zbc,zbd,zbe,zbf,zbg,zbh,zbi,zbj,zbk,zbl,zbm,zbn,zbp,zbq,zbr,zbs,zbt,zbu,zbv,zbw,zbx,zby,zbz,zbA,zbB,zbC,zbD,zbE,zbF,zbG,zbH,zbI,zbJ,zbK,zbL,zbM,zbN,zbO,zbP,zbQ,zbR,zbS,zbT,zbU,zbV,zbW,zbX,zbY,zbZ,zb0,zb1,zb2,zb3,zb4,zb5,zb6,zb7,zb8,zb9,zca,zcb,eq_self,zcc,zcd,zce,zcf,zcg,zch,zci,zcj,zck,zcl,zcm,List.getElem?_cons_succ,List.getElem?_cons_zero,List.set_cons_succ,List.set_cons_zero,List.map_cons,List.map_nil,List.length_cons,List.length_nil,List.cons_append,List.nil_append,List.append_nil,List.isEmpty_cons,List.isEmpty_nil,if_true,if_false,ite_true,ite_false,Bool.not_true,Bool.not_false,Bool.not_not,decide_true,true_and,and_true,false_and,and_false,Bool.false_eq_true,reduceCtorEq,decide_true,decide_false,ite_self,forall_const,Nat.zero_add,Nat.reduceAdd,Nat.reduceLeDiff,Nat.reduceLT,Nat.reduceEqDiff,Nat.reduceSub,Nat.reduceMul,Nat.reduceBEq,Int.reduceLT,Int.reduceLE,Int.reduceEq,Int.reduceNe,Int.reduceAdd,Int.reduceMul,Int.reduceSub,Int.reduceNeg,Int.reducePow,Int.reduceBEq,Int.reduceToNat,Int.reduceGT,Int.reduceGE,String.reduceBEq,zcn,zco,List.replicate_succ,List.replicate_zero,zcp,zcq,zcr,zcs,zct,zcu,zcv,zcw,zcx,zcy,zcz,zcA,zcB,zcC,zcD,zcE,zcF,zcG,zcH,zcI,zcJ,zcK,zcL,zcM,zcN,zcO,zcP,zcQ,zcR,zcS,zcT,zcU,zcV,zcW,zcX,zcY,zcZ,zc0,zc1,zc2,zc3,zc4,zc5,zc6,zc7,zc8,zc9,zda,zdb,zdc,Bool.true_or,Bool.or_true,Bool.false_or,Bool.or_false,Bool.and_true,Bool.true_and,Bool.and_false,Bool.false_and,Int.cast_ofNat_Int,Int.natCast_zero,Int.natCast_one,beq_self_eq_true,zdd,wipeR,w_apart]
    refine wsize_ok h (by omega) fun e S1 e0 ze l1 v1 => ?_
    simp -dsimp (disch := first | assumption | omega) only [zaa,zab,zac,zad,zae,zaf,zag,zah,zai,zaj,zak,zal,zam,zan,zao,zap,zaq,zar,zas,zat,zau,zav,zaw,zax,zay,zaz,zaA,zaB,zaC,zaD,zaE,zaF,zaG,zaH,zaI,zaJ,zaK,zaL,zaM,zaN,zaO,zaP,zaQ,zaR,zaS,zaT,zaU,zaV,zaW,zaX,zaY,zaZ,za0,za1,za2,za3,za4,za5,za6,za7,za8,za9,zba,zbb,zbc,zbd,zbe,zbf,zbg,zbh,zbi,zbj,zbk,zbl,zbm,zbn,zbo,zbp,zbq,zbr,zbs,zbt,zbu,zbv,zbw,zbx,zby,zbz,zbA,zbB,zbC,zbD,zbE,zbF,zbG,zbH,zbI,zbJ,zbK,zbL,zbM,zbN,zbO,zbP,zbQ,zbR,zbS,zbT,zbU,zbV,zbW,zbX,zbY,zbZ,zb0,zb1,zb2,zb3,zb4,zb5,zb6,zb7,zb8,zb9,zca,zcb,eq_self,zcc,zcd,zce,zcf,zcg,zch,zci,zcj,zck,zcl,zcm,List.getElem?_cons_succ,List.getElem?_cons_zero,List.set_cons_succ,List.set_cons_zero,List.map_cons,List.map_nil,List.length_cons,List.length_nil,List.cons_append,List.nil_append,List.append_nil,List.isEmpty_cons,List.isEmpty_nil,if_true,if_false,ite_true,ite_false,Bool.not_true,Bool.not_false,Bool.not_not,decide_true,true_and,and_true,false_and,and_false,Bool.false_eq_true,reduceCtorEq,decide_true,decide_false,ite_self,forall_const,Nat.zero_add,Nat.reduceAdd,Nat.reduceLeDiff,Nat.reduceLT,Nat.reduceEqDiff,Nat.reduceSub,Nat.reduceMul,Nat.reduceBEq,Int.reduceLT,Int.reduceLE,Int.reduceEq,Int.reduceNe,Int.reduceAdd,Int.reduceMul,Int.reduceSub,Int.reduceNeg,Int.reducePow,Int.reduceBEq,Int.reduceToNat,Int.reduceGT,Int.reduceGE,String.reduceBEq,zcn,zco,List.replicate_succ,List.replicate_zero,zcp,zcq,zcr,zcs,zct,zcu,zcv,zcw,zcx,zcy,zcz,zcA,zcB,zcC,zcD,zcE,zcF,zcG,zcH,zcI,zcJ,zcK,zcL,zcM,zcN,zcO,zcP,zcQ,zcR,zcS,zcT,zcU,zcV,zcW,zcX,zcY,zcZ,zc0,zc1,zc2,zc3,zc4,zc5,zc6,zc7,zc8,zc9,zda,zdb,zdc,Bool.true_or,Bool.or_true,Bool.false_or,Bool.or_false,Bool.and_true,Bool.true_and,Bool.and_false,Bool.false_and,Int.cast_ofNat_Int,Int.natCast_zero,Int.natCast_one,beq_self_eq_true,zdd,zde,zdf,zdg,zdh,wipeR,w_plus]
    exact ⟨by omega, hq _ _ inferInstance l1 (v1.le (by omega))⟩
  · simp -dsimp (disch := first | assumption | omega) only [zaa,zab,zac,zad,zae,zaf,zag,zah,zai,zaj,zak,zal,zam,zan,zao,zap,zaq,zar,zas,zat,zau,zav,zaw,zax,zay,zaz,zaA,zaB,zaC,zaD,zaE,zaF,zaG,zaH,zaI,zaJ,zaK,zaL,zaM,zaN,zaO,zaP,zaQ,zaR,zaS,zaT,zaU,zaV,zaW,zaX,zaY,zaZ,za0,za1,za2,za3,za4,za5,za6,za7,za8,za9,zba,zbb,zbc,zbd,zbe,zbf,zbg,zbh,zbi,zbj,zbk,zbl,zbm,zbn,zbp,zbq,zbr,zbs,zbt,zbu,zbv,zbw,zbx,zby,zbz,zbA,zbB,zbC,zbD,zbE,zbF,zbG,zbH,zbI,zbJ,zbK,zbL,zbM,zbN,zbO,zbP,zbQ,zbR,zbS,zbT,zbU,zbV,zbW,zbX,zbY,zbZ,zb0,zb1,zb2,zb3,zb4,zb5,zb6,zb7,zb8,zb9,zca,zcb,eq_self,zcc,zcd,zce,zcf,zcg,zch,zci,zcj,zck,zcl,zcm,List.getElem?_cons_succ,List.getElem?_cons_zero,List.set_cons_succ,List.set_cons_zero,List.map_cons,List.map_nil,List.length_cons,List.length_nil,List.cons_append,List.nil_append,List.append_nil,List.isEmpty_cons,List.isEmpty_nil,if_true,if_false,ite_true,ite_false,Bool.not_true,Bool.not_false,Bool.not_not,decide_true,true_and,and_true,false_and,and_false,Bool.false_eq_true,reduceCtorEq,decide_true,decide_false,ite_self,forall_const,Nat.zero_add,Nat.reduceAdd,Nat.reduceLeDiff,Nat.reduceLT,Nat.reduceEqDiff,Nat.reduceSub,Nat.reduceMul,Nat.reduceBEq,Int.reduceLT,Int.reduceLE,Int.reduceEq,Int.reduceNe,Int.reduceAdd,Int.reduceMul,Int.reduceSub,Int.reduceNeg,Int.reducePow,Int.reduceBEq,Int.reduceToNat,Int.reduceGT,Int.reduceGE,String.reduceBEq,zcn,zco,List.replicate_succ,List.replicate_zero,zcp,zcq,zcr,zcs,zct,zcu,zcv,zcw,zcx,zcy,zcz,zcA,zcB,zcC,zcD,zcE,zcF,zcG,zcH,zcI,zcJ,zcK,zcL,zcM,zcN,zcO,zcP,zcQ,zcR,zcS,zcT,zcU,zcV,zcW,zcX,zcY,zcZ,zc0,zc1,zc2,zc3,zc4,zc5,zc6,zc7,zc8,zc9,zda,zdb,zdc,Bool.true_or,Bool.or_true,Bool.false_or,Bool.or_false,Bool.and_true,Bool.true_and,Bool.and_false,Bool.false_and,Int.cast_ofNat_Int,Int.natCast_zero,Int.natCast_one,beq_self_eq_true,zdd,wipeR,w_apart]
    refine wsize_ok h (by omega) fun e S1 e0 ze l1 v1 => ?_
    simp -dsimp (disch := first | assumption | omega) only [zaa,zab,zac,zad,zae,zaf,zag,zah,zai,zaj,zak,zal,zam,zan,zao,zap,zaq,zar,zas,zat,zau,zav,zaw,zax,zay,zaz,zaA,zaB,zaC,zaD,zaE,zaF,zaG,zaH,zaI,zaJ,zaK,zaL,zaM,zaN,zaO,zaP,zaQ,zaR,zaS,zaT,zaU,zaV,zaW,zaX,zaY,zaZ,za0,za1,za2,za3,za4,za5,za6,za7,za8,za9,zba,zbb,zbc,zbd,zbe,zbf,zbg,zbh,zbi,zbj,zbk,zbl,zbm,zbn,zbo,zbp,zbq,zbr,zbs,zbt,zbu,zbv,zbw,zbx,zby,zbz,zbA,zbB,zbC,zbD,zbE,zbF,zbG,zbH,zbI,zbJ,zbK,zbL,zbM,zbN,zbO,zbP,zbQ,zbR,zbS,zbT,zbU,zbV,zbW,zbX,zbY,zbZ,zb0,zb1,zb2,zb3,zb4,zb5,zb6,zb7,zb8,zb9,zca,zcb,eq_self,zcc,zcd,zce,zcf,zcg,zch,zci,zcj,zck,zcl,zcm,List.getElem?_cons_succ,List.getElem?_cons_zero,List.set_cons_succ,List.set_cons_zero,List.map_cons,List.map_nil,List.length_cons,List.length_nil,List.cons_append,List.nil_append,List.append_nil,List.isEmpty_cons,List.isEmpty_nil,if_true,if_false,ite_true,ite_false,Bool.not_true,Bool.not_false,Bool.not_not,decide_true,true_and,and_true,false_and,and_false,Bool.false_eq_true,reduceCtorEq,decide_true,decide_false,ite_self,forall_const,Nat.zero_add,Nat.reduceAdd,Nat.reduceLeDiff,Nat.reduceLT,Nat.reduceEqDiff,Nat.reduceSub,Nat.reduceMul,Nat.reduceBEq,Int.reduceLT,Int.reduceLE,Int.reduceEq,Int.reduceNe,Int.reduceAdd,Int.reduceMul,Int.reduceSub,Int.reduceNeg,Int.reducePow,Int.reduceBEq,Int.reduceToNat,Int.reduceGT,Int.reduceGE,String.reduceBEq,zcn,zco,List.replicate_succ,List.replicate_zero,zcp,zcq,zcr,zcs,zct,zcu,zcv,zcw,zcx,zcy,zcz,zcA,zcB,zcC,zcD,zcE,zcF,zcG,zcH,zcI,zcJ,zcK,zcL,zcM,zcN,zcO,zcP,zcQ,zcR,zcS,zcT,zcU,zcV,zcW,zcX,zcY,zcZ,zc0,zc1,zc2,zc3,zc4,zc5,zc6,zc7,zc8,zc9,zda,zdb,zdc,Bool.true_or,Bool.or_true,Bool.false_or,Bool.or_false,Bool.and_true,Bool.true_and,Bool.and_false,Bool.false_and,Int.cast_ofNat_Int,Int.natCast_zero,Int.natCast_one,beq_self_eq_true,zdd,zde,zdf,zdg,zdh,wipeR,w_less]
    exact ⟨by omega, hq _ _ inferInstance l1 (v1.le (by omega))⟩
section
variable {x y s b X y2 s2 : Rat} {w v : Int} {n : Nat} [z1 : Sz x 20] [z2 : Sz y 100] [z3 : Sz s 50] [z4 : Sz X 20] [z5 : Sz y2 100] [z6 : Sz s2 50] [z7 : Sz b 5]
theorem rest_ok (hw : W1 w) (hv : W1 v) (b0 : 0 < b) (eA : hA X y2 v s2 b = hA x y w s b) (eB : hB X v s2 b = hB x w s b) (same : X = x → y2 = y) (sames : X = x → v = w → s2 = s) (hn : n < S.length) (hI : IntS S n) :
    Ok (restK [some (.loc n), some (stV x y w s b), some (rv x), some (rv X), some (stV X y2 v s2 b), none, none, none, none, none, none] S) (Fin1 n) := by
  have m1 := fun S Q => p_met (S := S) (Q := Q) (x1 := x) (y1 := y) (s1 := s) (x2 := X) (y2 := y2) (s2 := s2) (b := b) hw hv eA eB
  have m2 := fun S Q => p_met (S := S) (Q := Q) (x1 := X) (y1 := y2) (s1 := s2) (x2 := x) (y2 := y) (s2 := s) (b := b) hv hw eA.symm eB.symm
  have wo := fun S Q => w_order (S := S) (Q := Q) (q := X) (r := x) (by omega)
  have lw : w.natAbs < 2 ^ 1 := by rcases hw with rfl | rfl <;> decide
  have ls : (sgI X x).natAbs < 2 ^ 1 := by rcases sg_cases X x with ⟨_, e⟩ | ⟨_, e⟩ | ⟨_, e⟩ <;> rw [e] <;> decide
  have lsw := lg ls lw (by omega)
  by_cases c : v = w
  · subst c
    have n1 : metV x v X v = .non := by unfold metV; rw [if_pos rfl]
    have n2 : metV X v x v = .non := by unfold metV; rw [if_pos rfl]
    rw [n1] at m1
    rw [n2] at m2
    have p1 := fun S Q => p_meet_non (S := S) (Q := Q) hw hv b0 m1
    have p2 := fun S Q => p_meet_non (S := S) (Q := Q) hv hw b0 m2
    have pd := fun S Q => p_drops_non (S := S) (Q := Q) hw hv b0 m1
    by_cases hx : X = x
    · have ey := same hx
      have es := sames hx rfl
      subst hx ey es
      have e0 : sgI X X * v = 0 := by
        have : sgI X X = 0 := by unfold sgI; rw [if_neg (by grind), if_pos rfl]
        rw [this, Int.zero_mul]
      have e1 : (!decide (v = v) || decide (X = X ∧ y2 = y2)) = true := by simp
      rw [e1] at pd
      simp -dsimp (disch := first | assumption | omega) only [zaa,zab,zac,zad,zae,zaf,zag,zah,zai,zaj,zak,zal,zam,zan,zao,zap,zaq,zar,zas,zat,zau,zav,zaw,zax,zay,zaz,zaA,zaB,zaC,zaD,zaE,zaF,zaG,zaH,zaI,zaJ,zaK,zaL,zaM,zaN,zaO,zaP,zaQ,zaR,zaS,zaT,zaU,zaV,zaW,zaX,zaY,zaZ,za0,za1,za2,za3,za4,za5,za6,za7,za8,za9,zba,zbb,zbc,zbd,zbe,zbf,zbg,zbh,zbi,zbj,zbk,zbl,zbm,zbn,zbo,zbp,zbq,zbr,zbs,zbt,zbu,zbv,zbw,zbx,zby,zbz,zbA,zbB,zbC,zbD,zbE,zbF,zbG,zbH,zbI,zbJ,zbK,zbL,zbM,zbN,zbO,zbP,zbQ,zbR,zbS,zbT,zbU,zbV,zbW,zbX,zbY,zbZ,zb0,zb1,zb2,zb3,zb4,zb5,zb6,zb7,zb8,zb9,zca,zcb,eq_self,zcc,zcd,zce,zcf,zcg,zch,zci,zcj,zck,zcl,zcm,List.getElem?_cons_succ,List.getElem?_cons_zero,List.set_cons_succ,List.set_cons_zero,List.map_cons,List.map_nil,List.length_cons,List.length_nil,List.cons_append,List.nil_append,List.append_nil,List.isEmpty_cons,List.isEmpty_nil,if_true,if_false,ite_true,ite_false,Bool.not_true,Bool.not_false,Bool.not_not,decide_true,true_and,and_true,false_and,and_false,Bool.false_eq_true,reduceCtorEq,decide_true,decide_false,ite_self,forall_const,Nat.zero_add,Nat.reduceAdd,Nat.reduceLeDiff,Nat.reduceLT,Nat.reduceEqDiff,Nat.reduceSub,Nat.reduceMul,Nat.reduceBEq,Int.reduceLT,Int.reduceLE,Int.reduceEq,Int.reduceNe,Int.reduceAdd,Int.reduceMul,Int.reduceSub,Int.reduceNeg,Int.reducePow,Int.reduceBEq,Int.reduceToNat,Int.reduceGT,Int.reduceGE,String.reduceBEq,zcn,zco,List.replicate_succ,List.replicate_zero,zcp,zcq,zcr,zcs,zct,zcu,zcv,zcw,zcx,zcy,zcz,zcA,zcB,zcC,zcD,zcE,zcF,zcG,zcH,zcI,zcJ,zcK,zcL,zcM,zcN,zcO,zcP,zcQ,zcR,zcS,zcT,zcU,zcV,zcW,zcX,zcY,zcZ,zc0,zc1,zc2,zc3,zc4,zc5,zc6,zc7,zc8,zc9,zda,zdb,zdc,Bool.true_or,Bool.or_true,Bool.false_or,Bool.or_false,Bool.and_true,Bool.true_and,Bool.and_false,Bool.false_and,Int.cast_ofNat_Int,Int.natCast_zero,Int.natCast_one,beq_self_eq_true,zdd,zde,zdf,zdg,zdh,wipeR,restK,p1,p2,kput,List.filterMap_cons,List.filterMap_nil,wo,lsw,pd,e0,tx_non,zca]
      exact ⟨rfl, hn, hI⟩
    · have e0 : ¬ sgI X x * v = 0 := by
        have h1 : sgI X x ≠ 0 := by
          rcases sg_cases X x with ⟨_, e⟩ | ⟨h, e⟩ | ⟨_, e⟩
          · rw [e]; decide
          · exact absurd h hx
          · rw [e]; decide
        have h2 : v ≠ 0 := by rcases hv with rfl | rfl <;> decide
        exact Int.mul_ne_zero h1 h2
      have e0' : (sgI X x * v == 0) = false := by simpa using e0
      have e1 : (!decide (v = v) || decide (x = X ∧ y = y2)) = false := by
        have : ¬ (x = X ∧ y = y2) := fun z => hx z.1.symm
        simp [this]
      rw [e1] at pd
      simp -dsimp (disch := first | assumption | omega) only [zaa,zab,zac,zad,zae,zaf,zag,zah,zai,zaj,zak,zal,zam,zan,zao,zap,zaq,zar,zas,zat,zau,zav,zaw,zax,zay,zaz,zaA,zaB,zaC,zaD,zaE,zaF,zaG,zaH,zaI,zaJ,zaK,zaL,zaM,zaN,zaO,zaP,zaQ,zaR,zaS,zaT,zaU,zaV,zaW,zaX,zaY,zaZ,za0,za1,za2,za3,za4,za5,za6,za7,za8,za9,zba,zbb,zbc,zbd,zbe,zbf,zbg,zbh,zbi,zbj,zbk,zbl,zbm,zbn,zbo,zbp,zbq,zbr,zbs,zbt,zbu,zbv,zbw,zbx,zby,zbz,zbA,zbB,zbC,zbD,zbE,zbF,zbG,zbH,zbI,zbJ,zbK,zbL,zbM,zbN,zbO,zbP,zbQ,zbR,zbS,zbT,zbU,zbV,zbW,zbX,zbY,zbZ,zb0,zb1,zb2,zb3,zb4,zb5,zb6,zb7,zb8,zb9,zca,zcb,eq_self,zcc,zcd,zce,zcf,zcg,zch,zci,zcj,zck,zcl,zcm,List.getElem?_cons_succ,List.getElem?_cons_zero,List.set_cons_succ,List.set_cons_zero,List.map_cons,List.map_nil,List.length_cons,List.length_nil,List.cons_append,List.nil_append,List.append_nil,List.isEmpty_cons,List.isEmpty_nil,if_true,if_false,ite_true,ite_false,Bool.not_true,Bool.not_false,Bool.not_not,decide_true,true_and,and_true,false_and,and_false,Bool.false_eq_true,reduceCtorEq,decide_true,decide_false,ite_self,forall_const,Nat.zero_add,Nat.reduceAdd,Nat.reduceLeDiff,Nat.reduceLT,Nat.reduceEqDiff,Nat.reduceSub,Nat.reduceMul,Nat.reduceBEq,Int.reduceLT,Int.reduceLE,Int.reduceEq,Int.reduceNe,Int.reduceAdd,Int.reduceMul,Int.reduceSub,Int.reduceNeg,Int.reducePow,Int.reduceBEq,Int.reduceToNat,Int.reduceGT,Int.reduceGE,String.reduceBEq,zcn,zco,List.replicate_succ,List.replicate_zero,zcp,zcq,zcr,zcs,zct,zcu,zcv,zcw,zcx,zcy,zcz,zcA,zcB,zcC,zcD,zcE,zcF,zcG,zcH,zcI,zcJ,zcK,zcL,zcM,zcN,zcO,zcP,zcQ,zcR,zcS,zcT,zcU,zcV,zcW,zcX,zcY,zcZ,zc0,zc1,zc2,zc3,zc4,zc5,zc6,zc7,zc8,zc9,zda,zdb,zdc,Bool.true_or,Bool.or_true,Bool.false_or,Bool.or_false,Bool.and_true,Bool.true_and,Bool.and_false,Bool.false_and,Int.cast_ofNat_Int,Int.natCast_zero,Int.natCast_one,beq_self_eq_true,zdd,zde,zdf,zdg,zdh,wipeR,restK,p1,p2,kput,List.filterMap_cons,List.filterMap_nil,wo,lsw,pd,e0',tx_non]
      exact ⟨rfl, hn, hI⟩
  · have cv : (v == w) = false := by simpa using c
    rcases met_pm (x := x) (X := X) hw hv c with ⟨q, n1, n2, g1, g2⟩ | ⟨q, n1, n2⟩ | ⟨q, hx, n1, n2⟩
    · rw [n1] at m1
      rw [n2] at m2
      have p1 := fun S Q => p_meet_non (S := S) (Q := Q) hw hv b0 m1
      have p2 := fun S Q => p_meet_non (S := S) (Q := Q) hv hw b0 m2
      have pd := fun S Q => p_drops_non (S := S) (Q := Q) hw hv b0 m1
      have e1 : (!decide (w = v) || decide (x = X ∧ y = y2)) = true := by
        have : ¬ w = v := fun z => c z.symm
        simp [this]
      rw [e1] at pd
      have zh : Sz (1 / 2 * (x + X)) 60 := by
        have zq : Sz (1 / 2 : Rat) 3 := (inferInstance : Sz ((1 : Rat) / 2) _).le (by decide)
        exact (inferInstance : Sz (1 / 2 * (x + X)) _).le (by decide)
      have vw : v = 1 ∧ w = -1 ∨ v = -1 ∧ w = 1 := by
        rcases hw with h | h <;> rcases hv with h' | h' <;> omega
      have ww1 := fun S Q => p_water (S := S) (Q := Q) (x1 := x) (y1 := y) (s1 := s) (b := b) (X := 1 / 2 * (x + X)) hw b0 (fun e => by have := g1 e; grind) (fun e => by have := g2 e; grind)
      have ww2 := fun S Q => p_water (S := S) (Q := Q) (x1 := X) (y1 := y2) (s1 := s2) (b := b) (X := 1 / 2 * (x + X)) hv b0 (fun e => by have := g2 (by omega); grind) (fun e => by have := g1 (by omega); grind)
      rw [eA, eB] at ww2
      have zA := hA_sz (x := x) (y := y) (s := s) (b := b) hw
      have zB := hB_sz (x := x) (s := s) (b := b) hw
      have zV : Sz (hF (hA x y w s b) (hB x w s b) b (1 / 2 * (x + X))) 1000 := (inferInstance : Sz (hA x y w s b + 1 / 2 * (x + X) * (hB x w s b + -b * (1 / 2 * (x + X)))) _).le (by decide)
      generalize hF (hA x y w s b) (hB x w s b) b (1 / 2 * (x + X)) = V at *
      simp -dsimp (disch := first | assumption | omega) only [zaa,zab,zac,zad,zae,zaf,zag,zah,zai,zaj,zak,zal,zam,zan,zao,zap,zaq,zar,zas,zat,zau,zav,zaw,zax,zay,zaz,zaA,zaB,zaC,zaD,zaE,zaF,zaG,zaH,zaI,zaJ,zaK,zaL,zaM,zaN,zaO,zaP,zaQ,zaR,zaS,zaT,zaU,zaV,zaW,zaX,zaY,zaZ,za0,za1,za2,za3,za4,za5,za6,za7,za8,za9,zba,zbb,zbc,zbd,zbe,zbf,zbg,zbh,zbi,zbj,zbk,zbl,zbm,zbn,zbo,zbp,zbq,zbr,zbs,zbt,zbu,zbv,zbw,zbx,zby,zbz,zbA,zbB,zbC,zbD,zbE,zbF,zbG,zbH,zbI,zbJ,zbK,zbL,zbM,zbN,zbO,zbP,zbQ,zbR,zbS,zbT,zbU,zbV,zbW,zbX,zbY,zbZ,zb0,zb1,zb2,zb3,zb4,zb5,zb6,zb7,zb8,zb9,zca,zcb,eq_self,zcc,zcd,zce,zcf,zcg,zch,zci,zcj,zck,zcl,zcm,List.getElem?_cons_succ,List.getElem?_cons_zero,List.set_cons_succ,List.set_cons_zero,List.map_cons,List.map_nil,List.length_cons,List.length_nil,List.cons_append,List.nil_append,List.append_nil,List.isEmpty_cons,List.isEmpty_nil,if_true,if_false,ite_true,ite_false,Bool.not_true,Bool.not_false,Bool.not_not,decide_true,true_and,and_true,false_and,and_false,Bool.false_eq_true,reduceCtorEq,decide_true,decide_false,ite_self,forall_const,Nat.zero_add,Nat.reduceAdd,Nat.reduceLeDiff,Nat.reduceLT,Nat.reduceEqDiff,Nat.reduceSub,Nat.reduceMul,Nat.reduceBEq,Int.reduceLT,Int.reduceLE,Int.reduceEq,Int.reduceNe,Int.reduceAdd,Int.reduceMul,Int.reduceSub,Int.reduceNeg,Int.reducePow,Int.reduceBEq,Int.reduceToNat,Int.reduceGT,Int.reduceGE,String.reduceBEq,zcn,zco,List.replicate_succ,List.replicate_zero,zcp,zcq,zcr,zcs,zct,zcu,zcv,zcw,zcx,zcy,zcz,zcA,zcB,zcC,zcD,zcE,zcF,zcG,zcH,zcI,zcJ,zcK,zcL,zcM,zcN,zcO,zcP,zcQ,zcR,zcS,zcT,zcU,zcV,zcW,zcX,zcY,zcZ,zc0,zc1,zc2,zc3,zc4,zc5,zc6,zc7,zc8,zc9,zda,zdb,zdc,Bool.true_or,Bool.or_true,Bool.false_or,Bool.or_false,Bool.and_true,Bool.true_and,Bool.and_false,Bool.false_and,Int.cast_ofNat_Int,Int.natCast_zero,Int.natCast_one,beq_self_eq_true,zdd,zde,zdf,zdg,zdh,wipeR,restK,p1,p2,kput,List.filterMap_cons,List.filterMap_nil,wo,lsw,pd,q,cv,tx_non,t12,w_plus,w_times,ww1,ww2]
      exact ⟨rfl, hn, hI⟩
    · rw [n1] at m1
      rw [n2] at m2
      have p1 := fun S Q => p_meet_nil (S := S) (Q := Q) hw hv b0 m1
      have p2 := fun S Q => p_meet_nil (S := S) (Q := Q) hv hw b0 m2
      have pd := fun S Q => p_drops_nil (S := S) (Q := Q) hw hv b0 m1
      have q2 : ¬ sgI X x * w > 0 := by omega
      simp -dsimp (disch := first | assumption | omega) only [zaa,zab,zac,zad,zae,zaf,zag,zah,zai,zaj,zak,zal,zam,zan,zao,zap,zaq,zar,zas,zat,zau,zav,zaw,zax,zay,zaz,zaA,zaB,zaC,zaD,zaE,zaF,zaG,zaH,zaI,zaJ,zaK,zaL,zaM,zaN,zaO,zaP,zaQ,zaR,zaS,zaT,zaU,zaV,zaW,zaX,zaY,zaZ,za0,za1,za2,za3,za4,za5,za6,za7,za8,za9,zba,zbb,zbc,zbd,zbe,zbf,zbg,zbh,zbi,zbj,zbk,zbl,zbm,zbn,zbo,zbp,zbq,zbr,zbs,zbt,zbu,zbv,zbw,zbx,zby,zbz,zbA,zbB,zbC,zbD,zbE,zbF,zbG,zbH,zbI,zbJ,zbK,zbL,zbM,zbN,zbO,zbP,zbQ,zbR,zbS,zbT,zbU,zbV,zbW,zbX,zbY,zbZ,zb0,zb1,zb2,zb3,zb4,zb5,zb6,zb7,zb8,zb9,zca,zcb,eq_self,zcc,zcd,zce,zcf,zcg,zch,zci,zcj,zck,zcl,zcm,List.getElem?_cons_succ,List.getElem?_cons_zero,List.set_cons_succ,List.set_cons_zero,List.map_cons,List.map_nil,List.length_cons,List.length_nil,List.cons_append,List.nil_append,List.append_nil,List.isEmpty_cons,List.isEmpty_nil,if_true,if_false,ite_true,ite_false,Bool.not_true,Bool.not_false,Bool.not_not,decide_true,true_and,and_true,false_and,and_false,Bool.false_eq_true,reduceCtorEq,decide_true,decide_false,ite_self,forall_const,Nat.zero_add,Nat.reduceAdd,Nat.reduceLeDiff,Nat.reduceLT,Nat.reduceEqDiff,Nat.reduceSub,Nat.reduceMul,Nat.reduceBEq,Int.reduceLT,Int.reduceLE,Int.reduceEq,Int.reduceNe,Int.reduceAdd,Int.reduceMul,Int.reduceSub,Int.reduceNeg,Int.reducePow,Int.reduceBEq,Int.reduceToNat,Int.reduceGT,Int.reduceGE,String.reduceBEq,zcn,zco,List.replicate_succ,List.replicate_zero,zcp,zcq,zcr,zcs,zct,zcu,zcv,zcw,zcx,zcy,zcz,zcA,zcB,zcC,zcD,zcE,zcF,zcG,zcH,zcI,zcJ,zcK,zcL,zcM,zcN,zcO,zcP,zcQ,zcR,zcS,zcT,zcU,zcV,zcW,zcX,zcY,zcZ,zc0,zc1,zc2,zc3,zc4,zc5,zc6,zc7,zc8,zc9,zda,zdb,zdc,Bool.true_or,Bool.or_true,Bool.false_or,Bool.or_false,Bool.and_true,Bool.true_and,Bool.and_false,Bool.false_and,Int.cast_ofNat_Int,Int.natCast_zero,Int.natCast_one,beq_self_eq_true,zdd,zde,zdf,zdg,zdh,wipeR,restK,p1,p2,kput,List.filterMap_cons,List.filterMap_nil,wo,lsw,pd,q,q2,cv,tx_nil]
      exact ⟨rfl, hn, hI⟩
    · have ey := same hx
      subst hx ey
      rw [n1] at m1
      rw [n2] at m2
      have p1 := fun S Q => p_meet_one (S := S) (Q := Q) hw hv b0 m1
      have p2 := fun S Q => p_meet_one (S := S) (Q := Q) hv hw b0 m2
      have pd := fun S Q => p_drops_one (S := S) (Q := Q) hv hw b0 rfl m2
      have pf := fun S Q => p_first_one (S := S) (Q := Q) hw hv b0 rfl m1
      have i0 : Shw (.int 0) 0 0 := Shw.int (by decide)
      have q1 : ¬ sgI X X * w > 0 := by omega
      have q2 : ¬ sgI X X * w < 0 := by omega
      simp -dsimp (disch := first | assumption | omega) only [zaa,zab,zac,zad,zae,zaf,zag,zah,zai,zaj,zak,zal,zam,zan,zao,zap,zaq,zar,zas,zat,zau,zav,zaw,zax,zay,zaz,zaA,zaB,zaC,zaD,zaE,zaF,zaG,zaH,zaI,zaJ,zaK,zaL,zaM,zaN,zaO,zaP,zaQ,zaR,zaS,zaT,zaU,zaV,zaW,zaX,zaY,zaZ,za0,za1,za2,za3,za4,za5,za6,za7,za8,za9,zba,zbb,zbc,zbd,zbe,zbf,zbg,zbh,zbi,zbj,zbk,zbl,zbm,zbn,zbo,zbp,zbq,zbr,zbs,zbt,zbu,zbv,zbw,zbx,zby,zbz,zbA,zbB,zbC,zbD,zbE,zbF,zbG,zbH,zbI,zbJ,zbK,zbL,zbM,zbN,zbO,zbP,zbQ,zbR,zbS,zbT,zbU,zbV,zbW,zbX,zbY,zbZ,zb0,zb1,zb2,zb3,zb4,zb5,zb6,zb7,zb8,zb9,zca,zcb,eq_self,zcc,zcd,zce,zcf,zcg,zch,zci,zcj,zck,zcl,zcm,List.getElem?_cons_succ,List.getElem?_cons_zero,List.set_cons_succ,List.set_cons_zero,List.map_cons,List.map_nil,List.length_cons,List.length_nil,List.cons_append,List.nil_append,List.append_nil,List.isEmpty_cons,List.isEmpty_nil,if_true,if_false,ite_true,ite_false,Bool.not_true,Bool.not_false,Bool.not_not,decide_true,true_and,and_true,false_and,and_false,Bool.false_eq_true,reduceCtorEq,decide_true,decide_false,ite_self,forall_const,Nat.zero_add,Nat.reduceAdd,Nat.reduceLeDiff,Nat.reduceLT,Nat.reduceEqDiff,Nat.reduceSub,Nat.reduceMul,Nat.reduceBEq,Int.reduceLT,Int.reduceLE,Int.reduceEq,Int.reduceNe,Int.reduceAdd,Int.reduceMul,Int.reduceSub,Int.reduceNeg,Int.reducePow,Int.reduceBEq,Int.reduceToNat,Int.reduceGT,Int.reduceGE,String.reduceBEq,zcn,zco,List.replicate_succ,List.replicate_zero,zcp,zcq,zcr,zcs,zct,zcu,zcv,zcw,zcx,zcy,zcz,zcA,zcB,zcC,zcD,zcE,zcF,zcG,zcH,zcI,zcJ,zcK,zcL,zcM,zcN,zcO,zcP,zcQ,zcR,zcS,zcT,zcU,zcV,zcW,zcX,zcY,zcZ,zc0,zc1,zc2,zc3,zc4,zc5,zc6,zc7,zc8,zc9,zda,zdb,zdc,Bool.true_or,Bool.or_true,Bool.false_or,Bool.or_false,Bool.and_true,Bool.true_and,Bool.and_false,Bool.false_and,Int.cast_ofNat_Int,Int.natCast_zero,Int.natCast_one,beq_self_eq_true,zdd,zde,zdf,zdg,zdh,wipeR,restK,p1,p2,kput,List.filterMap_cons,List.filterMap_nil,wo,lsw,pd,pf,q1,q2,cv,w_apart,t01]
      exact ⟨rfl, hn, hI⟩
end
theorem right_ok {n m : Nat} (h : Vat m S n) (hS : S.length = n + 1) (hm : m < 999000000) : Ok (m__law_right [.loc n] S) (Right n) := by
  refine right_of hS ?_
  simp -dsimp (disch := first | assumption | omega) only [zaa,zab,zac,zad,zae,zaf,zag,zah,zai,zaj,zak,zal,zam,zan,zao,zap,zaq,zar,zas,zat,zau,zav,zaw,zax,zay,zaz,zaA,zaB,zaC,zaD,zaE,zaF,zaG,zaH,zaI,zaJ,zaK,zaL,zaM,zaN,zaO,zaP,zaQ,zaR,zaS,zaT,zaU,zaV,zaW,zaX,zaY,zaZ,za0,za1,za2,za3,za4,za5,za6,za7,za8,za9,zba,zbb,zbc,zbd,zbe,zbf,zbg,zbh,zbi,zbj,zbk,zbl,zbm,zbn,zbp,zbq,zbr,zbs,zbt,zbu,zbv,zbw,zbx,zby,zbz,zbA,zbB,zbC,zbD,zbE,zbF,zbG,zbH,zbI,zbJ,zbK,zbL,zbM,zbN,zbO,zbP,zbQ,zbR,zbS,zbT,zbU,zbV,zbW,zbX,zbY,zbZ,zb0,zb1,zb2,zb3,zb4,zb5,zb6,zb7,zb8,zb9,zca,zcb,eq_self,zcc,zcd,zce,zcf,zcg,zch,zci,zcj,zck,zcl,zcm,List.getElem?_cons_succ,List.getElem?_cons_zero,List.set_cons_succ,List.set_cons_zero,List.map_cons,List.map_nil,List.length_cons,List.length_nil,List.cons_append,List.nil_append,List.append_nil,List.isEmpty_cons,List.isEmpty_nil,if_true,if_false,ite_true,ite_false,Bool.not_true,Bool.not_false,Bool.not_not,decide_true,true_and,and_true,false_and,and_false,Bool.false_eq_true,reduceCtorEq,decide_true,decide_false,ite_self,forall_const,Nat.zero_add,Nat.reduceAdd,Nat.reduceLeDiff,Nat.reduceLT,Nat.reduceEqDiff,Nat.reduceSub,Nat.reduceMul,Nat.reduceBEq,Int.reduceLT,Int.reduceLE,Int.reduceEq,Int.reduceNe,Int.reduceAdd,Int.reduceMul,Int.reduceSub,Int.reduceNeg,Int.reducePow,Int.reduceBEq,Int.reduceToNat,Int.reduceGT,Int.reduceGE,String.reduceBEq,zcn,zco,List.replicate_succ,List.replicate_zero,zcp,zcq,zcr,zcs,zct,zcu,zcv,zcw,zcx,zcy,zcz,zcA,zcB,zcC,zcD,zcE,zcF,zcG,zcH,zcI,zcJ,zcK,zcL,zcM,zcN,zcO,zcP,zcQ,zcR,zcS,zcT,zcU,zcV,zcW,zcX,zcY,zcZ,zc0,zc1,zc2,zc3,zc4,zc5,zc6,zc7,zc8,zc9,zda,zdb,zdc,Bool.true_or,Bool.or_true,Bool.false_or,Bool.or_false,Bool.and_true,Bool.true_and,Bool.and_false,Bool.false_and,Int.cast_ofNat_Int,Int.natCast_zero,Int.natCast_one,beq_self_eq_true,zdd,wipeR]
  refine wstream_ok h (by omega) fun x y w s b S1 zx zy hw zs zb b0 l1 v1 => ?_
  simp -dsimp (disch := first | assumption | omega) only [zaa,zab,zac,zad,zae,zaf,zag,zah,zai,zaj,zak,zal,zam,zan,zao,zap,zaq,zar,zas,zat,zau,zav,zaw,zax,zay,zaz,zaA,zaB,zaC,zaD,zaE,zaF,zaG,zaH,zaI,zaJ,zaK,zaL,zaM,zaN,zaO,zaP,zaQ,zaR,zaS,zaT,zaU,zaV,zaW,zaX,zaY,zaZ,za0,za1,za2,za3,za4,za5,za6,za7,za8,za9,zba,zbb,zbc,zbd,zbe,zbf,zbg,zbh,zbi,zbj,zbk,zbl,zbm,zbn,zbp,zbq,zbr,zbs,zbt,zbu,zbv,zbw,zbx,zby,zbz,zbA,zbB,zbC,zbD,zbE,zbF,zbG,zbH,zbI,zbJ,zbK,zbL,zbM,zbN,zbO,zbP,zbQ,zbR,zbS,zbT,zbU,zbV,zbW,zbX,zbY,zbZ,zb0,zb1,zb2,zb3,zb4,zb5,zb6,zb7,zb8,zb9,zca,zcb,eq_self,zcc,zcd,zce,zcf,zcg,zch,zci,zcj,zck,zcl,zcm,List.getElem?_cons_succ,List.getElem?_cons_zero,List.set_cons_succ,List.set_cons_zero,List.map_cons,List.map_nil,List.length_cons,List.length_nil,List.cons_append,List.nil_append,List.append_nil,List.isEmpty_cons,List.isEmpty_nil,if_true,if_false,ite_true,ite_false,Bool.not_true,Bool.not_false,Bool.not_not,decide_true,true_and,and_true,false_and,and_false,Bool.false_eq_true,reduceCtorEq,decide_true,decide_false,ite_self,forall_const,Nat.zero_add,Nat.reduceAdd,Nat.reduceLeDiff,Nat.reduceLT,Nat.reduceEqDiff,Nat.reduceSub,Nat.reduceMul,Nat.reduceBEq,Int.reduceLT,Int.reduceLE,Int.reduceEq,Int.reduceNe,Int.reduceAdd,Int.reduceMul,Int.reduceSub,Int.reduceNeg,Int.reducePow,Int.reduceBEq,Int.reduceToNat,Int.reduceGT,Int.reduceGE,String.reduceBEq,zcn,zco,List.replicate_succ,List.replicate_zero,zcp,zcq,zcr,zcs,zct,zcu,zcv,zcw,zcx,zcy,zcz,zcA,zcB,zcC,zcD,zcE,zcF,zcG,zcH,zcI,zcJ,zcK,zcL,zcM,zcN,zcO,zcP,zcQ,zcR,zcS,zcT,zcU,zcV,zcW,zcX,zcY,zcZ,zc0,zc1,zc2,zc3,zc4,zc5,zc6,zc7,zc8,zc9,zda,zdb,zdc,Bool.true_or,Bool.or_true,Bool.false_or,Bool.or_false,Bool.and_true,Bool.true_and,Bool.and_false,Bool.false_and,Int.cast_ofNat_Int,Int.natCast_zero,Int.natCast_one,beq_self_eq_true,zdd,wipeR,w_apart]
  refine wfar_ok hw v1 (by omega) fun X0 S2 zX0 l2 v2 => ?_
  simp -dsimp (disch := first | assumption | omega) only [zaa,zab,zac,zad,zae,zaf,zag,zah,zai,zaj,zak,zal,zam,zan,zao,zap,zaq,zar,zas,zat,zau,zav,zaw,zax,zay,zaz,zaA,zaB,zaC,zaD,zaE,zaF,zaG,zaH,zaI,zaJ,zaK,zaL,zaM,zaN,zaO,zaP,zaQ,zaR,zaS,zaT,zaU,zaV,zaW,zaX,zaY,zaZ,za0,za1,za2,za3,za4,za5,za6,za7,za8,za9,zba,zbb,zbc,zbd,zbe,zbf,zbg,zbh,zbi,zbj,zbk,zbl,zbm,zbn,zbp,zbq,zbr,zbs,zbt,zbu,zbv,zbw,zbx,zby,zbz,zbA,zbB,zbC,zbD,zbE,zbF,zbG,zbH,zbI,zbJ,zbK,zbL,zbM,zbN,zbO,zbP,zbQ,zbR,zbS,zbT,zbU,zbV,zbW,zbX,zbY,zbZ,zb0,zb1,zb2,zb3,zb4,zb5,zb6,zb7,zb8,zb9,zca,zcb,eq_self,zcc,zcd,zce,zcf,zcg,zch,zci,zcj,zck,zcl,zcm,List.getElem?_cons_succ,List.getElem?_cons_zero,List.set_cons_succ,List.set_cons_zero,List.map_cons,List.map_nil,List.length_cons,List.length_nil,List.cons_append,List.nil_append,List.append_nil,List.isEmpty_cons,List.isEmpty_nil,if_true,if_false,ite_true,ite_false,Bool.not_true,Bool.not_false,Bool.not_not,decide_true,true_and,and_true,false_and,and_false,Bool.false_eq_true,reduceCtorEq,decide_true,decide_false,ite_self,forall_const,Nat.zero_add,Nat.reduceAdd,Nat.reduceLeDiff,Nat.reduceLT,Nat.reduceEqDiff,Nat.reduceSub,Nat.reduceMul,Nat.reduceBEq,Int.reduceLT,Int.reduceLE,Int.reduceEq,Int.reduceNe,Int.reduceAdd,Int.reduceMul,Int.reduceSub,Int.reduceNeg,Int.reducePow,Int.reduceBEq,Int.reduceToNat,Int.reduceGT,Int.reduceGE,String.reduceBEq,zcn,zco,List.replicate_succ,List.replicate_zero,zcp,zcq,zcr,zcs,zct,zcu,zcv,zcw,zcx,zcy,zcz,zcA,zcB,zcC,zcD,zcE,zcF,zcG,zcH,zcI,zcJ,zcK,zcL,zcM,zcN,zcO,zcP,zcQ,zcR,zcS,zcT,zcU,zcV,zcW,zcX,zcY,zcZ,zc0,zc1,zc2,zc3,zc4,zc5,zc6,zc7,zc8,zc9,zda,zdb,zdc,Bool.true_or,Bool.or_true,Bool.false_or,Bool.or_false,Bool.and_true,Bool.true_and,Bool.and_false,Bool.false_and,Int.cast_ofNat_Int,Int.natCast_zero,Int.natCast_one,beq_self_eq_true,zdd,wipeR]
  refine wsize_ok v2 (by omega) fun e1 S3 q1 ze1 l3 v3 => ?_
  simp -dsimp (disch := first | assumption | omega) only [zaa,zab,zac,zad,zae,zaf,zag,zah,zai,zaj,zak,zal,zam,zan,zao,zap,zaq,zar,zas,zat,zau,zav,zaw,zax,zay,zaz,zaA,zaB,zaC,zaD,zaE,zaF,zaG,zaH,zaI,zaJ,zaK,zaL,zaM,zaN,zaO,zaP,zaQ,zaR,zaS,zaT,zaU,zaV,zaW,zaX,zaY,zaZ,za0,za1,za2,za3,za4,za5,za6,za7,za8,za9,zba,zbb,zbc,zbd,zbe,zbf,zbg,zbh,zbi,zbj,zbk,zbl,zbm,zbn,zbp,zbq,zbr,zbs,zbt,zbu,zbv,zbw,zbx,zby,zbz,zbA,zbB,zbC,zbD,zbE,zbF,zbG,zbH,zbI,zbJ,zbK,zbL,zbM,zbN,zbO,zbP,zbQ,zbR,zbS,zbT,zbU,zbV,zbW,zbX,zbY,zbZ,zb0,zb1,zb2,zb3,zb4,zb5,zb6,zb7,zb8,zb9,zca,zcb,eq_self,zcc,zcd,zce,zcf,zcg,zch,zci,zcj,zck,zcl,zcm,List.getElem?_cons_succ,List.getElem?_cons_zero,List.set_cons_succ,List.set_cons_zero,List.map_cons,List.map_nil,List.length_cons,List.length_nil,List.cons_append,List.nil_append,List.append_nil,List.isEmpty_cons,List.isEmpty_nil,if_true,if_false,ite_true,ite_false,Bool.not_true,Bool.not_false,Bool.not_not,decide_true,true_and,and_true,false_and,and_false,Bool.false_eq_true,reduceCtorEq,decide_true,decide_false,ite_self,forall_const,Nat.zero_add,Nat.reduceAdd,Nat.reduceLeDiff,Nat.reduceLT,Nat.reduceEqDiff,Nat.reduceSub,Nat.reduceMul,Nat.reduceBEq,Int.reduceLT,Int.reduceLE,Int.reduceEq,Int.reduceNe,Int.reduceAdd,Int.reduceMul,Int.reduceSub,Int.reduceNeg,Int.reducePow,Int.reduceBEq,Int.reduceToNat,Int.reduceGT,Int.reduceGE,String.reduceBEq,zcn,zco,List.replicate_succ,List.replicate_zero,zcp,zcq,zcr,zcs,zct,zcu,zcv,zcw,zcx,zcy,zcz,zcA,zcB,zcC,zcD,zcE,zcF,zcG,zcH,zcI,zcJ,zcK,zcL,zcM,zcN,zcO,zcP,zcQ,zcR,zcS,zcT,zcU,zcV,zcW,zcX,zcY,zcZ,zc0,zc1,zc2,zc3,zc4,zc5,zc6,zc7,zc8,zc9,zda,zdb,zdc,Bool.true_or,Bool.or_true,Bool.false_or,Bool.or_false,Bool.and_true,Bool.true_and,Bool.and_false,Bool.false_and,Int.cast_ofNat_Int,Int.natCast_zero,Int.natCast_one,beq_self_eq_true,zdd,wipeR,w_less]
  refine wsize_ok v3 (by omega) fun e2 S4 q2 ze2 l4 v4 => ?_
  simp -dsimp (disch := first | assumption | omega) only [zaa,zab,zac,zad,zae,zaf,zag,zah,zai,zaj,zak,zal,zam,zan,zao,zap,zaq,zar,zas,zat,zau,zav,zaw,zax,zay,zaz,zaA,zaB,zaC,zaD,zaE,zaF,zaG,zaH,zaI,zaJ,zaK,zaL,zaM,zaN,zaO,zaP,zaQ,zaR,zaS,zaT,zaU,zaV,zaW,zaX,zaY,zaZ,za0,za1,za2,za3,za4,za5,za6,za7,za8,za9,zba,zbb,zbc,zbd,zbe,zbf,zbg,zbh,zbi,zbj,zbk,zbl,zbm,zbn,zbp,zbq,zbr,zbs,zbt,zbu,zbv,zbw,zbx,zby,zbz,zbA,zbB,zbC,zbD,zbE,zbF,zbG,zbH,zbI,zbJ,zbK,zbL,zbM,zbN,zbO,zbP,zbQ,zbR,zbS,zbT,zbU,zbV,zbW,zbX,zbY,zbZ,zb0,zb1,zb2,zb3,zb4,zb5,zb6,zb7,zb8,zb9,zca,zcb,eq_self,zcc,zcd,zce,zcf,zcg,zch,zci,zcj,zck,zcl,zcm,List.getElem?_cons_succ,List.getElem?_cons_zero,List.set_cons_succ,List.set_cons_zero,List.map_cons,List.map_nil,List.length_cons,List.length_nil,List.cons_append,List.nil_append,List.append_nil,List.isEmpty_cons,List.isEmpty_nil,if_true,if_false,ite_true,ite_false,Bool.not_true,Bool.not_false,Bool.not_not,decide_true,true_and,and_true,false_and,and_false,Bool.false_eq_true,reduceCtorEq,decide_true,decide_false,ite_self,forall_const,Nat.zero_add,Nat.reduceAdd,Nat.reduceLeDiff,Nat.reduceLT,Nat.reduceEqDiff,Nat.reduceSub,Nat.reduceMul,Nat.reduceBEq,Int.reduceLT,Int.reduceLE,Int.reduceEq,Int.reduceNe,Int.reduceAdd,Int.reduceMul,Int.reduceSub,Int.reduceNeg,Int.reducePow,Int.reduceBEq,Int.reduceToNat,Int.reduceGT,Int.reduceGE,String.reduceBEq,zcn,zco,List.replicate_succ,List.replicate_zero,zcp,zcq,zcr,zcs,zct,zcu,zcv,zcw,zcx,zcy,zcz,zcA,zcB,zcC,zcD,zcE,zcF,zcG,zcH,zcI,zcJ,zcK,zcL,zcM,zcN,zcO,zcP,zcQ,zcR,zcS,zcT,zcU,zcV,zcW,zcX,zcY,zcZ,zc0,zc1,zc2,zc3,zc4,zc5,zc6,zc7,zc8,zc9,zda,zdb,zdc,Bool.true_or,Bool.or_true,Bool.false_or,Bool.or_false,Bool.and_true,Bool.true_and,Bool.and_false,Bool.false_and,Int.cast_ofNat_Int,Int.natCast_zero,Int.natCast_one,beq_self_eq_true,zdd,wipeR,w_plus]
  refine wpickl_ok v4 (by omega) (by simp) (by simp) fun p hp S5 l5 v5 => ?_
  obtain ⟨X, rfl, zX⟩ : ∃ X, p = rv X ∧ Sz X 11 := by
    simp only [List.mem_cons, List.not_mem_nil, or_false] at hp
    rcases hp with rfl | rfl | rfl | rfl
    · exact ⟨_, rfl, zX0⟩
    · exact ⟨_, rfl, zx.le (by decide)⟩
    · exact ⟨_, rfl, inferInstance⟩
    · exact ⟨_, rfl, inferInstance⟩
  clear hp
  simp -dsimp (disch := first | assumption | omega) only [zaa,zab,zac,zad,zae,zaf,zag,zah,zai,zaj,zak,zal,zam,zan,zao,zap,zaq,zar,zas,zat,zau,zav,zaw,zax,zay,zaz,zaA,zaB,zaC,zaD,zaE,zaF,zaG,zaH,zaI,zaJ,zaK,zaL,zaM,zaN,zaO,zaP,zaQ,zaR,zaS,zaT,zaU,zaV,zaW,zaX,zaY,zaZ,za0,za1,za2,za3,za4,za5,za6,za7,za8,za9,zba,zbb,zbc,zbd,zbe,zbf,zbg,zbh,zbi,zbj,zbk,zbl,zbm,zbn,zbp,zbq,zbr,zbs,zbt,zbu,zbv,zbw,zbx,zby,zbz,zbA,zbB,zbC,zbD,zbE,zbF,zbG,zbH,zbI,zbJ,zbK,zbL,zbM,zbN,zbO,zbP,zbQ,zbR,zbS,zbT,zbU,zbV,zbW,zbX,zbY,zbZ,zb0,zb1,zb2,zb3,zb4,zb5,zb6,zb7,zb8,zb9,zca,zcb,eq_self,zcc,zcd,zce,zcf,zcg,zch,zci,zcj,zck,zcl,zcm,List.getElem?_cons_succ,List.getElem?_cons_zero,List.set_cons_succ,List.set_cons_zero,List.map_cons,List.map_nil,List.length_cons,List.length_nil,List.cons_append,List.nil_append,List.append_nil,List.isEmpty_cons,List.isEmpty_nil,if_true,if_false,ite_true,ite_false,Bool.not_true,Bool.not_false,Bool.not_not,decide_true,true_and,and_true,false_and,and_false,Bool.false_eq_true,reduceCtorEq,decide_true,decide_false,ite_self,forall_const,Nat.zero_add,Nat.reduceAdd,Nat.reduceLeDiff,Nat.reduceLT,Nat.reduceEqDiff,Nat.reduceSub,Nat.reduceMul,Nat.reduceBEq,Int.reduceLT,Int.reduceLE,Int.reduceEq,Int.reduceNe,Int.reduceAdd,Int.reduceMul,Int.reduceSub,Int.reduceNeg,Int.reducePow,Int.reduceBEq,Int.reduceToNat,Int.reduceGT,Int.reduceGE,String.reduceBEq,zcn,zco,List.replicate_succ,List.replicate_zero,zcp,zcq,zcr,zcs,zct,zcu,zcv,zcw,zcx,zcy,zcz,zcA,zcB,zcC,zcD,zcE,zcF,zcG,zcH,zcI,zcJ,zcK,zcL,zcM,zcN,zcO,zcP,zcQ,zcR,zcS,zcT,zcU,zcV,zcW,zcX,zcY,zcZ,zc0,zc1,zc2,zc3,zc4,zc5,zc6,zc7,zc8,zc9,zda,zdb,zdc,Bool.true_or,Bool.or_true,Bool.false_or,Bool.or_false,Bool.and_true,Bool.true_and,Bool.and_false,Bool.false_and,Int.cast_ofNat_Int,Int.natCast_zero,Int.natCast_one,beq_self_eq_true,zdd,wipeR]
  refine wdraw_ok v5 (by omega) (by omega) (by omega) fun d S6 d0 d1 l6 v6 => ?_
  have key : ∀ v, W1 v → ∀ S', S' = S6 → Ok (restK [some (.loc n), some (stV x y w s b), some (rv x), some (rv X), some (stV X (onY (hA x y w s b) (hB x w s b) b X) v (onS (hB x w s b) b X v) b), none, none, none, none, none, none] S') (Fin1 n) := by
    intro v hv S' hS'
    have zA : Sz (hA x y w s b) 40 := by
      have zw := hw.sz
      exact (inferInstance : Sz (y - (w : Rat) * s * x - b * (x * x)) _).le (by decide)
    have zB : Sz (hB x w s b) 20 := by
      have zw := hw.sz
      exact (inferInstance : Sz ((w : Rat) * s + 2 * (b * x)) _).le (by decide)
    have eA := on_A (x := x) (y := y) (s := s) (b := b) (X := X) (w := w) hv
    have eB := on_B (x := x) (s := s) (b := b) (X := X) (w := w) hv
    have same : X = x → onY (hA x y w s b) (hB x w s b) b X = y := fun e => by rw [e]; exact h_own
    have sames : X = x → v = w → onS (hB x w s b) b X v = s := fun e ev => by rw [e, ev]; exact on_s hw
    have zY : Sz (onY (hA x y w s b) (hB x w s b) b X) 100 := (inferInstance : Sz (hA x y w s b + X * (hB x w s b + -b * X)) _).le (by decide)
    have zS : Sz (onS (hB x w s b) b X v) 50 := by
      have zv := hv.sz
      exact (inferInstance : Sz ((v : Rat) * (hB x w s b + 2 * (-b * X))) _).le (by decide)
    generalize onY (hA x y w s b) (hB x w s b) b X = y2 at *
    generalize onS (hB x w s b) b X v = s2 at *
    have a1 : Sz x 20 := zx.le (by decide)
    have a2 : Sz y 100 := zy.le (by decide)
    have a3 : Sz s 50 := zs.le (by decide)
    have a4 : Sz X 20 := zX.le (by decide)
    subst hS'
    exact rest_ok hw hv b0 eA eB same sames (by omega) v6.2
  have l20 : (2 : Int).natAbs.log2 + (0 : Int).natAbs.log2 < 1000000 := by decide
  have l21 : (2 : Int).natAbs.log2 + (1 : Int).natAbs.log2 < 1000000 := by decide
  rcases (show d = 0 ∨ d = 1 by omega) with rfl | rfl
  · have oc := fun S Q => w_on_curve (S := S) (Q := Q) (x := x) (y := y) (s := s) (b := b) (X := X) (v := 1) hw (.inl rfl) (by omega) (by omega)
    simp -dsimp (disch := first | assumption | omega) only [zae, zaI, l20, oc, zbs, List.set_cons_succ, List.set_cons_zero, true_and, Int.reduceMul, Int.reduceSub, zaH, zaf]
    exact key 1 (.inl rfl) _ rfl
  · have oc := fun S Q => w_on_curve (S := S) (Q := Q) (x := x) (y := y) (s := s) (b := b) (X := X) (v := -1) hw (.inr rfl) (by omega) (by omega)
    simp -dsimp (disch := first | assumption | omega) only [zae, zaI, l21, oc, zbs, List.set_cons_succ, List.set_cons_zero, true_and, Int.reduceMul, Int.reduceSub, zaH, zaf]
    exact key (-1) (.inr rfl) _ rfl
end
end Pm.L


namespace Pm.L
open PySem PySem.Spec L2 Pm
theorem fin_true (S1 : Sto) : ∃ S, fin 0 (.ok (.bl true) S1) = .ok (.bl true) S := by
  have e : fzV S1 0 20 (.bl true) = some (.bl true) := by simp [fzV]
  by_cases h : S1.length = 0
  · exact ⟨S1, by simp [fin, h]⟩
  · exact ⟨[], by simp [fin, h, e]⟩
theorem law_ok (ns : List Int) (hn : ns.length ≤ 63) : ∃ S, m_law [.frz (ns.map PV.int)] [] = .ok (.bl true) S := by
  have key : Ok (d_law (rho0 2 [.frz (ns.map PV.int)]) []) fun r S1 => r = .rt (.bl true) := by
    have hr : ∀ (S : Sto) (Q : PV → Sto → Prop), Ok (m__law_rounds [.frz (ns.map PV.int), .int 2, .int 5] S) Q = Q (.int (if (if (5 : Int) < ns.length then (5 : Int) else ns.length) > 2 then (if (5 : Int) < ns.length then (5 : Int) else ns.length) else 2)) S := fun S Q => by
      have e : m__law_rounds [.frz (ns.map PV.int), .int 2, .int 5] S = .ok (.int (if (if (5 : Int) < ns.length then (5 : Int) else ns.length) > 2 then (if (5 : Int) < ns.length then (5 : Int) else ns.length) else 2)) S := by
        refine Ok.eq (Ok_defM rfl ?_)
        simp -dsimp (disch := first | assumption | omega) only [zaa,zab,zac,zad,zae,zaf,zag,zah,zai,zaj,zak,zal,zam,zan,zao,zap,zaq,zar,zas,zat,zau,zav,zaw,zax,zay,zaz,zaA,zaB,zaC,zaD,zaE,zaF,zaG,zaH,zaI,zaJ,zaK,zaL,zaM,zaN,zaO,zaP,zaQ,zaR,zaS,zaT,zaU,zaV,zaW,zaX,zaY,zaZ,za0,za1,za2,za3,za4,za5,za6,za7,za8,za9,zba,zbb,zbc,zbd,zbe,zbf,zbg,zbh,zbi,zbj,zbk,zbl,zbm,zbn,zbo,zbp,zbq,zbr,zbs,zbt,zbu,zbv,zbw,zbx,zby,zbz,zbA,zbB,zbC,zbD,zbE,zbF,zbG,zbH,zbI,zbJ,zbK,zbL,zbM,zbN,zbO,zbP,zbQ,zbR,zbS,zbT,zbU,zbV,zbW,zbX,zbY,zbZ,zb0,zb1,zb2,zb3,zb4,zb5,zb6,zb7,zb8,zb9,zca,zcb,eq_self,zcc,zcd,zce,zcf,zcg,zch,zci,zcj,zck,zcl,zcm,List.getElem?_cons_succ,List.getElem?_cons_zero,List.set_cons_succ,List.set_cons_zero,List.map_cons,List.map_nil,List.length_cons,List.length_nil,List.cons_append,List.nil_append,List.append_nil,List.isEmpty_cons,List.isEmpty_nil,if_true,if_false,ite_true,ite_false,Bool.not_true,Bool.not_false,Bool.not_not,decide_true,true_and,and_true,false_and,and_false,Bool.false_eq_true,reduceCtorEq,decide_true,decide_false,ite_self,forall_const,Nat.zero_add,Nat.reduceAdd,Nat.reduceLeDiff,Nat.reduceLT,Nat.reduceEqDiff,Nat.reduceSub,Nat.reduceMul,Nat.reduceBEq,Int.reduceLT,Int.reduceLE,Int.reduceEq,Int.reduceNe,Int.reduceAdd,Int.reduceMul,Int.reduceSub,Int.reduceNeg,Int.reducePow,Int.reduceBEq,Int.reduceToNat,Int.reduceGT,Int.reduceGE,String.reduceBEq,zcn,zco,List.replicate_succ,List.replicate_zero,zcp,zcq,zcr,zcs,zct,zcu,zcv,zcw,zcx,zcy,zcz,zcA,zcB,zcC,zcD,zcE,zcF,zcG,zcH,zcI,zcJ,zcK,zcL,zcM,zcN,zcO,zcP,zcQ,zcR,zcS,zcT,zcU,zcV,zcW,zcX,zcY,zcZ,zc0,zc1,zc2,zc3,zc4,zc5,zc6,zc7,zc8,zc9,zda,zdb,zdc,Bool.true_or,Bool.or_true,Bool.false_or,Bool.or_false,Bool.and_true,Bool.true_and,Bool.and_false,Bool.false_and,Int.cast_ofNat_Int,Int.natCast_zero,Int.natCast_one,beq_self_eq_true,zdd,zde,zdf,zdg,zdh,wipeR,List.length_map]
      rw [e, zaa]
    simp -dsimp (disch := first | assumption | omega) only [zaa,zab,zac,zad,zae,zaf,zag,zah,zai,zaj,zak,zal,zam,zan,zao,zap,zaq,zar,zas,zat,zau,zav,zaw,zax,zay,zaz,zaA,zaB,zaC,zaD,zaE,zaF,zaG,zaH,zaI,zaJ,zaK,zaL,zaM,zaN,zaO,zaP,zaQ,zaR,zaS,zaT,zaU,zaV,zaW,zaX,zaY,zaZ,za0,za1,za2,za3,za4,za5,za6,za7,za8,za9,zba,zbb,zbc,zbd,zbe,zbf,zbg,zbh,zbi,zbj,zbk,zbl,zbm,zbn,zbo,zbp,zbq,zbr,zbs,zbt,zbu,zbv,zbw,zbx,zby,zbz,zbA,zbB,zbC,zbD,zbE,zbF,zbG,zbH,zbI,zbJ,zbK,zbL,zbM,zbN,zbO,zbP,zbQ,zbR,zbS,zbT,zbU,zbV,zbW,zbX,zbY,zbZ,zb0,zb1,zb2,zb3,zb4,zb5,zb6,zb7,zb8,zb9,zca,zcb,eq_self,zcc,zcd,zce,zcf,zcg,zch,zci,zcj,zck,zcl,zcm,List.getElem?_cons_succ,List.getElem?_cons_zero,List.set_cons_succ,List.set_cons_zero,List.map_cons,List.map_nil,List.length_cons,List.length_nil,List.cons_append,List.nil_append,List.append_nil,List.isEmpty_cons,List.isEmpty_nil,if_true,if_false,ite_true,ite_false,Bool.not_true,Bool.not_false,Bool.not_not,decide_true,true_and,and_true,false_and,and_false,Bool.false_eq_true,reduceCtorEq,decide_true,decide_false,ite_self,forall_const,Nat.zero_add,Nat.reduceAdd,Nat.reduceLeDiff,Nat.reduceLT,Nat.reduceEqDiff,Nat.reduceSub,Nat.reduceMul,Nat.reduceBEq,Int.reduceLT,Int.reduceLE,Int.reduceEq,Int.reduceNe,Int.reduceAdd,Int.reduceMul,Int.reduceSub,Int.reduceNeg,Int.reducePow,Int.reduceBEq,Int.reduceToNat,Int.reduceGT,Int.reduceGE,String.reduceBEq,zcn,zco,List.replicate_succ,List.replicate_zero,zcp,zcq,zcr,zcs,zct,zcu,zcv,zcw,zcx,zcy,zcz,zcA,zcB,zcC,zcD,zcE,zcF,zcG,zcH,zcI,zcJ,zcK,zcL,zcM,zcN,zcO,zcP,zcQ,zcR,zcS,zcT,zcU,zcV,zcW,zcX,zcY,zcZ,zc0,zc1,zc2,zc3,zc4,zc5,zc6,zc7,zc8,zc9,zda,zdb,zdc,Bool.true_or,Bool.or_true,Bool.false_or,Bool.or_false,Bool.and_true,Bool.true_and,Bool.and_false,Bool.false_and,Int.cast_ofNat_Int,Int.natCast_zero,Int.natCast_one,beq_self_eq_true,zdd,zde,zdf,zdg,zdh,wipeR,hr]
    refine ⟨by split <;> split <;> omega, by simp [rngL]; split <;> split <;> omega, ?_⟩
    refine Ok_lc (fun S => ∀ (i : Nat) e, S[i]? = some e → IntE e) (fun _ p => p = .bl true) (fun i e h => by simp at h) ?_ ?_
    · intro k p S hp hJ
      obtain ⟨i, hi, rfl⟩ : ∃ i : Nat, i < 63 ∧ p = .int i := by
        have h1 := List.mem_of_getElem? hp
        simp only [rngL, List.mem_map, List.mem_range] at h1
        obtain ⟨i, hi, rfl⟩ := h1
        refine ⟨i, ?_, by simp⟩
        revert hi
        split <;> split <;> omega
      simp -dsimp (disch := first | assumption | omega) only [zaa,zab,zac,zad,zae,zaf,zag,zah,zai,zaj,zak,zal,zam,zan,zao,zap,zaq,zar,zas,zat,zau,zav,zaw,zax,zay,zaz,zaA,zaB,zaC,zaD,zaE,zaF,zaG,zaH,zaI,zaJ,zaK,zaL,zaM,zaN,zaO,zaP,zaQ,zaR,zaS,zaT,zaU,zaV,zaW,zaX,zaY,zaZ,za0,za1,za2,za3,za4,za5,za6,za7,za8,za9,zba,zbb,zbc,zbd,zbe,zbf,zbg,zbh,zbi,zbj,zbk,zbl,zbm,zbn,zbo,zbp,zbq,zbr,zbs,zbt,zbu,zbv,zbw,zbx,zby,zbz,zbA,zbB,zbC,zbD,zbE,zbF,zbG,zbH,zbI,zbJ,zbK,zbL,zbM,zbN,zbO,zbP,zbQ,zbR,zbS,zbT,zbU,zbV,zbW,zbX,zbY,zbZ,zb0,zb1,zb2,zb3,zb4,zb5,zb6,zb7,zb8,zb9,zca,zcb,eq_self,zcc,zcd,zce,zcf,zcg,zch,zci,zcj,zck,zcl,zcm,List.getElem?_cons_succ,List.getElem?_cons_zero,List.set_cons_succ,List.set_cons_zero,List.map_cons,List.map_nil,List.length_cons,List.length_nil,List.cons_append,List.nil_append,List.append_nil,List.isEmpty_cons,List.isEmpty_nil,if_true,if_false,ite_true,ite_false,Bool.not_true,Bool.not_false,Bool.not_not,decide_true,true_and,and_true,false_and,and_false,Bool.false_eq_true,reduceCtorEq,decide_true,decide_false,ite_self,forall_const,Nat.zero_add,Nat.reduceAdd,Nat.reduceLeDiff,Nat.reduceLT,Nat.reduceEqDiff,Nat.reduceSub,Nat.reduceMul,Nat.reduceBEq,Int.reduceLT,Int.reduceLE,Int.reduceEq,Int.reduceNe,Int.reduceAdd,Int.reduceMul,Int.reduceSub,Int.reduceNeg,Int.reducePow,Int.reduceBEq,Int.reduceToNat,Int.reduceGT,Int.reduceGE,String.reduceBEq,zcn,zco,List.replicate_succ,List.replicate_zero,zcp,zcq,zcr,zcs,zct,zcu,zcv,zcw,zcx,zcy,zcz,zcA,zcB,zcC,zcD,zcE,zcF,zcG,zcH,zcI,zcJ,zcK,zcL,zcM,zcN,zcO,zcP,zcQ,zcR,zcS,zcT,zcU,zcV,zcW,zcX,zcY,zcZ,zc0,zc1,zc2,zc3,zc4,zc5,zc6,zc7,zc8,zc9,zda,zdb,zdc,Bool.true_or,Bool.or_true,Bool.false_or,Bool.or_false,Bool.and_true,Bool.true_and,Bool.and_false,Bool.false_and,Int.cast_ofNat_Int,Int.natCast_zero,Int.natCast_one,beq_self_eq_true,zdd,zde,zdf,zdg,zdh,wipeR]
      refine well_ok hn (by omega) hJ fun S1 l1 v1 => ?_
      exact (right_ok v1 l1 (by omega)).mono fun p S' ⟨e, l2, h2⟩ => ⟨e, fun i e he => h2 i e (by have := (List.getElem?_eq_some_iff.mp he).1; omega) he⟩
    · intro qs S hl hq _
      rw [zaf, Ok_all_true (fun p hp => by obtain ⟨k, hk⟩ := List.getElem?_of_mem hp; exact hq k p hk)]
  obtain ⟨r, S1, e, rfl⟩ := key.ex
  have e2 : bodyR d_law (rho0 2 [.frz (ns.map PV.int)]) [] = .ok (.bl true) S1 := by
    unfold bodyR bnd
    rw [e]
    rfl
  have e3 : m_law [.frz (ns.map PV.int)] [] = fin 0 (bodyR d_law (rho0 2 [.frz (ns.map PV.int)]) []) := rfl
  rw [e3, e2]
  exact fin_true S1
end Pm.L

theorem PySem.Challenge.cw_spoutlines_k85_whole_streams_on_one_curv_holds : PySem.Challenge.rw_spoutlines_k85_whole_streams_on_one_curv.Holds := by
  exact Pm.L.ends Pm.L.law_ok
