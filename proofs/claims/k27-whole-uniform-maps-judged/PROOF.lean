import PyProof.Rows.All
import Wide.All
import OpenK.AllK
import Wide.FinOn
import PyProof.EqAt
import PyProof.EqKinds
import PyProof.TupleCall
import HandS.Base
import HandS.Call
import HandS.List
import HandS.Comp
import HandS.Ends
import HandS.Words
import HandS.WordsList
import HandS.Exc
import HandS.TupAny
import HandS.TupMul
import HandS.Deep
import HandS.IsInst
import HandS.Wide
import HandS.Style
import KE.SortData
import HandS.Iter
import HandS.Walk
import HandS.WordsExc
import HandS.More
import HandS.Text
import KE.GoesEnum
import KE.GoesZip
import PySem.Challenge.RW_temperworks_k27_whole_uniform_maps_judge
set_option Elab.async false
set_option linter.all false
set_option maxRecDepth 100000
/-! FL1: trees in place of the heap: what a def computes as a function upon trees. -/
namespace FL
open PySem PySem.Spec PyProof.Rows L2

/-- a value as a tree; sl: a list that is only read; fn: a def or class of the module, by its name -/
inductive T where
  | non | bl (b : Bool) | int (i : Int) | str (x : Str)
  | lst (xs : List T) | tup (xs : List T) | sl (xs : List T) | fn (x : Str)
  | dk (ks : List Key) (vs : List T) | dt (ks : List (List Key)) (vs : List T)
/-- an object that is being changed -/
inductive O where
  | l (xs : List T)
  | dk (ks : List Key) (vs : List T)
  | dt (ks : List (List Key)) (vs : List T)
/-- a slot: unknown, a tree that stays, an object of one's own, the object that the caller lent -/
inductive SV where
  | un | fz (t : T) | ow (o : O) | pa (o : O)
def SV.owned : SV → Bool
  | .ow _ => true
  | .pa _ => true
  | _ => false
abbrev Env := List SV
/-- an exception: its class's name, its field -/
inductive Ex where
  | mk (cls : Str) (arg : Option (Str × T))
inductive Res (α : Type) where
  | bad | exc (e : Ex) | ok (a : α) (ρ : Env)
def Res.bind {α β : Type} (r : Res α) (k : α → Env → Res β) : Res β := match r with
  | .bad => .bad
  | .exc e => .exc e
  | .ok a ρ => k a ρ
abbrev M (α : Type) := Env → Res α
def Den {α : Type} (r : Res α) (p : α → Env → Prop) (x : Ex → Prop) : Prop := match r with
  | .bad => False
  | .exc e => x e
  | .ok a ρ => p a ρ
theorem Den.bind {α β : Type} {r : Res α} {k : α → Env → Res β} {p : β → Env → Prop} {x : Ex → Prop} (h : Den (r.bind k) p x) : Den r (fun a ρ => Den (k a ρ) p x) x := by
  cases r with
  | bad => exact h
  | exc e => exact h
  | ok a ρ => exact h
theorem Den.of_bind {α β : Type} {r : Res α} {k : α → Env → Res β} {p : β → Env → Prop} {x : Ex → Prop} (h : Den r (fun a ρ => Den (k a ρ) p x) x) : Den (r.bind k) p x := by
  cases r with
  | bad => exact h
  | exc e => exact h
  | ok a ρ => exact h
theorem Den.imp {α : Type} {r : Res α} {p q : α → Env → Prop} {x : Ex → Prop} (h : Den r p x) (hi : ∀ a ρ, p a ρ → q a ρ) : Den r q x := by
  cases r with
  | bad => exact h
  | exc e => exact h
  | ok a ρ => exact hi a ρ h

/-! ### trees and heaps -/
section
variable (K : PySem.W.Frag) (mg : Str → Option Value)
mutual
def Rep (F : Hp) : T → V → Prop
  | .non, v => v = .non
  | .bl b, v => v = .bl b
  | .int i, v => v = .int i
  | .str x, v => v = .str x
  | .lst ts, v => ∃ a vs, v = .ref a ∧ F a = some (.lst vs) ∧ Reps F ts vs
  | .sl ts, v => ∃ a vs, v = .ref a ∧ SqL K F a vs ∧ Reps F ts vs
  | .tup ts, v => ∃ a vs, v = .ref a ∧ SqT K F a vs ∧ Reps F ts vs
  | .fn x, v => ∃ a, v = .ref a ∧ mg x = some (.ref a)
  | .dk ks ts, v => ∃ a kvs, v = .ref a ∧ Rd F a (.dK kvs) ∧ kvs.map (·.1) = ks ∧ Reps F ts (kvs.map (·.2))
  | .dt ks ts, v => ∃ a kvs, v = .ref a ∧ Rd F a (.dT kvs) ∧ kvs.map (·.1) = ks ∧ Reps F ts (kvs.map (·.2))
def Reps (F : Hp) : List T → List V → Prop
  | [], vs => vs = []
  | t :: ts, vs => ∃ v r, vs = v :: r ∧ Rep F t v ∧ Reps F ts r
end
def ORep (F : Hp) : O → HO → Prop
  | .l ts, h => ∃ vs, h = .lst vs ∧ Reps K mg F ts vs
  | .dk ks ts, h => ∃ kvs, h = .dK kvs ∧ kvs.map (·.1) = ks ∧ Reps K mg F ts (kvs.map (·.2))
  | .dt ks ts, h => ∃ kvs, h = .dT kvs ∧ kvs.map (·.1) = ks ∧ Reps K mg F ts (kvs.map (·.2))
end
theorem same_SqL {K : PySem.W.Frag} {H H' : Hp} {a : Addr} {xs : List V} (e : Same H H') (h : SqL K H a xs) : SqL K H' a xs := e.seq h
theorem same_Rd {H H' : Hp} {a : Addr} {u : HO} (e : Same H H') (h : Rd H a u) : Rd H' a u := by
  rcases h with h | ⟨o, h⟩
  · exact .inl (e _ _ h)
  · exact .inr ⟨o, e _ _ h⟩
theorem same_SqT {K : PySem.W.Frag} {H H' : Hp} {a : Addr} {xs : List V} (e : Same H H') (h : SqT K H a xs) : SqT K H' a xs := by
  rcases h with h | h
  · exact .inl (same_Rd e h)
  · exact .inr h
section
variable {K : PySem.W.Frag} {mg : Str → Option Value}
mutual
theorem Rep.mono {F F' : Hp} (e : Same F F') : ∀ (t : T) (v : V), Rep K mg F t v → Rep K mg F' t v
  | .non, _, h => h
  | .bl _, _, h => h
  | .int _, _, h => h
  | .str _, _, h => h
  | .lst ts, _, h => by
    obtain ⟨a, vs, h1, h2, h3⟩ := h
    exact ⟨a, vs, h1, e _ _ h2, Reps.mono e ts vs h3⟩
  | .sl ts, _, h => by
    obtain ⟨a, vs, h1, h2, h3⟩ := h
    exact ⟨a, vs, h1, same_SqL e h2, Reps.mono e ts vs h3⟩
  | .tup ts, _, h => by
    obtain ⟨a, vs, h1, h2, h3⟩ := h
    exact ⟨a, vs, h1, same_SqT e h2, Reps.mono e ts vs h3⟩
  | .fn _, _, h => h
  | .dk ks ts, _, h => by
    obtain ⟨a, kvs, h1, h2, h3, h4⟩ := h
    exact ⟨a, kvs, h1, same_Rd e h2, h3, Reps.mono e ts _ h4⟩
  | .dt ks ts, _, h => by
    obtain ⟨a, kvs, h1, h2, h3, h4⟩ := h
    exact ⟨a, kvs, h1, same_Rd e h2, h3, Reps.mono e ts _ h4⟩
theorem Reps.mono {F F' : Hp} (e : Same F F') : ∀ (ts : List T) (vs : List V), Reps K mg F ts vs → Reps K mg F' ts vs
  | [], _, h => h
  | t :: ts, _, h => by
    obtain ⟨v, r, h1, h2, h3⟩ := h
    exact ⟨v, r, h1, Rep.mono e t v h2, Reps.mono e ts r h3⟩
end
theorem ORep.mono {F F' : Hp} (e : Same F F') {o : O} {h : HO} (r : ORep K mg F o h) : ORep K mg F' o h := by
  cases o with
  | l ts => obtain ⟨vs, h1, h2⟩ := r; exact ⟨vs, h1, h2.mono e⟩
  | dk ks ts => obtain ⟨kvs, h1, h2, h3⟩ := r; exact ⟨kvs, h1, h2, h3.mono e⟩
  | dt ks ts => obtain ⟨kvs, h1, h2, h3⟩ := r; exact ⟨kvs, h1, h2, h3.mono e⟩
theorem Reps.length {F : Hp} : ∀ {ts : List T} {vs : List V}, Reps K mg F ts vs → ts.length = vs.length
  | [], _, h => by
    have e : _ = _ := h
    subst e; rfl
  | t :: ts, _, h => by
    obtain ⟨v, r, rfl, _, h3⟩ := h
    have := Reps.length h3
    simp [this]
theorem Reps.get {F : Hp} : ∀ {ts : List T} {vs : List V} {i : Nat} {t : T}, Reps K mg F ts vs → ts[i]? = some t → ∃ v, vs[i]? = some v ∧ Rep K mg F t v
  | [], _, _, _, _, e => by simp at e
  | t :: ts, _, 0, u, h, e => by
    obtain ⟨v, r, rfl, h2, h3⟩ := h
    simp at e; subst e
    exact ⟨v, rfl, h2⟩
  | t :: ts, _, i + 1, u, h, e => by
    obtain ⟨v, r, rfl, h2, h3⟩ := h
    obtain ⟨w, h4, h5⟩ := Reps.get (i := i) (t := u) h3 (by simpa using e)
    exact ⟨w, by simpa using h4, h5⟩
theorem Reps.nil {F : Hp} : Reps K mg F [] [] := rfl
theorem Reps.cons {F : Hp} {t : T} {ts : List T} {v : V} {vs : List V} (h : Rep K mg F t v) (r : Reps K mg F ts vs) : Reps K mg F (t :: ts) (v :: vs) := ⟨v, vs, rfl, h, r⟩
theorem Reps.append {F : Hp} : ∀ {ts us : List T} {vs ws : List V}, Reps K mg F ts vs → Reps K mg F us ws → Reps K mg F (ts ++ us) (vs ++ ws)
  | [], _, _, _, h, q => by
    have e : _ = _ := h
    subst e; exact q
  | t :: ts, _, _, _, h, q => by
    obtain ⟨v, r, rfl, h2, h3⟩ := h
    exact ⟨v, r ++ _, rfl, h2, h3.append q⟩
theorem Reps.one {F : Hp} {t : T} {v : V} (h : Rep K mg F t v) : Reps K mg F [t] [v] := .cons h .nil
theorem Reps.take {F : Hp} : ∀ {ts : List T} {vs : List V} (n : Nat), Reps K mg F ts vs → Reps K mg F (ts.take n) (vs.take n)
  | _, _, 0, _ => by simp [Reps]
  | [], _, n + 1, h => by
    have e : _ = _ := h
    subst e; exact .nil
  | t :: ts, _, n + 1, h => by
    obtain ⟨v, r, rfl, h2, h3⟩ := h
    exact ⟨v, r.take n, rfl, h2, h3.take n⟩
theorem Reps.drop {F : Hp} : ∀ {ts : List T} {vs : List V} (n : Nat), Reps K mg F ts vs → Reps K mg F (ts.drop n) (vs.drop n)
  | _, _, 0, h => h
  | [], _, n + 1, h => by
    have e : _ = _ := h
    subst e; exact .nil
  | t :: ts, _, n + 1, h => by
    obtain ⟨v, r, rfl, h2, h3⟩ := h
    exact h3.drop n
theorem Reps.set {F : Hp} {t : T} {v : V} (ht : Rep K mg F t v) : ∀ {ts : List T} {vs : List V} (n : Nat), Reps K mg F ts vs → Reps K mg F (ts.set n t) (vs.set n v)
  | [], _, _, h => by
    have e : _ = _ := h
    subst e; exact .nil
  | _ :: ts, _, 0, h => by
    obtain ⟨v, r, rfl, h2, h3⟩ := h
    exact ⟨_, r, rfl, ht, h3⟩
  | _ :: ts, _, n + 1, h => by
    obtain ⟨v, r, rfl, h2, h3⟩ := h
    exact ⟨v, _, rfl, h2, h3.set ht n⟩
theorem Reps.ints {F : Hp} : ∀ {ns : List Int} {vs : List V}, Reps K mg F (ns.map T.int) vs → vs = ns.map V.int
  | [], _, h => h
  | n :: ns, _, h => by
    obtain ⟨v, r, rfl, h2, h3⟩ := h
    have e : v = V.int n := h2
    rw [e, Reps.ints h3]; rfl
theorem Reps.of_ints {F : Hp} : ∀ {ns : List Int}, Reps K mg F (ns.map T.int) (ns.map V.int)
  | [] => rfl
  | n :: ns => ⟨_, _, rfl, rfl, Reps.of_ints⟩
end

/-! ### the state: trees and slots -/
/-- what one slot says -/
def Slot (K : PySem.W.Frag) (mg : Str → Option Value) (B F : Hp) (pm : Option Addr) (H : Hp) (α : Nat → Addr) (σ : L2.St) (i : Nat) : SV → Prop
  | .un => True
  | .fz t => ∃ v, σ[i]? = some (some v) ∧ Rep K mg F t v
  | .ow o => σ[i]? = some (some (.ref (α i))) ∧ F (α i) = none ∧ B (α i) = none ∧ pm ≠ some (α i) ∧ ∃ h, H (α i) = some h ∧ ORep K mg F o h
  | .pa o => σ[i]? = some (some (.ref (α i))) ∧ F (α i) = none ∧ B (α i) = none ∧ pm = some (α i) ∧ ∃ h, H (α i) = some h ∧ ORep K mg F o h
structure RS (K : PySem.W.Frag) (mg : Str → Option Value) (B F0 : Hp) (pm : Option Addr) (F : Hp) (ρ : Env) (σ : L2.St) (H : Hp) : Prop where
  len : ρ.length = σ.length
  fh : Same F H
  bh : Same B H
  f0 : Same F0 F
  fr : ∀ a o, F a = some o → (∃ u, F0 a = some u) ∨ B a = none
  pt : ∀ a, pm = some a → ∃ o, H a = some o
  ex : ∃ α : Nat → Addr, (∀ i x, ρ[i]? = some x → Slot K mg B F pm H α σ i x) ∧ ∀ i j x y, ρ[i]? = some x → ρ[j]? = some y → x.owned = true → y.owned = true → i ≠ j → α i ≠ α j
section
variable {K : PySem.W.Frag} {mg : Str → Option Value} {B F0 F F' : Hp} {pm : Option Addr} {ρ ρ' : Env} {σ σ' : L2.St} {H H' : Hp} {α : Nat → Addr} {i : Nat} {x : SV}
theorem upd_none_of {H : Hp} {p a : Addr} {o : HO} (h : a ≠ p) (e : H a = none) : upd H p o a = none := by rw [upd_ne h]; exact e
theorem same_upd {H : Hp} {p : Addr} {o : HO} (n : H p = none) : Same H (upd H p o) := fun b x e => by
  rw [upd_ne (ne_of_none e n)]
  exact e
theorem same_upd2 {F H : Hp} {p : Addr} {o : HO} (s : Same F H) : Same (L2.upd F p o) (L2.upd H p o) := fun b x e => by
  by_cases hb : b = p
  · subst hb; rw [upd_same] at e ⊢; exact e
  · rw [upd_ne hb] at e ⊢; exact s _ _ e
theorem RS.fnone (R : RS K mg B F0 pm F ρ σ H) {p : Addr} (n : H p = none) : F p = none := R.fh.free n
theorem RS.bnone (R : RS K mg B F0 pm F ρ σ H) {p : Addr} (n : H p = none) : B p = none := R.bh.free n
/-- the heap has grown (all that was stands); the same trees -/
theorem RS.grow (R : RS K mg B F0 pm F ρ σ H) (e : Same H H') : RS K mg B F0 pm F ρ σ H' := by
  obtain ⟨α, h1, h2⟩ := R.ex
  refine ⟨R.len, R.fh.trans e, R.bh.trans e, R.f0, R.fr, fun a z => let ⟨o, q⟩ := R.pt a z; ⟨o, e _ _ q⟩, α, fun i x hx => ?_, h2⟩
  have q := h1 i x hx
  cases x with
  | un => trivial
  | fz t => exact q
  | ow o => obtain ⟨a, b, c, d, h, e1, e2⟩ := q; exact ⟨a, b, c, d, h, e _ _ e1, e2⟩
  | pa o => obtain ⟨a, b, c, d, h, e1, e2⟩ := q; exact ⟨a, b, c, d, h, e _ _ e1, e2⟩
/-- a new object that stays -/
theorem RS.newF {p : Addr} {o : HO} (R : RS K mg B F0 pm F ρ σ H) (n : H p = none) : RS K mg B F0 pm (upd F p o) ρ σ (upd H p o) := by
  have nF := R.fnone n
  have sF : Same F (upd F p o) := same_upd nF
  have sH : Same H (upd H p o) := same_upd n
  obtain ⟨α, h1, h2⟩ := R.ex
  refine ⟨R.len, same_upd2 R.fh, R.bh.trans sH, R.f0.trans sF, fun a u e => ?_, fun a z => let ⟨o, q⟩ := R.pt a z; ⟨o, sH _ _ q⟩, α, fun i x hx => ?_, h2⟩
  · by_cases ha : a = p
    · subst ha; exact .inr (R.bnone n)
    · rw [upd_ne ha] at e; exact R.fr a u e
  · have q := h1 i x hx
    cases x with
    | un => trivial
    | fz t => obtain ⟨v, a, b⟩ := q; exact ⟨v, a, b.mono sF⟩
    | ow o => obtain ⟨a, b, c, d, h, e1, e2⟩ := q; exact ⟨a, upd_none_of (ne_of_none e1 n) b, c, d, h, sH _ _ e1, e2.mono sF⟩
    | pa o => obtain ⟨a, b, c, d, h, e1, e2⟩ := q; exact ⟨a, upd_none_of (ne_of_none e1 n) b, c, d, h, sH _ _ e1, e2.mono sF⟩
theorem RS.slot (R : RS K mg B F0 pm F ρ σ H) {t : T} (h : ρ[i]? = some (.fz t)) : ∃ v, σ[i]? = some (some v) ∧ Rep K mg F t v := by
  obtain ⟨α, h1, _⟩ := R.ex
  exact h1 i _ h
/-- a slot is given a tree -/
theorem RS.setF {t : T} {v : V} (R : RS K mg B F0 pm F ρ σ H) (i : Nat) (r : Rep K mg F t v) : RS K mg B F0 pm F (ρ.set i (.fz t)) (σ.set i (some v)) H := by
  obtain ⟨α, h1, h2⟩ := R.ex
  have hl := R.len
  refine ⟨by simpa using R.len, R.fh, R.bh, R.f0, R.fr, R.pt, α, fun j x hx => ?_, fun j k x y hx hy ox oy ne => ?_⟩
  · by_cases hj : j = i
    · subst hj
      have hlt : j < ρ.length := by
        have := (List.getElem?_eq_some_iff.mp hx).1
        simpa using this
      rw [List.getElem?_set_self hlt] at hx
      cases hx
      exact ⟨v, List.getElem?_set_self (by omega), r⟩
    · rw [List.getElem?_set_ne (Ne.symm hj)] at hx
      have q := h1 j x hx
      have es : (σ.set i (some v))[j]? = σ[j]? := List.getElem?_set_ne (Ne.symm hj)
      cases x with
      | un => trivial
      | fz t => obtain ⟨v, a, b⟩ := q; exact ⟨v, es.trans a, b⟩
      | ow o => obtain ⟨a, b⟩ := q; exact ⟨es.trans a, b⟩
      | pa o => obtain ⟨a, b⟩ := q; exact ⟨es.trans a, b⟩
  · have g : ∀ m z, (ρ.set i (.fz t))[m]? = some z → z.owned = true → m ≠ i ∧ ρ[m]? = some z := fun m z hz oz => by
      by_cases hm : m = i
      · subst hm
        have hlt : m < ρ.length := by
          have := (List.getElem?_eq_some_iff.mp hz).1
          simpa using this
        rw [List.getElem?_set_self hlt] at hz
        cases hz; cases oz
      · rw [List.getElem?_set_ne (Ne.symm hm)] at hz
        exact ⟨hm, hz⟩
    exact h2 j k x y (g j x hx ox).2 (g k y hy oy).2 ox oy ne
/-- slots forgotten on the left -/
theorem RS.forget (R : RS K mg B F0 pm F ρ σ H) (hl : ρ'.length = ρ.length) (h : ∀ (i : Nat) (x : SV), ρ'[i]? = some x → x = SV.un ∨ ρ[i]? = some x) : RS K mg B F0 pm F ρ' σ H := by
  obtain ⟨α, h1, h2⟩ := R.ex
  refine ⟨hl.trans R.len, R.fh, R.bh, R.f0, R.fr, R.pt, α, fun i x hx => ?_, fun j k x y hx hy ox oy ne => ?_⟩
  · rcases h i x hx with e | e
    · subst e; trivial
    · exact h1 i x e
  · rcases h j x hx with e | e
    · subst e; cases ox
    · rcases h k y hy with e' | e'
      · subst e'; cases oy
      · exact h2 j k x y e e' ox oy ne
end
/-! ### one slot more -/
section
variable {K : PySem.W.Frag} {mg : Str → Option Value} {B F0 F F' : Hp} {pm : Option Addr} {ρ ρ' ys : Env} {σ σ' ws : L2.St} {H H' : Hp} {i : Nat} {x : SV}
theorem get_mid {α : Type} {xs ys : List α} {x : α} (j : Nat) : (xs ++ x :: ys)[j]? = if j < xs.length then (xs ++ ys)[j]? else if j = xs.length then some x else (xs ++ ys)[j - 1]? := by
  by_cases h : j < xs.length
  · rw [if_pos h, List.getElem?_append_left h, List.getElem?_append_left h]
  · rw [if_neg h]
    by_cases h2 : j = xs.length
    · rw [if_pos h2]
      subst h2
      rw [List.getElem?_append_right (Nat.le_refl _)]
      simp
    · rw [if_neg h2, List.getElem?_append_right (by omega), List.getElem?_append_right (by omega)]
      have e : j - xs.length = (j - 1 - xs.length) + 1 := by omega
      rw [e, List.getElem?_cons_succ]
/-- a slot put in at the end of ρ -/
theorem RS.ins {B' : Hp} {v : V} {p : Addr} (R : RS K mg B' F0 pm F (ρ ++ ys) (σ ++ ws) H) (hl : ρ.length = σ.length) (bb : Same B B')
    (hx : (∃ t, x = .fz t ∧ Rep K mg F t v) ∨ (∃ o h, x = .ow o ∧ v = .ref p ∧ F p = none ∧ B p = none ∧ pm ≠ some p ∧ H p = some h ∧ ORep K mg F o h ∧ ∃ u, B' p = some u)) :
    RS K mg B F0 pm F (ρ ++ x :: ys) (σ ++ some v :: ws) H := by
  obtain ⟨α, h1, h2⟩ := R.ex
  have hlen := R.len
  have bn : ∀ a, B' a = none → B a = none := fun a e => bb.free e
  refine ⟨by simp only [List.length_append, List.length_cons] at hlen ⊢; omega, R.fh, bb.trans R.bh, R.f0, fun a o e => (R.fr a o e).imp id (bn a), R.pt, fun j => if j < ρ.length then α j else if j = ρ.length then p else α (j - 1), fun j y hy => ?_, fun j m y z hy hz oy oz ne => ?_⟩
  · have es : (σ ++ some v :: ws)[j]? = if j < ρ.length then (σ ++ ws)[j]? else if j = ρ.length then some (some v) else (σ ++ ws)[j - 1]? := by rw [get_mid, hl]
    rw [get_mid] at hy
    have step : ∀ m, (ρ ++ ys)[m]? = some y → (σ ++ some v :: ws)[j]? = (σ ++ ws)[m]? → (if j < ρ.length then α j else if j = ρ.length then p else α (j - 1)) = α m → Slot K mg B F pm H (fun j => if j < ρ.length then α j else if j = ρ.length then p else α (j - 1)) (σ ++ some v :: ws) j y := fun m hm e1 e2 => by
      have q := h1 m y hm
      cases y with
      | un => trivial
      | fz t => obtain ⟨v', a, b⟩ := q; exact ⟨v', e1.trans a, b⟩
      | ow o => obtain ⟨a, b, c, d⟩ := q; unfold Slot; simp only [e2]; exact ⟨e1.trans a, b, bn _ c, d⟩
      | pa o => obtain ⟨a, b, c, d⟩ := q; unfold Slot; simp only [e2]; exact ⟨e1.trans a, b, bn _ c, d⟩
    by_cases hj : j < ρ.length
    · rw [if_pos hj] at hy es
      exact step j hy es (if_pos hj)
    · rw [if_neg hj] at hy es
      by_cases hj2 : j = ρ.length
      · rw [if_pos hj2] at hy es
        cases hy
        rcases hx with ⟨t, rfl, r⟩ | ⟨o, h, rfl, rfl, e1, e2, e3, e4, e5, _⟩
        · exact ⟨v, es, r⟩
        · unfold Slot
          simp only [if_neg hj, if_pos hj2]
          exact ⟨es, e1, e2, e3, h, e4, e5⟩
      · rw [if_neg hj2] at hy es
        exact step (j - 1) hy es (by rw [if_neg hj, if_neg hj2])
  · -- owned addresses differ
    have cls : ∀ n w, (ρ ++ x :: ys)[n]? = some w → w.owned = true → (∃ m, (ρ ++ ys)[m]? = some w ∧ (if n < ρ.length then α n else if n = ρ.length then p else α (n - 1)) = α m ∧ n = (if m < ρ.length then m else m + 1)) ∨ (n = ρ.length ∧ (if n < ρ.length then α n else if n = ρ.length then p else α (n - 1)) = p ∧ ∃ u, B' p = some u) := fun n w hn ow => by
      rw [get_mid] at hn
      by_cases hj : n < ρ.length
      · rw [if_pos hj] at hn
        exact .inl ⟨n, hn, if_pos hj, (if_pos hj).symm⟩
      · rw [if_neg hj] at hn
        by_cases hj2 : n = ρ.length
        · rw [if_pos hj2] at hn
          cases hn
          rcases hx with ⟨t, rfl, r⟩ | ⟨o, h, rfl, rfl, e1, e2, e3, e4, e5, e6⟩
          · cases ow
          · exact .inr ⟨hj2, by rw [if_neg hj, if_pos hj2], e6⟩
        · rw [if_neg hj2] at hn
          refine .inl ⟨n - 1, hn, by rw [if_neg hj, if_neg hj2], ?_⟩
          rw [if_neg (by omega)]
          omega
    have far : ∀ m w, (ρ ++ ys)[m]? = some w → w.owned = true → B' (α m) = none := fun m w hm ow => by
      have q := h1 m w hm
      cases w with
      | un => cases ow
      | fz t => cases ow
      | ow o => exact q.2.2.1
      | pa o => exact q.2.2.1
    show (if j < ρ.length then α j else if j = ρ.length then p else α (j - 1)) ≠ (if m < ρ.length then α m else if m = ρ.length then p else α (m - 1))
    rcases cls j y hy oy with ⟨a, ha, ea, na⟩ | ⟨ea0, ea, u, eu⟩
    · rcases cls m z hz oz with ⟨b, hb, eb, nb⟩ | ⟨eb0, eb, u, eu⟩
      · rw [ea, eb]
        refine h2 a b y z ha hb oy oz fun e => ne ?_
        rw [na, nb, e]
      · rw [ea, eb]
        intro e
        have := far a y ha oy
        rw [e, eu] at this
        cases this
    · rcases cls m z hz oz with ⟨b, hb, eb, nb⟩ | ⟨eb0, eb, _⟩
      · rw [ea, eb]
        intro e
        have := far b z hb oz
        rw [← e, eu] at this
        cases this
      · exact absurd (ea0.trans eb0.symm) ne
/-- a tree put in -/
theorem RS.insF {t : T} {v : V} (R : RS K mg B F0 pm F (ρ ++ ys) (σ ++ ws) H) (hl : ρ.length = σ.length) (r : Rep K mg F t v) : RS K mg B F0 pm F (ρ ++ .fz t :: ys) (σ ++ some v :: ws) H :=
  R.ins (p := 0) hl (Same.refl _) (.inl ⟨t, rfl, r⟩)
/-- a new object put in at the end -/
theorem RS.newO {o : O} {h : HO} {p : Addr} (R : RS K mg B F0 pm F ρ σ H) (r : ORep K mg F o h) (n : H p = none) : RS K mg B F0 pm F (ρ ++ [.ow o]) (σ ++ [some (.ref p)]) (upd H p h) := by
  have nF := R.fnone n
  have nB := R.bnone n
  have sH : Same H (upd H p h) := same_upd n
  have npm : pm ≠ some p := fun e => by
    obtain ⟨u, q⟩ := R.pt p e
    rw [n] at q; cases q
  have R1 : RS K mg (upd B p h) F0 pm F (ρ ++ []) (σ ++ []) (upd H p h) := by
    rw [List.append_nil, List.append_nil]
    obtain ⟨α, h1, h2⟩ := (R.grow sH).ex
    have nb : ∀ a, a ≠ p → B a = none → upd B p h a = none := fun a ne e => by rw [upd_ne ne]; exact e
    obtain ⟨α0, g1, g2⟩ := R.ex
    refine ⟨R.len, R.fh.trans sH, same_upd2 R.bh, R.f0, fun a u e => ?_, fun a z => let ⟨o, q⟩ := R.pt a z; ⟨o, sH _ _ q⟩, α0, fun j y hy => ?_, g2⟩
    · rcases R.fr a u e with q | q
      · exact .inl q
      · exact .inr (nb a (fun z => by subst z; rw [nF] at e; cases e) q)
    · have q := g1 j y hy
      cases y with
      | un => trivial
      | fz t => exact q
      | ow o => obtain ⟨a, b, c, d, u, e1, e2⟩ := q; exact ⟨a, b, nb _ (ne_of_none e1 n) c, d, u, sH _ _ e1, e2⟩
      | pa o => obtain ⟨a, b, c, d, u, e1, e2⟩ := q; exact ⟨a, b, nb _ (ne_of_none e1 n) c, d, u, sH _ _ e1, e2⟩
  exact R1.ins R.len (same_upd nB) (.inr ⟨o, h, rfl, rfl, nF, nB, npm, upd_same, r, h, upd_same⟩)
/-- an object at the end is set aside -/
theorem RS.aside {o : O} {v : V} (R : RS K mg B F0 pm F (ρ ++ [.ow o]) (σ ++ [some v]) H) (hl : ρ.length = σ.length) :
    ∃ p h, v = .ref p ∧ F p = none ∧ B p = none ∧ pm ≠ some p ∧ H p = some h ∧ ORep K mg F o h ∧ RS K mg (upd B p h) F0 pm F ρ σ H := by
  obtain ⟨α, h1, h2⟩ := R.ex
  have e0 : (ρ ++ [SV.ow o])[ρ.length]? = some (.ow o) := by simp
  obtain ⟨a, b, c, d, u, e1, e2⟩ := h1 ρ.length _ e0
  have ev : v = .ref (α ρ.length) := by
    rw [hl] at a
    simp only [List.getElem?_append_right (Nat.le_refl _), Nat.sub_self, List.getElem?_cons_zero, Option.some.injEq] at a
    rw [hl]; exact a
  have up : ∀ j y, ρ[j]? = some y → j < ρ.length ∧ (ρ ++ [SV.ow o])[j]? = some y := fun j y hy => by
    have hj := (List.getElem?_eq_some_iff.mp hy).1
    exact ⟨hj, by rw [List.getElem?_append_left hj]; exact hy⟩
  refine ⟨α ρ.length, u, ev, b, c, d, e1, e2, ⟨hl, R.fh, fun z w q => ?_, R.f0, fun z w q => ?_, R.pt, α, fun j y hy => ?_, fun j m y z hy hz oy oz ne => ?_⟩⟩
  · by_cases hz : z = α ρ.length
    · subst hz; rw [upd_same] at q; cases q; exact e1
    · rw [upd_ne hz] at q; exact R.bh _ _ q
  · rcases R.fr z w q with k | k
    · exact .inl k
    · refine .inr ?_
      rw [upd_ne (fun e => by subst e; rw [b] at q; cases q)]
      exact k
  · obtain ⟨hj, hy'⟩ := up j y hy
    have q := h1 j y hy'
    have es : (σ ++ [some v])[j]? = σ[j]? := List.getElem?_append_left (by omega)
    have ne : y.owned = true → α j ≠ α ρ.length := fun oy => h2 j ρ.length y _ hy' e0 oy rfl (by omega)
    cases y with
    | un => trivial
    | fz t => obtain ⟨v', a, b⟩ := q; exact ⟨v', es ▸ a, b⟩
    | ow o => obtain ⟨a, b, c, d⟩ := q; exact ⟨es ▸ a, b, by rw [upd_ne (ne rfl)]; exact c, d⟩
    | pa o => obtain ⟨a, b, c, d⟩ := q; exact ⟨es ▸ a, b, by rw [upd_ne (ne rfl)]; exact c, d⟩
  · exact h2 j m y z (up j y hy).2 (up m z hz).2 oy oz ne
/-- and taken back -/
theorem RS.back {o : O} {h : HO} {p : Addr} (R : RS K mg (upd B p h) F0 pm F' (ρ' ++ ys) (σ ++ ws) H') (hl : ρ'.length = σ.length) (f0 : F0 p = none) (nB : B p = none) (npm : pm ≠ some p) (r : ORep K mg F' o h) :
    RS K mg B F0 pm F' (ρ' ++ .ow o :: ys) (σ ++ some (.ref p) :: ws) H' := by
  refine R.ins hl (same_upd nB) (.inr ⟨o, h, rfl, rfl, ?_, nB, npm, R.bh _ _ upd_same, r, h, upd_same⟩)
  cases e : F' p with
  | none => rfl
  | some u =>
    rcases R.fr p u e with ⟨w, q⟩ | q
    · rw [f0] at q; cases q
    · rw [upd_same] at q; cases q
/-- the slot behind ρ goes to the place i -/
theorem RS.pop {x : SV} {v : Option V} (R : RS K mg B F0 pm F (ρ ++ x :: ys) (σ ++ v :: ws) H) (hl : ρ.length = σ.length) (i : Nat) (hi : i < ρ.length) : RS K mg B F0 pm F (ρ.set i x ++ ys) (σ.set i v ++ ws) H := by
  obtain ⟨α, h1, h2⟩ := R.ex
  have hlen := R.len
  have src : ∀ j y, (ρ.set i x ++ ys)[j]? = some y → ∃ m, (ρ ++ x :: ys)[m]? = some y ∧ (σ.set i v ++ ws)[j]? = (σ ++ v :: ws)[m]? ∧ m = (if j = i then ρ.length else if j < ρ.length then j else j + 1) := fun j y hy => by
    by_cases hj : j < ρ.length
    · have hj2 : j < (ρ.set i x).length := by simpa using hj
      have hj3 : j < (σ.set i v).length := by simp; omega
      rw [List.getElem?_append_left hj2] at hy
      by_cases e : j = i
      · subst e
        rw [List.getElem?_set_self hj] at hy
        cases hy
        refine ⟨ρ.length, by simp, ?_, by simp⟩
        rw [List.getElem?_append_left hj3, List.getElem?_set_self (by omega), hl]
        simp
      · rw [List.getElem?_set_ne (Ne.symm e)] at hy
        refine ⟨j, by rw [List.getElem?_append_left hj]; exact hy, ?_, by rw [if_neg e, if_pos hj]⟩
        rw [List.getElem?_append_left hj3, List.getElem?_set_ne (Ne.symm e), List.getElem?_append_left (by omega)]
    · have hj2 : ¬ j < (ρ.set i x).length := by simpa using hj
      rw [List.getElem?_append_right (by omega)] at hy
      have ei : j ≠ i := by omega
      refine ⟨j + 1, ?_, ?_, by rw [if_neg ei, if_neg hj]⟩
      · rw [List.getElem?_append_right (by omega)]
        have e : j + 1 - ρ.length = (j - ρ.length) + 1 := by omega
        rw [e, List.getElem?_cons_succ]
        simpa using hy
      · rw [List.getElem?_append_right (by simp; omega), List.getElem?_append_right (by omega)]
        have e : j + 1 - σ.length = (j - σ.length) + 1 := by omega
        rw [e, List.getElem?_cons_succ]
        simp
  refine ⟨by simp only [List.length_append, List.length_cons, List.length_set] at hlen ⊢; omega, R.fh, R.bh, R.f0, R.fr, R.pt, fun j => α (if j = i then ρ.length else if j < ρ.length then j else j + 1), fun j y hy => ?_, fun j m y z hy hz oy oz ne => ?_⟩
  · obtain ⟨m, hm, es, em⟩ := src j y hy
    have q := h1 m y hm
    cases y with
    | un => trivial
    | fz t => obtain ⟨v', a, b⟩ := q; exact ⟨v', es.trans a, b⟩
    | ow o => unfold Slot; simp only [← em]; obtain ⟨a, b⟩ := q; exact ⟨es.trans a, b⟩
    | pa o => unfold Slot; simp only [← em]; obtain ⟨a, b⟩ := q; exact ⟨es.trans a, b⟩
  · obtain ⟨a, ha, _, ea⟩ := src j y hy
    obtain ⟨b, hb, _, eb⟩ := src m z hz
    show α (if j = i then ρ.length else if j < ρ.length then j else j + 1) ≠ α (if m = i then ρ.length else if m < ρ.length then m else m + 1)
    rw [← ea, ← eb]
    refine h2 a b y z ha hb oy oz fun e => ne ?_
    rw [ea, eb] at e
    split at e <;> split at e <;> (try split at e) <;> (try split at e) <;> omega
end
end FL

/-! FL2: readings upon trees; expressions. -/
namespace FL
open PySem PySem.Spec L2

structure Bk where
  B : Hp
  F0 : Hp
  pm : Option Addr
abbrev RSk (X : Cx) (k : Bk) (F : Hp) (ρ : Env) (σ : L2.St) (H : Hp) : Prop := RS X.K X.mg k.B k.F0 k.pm F ρ σ H
/-- what is wanted where a tree t has been reckoned -/
abbrev Go (X : Cx) (k : Bk) (F : Hp) (ρ : Env) (σ : L2.St) (t : T) (Q : VK) : Prop := ∀ v F' H', RSk X k F' ρ σ H' → Same F F' → Rep X.K X.mg F' t v → Q v H'
/-- an exception that is let out -/
def XOk (K : PySem.W.Frag) (mg : Str → Option Value) (B : Hp) (E : XK) (e : Ex) : Prop := match e with
  | .mk c none => ∀ C H', mg c = some (.ref C) → Same B H' → E (.ref C) none H'
  | .mk c (some (f, t)) => ∀ C d v F' H', mg c = some (.ref C) → Same B H' → Same F' H' → Rep K mg F' t v → H' d = some (.xd [(f, v)]) → E (.ref C) (some d) H'
def tE (X : Cx) (E : XK) (f : M T) : TE := fun σ H Q => ∃ k F ρ, RSk X k F ρ σ H ∧ Den (f ρ) (fun t ρ' => Go X k F ρ' σ t Q) (XOk X.K X.mg k.B E)
def tT (X : Cx) (E : XK) (f : M Bool) : TT := fun σ H Q => ∃ k F ρ, RSk X k F ρ σ H ∧ Den (f ρ) (fun b ρ' => ∀ F' H', RSk X k F' ρ' σ H' → Same F F' → Q b H') (XOk X.K X.mg k.B E)
def tA (X : Cx) (E : XK) (f : M (List T)) : TA := fun σ H Q => ∃ k F ρ, RSk X k F ρ σ H ∧ Den (f ρ) (fun ts ρ' => ∀ vs F' H', RSk X k F' ρ' σ H' → Same F F' → Reps X.K X.mg F' ts vs → Q vs H') (XOk X.K X.mg k.B E)
/-- a new object, not yet anyone's: the state with one slot more -/
def tO (X : Cx) (E : XK) (f : M O) : TE := fun σ H Q => ∃ k F ρ, RSk X k F ρ σ H ∧ Den (f ρ) (fun o ρ' => ∀ v F' H', RSk X k F' (ρ' ++ [SV.ow o]) (σ ++ [some v]) H' → Same F F' → ρ'.length = σ.length → Q v H') (XOk X.K X.mg k.B E)
abbrev FE (X : Cx) (E : XK) (e : Expr) (f : M T) : Prop := PE X e (tE X E f)
abbrev FT (X : Cx) (E : XK) (e : Expr) (f : M Bool) : Prop := PT X e (tT X E f)
abbrev FA (X : Cx) (E : XK) (es : List Expr) (f : M (List T)) : Prop := PA X es (tA X E f)
abbrev FO (X : Cx) (E : XK) (e : Expr) (f : M O) : Prop := PE X e (tO X E f)

theorem pe_imp {X : Cx} {e : Expr} {t t' : TE} (h : PE X e t) (i : ∀ σ H Q, t' σ H Q → t σ H Q) : PE X e t' := ⟨fun pins s σ H Q I q => h.run pins s σ H Q I (i _ _ _ q)⟩
theorem pt_imp {X : Cx} {e : Expr} {t t' : TT} (h : PT X e t) (i : ∀ σ H Q, t' σ H Q → t σ H Q) : PT X e t' := ⟨fun pins s σ H Q I q => h.run pins s σ H Q I (i _ _ _ q)⟩
theorem pw_imp {X : Cx} {e : Expr} {t t' : TT} (h : PW X e t) (i : ∀ σ H Q, t' σ H Q → t σ H Q) : PW X e t' := ⟨fun wh pins s σ H Q I q => h.run wh pins s σ H Q I (i _ _ _ q)⟩
theorem pa_imp {X : Cx} {e : List Expr} {t t' : TA} (h : PA X e t) (i : ∀ σ H Q, t' σ H Q → t σ H Q) : PA X e t' := ⟨fun pos pins s σ H Q I q => h.run pos pins s σ H Q I (i _ _ _ q)⟩
theorem ps_imp {X : Cx} {e : Stmt} {t t' : TS} (h : PS X e t) (i : ∀ D σ H, t' D σ H → t D σ H) : PS X e t' := ⟨fun pins s σ H D I q => h.run pins s σ H D I (i _ _ _ q)⟩

/-- of an option: none is bad -/
def liftO {α : Type} (o : Option α) (ρ : Env) : Res α := match o with
  | some a => .ok a ρ
  | none => .bad
theorem Den.lift {α : Type} {o : Option α} {ρ : Env} {p : α → Env → Prop} {x : Ex → Prop} (h : Den (liftO o ρ) p x) : ∃ a, o = some a ∧ p a ρ := by
  cases o with
  | none => exact h.elim
  | some a => exact ⟨a, rfl, h⟩

section
variable {X : Cx} {E : XK} {a b c e : Expr} {fa fb fc f : M T} {pos : Pos}

/-! ### names and constants -/
def rdV (i : Nat) : M T := fun ρ => match ρ[i]? with
  | some (.fz t) => .ok t ρ
  | _ => .bad
theorem fe_var {i : Nat} {x : Str} (hN : X.N[i]? = some x := by rfl) (hv : Vis X.env.scope x := by first | exact Or.inl rfl | exact Or.inr (Or.inl rfl) | exact Or.inr (Or.inr rfl)) (hd : (x == ("__debug__" : Str)) = false := by decide)
    (hcd : (x == ("__classdict__" : Str)) = false := by decide) : FE X E (.Name x pos) (rdV i) := by
  refine pe_imp (pe_var hN hv hd hcd) fun σ H Q h => ?_
  obtain ⟨k, F, ρ, R, h⟩ := h
  unfold rdV at h
  split at h
  · rename_i t e
    obtain ⟨v, e1, r⟩ := R.slot e
    exact ⟨v, e1, h v F H R (Same.refl _) r⟩
  · exact h.elim
/-- a constant tree -/
def rdC (t : T) : M T := fun ρ => .ok t ρ
theorem fe_int {i j pos} : FE X E (.Constant (.int i) j pos) (rdC (.int i)) := pe_imp pe_int fun σ H Q ⟨k, F, ρ, R, h⟩ => h _ F H R (Same.refl _) rfl
theorem fe_bl {b j pos} : FE X E (.Constant (.bool b) j pos) (rdC (.bl b)) := pe_imp pe_bl fun σ H Q ⟨k, F, ρ, R, h⟩ => h _ F H R (Same.refl _) rfl
theorem fe_non {j pos} : FE X E (.Constant .none j pos) (rdC .non) := pe_imp pe_non fun σ H Q ⟨k, F, ρ, R, h⟩ => h _ F H R (Same.refl _) rfl
theorem fe_str {x j pos} : FE X E (.Constant (.str x) j pos) (rdC (.str x)) := pe_imp pe_str fun σ H Q ⟨k, F, ρ, R, h⟩ => h _ F H R (Same.refl _) rfl
/-- a module's constant, an int or a text -/
theorem fe_gint {x : Str} {i : Int} {t : Tok} (hg : Gl X x) (hm : X.mg x = some (.int i t)) (hd : (x == ("__debug__" : Str)) = false := by decide) : FE X E (.Name x pos) (rdC (.int i)) :=
  pe_imp (pe_glob (v := .int i) hg hm ⟨_, rfl⟩ hd) fun σ H Q ⟨k, F, ρ, R, h⟩ => h _ F H R (Same.refl _) rfl
theorem fe_gstr {x y : Str} {t : Tok} (hg : Gl X x) (hm : X.mg x = some (.str y t)) (hd : (x == ("__debug__" : Str)) = false := by decide) : FE X E (.Name x pos) (rdC (.str y)) :=
  pe_imp (pe_glob (v := .str y) hg hm ⟨_, rfl⟩ hd) fun σ H Q ⟨k, F, ρ, R, h⟩ => h _ F H R (Same.refl _) rfl
theorem fe_gfn {x : Str} {A : Addr} (hg : Gl X x) (hm : X.mg x = some (.ref A)) (hd : (x == ("__debug__" : Str)) = false := by decide) : FE X E (.Name x pos) (rdC (.fn x)) :=
  pe_imp (pe_glob (v := .ref A) hg hm rfl hd) fun σ H Q ⟨k, F, ρ, R, h⟩ => h _ F H R (Same.refl _) ⟨A, rfl, hm⟩

/-! ### operators -/
def op2 (o : T → T → Option T) (fa fb : M T) : M T := fun ρ => (fa ρ).bind fun x ρ => (fb ρ).bind fun y ρ => liftO (o x y) ρ
def op1 (o : T → Option T) (fa : M T) : M T := fun ρ => (fa ρ).bind fun x ρ => liftO (o x) ρ
/-- a rule of values serves an operator of trees -/
def OpT (X : Cx) (r : R2) (o : T → T → Option T) : Prop := ∀ (k : Bk) (F : Hp) (ρ : Env) (σ : L2.St) (H : Hp) (Q : VK) (x y t : T) (v u : V), RSk X k F ρ σ H → Rep X.K X.mg F x v → Rep X.K X.mg F y u → o x y = some t → Go X k F ρ σ t Q → r v u H Q
theorem tOp_of {r : R2} {o : T → T → Option T} (hr : OpT X r o) {σ : L2.St} {H : Hp} {Q : VK} (h : tE X E (op2 o fa fb) σ H Q) : tOp r (tE X E fa) (tE X E fb) σ H Q := by
  obtain ⟨k, F, ρ, R, h⟩ := h
  refine ⟨k, F, ρ, R, (Den.bind h).imp fun x ρ1 h1 v F1 H1 R1 s1 r1 => ?_⟩
  refine ⟨k, F1, ρ1, R1, (Den.bind h1).imp fun y ρ2 h2 u F2 H2 R2 s2 r2 => ?_⟩
  obtain ⟨t, e, q⟩ := Den.lift h2
  exact hr k F2 ρ2 σ H2 Q x y t v u R2 (r1.mono s2) r2 e fun v' F' H' R' s' r' => q v' F' H' R' (s1.trans (s2.trans s')) r'
theorem fe_bin {op : Operator} {r : R2} {o : T → T → Option T} (ho : OpR X (binaryOp op) r) (hr : OpT X r o) (ha : FE X E a fa) (hb : FE X E b fb) : FE X E (.BinOp a op b pos) (op2 o fa fb) :=
  pe_imp (pe_op ho ha hb) fun σ H Q h => tOp_of hr h
theorem fe_cmp {op : CmpOp} {r : R2} {o : T → T → Option T} (ho : OpR X (compareOp op) r) (hr : OpT X r o) (ha : FE X E a fa) (hb : FE X E b fb) (hm : behindInMarks op b = false := by rfl) : FE X E (.Compare a [op] [b] pos) (op2 o fa fb) :=
  pe_imp (pe_cmpR ho ha hb hm) fun σ H Q h => tOp_of hr h
def toB (t : T) : Option Bool := match t with
  | .bl b => some b
  | _ => none
def tst (f : M T) : M Bool := fun ρ => (f ρ).bind fun t ρ => liftO (toB t) ρ
theorem toB_some {t : T} {b : Bool} (h : toB t = some b) : t = .bl b := by
  cases t <;> simp [toB] at h
  subst h; rfl
theorem ft_cmp {op : CmpOp} {r : R2} {o : T → T → Option T} (ho : OpR X (compareOp op) r) (hr : OpT X r o) (ha : FE X E a fa) (hb : FE X E b fb) (hm : behindInMarks op b = false := by rfl) : FT X E (.Compare a [op] [b] pos) (tst (op2 o fa fb)) := by
  refine pt_imp (pt_cmpR ho ha hb hm) fun σ H Q h => ?_
  obtain ⟨k, F, ρ, R, h⟩ := h
  refine tOp_of (o := o) (E := E) hr ⟨k, F, ρ, R, (Den.bind h).imp fun t ρ1 h1 v F1 H1 R1 s1 r1 => ?_⟩
  obtain ⟨b, e, q⟩ := Den.lift h1
  have e1 := toB_some e
  subst e1
  exact ⟨b, r1, q F1 H1 R1 s1⟩
theorem OpT.or1 {r r' : R2} {o : T → T → Option T} (h : OpT X r o) : OpT X (fun x y H Q => r x y H Q ∨ r' x y H Q) o := fun k F ρ σ H Q x y t v u R rx ry e g => .inl (h k F ρ σ H Q x y t v u R rx ry e g)
theorem OpT.or2 {r r' : R2} {o : T → T → Option T} (h : OpT X r' o) : OpT X (fun x y H Q => r x y H Q ∨ r' x y H Q) o := fun k F ρ σ H Q x y t v u R rx ry e g => .inr (h k F ρ σ H Q x y t v u R rx ry e g)
end
end FL

/-! FL3: operators upon trees. -/
namespace FL
open PySem PySem.Spec L2
theorem szL : (sizeLine : Nat) = 16777216 := sizeLine_eq
/-! ### data -/
mutual
def toD : T → Option PyData
  | .non => some .none
  | .bl b => some (.bool b)
  | .int i => some (.int i)
  | .str x => some (.str x)
  | .lst ts => (toDs ts).map PyData.list
  | .sl ts => (toDs ts).map PyData.list
  | .tup ts => (toDs ts).map PyData.tuple
  | .fn _ => none
  | .dk _ _ => none
  | .dt _ _ => none
def toDs : List T → Option (List PyData)
  | [] => some []
  | t :: ts => match toD t, toDs ts with
    | some d, some ds => some (d :: ds)
    | _, _ => none
end
section
variable {K : PySem.W.Frag} {mg : Str → Option Value} {F H : Hp}
mutual
theorem dp_of (s : Same F H) : ∀ (t : T) (v : V) (d : PyData), Rep K mg F t v → toD t = some d → Dp K H v d
  | .non, v, d, r, e => by
    have e1 : v = .non := r
    simp only [toD, Option.some.injEq] at e
    subst e1 e; exact .non
  | .bl b, v, d, r, e => by
    have e1 : v = .bl b := r
    simp only [toD, Option.some.injEq] at e
    subst e1 e; exact .bl b
  | .int b, v, d, r, e => by
    have e1 : v = .int b := r
    simp only [toD, Option.some.injEq] at e
    subst e1 e; exact .int b
  | .str b, v, d, r, e => by
    have e1 : v = .str b := r
    simp only [toD, Option.some.injEq] at e
    subst e1 e; exact .str b
  | .lst ts, v, d, r, e => by
    obtain ⟨a, vs, e1, h, rs⟩ := r
    simp only [toD, Option.map_eq_some_iff] at e
    obtain ⟨ds, e2, e3⟩ := e
    subst e1 e3
    exact .lst (SqL.of (s _ _ h)) (dps_of s ts vs ds rs e2)
  | .sl ts, v, d, r, e => by
    obtain ⟨a, vs, e1, h, rs⟩ := r
    simp only [toD, Option.map_eq_some_iff] at e
    obtain ⟨ds, e2, e3⟩ := e
    subst e1 e3
    exact .lst (same_SqL s h) (dps_of s ts vs ds rs e2)
  | .tup ts, v, d, r, e => by
    obtain ⟨a, vs, e1, h, rs⟩ := r
    simp only [toD, Option.map_eq_some_iff] at e
    obtain ⟨ds, e2, e3⟩ := e
    subst e1 e3
    exact .tup (same_SqT s h) (dps_of s ts vs ds rs e2)
  | .fn _, _, _, _, e => by cases e
  | .dk _ _, _, _, _, e => by cases e
  | .dt _ _, _, _, _, e => by cases e
theorem dps_of (s : Same F H) : ∀ (ts : List T) (vs : List V) (ds : List PyData), Reps K mg F ts vs → toDs ts = some ds → DpAll K H vs ds
  | [], vs, ds, r, e => by
    have e1 : vs = [] := r
    simp only [toDs, Option.some.injEq] at e
    subst e1 e; exact .nil
  | t :: ts, vs, ds, r, e => by
    obtain ⟨v, w, e1, r1, r2⟩ := r
    subst e1
    unfold toDs at e
    split at e
    · rename_i d ds' h1 h2
      simp only [Option.some.injEq] at e
      subst e
      exact .cons (dp_of s t v d r1 h1) (dps_of s ts w ds' r2 h2)
    · cases e
end
end
/-- flat values -/
def flatT : T → Option V
  | .non => some .non
  | .bl b => some (.bl b)
  | .int i => some (.int i)
  | .str x => some (.str x)
  | _ => none
theorem flat_rep {K : PySem.W.Frag} {mg : Str → Option Value} {F : Hp} {t : T} {v w : V} (r : Rep K mg F t v) (e : flatT t = some w) : v = w := by
  cases t <;> simp only [flatT, Option.some.injEq, reduceCtorEq] at e <;> subst e <;> exact r
/-- == -/
def eqT (x y : T) : Option Bool := match flatT x, flatT y with
  | some v, some u => if scal v u then some (decide (v = u)) else match toD x, toD y with
    | some d, some e => if SeqAt.shaped d && SeqAt.shaped e then some (PyData.eqv d e) else none
    | _, _ => none
  | _, _ => match toD x, toD y with
    | some d, some e => if SeqAt.shaped d && SeqAt.shaped e then some (PyData.eqv d e) else none
    | _, _ => none
def eqO (x y : T) : Option T := (eqT x y).map T.bl
def neO (x y : T) : Option T := (eqT x y).map fun b => T.bl (!b)
section
variable {X : Cx}
theorem units64 {k : Nat} {A : Around} (hr : Room k A) : A.units + 64 < cLine := hr.units
theorem eqT_cases {k : Bk} {F : Hp} {ρ : Env} {σ : L2.St} {H : Hp} {x y : T} {v u : V} {b : Bool} (R : RSk X k F ρ σ H) (rx : Rep X.K X.mg F x v) (ry : Rep X.K X.mg F y u) (e : eqT x y = some b) :
    (scal v u = true ∧ decide (v = u) = b) ∨ ∃ d e, Dp X.K H v d ∧ Dp X.K H u e ∧ SeqAt.shaped d = true ∧ SeqAt.shaped e = true ∧ PyData.eqv d e = b := by
  have dat : ∀ {b}, (match toD x, toD y with
      | some d, some e => if SeqAt.shaped d && SeqAt.shaped e then some (PyData.eqv d e) else none
      | _, _ => none) = some b → ∃ d e, Dp X.K H v d ∧ Dp X.K H u e ∧ SeqAt.shaped d = true ∧ SeqAt.shaped e = true ∧ PyData.eqv d e = b := fun {b} q => by
    split at q
    · rename_i d e hd he
      split at q
      · rename_i hs
        rw [Bool.and_eq_true] at hs
        exact ⟨d, e, dp_of R.fh x v d rx hd, dp_of R.fh y u e ry he, hs.1, hs.2, Option.some.inj q⟩
      · cases q
    · cases q
  unfold eqT at e
  split at e
  · rename_i v' u' h1 h2
    have e1 := flat_rep rx h1
    have e2 := flat_rep ry h2
    subst e1 e2
    split at e
    · rename_i hs
      exact .inl ⟨hs, Option.some.inj e⟩
    · exact .inr (dat e)
  · exact .inr (dat e)
def rEqT (X : Cx) : R2 := fun x y H Q => rEq x y H Q ∨ rEqD X.K x y H Q
def rNeT (X : Cx) : R2 := fun x y H Q => rNe x y H Q ∨ rNeD X.K x y H Q
theorem op_eqT (hu : X.A.units + 64 < cLine) : OpR X (compareOp .Eq) (rEqT X) := op_eq.or (op_eqD hu)
theorem op_neT (hu : X.A.units + 64 < cLine) : OpR X (compareOp .NotEq) (rNeT X) := op_ne.or (op_neD hu)
theorem ot_eq : OpT X (rEqT X) eqO := fun k F ρ σ H Q x y t v u R rx ry e g => by
  unfold eqO at e
  rw [Option.map_eq_some_iff] at e
  obtain ⟨b, e, rfl⟩ := e
  rcases eqT_cases R rx ry e with ⟨h1, h2⟩ | ⟨d, e', h1, h2, h3, h4, h5⟩
  · exact .inl ⟨h1, by rw [h2]; exact g (.bl b) F H R (Same.refl _) rfl⟩
  · exact .inr ⟨d, e', h1, h2, h3, h4, by rw [h5]; exact g (.bl b) F H R (Same.refl _) rfl⟩
theorem ot_ne : OpT X (rNeT X) neO := fun k F ρ σ H Q x y t v u R rx ry e g => by
  unfold neO at e
  rw [Option.map_eq_some_iff] at e
  obtain ⟨b, e, rfl⟩ := e
  rcases eqT_cases R rx ry e with ⟨h1, h2⟩ | ⟨d, e', h1, h2, h3, h4, h5⟩
  · exact .inl ⟨h1, by rw [h2]; exact g (.bl (!b)) F H R (Same.refl _) rfl⟩
  · exact .inr ⟨d, e', h1, h2, h3, h4, by rw [h5]; exact g (.bl (!b)) F H R (Same.refl _) rfl⟩

/-! ### ints -/
def intO (f : Int → Int → T) (x y : T) : Option T := match x, y with
  | .int i, .int j => some (f i j)
  | _, _ => none
theorem intO_some {f : Int → Int → T} {x y t : T} (h : intO f x y = some t) : ∃ i j, x = .int i ∧ y = .int j ∧ t = f i j := by
  unfold intO at h
  split at h
  · exact ⟨_, _, rfl, rfl, (Option.some.inj h).symm⟩
  · cases h
theorem ot_int {g : Int → Int → V} {f : Int → Int → T} (hf : ∀ i j K mg F, Rep K mg F (f i j) (g i j)) : OpT X (rI0 g) (intO f) := fun k F ρ σ H Q x y t v u R rx ry e q => by
  obtain ⟨i, j, rfl, rfl, rfl⟩ := intO_some e
  exact ⟨i, j, rx, ry, q _ F H R (Same.refl _) (hf i j _ _ _)⟩
abbrev ltO := intO fun i j => .bl (decide (i < j))
abbrev leO := intO fun i j => .bl (decide (i ≤ j))
abbrev gtO := intO fun i j => .bl (decide (j < i))
abbrev geO := intO fun i j => .bl (decide (j ≤ i))
abbrev subO := intO fun i j => .int (i - j)
theorem ot_lt : OpT X (rI0 fun i j => .bl (decide (i < j))) ltO := ot_int fun _ _ _ _ _ => rfl
theorem ot_le : OpT X (rI0 fun i j => .bl (decide (i ≤ j))) leO := ot_int fun _ _ _ _ _ => rfl
theorem ot_gt : OpT X (rI0 fun i j => .bl (decide (j < i))) gtO := ot_int fun _ _ _ _ _ => rfl
theorem ot_ge : OpT X (rI0 fun i j => .bl (decide (j ≤ i))) geO := ot_int fun _ _ _ _ _ => rfl
theorem ot_sub : OpT X (rI0 fun i j => .int (i - j)) subO := ot_int fun _ _ _ _ _ => rfl
/-- with a condition -/
def intC (c : Int → Int → Bool) (f : Int → Int → Int) (x y : T) : Option T := match x, y with
  | .int i, .int j => if c i j then some (.int (f i j)) else none
  | _, _ => none
theorem intC_some {c : Int → Int → Bool} {f : Int → Int → Int} {x y t : T} (h : intC c f x y = some t) : ∃ i j, x = .int i ∧ y = .int j ∧ c i j = true ∧ t = .int (f i j) := by
  unfold intC at h
  split at h
  · split at h
    · rename_i hc
      exact ⟨_, _, rfl, rfl, hc, (Option.some.inj h).symm⟩
    · cases h
  · cases h
theorem ot_intC {C : Int → Int → Prop} {c : Int → Int → Bool} {f g : Int → Int → Int} (hc : ∀ i j, c i j = true → C i j ∧ f i j = g i j) : OpT X (rI C fun i j => .int (g i j)) (intC c f) := fun k F ρ σ H Q x y t v u R rx ry e q => by
  obtain ⟨i, j, rfl, rfl, h, rfl⟩ := intC_some e
  obtain ⟨h1, h2⟩ := hc i j h
  exact ⟨i, j, rx, ry, h1, q _ F H R (Same.refl _) (by rw [h2]; rfl)⟩
def mulC (i j : Int) : Bool := decide (i.natAbs.log2 + j.natAbs.log2 < 1000000)
abbrev mulI := intC mulC fun i j => i * j
theorem ot_mulI : OpT X (rI CMulW fun i j => .int (i * j)) mulI := ot_intC fun i j h => ⟨(show i.natAbs.log2 + j.natAbs.log2 < 1000000 from of_decide_eq_true h), rfl⟩
abbrev modO := intC (fun _ j => decide (j ≠ 0)) fun i j => i.fmod j
theorem ot_mod : OpT X (rI (fun _ j => j ≠ 0) fun i j => .int (i.fmod j)) modO := ot_intC fun i j h => ⟨of_decide_eq_true h, rfl⟩
def divC (_ j : Int) : Bool := decide (0 < j) && decide (j.natAbs.log2 < 9000)
abbrev divO := intC divC fun i j => i / j
theorem ot_div : OpT X (rI CDivW fun i j => .int (i / j)) divO := ot_intC fun i j h => by
  unfold divC at h
  rw [Bool.and_eq_true] at h
  exact ⟨⟨of_decide_eq_true h.1, of_decide_eq_true h.2⟩, rfl⟩
def powC (i j : Int) : Bool := decide (0 ≤ j) && decide (j ≤ 1000000) && decide (i.natAbs < 2 ^ 64)
abbrev powO := intC powC fun i j => i ^ j.toNat
theorem ot_pow : OpT X (rI CPow fun i j => .int (i ^ j.toNat)) powO := ot_intC fun i j h => by
  unfold powC at h
  rw [Bool.and_eq_true, Bool.and_eq_true] at h
  exact ⟨⟨of_decide_eq_true h.1.1, of_decide_eq_true h.1.2, of_decide_eq_true h.2⟩, rfl⟩
/-! ### + -/
def addO (x y : T) : Option T := match x, y with
  | .int i, .int j => some (.int (i + j))
  | .str a, .str b => if a.length + b.length ≤ 16777216 then some (.str (a ++ b)) else none
  | .lst a, .lst b => if a.length + b.length ≤ 16777216 then some (.lst (a ++ b)) else none
  | .tup a, .tup b => if a.length + b.length ≤ 16777216 then some (.tup (a ++ b)) else none
  | _, _ => none
def rStrAdd : R2 := fun x y H Q => ∃ i j, x = .str i ∧ y = .str j ∧ i.length + j.length ≤ sizeLine ∧ Q (.str (i ++ j)) H
def rAddT (X : Cx) : R2 := fun x y H Q => (rI0 (fun i j => .int (i + j)) x y H Q) ∨ (rStrAdd x y H Q) ∨ rCat x y H Q ∨ rCatA X.K x y H Q
theorem op_addT : OpR X (binaryOp .Add) (rAddT X) := op_add.or (OpR.or op_add_str (op_cat.or op_catA))
theorem ot_add : OpT X (rAddT X) addO := fun k F ρ σ H Q x y t v u R rx ry e q => by
  unfold addO at e
  split at e
  · rename_i i j
    cases e
    exact .inl ⟨i, j, rx, ry, q _ F H R (Same.refl _) rfl⟩
  · rename_i a b
    split at e
    · rename_i hz
      cases e
      exact .inr (.inl ⟨a, b, rx, ry, by rw [szL]; exact hz, q _ F H R (Same.refl _) rfl⟩)
    · cases e
  · rename_i a b
    split at e
    · rename_i hz
      cases e
      obtain ⟨l, xs, rfl, h1, r1⟩ := rx
      obtain ⟨m, ys, rfl, h2, r2⟩ := ry
      rw [r1.length, r2.length] at hz
      refine .inr (.inr (.inl ⟨l, m, xs, ys, rfl, rfl, R.fh _ _ h1, R.fh _ _ h2, by rw [szL]; exact hz, fun p np => ?_⟩))
      have sF : Same F (upd F p (.lst (xs ++ ys))) := same_upd (R.fnone np)
      exact q _ _ _ (R.newF np) sF ⟨p, xs ++ ys, rfl, upd_same, (r1.append r2).mono sF⟩
    · cases e
  · rename_i a b
    split at e
    · rename_i hz
      cases e
      obtain ⟨l, xs, rfl, h1, r1⟩ := rx
      obtain ⟨m, ys, rfl, h2, r2⟩ := ry
      have la := r1.length
      have lb := r2.length
      rw [la, lb] at hz
      refine .inr (.inr (.inr ⟨l, m, xs, ys, rfl, rfl, same_SqT R.fh h1, same_SqT R.fh h2, by rw [szL]; exact hz, fun z => ?_, fun z1 z2 => ?_, fun z1 z2 p np => ?_⟩))
      · subst z
        have ea : a = [] := List.eq_nil_of_length_eq_zero (by simpa using la)
        subst ea
        exact q _ F H R (Same.refl _) ⟨m, ys, rfl, h2, r2⟩
      · subst z2
        have eb : b = [] := List.eq_nil_of_length_eq_zero (by simpa using lb)
        subst eb
        exact q _ F H R (Same.refl _) ⟨l, xs, rfl, h1, by rw [List.append_nil]; exact r1⟩
      · have sF : Same F (upd F p (.tup (xs ++ ys))) := same_upd (R.fnone np)
        exact q _ _ _ (R.newF np) sF ⟨p, xs ++ ys, rfl, SqT.of upd_same, (r1.append r2).mono sF⟩
    · cases e
  · cases e
/-! ### list * int -/
def mulO (x y : T) : Option T := match x, y with
  | .lst a, .int k => if k < 16777216 && a.length * k.toNat ≤ 16777216 && decide (-16777216 ≤ k) then some (.lst (List.replicate k.toNat a).flatten) else none
  | x, y => mulI x y
def rMulT (X : Cx) : R2 := fun x y H Q => rI CMulW (fun i j => .int (i * j)) x y H Q ∨ rRep x y H Q
theorem op_mulT : OpR X (binaryOp .Mult) (rMulT X) := op_mulW.or op_rep
theorem Reps.rep {K : PySem.W.Frag} {mg : Str → Option Value} {F : Hp} {ts : List T} {vs : List V} (r : Reps K mg F ts vs) : ∀ n : Nat, Reps K mg F (List.replicate n ts).flatten (List.replicate n vs).flatten
  | 0 => by simp [Reps]
  | n + 1 => by
    rw [List.replicate_succ, List.replicate_succ, List.flatten_cons, List.flatten_cons]
    exact r.append (r.rep n)
theorem ot_mul : OpT X (rMulT X) mulO := fun k F ρ σ H Q x y t v u R rx ry e q => by
  unfold mulO at e
  split at e
  · rename_i a k
    split at e
    · rename_i hc
      cases e
      rw [Bool.and_eq_true, Bool.and_eq_true] at hc
      have h1 := of_decide_eq_true hc.1.1
      have h2 := of_decide_eq_true hc.1.2
      have h3 := of_decide_eq_true hc.2
      obtain ⟨l, xs, rfl, hl, r1⟩ := rx
      rw [r1.length] at h2
      refine .inr ⟨l, k, xs, rfl, ry, R.fh _ _ hl, by omega, by omega, by rw [szL]; exact h2, fun p np => ?_⟩
      have sF : Same F (upd F p (.lst (List.replicate k.toNat xs).flatten)) := same_upd (R.fnone np)
      exact q _ _ _ (R.newF np) sF ⟨p, _, rfl, upd_same, (r1.rep _).mono sF⟩
    · cases e
  · exact .inl (ot_mulI k F ρ σ H Q x y t v u R rx ry e q)
/-! ### is -/
def isNO (neg : Bool) (x y : T) : Option T := match y with
  | .non => match x with
    | .non => some (.bl (!neg))
    | .fn _ => none
    | _ => some (.bl neg)
  | .bl b => match x with
    | .bl a => some (.bl (if neg then !decide (a = b) else decide (a = b)))
    | _ => none
  | _ => none
theorem rep_non {K : PySem.W.Frag} {mg : Str → Option Value} {F : Hp} {t : T} {v : V} (r : Rep K mg F t v) (h : t ≠ .non) : v ≠ .non := by
  intro e
  subst e
  cases t with
  | non => exact h rfl
  | bl _ => cases r
  | int _ => cases r
  | str _ => cases r
  | lst _ => obtain ⟨_, _, e, _⟩ := r; cases e
  | tup _ => obtain ⟨_, _, e, _⟩ := r; cases e
  | sl _ => obtain ⟨_, _, e, _⟩ := r; cases e
  | fn _ => obtain ⟨_, e, _⟩ := r; cases e
  | dk _ _ => obtain ⟨_, _, e, _⟩ := r; cases e
  | dt _ _ => obtain ⟨_, _, e, _⟩ := r; cases e
def rIsT : R2 := fun x y H Q => (y = .non ∧ Q (.bl (decide (x = .non))) H) ∨ rIsB x y H Q
def rNotT : R2 := fun x y H Q => (y = .non ∧ Q (.bl (!decide (x = .non))) H) ∨ rNotB x y H Q
theorem op_isT : OpR X (compareOp .Is) rIsT := op_isN.or op_isBl
theorem op_notT : OpR X (compareOp .IsNot) rNotT := op_notN.or op_notBl
theorem ot_is : OpT X rIsT (isNO false) := fun k F ρ σ H Q x y t v u R rx ry e q => by
  have go : ∀ b, t = .bl b → Q (.bl b) H := fun b z => q _ F H R (Same.refl _) (by subst z; rfl)
  cases y <;> simp only [isNO, reduceCtorEq] at e
  · have eu : u = .non := ry
    refine .inl ⟨eu, ?_⟩
    cases x <;> simp only [Option.some.injEq, reduceCtorEq] at e
    · have ev : v = .non := rx
      rw [decide_eq_true ev]
      exact go _ e.symm
    all_goals
      rw [decide_eq_false (rep_non rx (fun z => nomatch z))]
      exact go _ e.symm
  · cases x <;> simp only [Option.some.injEq, reduceCtorEq] at e
    exact .inr ⟨_, _, rx, ry, go _ e.symm⟩
theorem ot_not : OpT X rNotT (isNO true) := fun k F ρ σ H Q x y t v u R rx ry e q => by
  have go : ∀ b, t = .bl b → Q (.bl b) H := fun b z => q _ F H R (Same.refl _) (by subst z; rfl)
  cases y <;> simp only [isNO, reduceCtorEq] at e
  · have eu : u = .non := ry
    refine .inl ⟨eu, ?_⟩
    cases x <;> simp only [Option.some.injEq, reduceCtorEq] at e
    · have ev : v = .non := rx
      rw [decide_eq_true ev]
      exact go _ e.symm
    all_goals
      rw [decide_eq_false (rep_non rx (fun z => nomatch z))]
      exact go _ e.symm
  · cases x <;> simp only [Option.some.injEq, reduceCtorEq] at e
    exact .inr ⟨_, _, rx, ry, go _ e.symm⟩
end
end FL

/-! FL4: tests, displays, subscripts, calls of built-ins. -/
namespace FL
open PySem PySem.Spec L2
section
variable {X : Cx} {E : XK} {a b c e : Expr} {fa fb fc f : M T} {pos : Pos} {es rest : List Expr} {g ga gb : M Bool} {fs : M (List T)}

/-! ### truth -/
def tru (t : T) : Option Bool := match t with
  | .non => some false
  | .bl b => some b
  | .int i => some (i != 0)
  | .str x => if x.length ≤ 16777216 then some ((x.length : Int) != 0) else none
  | .lst ts => some (!ts.isEmpty)
  | .sl ts => some (!ts.isEmpty)
  | .tup ts => some (!ts.isEmpty)
  | _ => none
def truth (f : M T) : M Bool := fun ρ => (f ρ).bind fun t ρ => liftO (tru t) ρ
theorem Reps.isEmpty {K : PySem.W.Frag} {mg : Str → Option Value} {F : Hp} : ∀ {ts : List T} {vs : List V}, Reps K mg F ts vs → (!ts.isEmpty) = !vs.isEmpty
  | [], _, h => by
    have e : _ = _ := h
    subst e; rfl
  | t :: ts, _, h => by
    obtain ⟨v, r, rfl, _, _⟩ := h
    rfl
theorem tru_rep {K : PySem.W.Frag} {mg : Str → Option Value} {F H : Hp} {t : T} {v : V} {k : Bool} (s : Same F H) (r : Rep K mg F t v) (e : tru t = some k) : TruV K v H k := by
  cases t <;> simp only [tru, Option.some.injEq, reduceCtorEq] at e
  · have ev : v = .non := r
    subst ev; exact e.symm
  · have ev : v = .bl _ := r
    subst ev; exact e.symm
  · have ev : v = .int _ := r
    subst ev; exact e.symm
  · have ev : v = .str _ := r
    subst ev
    split at e
    · rename_i hz
      exact ⟨by rw [szL]; exact hz, (Option.some.inj e).symm⟩
    · cases e
  · obtain ⟨p, vs, rfl, h1, h2⟩ := r
    exact .inl ⟨vs, SqL.of (s _ _ h1), by rw [← h2.isEmpty]; exact e.symm⟩
  · obtain ⟨p, vs, rfl, h1, h2⟩ := r
    exact .inr (.inl ⟨vs, same_SqT s h1, by rw [← h2.isEmpty]; exact e.symm⟩)
  · obtain ⟨p, vs, rfl, h1, h2⟩ := r
    exact .inl ⟨vs, same_SqL s h1, by rw [← h2.isEmpty]; exact e.symm⟩
/-- an expression that is no comparison, not, and, or: by its truth -/
theorem ft_val (ha : FE X E a f) (he : ∀ whole, isTrue a X.env whole = (do let v ← whole; standAt a.pos; holding [v] (truthy v)) := by intro _; rfl) : FT X E a (truth f) := by
  refine pt_imp (pt_truth ha he) fun σ H Q h => ?_
  obtain ⟨k, F, ρ, R, h⟩ := h
  refine ⟨k, F, ρ, R, (Den.bind h).imp fun t ρ1 h1 v F1 H1 R1 s1 r1 => ?_⟩
  obtain ⟨b, e, q⟩ := Den.lift h1
  exact ⟨b, tru_rep R1.fh r1 e, q F1 H1 R1 s1⟩

/-! ### and, or, not -/
def andV (fa fb : M T) : M T := fun ρ => (fa ρ).bind fun t ρ => match toB t with
  | some true => fb ρ
  | some false => .ok (.bl false) ρ
  | none => .bad
def orV (fa fb : M T) : M T := fun ρ => (fa ρ).bind fun t ρ => match toB t with
  | some false => fb ρ
  | some true => .ok (.bl true) ρ
  | none => .bad
def notV (fa : M T) : M T := fun ρ => (fa ρ).bind fun t ρ => match toB t with
  | some b => .ok (.bl (!b)) ρ
  | none => .bad
theorem fe_one {op} (h : FE X E a f) : FE X E (.BoolOp op [a] pos) f := pe_one h
theorem fe_and (ha : FE X E a fa) (hb : FE X E (.BoolOp .And (b :: rest) pos) fb) : FE X E (.BoolOp .And (a :: b :: rest) pos) (andV fa fb) := by
  refine pe_imp (pe_and ha hb) fun σ H Q h => ?_
  obtain ⟨k, F, ρ, R, h⟩ := h
  refine ⟨k, F, ρ, R, (Den.bind h).imp fun t ρ1 h1 v F1 H1 R1 s1 r1 => ?_⟩
  split at h1
  · rename_i e
    have e1 := toB_some e
    subst e1
    exact ⟨true, r1, k, F1, ρ1, R1, h1.imp fun t ρ' q v F' H' R' s' r' => q v F' H' R' (s1.trans s') r'⟩
  · rename_i e
    have e1 := toB_some e
    subst e1
    exact ⟨false, r1, h1 _ F1 H1 R1 s1 rfl⟩
  · exact h1.elim
theorem fe_or (ha : FE X E a fa) (hb : FE X E (.BoolOp .Or (b :: rest) pos) fb) : FE X E (.BoolOp .Or (a :: b :: rest) pos) (orV fa fb) := by
  refine pe_imp (pe_or ha hb) fun σ H Q h => ?_
  obtain ⟨k, F, ρ, R, h⟩ := h
  refine ⟨k, F, ρ, R, (Den.bind h).imp fun t ρ1 h1 v F1 H1 R1 s1 r1 => ?_⟩
  split at h1
  · rename_i e
    have e1 := toB_some e
    subst e1
    exact ⟨false, r1, k, F1, ρ1, R1, h1.imp fun t ρ' q v F' H' R' s' r' => q v F' H' R' (s1.trans s') r'⟩
  · rename_i e
    have e1 := toB_some e
    subst e1
    exact ⟨true, r1, h1 _ F1 H1 R1 s1 rfl⟩
  · exact h1.elim
theorem fe_not (ha : FE X E a fa) : FE X E (.UnaryOp .Not a pos) (notV fa) := by
  refine pe_imp (pe_not ha) fun σ H Q h => ?_
  obtain ⟨k, F, ρ, R, h⟩ := h
  refine ⟨k, F, ρ, R, (Den.bind h).imp fun t ρ1 h1 v F1 H1 R1 s1 r1 => ?_⟩
  split at h1
  · rename_i b e
    have e1 := toB_some e
    subst e1
    exact ⟨b, r1, h1 _ F1 H1 R1 s1 rfl⟩
  · exact h1.elim
abbrev FW (X : Cx) (E : XK) (e : Expr) (f : M Bool) : Prop := PW X e (tT X E f)
def andT (ga gb : M Bool) : M Bool := fun ρ => (ga ρ).bind fun b ρ => if b = true then gb ρ else .ok false ρ
def orT (ga gb : M Bool) : M Bool := fun ρ => (ga ρ).bind fun b ρ => if b = true then .ok true ρ else gb ρ
def notT (ga : M Bool) : M Bool := fun ρ => (ga ρ).bind fun b ρ => .ok (!b) ρ
theorem fw_and1 (ha : FT X E a g) : FW X E (.BoolOp .And [a] pos) g := pw_and1 ha
theorem fw_or1 (ha : FT X E a g) : FW X E (.BoolOp .Or [a] pos) g := pw_or1 ha
theorem fw_and (ha : FT X E a ga) (hb : FW X E (.BoolOp .And (b :: rest) pos) gb) : FW X E (.BoolOp .And (a :: b :: rest) pos) (andT ga gb) := by
  refine pw_imp (pw_and ha hb) fun σ H Q h => ?_
  obtain ⟨k, F, ρ, R, h⟩ := h
  refine ⟨k, F, ρ, R, (Den.bind h).imp fun t ρ1 h1 F1 H1 R1 s1 => ?_⟩
  split at h1
  · rename_i e
    rw [if_pos e]
    exact ⟨k, F1, ρ1, R1, h1.imp fun t ρ' q F' H' R' s' => q F' H' R' (s1.trans s')⟩
  · rename_i e
    rw [if_neg e]
    exact h1 F1 H1 R1 s1
theorem fw_or (ha : FT X E a ga) (hb : FW X E (.BoolOp .Or (b :: rest) pos) gb) : FW X E (.BoolOp .Or (a :: b :: rest) pos) (orT ga gb) := by
  refine pw_imp (pw_or ha hb) fun σ H Q h => ?_
  obtain ⟨k, F, ρ, R, h⟩ := h
  refine ⟨k, F, ρ, R, (Den.bind h).imp fun t ρ1 h1 F1 H1 R1 s1 => ?_⟩
  split at h1
  · rename_i e
    rw [if_pos e]
    exact h1 F1 H1 R1 s1
  · rename_i e
    rw [if_neg e]
    exact ⟨k, F1, ρ1, R1, h1.imp fun t ρ' q F' H' R' s' => q F' H' R' (s1.trans s')⟩
theorem ft_w (h : FW X E a g) : FT X E a g := h.pt
theorem ft_not (ha : FT X E a ga) : FT X E (.UnaryOp .Not a pos) (notT ga) := by
  refine pt_imp (pt_not ha) fun σ H Q h => ?_
  obtain ⟨k, F, ρ, R, h⟩ := h
  exact ⟨k, F, ρ, R, (Den.bind h).imp fun t ρ1 h1 F1 H1 R1 s1 => h1 F1 H1 R1 s1⟩
def ifE (ga : M Bool) (fa fb : M T) : M T := fun ρ => (ga ρ).bind fun b ρ => if b = true then fa ρ else fb ρ
theorem fe_if (hc : FT X E c g) (ha : FE X E a fa) (hb : FE X E b fb) : FE X E (.IfExp c a b pos) (ifE g fa fb) := by
  refine pe_imp (pe_ifExp hc ha hb) fun σ H Q h => ?_
  obtain ⟨k, F, ρ, R, h⟩ := h
  refine ⟨k, F, ρ, R, (Den.bind h).imp fun t ρ1 h1 F1 H1 R1 s1 => ?_⟩
  split at h1
  · rename_i e
    rw [if_pos e]
    exact ⟨k, F1, ρ1, R1, h1.imp fun t ρ' q v F' H' R' s' r' => q v F' H' R' (s1.trans s') r'⟩
  · rename_i e
    rw [if_neg e]
    exact ⟨k, F1, ρ1, R1, h1.imp fun t ρ' q v F' H' R' s' r' => q v F' H' R' (s1.trans s') r'⟩
/-- a op1 b op2 c -/
def chn (o o' : T → T → Option T) (fa fb fc : M T) : M T := fun ρ => (fa ρ).bind fun x ρ => (fb ρ).bind fun y ρ => match (o x y).bind toB with
  | some true => (fc ρ).bind fun z ρ => liftO (o' y z) ρ
  | some false => .ok (.bl false) ρ
  | none => .bad
theorem tChain_of {r r' : R2} {o o' : T → T → Option T} (hr : OpT X r o) (hr' : OpT X r' o') {σ : L2.St} {H : Hp} {Q : VK} (h : tE X E (chn o o' fa fb fc) σ H Q) : tChain r r' (tE X E fa) (tE X E fb) (tE X E fc) σ H Q := by
  obtain ⟨k, F, ρ, R, h⟩ := h
  refine ⟨k, F, ρ, R, (Den.bind h).imp fun x ρ1 h1 v F1 H1 R1 s1 r1 => ?_⟩
  refine ⟨k, F1, ρ1, R1, (Den.bind h1).imp fun y ρ2 h2 u F2 H2 R2 s2 r2 => ?_⟩
  split at h2
  · rename_i e
    rw [Option.bind_eq_some_iff] at e
    obtain ⟨t, e1, e2⟩ := e
    have e3 := toB_some e2
    subst e3
    refine hr k F2 ρ2 σ H2 _ x y _ v u R2 (r1.mono s2) r2 e1 fun z F3 H3 R3 s3 r3 => ⟨true, r3, ?_⟩
    rw [if_pos rfl]
    refine ⟨k, F3, ρ2, R3, (Den.bind h2).imp fun z' ρ4 h4 w F4 H4 R4 s4 r4 => ?_⟩
    obtain ⟨t', e', q⟩ := Den.lift h4
    exact hr' k F4 ρ4 σ H4 Q y z' t' u w R4 (r2.mono (s3.trans s4)) r4 e' fun v' F' H' R' s' r' => q v' F' H' R' (s1.trans (s2.trans (s3.trans (s4.trans s')))) r'
  · rename_i e
    rw [Option.bind_eq_some_iff] at e
    obtain ⟨t, e1, e2⟩ := e
    have e3 := toB_some e2
    subst e3
    refine hr k F2 ρ2 σ H2 _ x y _ v u R2 (r1.mono s2) r2 e1 fun z F3 H3 R3 s3 r3 => ⟨false, r3, ?_⟩
    rw [if_neg Bool.false_ne_true]
    exact h2 _ F3 H3 R3 (s1.trans (s2.trans s3)) rfl
  · exact h2.elim
theorem fe_chain {op op' : CmpOp} {r r' : R2} {o o' : T → T → Option T} (ho : OpR X (compareOp op) r) (hr : OpT X r o) (ho' : OpR X (compareOp op') r') (hr' : OpT X r' o') (ha : FE X E a fa) (hb : FE X E b fb) (hc : FE X E c fc)
    (hm : lastMarks [op, op'] [b, c] = false := by with_unfolding_all rfl) : FE X E (.Compare a [op, op'] [b, c] pos) (chn o o' fa fb fc) := pe_imp (pe_chain ho ho' ha hb hc hm) fun σ H Q h => tChain_of hr hr' h
theorem ft_chain {op op' : CmpOp} {r r' : R2} {o o' : T → T → Option T} (ho : OpR X (compareOp op) r) (hr : OpT X r o) (ho' : OpR X (compareOp op') r') (hr' : OpT X r' o') (ha : FE X E a fa) (hb : FE X E b fb) (hc : FE X E c fc)
    (hm : lastMarks [op, op'] [b, c] = false := by with_unfolding_all rfl) : FT X E (.Compare a [op, op'] [b, c] pos) (tst (chn o o' fa fb fc)) := by
  refine pt_imp (pt_chain ho ho' ha hb hc hm) fun σ H Q h => ?_
  obtain ⟨k, F, ρ, R, h⟩ := h
  refine tChain_of (o := o) (o' := o') (E := E) hr hr' ⟨k, F, ρ, R, (Den.bind h).imp fun t ρ1 h1 v F1 H1 R1 s1 r1 => ?_⟩
  obtain ⟨b, e, q⟩ := Den.lift h1
  have e1 := toB_some e
  subst e1
  exact ⟨b, r1, q F1 H1 R1 s1⟩
/-! ### - of ints -/
def negO (x : T) : Option T := match x with
  | .int i => some (.int (-i))
  | _ => none
theorem fe_neg (ha : FE X E a fa) : FE X E (.UnaryOp .USub a pos) (op1 negO fa) := by
  refine pe_imp (pe_un un_neg ha) fun σ H Q h => ?_
  obtain ⟨k, F, ρ, R, h⟩ := h
  refine ⟨k, F, ρ, R, (Den.bind h).imp fun x ρ1 h1 v F1 H1 R1 s1 r1 => ?_⟩
  obtain ⟨t, e, q⟩ := Den.lift h1
  unfold negO at e
  split at e
  · rename_i i
    cases e
    exact ⟨i, r1, q _ F1 H1 R1 s1 rfl⟩
  · cases e

/-! ### lists of expressions; displays -/
def rdNil : M (List T) := fun ρ => .ok [] ρ
def rdCons (f : M T) (fs : M (List T)) : M (List T) := fun ρ => (f ρ).bind fun x ρ => (fs ρ).bind fun xs ρ => .ok (x :: xs) ρ
theorem fa_nil : FA X E [] rdNil := pa_imp pa_nil fun σ H Q ⟨k, F, ρ, R, h⟩ => h _ F H R (Same.refl _) rfl
theorem fa_cons (ha : FE X E e f) (hr : FA X E es fs) (hs : starEach (e :: es) X.env = (false, eval e X.env) :: starEach es X.env := by rfl) : FA X E (e :: es) (rdCons f fs) := by
  refine pa_imp (pa_cons ha hr hs) fun σ H Q h => ?_
  obtain ⟨k, F, ρ, R, h⟩ := h
  refine ⟨k, F, ρ, R, (Den.bind h).imp fun x ρ1 h1 v F1 H1 R1 s1 r1 => ?_⟩
  refine ⟨k, F1, ρ1, R1, (Den.bind h1).imp fun xs ρ2 h2 vs F2 H2 R2 s2 r2 => ?_⟩
  exact h2 _ F2 H2 R2 (s1.trans s2) (.cons (r1.mono s2) r2)
def calF (o : List T → Option T) (fs : M (List T)) : M T := fun ρ => (fs ρ).bind fun ts ρ => liftO (o ts) ρ
def calO (o : List T → Option O) (fs : M (List T)) : M O := fun ρ => (fs ρ).bind fun ts ρ => liftO (o ts) ρ
def small (ts : List T) : Bool := decide (ts.length ≤ 16777216)
def tupO (ts : List T) : Option T := if ts.length ≤ 16777216 then some (.tup ts) else none
def lstO (ts : List T) : Option T := if ts.length ≤ 16777216 then some (.lst ts) else none
def newL (ts : List T) : Option O := if ts.length ≤ 16777216 then some (.l ts) else none
theorem fe_tup {x1} (h : FA X E es fs) : FE X E (.Tuple es x1 pos) (calF tupO fs) := by
  refine pe_imp (pe_tup h) fun σ H Q h => ?_
  obtain ⟨k, F, ρ, R, h⟩ := h
  refine ⟨k, F, ρ, R, (Den.bind h).imp fun ts ρ1 h1 vs F1 H1 R1 s1 r1 => ?_⟩
  obtain ⟨t, e, q⟩ := Den.lift h1
  unfold tupO at e
  split at e
  · rename_i hz
    cases e
    rw [r1.length] at hz
    refine ⟨by rw [szL]; exact hz, fun p np => ?_⟩
    have sF : Same F1 (upd F1 p (.tup vs)) := same_upd (R1.fnone np)
    exact q _ _ _ (R1.newF np) (s1.trans sF) ⟨p, vs, rfl, SqT.of upd_same, r1.mono sF⟩
  · cases e
theorem fo_lst (h : FA X E es fs) : FO X E (.List es pos) (calO newL fs) := by
  refine pe_imp (pe_lst h) fun σ H Q h => ?_
  obtain ⟨k, F, ρ, R, h⟩ := h
  refine ⟨k, F, ρ, R, (Den.bind h).imp fun ts ρ1 h1 vs F1 H1 R1 s1 r1 => ?_⟩
  obtain ⟨t, e, q⟩ := Den.lift h1
  unfold newL at e
  split at e
  · rename_i hz
    cases e
    rw [r1.length] at hz
    exact ⟨by rw [szL]; exact hz, fun p np => q _ F1 _ (R1.newO (o := .l ts) ⟨vs, rfl, r1⟩ np) s1 R1.len⟩
  · cases e
/-- a new object becomes a tree -/
def frzO (o : O) : T := match o with
  | .l ts => .lst ts
  | .dk ks vs => .dk ks vs
  | .dt ks vs => .dt ks vs
def frzM (f : M O) : M T := fun ρ => (f ρ).bind fun o ρ => .ok (frzO o) ρ
theorem rep_frz {K : PySem.W.Frag} {mg : Str → Option Value} {F : Hp} {o : O} {h : HO} {p : Addr} (n : F p = none) (r : ORep K mg F o h) : Rep K mg (upd F p h) (frzO o) (.ref p) := by
  have sF : Same F (upd F p h) := same_upd n
  cases o with
  | l ts => obtain ⟨vs, rfl, r⟩ := r; exact ⟨p, vs, rfl, upd_same, r.mono sF⟩
  | dk ks ts => obtain ⟨kvs, rfl, e, r⟩ := r; exact ⟨p, kvs, rfl, .inl upd_same, e, r.mono sF⟩
  | dt ks ts => obtain ⟨kvs, rfl, e, r⟩ := r; exact ⟨p, kvs, rfl, .inl upd_same, e, r.mono sF⟩
theorem fe_new {fo : M O} (h : FO X E e fo) : FE X E e (frzM fo) := by
  refine pe_imp h fun σ H Q h => ?_
  obtain ⟨k, F, ρ, R, h⟩ := h
  refine ⟨k, F, ρ, R, (Den.bind h).imp fun o ρ1 h1 v F1 H1 R1 s1 l1 => ?_⟩
  obtain ⟨p, ho, rfl, fp, bp, npm, hp, ro, R0⟩ := RS.aside R1 l1
  refine h1 _ _ _ ?_ (s1.trans (same_upd fp)) (rep_frz fp ro)
  have sF : Same F1 (upd F1 p ho) := same_upd fp
  obtain ⟨α, g1, g2⟩ := R0.ex
  refine ⟨R0.len, fun a u e => ?_, (same_upd bp).trans R0.bh, R0.f0.trans sF, fun a u e => ?_, R0.pt, α, fun j y hy => ?_, g2⟩
  · by_cases ha : a = p
    · subst ha; rw [upd_same] at e; cases e; exact hp
    · rw [upd_ne ha] at e; exact R0.fh _ _ e
  · by_cases ha : a = p
    · subst ha; exact .inr bp
    · rw [upd_ne ha] at e
      rcases R0.fr a u e with q | q
      · exact .inl q
      · rw [upd_ne ha] at q; exact .inr q
  · have q := g1 j y hy
    have far : ∀ a, upd k.B p ho a = none → a ≠ p ∧ k.B a = none := fun a e => by
      have ne : a ≠ p := fun z => by subst z; rw [upd_same] at e; cases e
      rw [upd_ne ne] at e
      exact ⟨ne, e⟩
    cases y with
    | un => trivial
    | fz t => obtain ⟨v', a, b⟩ := q; exact ⟨v', a, b.mono sF⟩
    | ow o' => obtain ⟨a, b, c, d, u, e1, e2⟩ := q; exact ⟨a, by rw [upd_ne (far _ c).1]; exact b, (far _ c).2, d, u, e1, e2.mono sF⟩
    | pa o' => obtain ⟨a, b, c, d, u, e1, e2⟩ := q; exact ⟨a, by rw [upd_ne (far _ c).1]; exact b, (far _ c).2, d, u, e1, e2.mono sF⟩

/-! ### a[i] -/
def idx (n : Nat) (i : Int) : Option Nat := if 0 ≤ i then (if i < n then some i.toNat else none) else if -(n : Int) ≤ i then some (i + n).toNat else none
theorem idx_eq (n : Nat) (i : Int) : idx n i = ixN n i := rfl
def atT (xs : List T) (i : Int) : Option T := (idx xs.length i).bind fun j => xs[j]?
def ixO (x y : T) : Option T := match x, y with
  | .lst a, .int i => atT a i
  | .sl a, .int i => atT a i
  | .tup a, .int i => atT a i
  | .str z, .int i => if z.length ≤ 16777216 then (L2.atI z.cps.toList i).map fun c => .str ⟨#[c]⟩ else none
  | _, _ => none
theorem atT_rep {K : PySem.W.Frag} {mg : Str → Option Value} {F : Hp} {ts : List T} {vs : List V} {i : Int} {t : T} (r : Reps K mg F ts vs) (e : atT ts i = some t) : ∃ v, atI vs i = some v ∧ Rep K mg F t v := by
  unfold atT at e
  rw [Option.bind_eq_some_iff] at e
  obtain ⟨j, h1, h2⟩ := e
  obtain ⟨v, h3, h4⟩ := r.get h2
  refine ⟨v, ?_, h4⟩
  unfold atI
  rw [← r.length, ← idx_eq, h1]
  exact h3
theorem ot_ix : OpT X (rIx X.K) ixO := fun k F ρ σ H Q x y t v u R rx ry e q => by
  unfold ixO at e
  split at e
  · rename_i ts i
    obtain ⟨p, vs, rfl, h1, r⟩ := rx
    obtain ⟨w, h2, h3⟩ := atT_rep r e
    exact .inl ⟨p, vs, i, w, rfl, ry, SqL.of (R.fh _ _ h1), h2, q _ F H R (Same.refl _) h3⟩
  · rename_i ts i
    obtain ⟨p, vs, rfl, h1, r⟩ := rx
    obtain ⟨w, h2, h3⟩ := atT_rep r e
    exact .inl ⟨p, vs, i, w, rfl, ry, same_SqL R.fh h1, h2, q _ F H R (Same.refl _) h3⟩
  · rename_i ts i
    obtain ⟨p, vs, rfl, h1, r⟩ := rx
    obtain ⟨w, h2, h3⟩ := atT_rep r e
    exact .inr (.inl ⟨p, vs, i, w, rfl, ry, same_SqT R.fh h1, h2, q _ F H R (Same.refl _) h3⟩)
  · rename_i z i
    split at e
    · rename_i hz
      rw [Option.map_eq_some_iff] at e
      obtain ⟨c, h1, rfl⟩ := e
      exact .inr (.inr ⟨z, i, c, rx, ry, by rw [szL]; exact hz, h1, q _ F H R (Same.refl _) rfl⟩)
    · cases e
  · cases e
theorem fe_ix (ha : FE X E a fa) (hb : FE X E b fb) (hs : PlainIx b := by intro _ _; rfl) : FE X E (.Subscript a b pos) (op2 ixO fa fb) := pe_imp (pe_ix ix_seq ha hb hs) fun σ H Q h => tOp_of ot_ix h
/-! ### calls of built-ins -/
def CalT (X : Cx) (r : List V → Hp → VK → Prop) (o : List T → Option T) : Prop := ∀ (k : Bk) (F : Hp) (ρ : Env) (σ : L2.St) (H : Hp) (Q : VK) (ts : List T) (t : T) (vs : List V), RSk X k F ρ σ H → Reps X.K X.mg F ts vs → o ts = some t → Go X k F ρ σ t Q → r vs H Q
theorem tCB_of {r : List V → Hp → VK → Prop} {o : List T → Option T} (hr : CalT X r o) {σ : L2.St} {H : Hp} {Q : VK} (h : tE X E (calF o fs) σ H Q) : tCB r (tA X E fs) σ H Q := by
  obtain ⟨k, F, ρ, R, h⟩ := h
  refine ⟨k, F, ρ, R, (Den.bind h).imp fun ts ρ1 h1 vs F1 H1 R1 s1 r1 => ?_⟩
  obtain ⟨t, e, q⟩ := Den.lift h1
  exact hr k F1 ρ1 σ H1 Q ts t vs R1 r1 e fun v' F' H' R' s' r' => q v' F' H' R' (s1.trans s') r'
theorem fe_callB {x : Str} {id : String} {p : Pos} {r : List V → Hp → VK → Prop} {o : List T → Option T} (hc : CallR X (.builtin id) r) (hr : CalT X r o) (hg : Gl X x) (hm : X.mg x = none) (hv : bootBuiltins x = some (.builtin id)) (ha : FA X E (e :: es) fs) (hn : x ≠ "__name__" := by decide) (hdb : (x == ("__debug__" : Str)) = false := by decide)
    (he : starEach (e :: es) X.env = (false, eval e X.env) :: starEach es X.env := by rfl) (hpl : (backTo pos (starEach es X.env)).any (·.1) = false := by rfl) : FE X E (.Call (.Name x p) (e :: es) [] pos) (calF o fs) :=
  pe_imp (pe_callB hc hg hm hv ha hn hdb he hpl) fun σ H Q h => tCB_of hr h
theorem fe_callTy {x : Str} {id : String} {p : Pos} {r : List V → Hp → VK → Prop} {o : List T → Option T} (hc : CallR X (.type id) r) (hr : CalT X r o) (hg : Gl X x) (hm : X.mg x = none) (hv : bootBuiltins x = some (.type id)) (ha : FA X E (e :: es) fs) (hn : x ≠ "__name__" := by decide) (hdb : (x == ("__debug__" : Str)) = false := by decide)
    (he : starEach (e :: es) X.env = (false, eval e X.env) :: starEach es X.env := by rfl) (hpl : (backTo pos (starEach es X.env)).any (·.1) = false := by rfl) : FE X E (.Call (.Name x p) (e :: es) [] pos) (calF o fs) :=
  pe_imp (pe_callTy hc hg hm hv ha hn hdb he hpl) fun σ H Q h => tCB_of hr h
theorem Reps.one_of {K : PySem.W.Frag} {mg : Str → Option Value} {F : Hp} {t : T} {vs : List V} (r : Reps K mg F [t] vs) : ∃ v, vs = [v] ∧ Rep K mg F t v := by
  obtain ⟨v, w, rfl, h, h2⟩ := r
  have e : w = [] := h2
  subst e
  exact ⟨v, rfl, h⟩
theorem Reps.two_of {K : PySem.W.Frag} {mg : Str → Option Value} {F : Hp} {t u : T} {vs : List V} (r : Reps K mg F [t, u] vs) : ∃ v w, vs = [v, w] ∧ Rep K mg F t v ∧ Rep K mg F u w := by
  obtain ⟨v, w, rfl, h, h2⟩ := r
  obtain ⟨w', e, h3⟩ := h2.one_of
  subst e
  exact ⟨v, w', rfl, h, h3⟩
/-- len -/
def lenO (ts : List T) : Option T := match ts with
  | [.lst a] => some (.int a.length)
  | [.sl a] => some (.int a.length)
  | [.tup a] => some (.int a.length)
  | [.str z] => if z.length ≤ 16777216 then some (.int z.length) else none
  | _ => none
def rLenT (X : Cx) : List V → Hp → VK → Prop := fun xs H Q => ∃ x n, xs = [x] ∧ LenV X.K x H n ∧ Q (.int n) H
theorem ct_len : CalT X (rLenT X) lenO := fun k F ρ σ H Q ts t vs R rs e q => by
  unfold lenO at e
  split at e
  · cases e
    obtain ⟨v, rfl, p, ws, rfl, h1, h2⟩ := rs.one_of
    exact ⟨.ref p, ws.length, rfl, .inl ⟨ws, SqL.of (R.fh _ _ h1), rfl⟩, q _ F H R (Same.refl _) (by rw [h2.length]; rfl)⟩
  · cases e
    obtain ⟨v, rfl, p, ws, rfl, h1, h2⟩ := rs.one_of
    exact ⟨.ref p, ws.length, rfl, .inl ⟨ws, same_SqL R.fh h1, rfl⟩, q _ F H R (Same.refl _) (by rw [h2.length]; rfl)⟩
  · cases e
    obtain ⟨v, rfl, p, ws, rfl, h1, h2⟩ := rs.one_of
    exact ⟨.ref p, ws.length, rfl, .inr ⟨ws, same_SqT R.fh h1, rfl⟩, q _ F H R (Same.refl _) (by rw [h2.length]; rfl)⟩
  · rename_i z
    split at e
    · rename_i hz
      cases e
      obtain ⟨v, rfl, h⟩ := rs.one_of
      have ev : v = .str z := h
      subst ev
      exact ⟨.str z, z.length, rfl, ⟨by rw [szL]; exact hz, rfl⟩, q _ F H R (Same.refl _) rfl⟩
    · cases e
  · cases e
/-- int(x) of an int -/
def int1O (ts : List T) : Option T := match ts with
  | [.int i] => some (.int i)
  | _ => none
theorem ct_int1 : CalT X (fun xs H Q => (∃ i, xs = [.int i] ∧ Q (.int i) H) ∨ ∃ k, xs = [.bl k] ∧ Q (.int (if k then 1 else 0)) H) int1O := fun k F ρ σ H Q ts t vs R rs e q => by
  unfold int1O at e
  split at e
  · rename_i i
    cases e
    obtain ⟨v, rfl, h⟩ := rs.one_of
    have ev : v = .int i := h
    subst ev
    exact .inl ⟨i, rfl, q _ F H R (Same.refl _) rfl⟩
  · cases e
def abs1O (ts : List T) : Option T := match ts with
  | [.int i] => some (.int (if i < 0 then -i else i))
  | _ => none
theorem ct_abs : CalT X (fun xs H Q => ∃ i, xs = [.int i] ∧ Q (.int (if i < 0 then -i else i)) H) abs1O := fun k F ρ σ H Q ts t vs R rs e q => by
  unfold abs1O at e
  split at e
  · rename_i i
    cases e
    obtain ⟨v, rfl, h⟩ := rs.one_of
    have ev : v = .int i := h
    subst ev
    exact ⟨i, rfl, q _ F H R (Same.refl _) rfl⟩
  · cases e
def max2O (ts : List T) : Option T := match ts with
  | [.int i, .int j] => some (.int (if j > i then j else i))
  | _ => none
def min2O (ts : List T) : Option T := match ts with
  | [.int i, .int j] => some (.int (if j < i then j else i))
  | _ => none
theorem ct_max2 : CalT X (fun xs H Q => ∃ i j, xs = [.int i, .int j] ∧ Q (.int (if j > i then j else i)) H) max2O := fun k F ρ σ H Q ts t vs R rs e q => by
  unfold max2O at e
  split at e
  · rename_i i j
    cases e
    obtain ⟨v, w, rfl, h, h'⟩ := rs.two_of
    have ev : v = .int i := h
    have ew : w = .int j := h'
    subst ev ew
    exact ⟨i, j, rfl, q _ F H R (Same.refl _) rfl⟩
  · cases e
theorem ct_min2 : CalT X (fun xs H Q => ∃ i j, xs = [.int i, .int j] ∧ Q (.int (if j < i then j else i)) H) min2O := fun k F ρ σ H Q ts t vs R rs e q => by
  unfold min2O at e
  split at e
  · rename_i i j
    cases e
    obtain ⟨v, w, rfl, h, h'⟩ := rs.two_of
    have ev : v = .int i := h
    have ew : w = .int j := h'
    subst ev ew
    exact ⟨i, j, rfl, q _ F H R (Same.refl _) rfl⟩
  · cases e
/-- tuple(x), list(x) -/
def tuple1O (ts : List T) : Option T := match ts with
  | [.lst a] => some (.tup a)
  | [.sl a] => some (.tup a)
  | [.tup a] => some (.tup a)
  | _ => none
theorem ct_tuple : CalT X (fun xs H Q => ∃ p ys, xs = [.ref p] ∧ ((SqL X.K H p ys ∧ ∀ l, H l = none → Q (.ref l) (upd H l (.tup ys))) ∨ (SqT X.K H p ys ∧ Q (.ref p) H))) tuple1O := fun k F ρ σ H Q ts t vs R rs e q => by
  unfold tuple1O at e
  have fin : ∀ (a : List T) (ws : List V), t = .tup a → Reps X.K X.mg F a ws → ∀ l, H l = none → Q (.ref l) (upd H l (.tup ws)) := fun a ws et r l nl => by
    subst et
    have sF : Same F (upd F l (.tup ws)) := same_upd (R.fnone nl)
    exact q _ _ _ (R.newF nl) sF ⟨l, ws, rfl, SqT.of upd_same, r.mono sF⟩
  split at e
  · cases e
    obtain ⟨v, rfl, p, ws, rfl, h1, h2⟩ := rs.one_of
    exact ⟨p, ws, rfl, .inl ⟨SqL.of (R.fh _ _ h1), fin _ ws rfl h2⟩⟩
  · cases e
    obtain ⟨v, rfl, p, ws, rfl, h1, h2⟩ := rs.one_of
    exact ⟨p, ws, rfl, .inl ⟨same_SqL R.fh h1, fin _ ws rfl h2⟩⟩
  · cases e
    obtain ⟨v, rfl, p, ws, rfl, h1, h2⟩ := rs.one_of
    exact ⟨p, ws, rfl, .inr ⟨same_SqT R.fh h1, q _ F H R (Same.refl _) ⟨p, ws, rfl, h1, h2⟩⟩⟩
  · cases e
def seqT (t : T) : Option (List T) := match t with
  | .lst a => some a
  | .sl a => some a
  | .tup a => some a
  | _ => none
theorem seqT_rep {K : PySem.W.Frag} {mg : Str → Option Value} {F H : Hp} {t : T} {a : List T} {v : V} (s : Same F H) (r : Rep K mg F t v) (e : seqT t = some a) : ∃ p ws, v = .ref p ∧ (SqL K H p ws ∨ SqT K H p ws) ∧ Reps K mg F a ws := by
  cases t <;> simp only [seqT, Option.some.injEq, reduceCtorEq] at e
  · subst e; obtain ⟨p, ws, rfl, h1, h2⟩ := r; exact ⟨p, ws, rfl, .inl (SqL.of (s _ _ h1)), h2⟩
  · subst e; obtain ⟨p, ws, rfl, h1, h2⟩ := r; exact ⟨p, ws, rfl, .inr (same_SqT s h1), h2⟩
  · subst e; obtain ⟨p, ws, rfl, h1, h2⟩ := r; exact ⟨p, ws, rfl, .inl (same_SqL s h1), h2⟩
def list1 (ts : List T) : Option O := match ts with
  | [t] => (seqT t).map O.l
  | _ => none
theorem fo_list {x : Str} {p : Pos} (hg : Gl X "list") (hm : X.mg "list" = none) (hv : bootBuiltins "list" = some (.type "list")) (ha : FA X E (e :: es) fs)
    (he : starEach (e :: es) X.env = (false, eval e X.env) :: starEach es X.env := by rfl) (hpl : (backTo pos (starEach es X.env)).any (·.1) = false := by rfl) : FO X E (.Call (.Name "list" p) (e :: es) [] pos) (calO list1 fs) := by
  refine pe_imp (pe_callTy call_list_of hg hm hv ha (by decide) (by decide) he hpl) fun σ H Q h => ?_
  obtain ⟨k, F, ρ, R, h⟩ := h
  refine ⟨k, F, ρ, R, (Den.bind h).imp fun ts ρ1 h1 vs F1 H1 R1 s1 r1 => ?_⟩
  obtain ⟨o, e, q⟩ := Den.lift h1
  unfold list1 at e
  split at e
  · rw [Option.map_eq_some_iff] at e
    obtain ⟨a, e, rfl⟩ := e
    obtain ⟨v, rfl, r⟩ := r1.one_of
    obtain ⟨p, ws, rfl, h2, h3⟩ := seqT_rep R1.fh r e
    exact ⟨p, ws, rfl, h2, fun l nl => q _ F1 _ (R1.newO (o := .l a) ⟨ws, rfl, h3⟩ nl) s1 R1.len⟩
  · cases e
/-- all, any of a list of truth values -/
def blsT : List T → Option (List Bool)
  | [] => some []
  | .bl b :: ts => (blsT ts).map (b :: ·)
  | _ :: _ => none
theorem blsT_rep {K : PySem.W.Frag} {mg : Str → Option Value} {F : Hp} : ∀ {ts : List T} {bs : List Bool} {vs : List V}, Reps K mg F ts vs → blsT ts = some bs → vs = bs.map V.bl
  | [], bs, vs, r, e => by
    have ev : vs = [] := r
    simp only [blsT, Option.some.injEq] at e
    subst ev e; rfl
  | t :: ts, bs, vs, r, e => by
    obtain ⟨v, w, rfl, h1, h2⟩ := r
    cases t <;> simp only [blsT, reduceCtorEq] at e
    rw [Option.map_eq_some_iff] at e
    obtain ⟨bs', e, rfl⟩ := e
    have ev : v = .bl _ := h1
    subst ev
    rw [blsT_rep h2 e]; rfl
def all1O (ts : List T) : Option T := match ts with
  | [.lst a] => (blsT a).map fun bs => .bl (bs.all id)
  | _ => none
def any1O (ts : List T) : Option T := match ts with
  | [.lst a] => (blsT a).map fun bs => .bl (bs.any id)
  | _ => none
theorem ct_all : CalT X (rAll X.K) all1O := fun k F ρ σ H Q ts t vs R rs e q => by
  unfold all1O at e
  split at e
  · rw [Option.map_eq_some_iff] at e
    obtain ⟨bs, e, rfl⟩ := e
    obtain ⟨v, rfl, p, ws, rfl, h1, h2⟩ := rs.one_of
    have ew := blsT_rep h2 e
    subst ew
    exact ⟨p, bs, rfl, SqL.of (R.fh _ _ h1), q _ F H R (Same.refl _) rfl⟩
  · cases e
theorem ct_any : CalT X (rAny X.K) any1O := fun k F ρ σ H Q ts t vs R rs e q => by
  unfold any1O at e
  split at e
  · rw [Option.map_eq_some_iff] at e
    obtain ⟨bs, e, rfl⟩ := e
    obtain ⟨v, rfl, p, ws, rfl, h1, h2⟩ := rs.one_of
    have ew := blsT_rep h2 e
    subst ew
    exact ⟨p, bs, rfl, SqL.of (R.fh _ _ h1), q _ F H R (Same.refl _) rfl⟩
  · cases e
/-- sum, max, min of a list of ints -/
def intsT : List T → Option (List Int)
  | [] => some []
  | .int b :: ts => (intsT ts).map (b :: ·)
  | _ :: _ => none
theorem intsT_rep {K : PySem.W.Frag} {mg : Str → Option Value} {F : Hp} : ∀ {ts : List T} {bs : List Int} {vs : List V}, Reps K mg F ts vs → intsT ts = some bs → vs = bs.map V.int
  | [], bs, vs, r, e => by
    have ev : vs = [] := r
    simp only [intsT, Option.some.injEq] at e
    subst ev e; rfl
  | t :: ts, bs, vs, r, e => by
    obtain ⟨v, w, rfl, h1, h2⟩ := r
    cases t <;> simp only [intsT, reduceCtorEq] at e
    rw [Option.map_eq_some_iff] at e
    obtain ⟨bs', e, rfl⟩ := e
    have ev : v = .int _ := h1
    subst ev
    rw [intsT_rep h2 e]; rfl
theorem intsT_map (ns : List Int) : intsT (ns.map T.int) = some ns := by
  induction ns with
  | nil => rfl
  | cons n ns ih => simp [intsT, ih]
def sum1O (ts : List T) : Option T := match ts with
  | [.lst a] => (intsT a).map fun bs => .int bs.sum
  | _ => none
theorem ct_sum : CalT X (rSum X.K) sum1O := fun k F ρ σ H Q ts t vs R rs e q => by
  unfold sum1O at e
  split at e
  · rw [Option.map_eq_some_iff] at e
    obtain ⟨bs, e, rfl⟩ := e
    obtain ⟨v, rfl, p, ws, rfl, h1, h2⟩ := rs.one_of
    have ew := intsT_rep h2 e
    subst ew
    exact ⟨p, bs, rfl, SqL.of (R.fh _ _ h1), q _ F H R (Same.refl _) rfl⟩
  · cases e
def maxL : List Int → Option Int
  | [] => none
  | x :: xs => some (xs.foldl (fun m y => if m < y then y else m) x)
def minL : List Int → Option Int
  | [] => none
  | x :: xs => some (xs.foldl (fun m y => if y < m then y else m) x)
theorem maxL_fold : ∀ (xs : List Int) (x m : Int), (m = x ∨ m ∈ xs) → (x ≤ m) → (∀ y ∈ xs, y ≤ m) → xs.foldl (fun m y => if m < y then y else m) x = m
  | [], x, m, h, h1, _ => by
    rcases h with h | h
    · exact h.symm
    · cases h
  | y :: ys, x, m, h, h1, h2 => by
    have hy := h2 y (List.mem_cons_self ..)
    have ht : ∀ z ∈ ys, z ≤ m := fun z hz => h2 z (List.mem_cons_of_mem _ hz)
    rw [List.foldl_cons]
    by_cases hlt : x < y
    · rw [if_pos hlt]
      refine maxL_fold ys y m ?_ hy ht
      rcases h with h | h
      · omega
      · rcases List.mem_cons.mp h with h | h
        · exact .inl h
        · exact .inr h
    · rw [if_neg hlt]
      refine maxL_fold ys x m ?_ h1 ht
      rcases h with h | h
      · exact .inl h
      · rcases List.mem_cons.mp h with h | h
        · left; omega
        · exact .inr h
theorem minL_fold : ∀ (xs : List Int) (x m : Int), (m = x ∨ m ∈ xs) → (m ≤ x) → (∀ y ∈ xs, m ≤ y) → xs.foldl (fun m y => if y < m then y else m) x = m
  | [], x, m, h, h1, _ => by
    rcases h with h | h
    · exact h.symm
    · cases h
  | y :: ys, x, m, h, h1, h2 => by
    have hy := h2 y (List.mem_cons_self ..)
    have ht : ∀ z ∈ ys, m ≤ z := fun z hz => h2 z (List.mem_cons_of_mem _ hz)
    rw [List.foldl_cons]
    by_cases hlt : y < x
    · rw [if_pos hlt]
      refine minL_fold ys y m ?_ hy ht
      rcases h with h | h
      · omega
      · rcases List.mem_cons.mp h with h | h
        · exact .inl h
        · exact .inr h
    · rw [if_neg hlt]
      refine minL_fold ys x m ?_ h1 ht
      rcases h with h | h
      · exact .inl h
      · rcases List.mem_cons.mp h with h | h
        · left; omega
        · exact .inr h
theorem maxL_of {ns : List Int} {m : Int} (h : m ∈ ns) (h2 : ∀ y, y ∈ ns → y ≤ m) : maxL ns = some m := by
  cases ns with
  | nil => cases h
  | cons x xs => exact congrArg some (maxL_fold xs x m (List.mem_cons.mp h) (h2 x (List.mem_cons_self ..)) fun y hy => h2 y (List.mem_cons_of_mem _ hy))
theorem minL_of {ns : List Int} {m : Int} (h : m ∈ ns) (h2 : ∀ y, y ∈ ns → m ≤ y) : minL ns = some m := by
  cases ns with
  | nil => cases h
  | cons x xs => exact congrArg some (minL_fold xs x m (List.mem_cons.mp h) (h2 x (List.mem_cons_self ..)) fun y hy => h2 y (List.mem_cons_of_mem _ hy))
def max1O (ts : List T) : Option T := match ts with
  | [.lst a] => ((intsT a).bind maxL).map T.int
  | _ => none
def min1O (ts : List T) : Option T := match ts with
  | [.lst a] => ((intsT a).bind minL).map T.int
  | _ => none
theorem ct_max : CalT X (rMax X.K) max1O := fun k F ρ σ H Q ts t vs R rs e q => by
  unfold max1O at e
  split at e
  · rw [Option.map_eq_some_iff] at e
    obtain ⟨m, e, rfl⟩ := e
    rw [Option.bind_eq_some_iff] at e
    obtain ⟨bs, e, e2⟩ := e
    obtain ⟨v, rfl, p, ws, rfl, h1, h2⟩ := rs.one_of
    have ew := intsT_rep h2 e
    subst ew
    refine ⟨p, bs, rfl, SqL.of (R.fh _ _ h1), ?_, fun n hn hy => ?_⟩
    · cases bs with
      | nil => cases e2
      | cons => simp
    · have := maxL_of hn hy
      rw [e2] at this
      cases this
      exact q _ F H R (Same.refl _) rfl
  · cases e
theorem ct_min : CalT X (rMin X.K) min1O := fun k F ρ σ H Q ts t vs R rs e q => by
  unfold min1O at e
  split at e
  · rw [Option.map_eq_some_iff] at e
    obtain ⟨m, e, rfl⟩ := e
    rw [Option.bind_eq_some_iff] at e
    obtain ⟨bs, e, e2⟩ := e
    obtain ⟨v, rfl, p, ws, rfl, h1, h2⟩ := rs.one_of
    have ew := intsT_rep h2 e
    subst ew
    refine ⟨p, bs, rfl, SqL.of (R.fh _ _ h1), ?_, fun n hn hy => ?_⟩
    · cases bs with
      | nil => cases e2
      | cons => simp
    · have := minL_of hn hy
      rw [e2] at this
      cases this
      exact q _ F H R (Same.refl _) rfl
  · cases e
end
end FL

/-! FL5: statements, loops, comprehensions, calls of defs. -/
namespace FL
open PySem PySem.Spec L2

/-! ### a tree or a new object -/
inductive VO where
  | tr (t : T) | ob (o : O)
def VO.sv : VO → SV
  | .tr t => .fz t
  | .ob o => .ow o
def tX (X : Cx) (E : XK) (f : M VO) : TE := fun σ H Q => ∃ k F ρ, RSk X k F ρ σ H ∧ Den (f ρ) (fun x ρ' => ∀ v F' H', RSk X k F' (ρ' ++ [x.sv]) (σ ++ [some v]) H' → Same F F' → ρ'.length = σ.length → Q v H') (XOk X.K X.mg k.B E)
def tXs (X : Cx) (E : XK) (f : M (List VO)) : TA := fun σ H Q => ∃ k F ρ, RSk X k F ρ σ H ∧ Den (f ρ) (fun xs ρ' => ∀ vs F' H', RSk X k F' (ρ' ++ xs.map VO.sv) (σ ++ vs.map some) H' → Same F F' → ρ'.length = σ.length → vs.length = xs.length → Q vs H') (XOk X.K X.mg k.B E)
abbrev FX (X : Cx) (E : XK) (e : Expr) (f : M VO) : Prop := PE X e (tX X E f)
abbrev FXs (X : Cx) (E : XK) (es : List Expr) (f : M (List VO)) : Prop := PA X es (tXs X E f)
def asT (f : M T) : M VO := fun ρ => (f ρ).bind fun t ρ => .ok (.tr t) ρ
def asO (f : M O) : M VO := fun ρ => (f ρ).bind fun o ρ => .ok (.ob o) ρ
section
variable {X : Cx} {E : XK} {e : Expr} {es : List Expr} {pos : Pos} {f : M T} {fo : M O} {fx : M VO} {fs : M (List VO)}
theorem fx_t (h : FE X E e f) : FX X E e (asT f) := by
  refine pe_imp h fun σ H Q h => ?_
  obtain ⟨k, F, ρ, R, h⟩ := h
  refine ⟨k, F, ρ, R, (Den.bind h).imp fun t ρ1 h1 v F1 H1 R1 s1 r1 => h1 v F1 H1 ?_ s1 R1.len⟩
  have R2 : RSk X k F1 (ρ1 ++ []) (σ ++ []) H1 := by rw [List.append_nil, List.append_nil]; exact R1
  exact R2.insF R1.len r1
theorem fx_o (h : FO X E e fo) : FX X E e (asO fo) := by
  refine pe_imp h fun σ H Q h => ?_
  obtain ⟨k, F, ρ, R, h⟩ := h
  exact ⟨k, F, ρ, R, (Den.bind h).imp fun o ρ1 h1 v F1 H1 R1 s1 l1 => h1 v F1 H1 R1 s1 l1⟩
def xsNil : M (List VO) := fun ρ => .ok [] ρ
def xsCons (f : M VO) (fs : M (List VO)) : M (List VO) := fun ρ => (f ρ).bind fun x ρ => (fs ρ).bind fun xs ρ => .ok (x :: xs) ρ
theorem fxs_nil : FXs X E [] xsNil := pa_imp pa_nil fun σ H Q ⟨k, F, ρ, R, h⟩ => h [] F H (by simpa using R) (Same.refl _) R.len rfl
theorem fxs_cons (ha : FX X E e fx) (hr : FXs X E es fs) (hs : starEach (e :: es) X.env = (false, eval e X.env) :: starEach es X.env := by rfl) : FXs X E (e :: es) (xsCons fx fs) := by
  refine pa_imp (pa_cons ha hr hs) fun σ H Q h => ?_
  obtain ⟨k, F, ρ, R, h⟩ := h
  refine ⟨k, F, ρ, R, (Den.bind h).imp fun x ρ1 h1 v F1 H1 R1 s1 l1 => ?_⟩
  cases x with
  | tr t =>
    have R1' : RSk X k F1 (ρ1 ++ [SV.fz t]) (σ ++ [some v]) H1 := R1
    -- the tree at the end, and the state without it
    obtain ⟨α, g1, g2⟩ := R1'.ex
    have e0 : (ρ1 ++ [SV.fz t])[ρ1.length]? = some (.fz t) := by simp
    obtain ⟨v', ev, rv⟩ := g1 ρ1.length _ e0
    have ev' : v' = v := by
      rw [l1] at ev
      simpa using ev.symm
    subst ev'
    have up : ∀ j y, ρ1[j]? = some y → (ρ1 ++ [SV.fz t])[j]? = some y ∧ j < ρ1.length := fun j y hy => by
      have hj := (List.getElem?_eq_some_iff.mp hy).1
      exact ⟨by rw [List.getElem?_append_left hj]; exact hy, hj⟩
    have R0 : RSk X k F1 ρ1 σ H1 := by
      refine ⟨l1, R1.fh, R1.bh, R1.f0, R1.fr, R1.pt, α, fun j y hy => ?_, fun j m y z hy hz => g2 j m y z (up j y hy).1 (up m z hz).1⟩
      have q := g1 j y (up j y hy).1
      have es : (σ ++ [some v'])[j]? = σ[j]? := List.getElem?_append_left (by have := (up j y hy).2; omega)
      cases y with
      | un => trivial
      | fz t => obtain ⟨w, a, b⟩ := q; exact ⟨w, es ▸ a, b⟩
      | ow o => obtain ⟨a, b⟩ := q; exact ⟨es ▸ a, b⟩
      | pa o => obtain ⟨a, b⟩ := q; exact ⟨es ▸ a, b⟩
    refine ⟨k, F1, ρ1, R0, (Den.bind h1).imp fun xs ρ2 h2 vs F2 H2 R2 s2 l2 lx => ?_⟩
    exact h2 (v' :: vs) F2 H2 (R2.insF l2 (rv.mono s2)) (s1.trans s2) l2 (by simp [lx])
  | ob o =>
    obtain ⟨p, ho, rfl, fp, bp, npm, hp, ro, R0⟩ := RS.aside R1 l1
    have f0 : k.F0 p = none := R1.f0.free fp
    refine ⟨⟨upd k.B p ho, k.F0, k.pm⟩, F1, ρ1, R0, ?_⟩
    have go : Den (fs ρ1) (fun xs ρ2 => ∀ vs F2 H2, RS X.K X.mg (upd k.B p ho) k.F0 k.pm F2 (ρ2 ++ xs.map VO.sv) (σ ++ vs.map some) H2 → Same F1 F2 → ρ2.length = σ.length → vs.length = xs.length → Q (.ref p :: vs) H2) (XOk X.K X.mg (upd k.B p ho) E) := by
      have h2 := Den.bind h1
      cases e : fs ρ1 with
      | bad => rw [e] at h2; exact h2
      | exc x =>
        rw [e] at h2
        have h3 : XOk X.K X.mg k.B E x := h2
        have sB : Same k.B (upd k.B p ho) := same_upd bp
        obtain ⟨c, a⟩ := x
        cases a with
        | none => exact fun C H' m s => h3 C H' m (sB.trans s)
        | some a => exact fun C d v F' H' m s s' => h3 C d v F' H' m (sB.trans s) s'
      | ok xs ρ2 =>
        rw [e] at h2
        intro vs F2 H2 R2 s2 l2 lx
        exact h2 (.ref p :: vs) F2 H2 (RS.back R2 l2 f0 bp npm (ro.mono s2)) (s1.trans s2) l2 (by simp [lx])
    exact go
end

/-! ### statements -/
inductive Fl where
  | nx | rt (t : T) | bk | ct
abbrev MS := M Fl
def Post (X : Cx) (k : Bk) (F : Hp) (D : Ends) (fl : Fl) (ρ' : Env) : Prop := match fl with
  | .nx => ∀ σ' F' H', RSk X k F' ρ' σ' H' → Same F F' → D.nx σ' H'
  | .bk => ∀ σ' F' H', RSk X k F' ρ' σ' H' → Same F F' → D.bk σ' H'
  | .ct => ∀ σ' F' H', RSk X k F' ρ' σ' H' → Same F F' → D.ct σ' H'
  | .rt t => ∀ v σ' F' H', RSk X k F' ρ' σ' H' → Same F F' → Rep X.K X.mg F' t v → D.rt v H'
theorem Post.mono {X : Cx} {k : Bk} {F F1 : Hp} {D : Ends} {fl : Fl} {ρ : Env} (s : Same F F1) (h : Post X k F D fl ρ) : Post X k F1 D fl ρ := by
  cases fl with
  | nx => exact fun σ' F' H' R s' => h σ' F' H' R (s.trans s')
  | bk => exact fun σ' F' H' R s' => h σ' F' H' R (s.trans s')
  | ct => exact fun σ' F' H' R s' => h σ' F' H' R (s.trans s')
  | rt t => exact fun v σ' F' H' R s' => h v σ' F' H' R (s.trans s')
def tS (X : Cx) (E : XK) (f : MS) : TS := fun D σ H => ∃ k F ρ, RSk X k F ρ σ H ∧ Den (f ρ) (Post X k F D) (XOk X.K X.mg k.B E)
abbrev FS (X : Cx) (E : XK) (st : Stmt) (f : MS) : Prop := PS X st (tS X E f)
abbrev FSs (X : Cx) (E : XK) (st : List Stmt) (f : MS) : Prop := PSs X st (tS X E f)
theorem pss_imp {X : Cx} {e : List Stmt} {t t' : TS} (h : PSs X e t) (i : ∀ D σ H, t' D σ H → t D σ H) : PSs X e t' := ⟨fun pins s σ H D I q => h.run pins s σ H D I (i _ _ _ q)⟩
def skip : MS := fun ρ => .ok .nx ρ
def sq (f g : MS) : MS := fun ρ => (f ρ).bind fun fl ρ => match fl with
  | .nx => g ρ
  | .rt t => .ok (.rt t) ρ
  | .bk => .ok .bk ρ
  | .ct => .ok .ct ρ
section
variable {X : Cx} {E : XK} {e : Expr} {es : List Expr} {pos : Pos} {f : M T} {fo : M O} {fx : M VO} {fs : M (List VO)} {st : Stmt} {sts a b : List Stmt} {s1 s2 s3 : MS} {g : M Bool} {c : Expr}
theorem fs_nil : FSs X E [] skip := pss_imp pss_nil fun D σ H ⟨k, F, ρ, R, h⟩ => h σ F H R (Same.refl _)
theorem fs_cons (h1 : FS X E st s1) (h2 : FSs X E sts s2) : FSs X E (st :: sts) (sq s1 s2) := by
  refine pss_imp (pss_cons h1 h2) fun D σ H h => ?_
  obtain ⟨k, F, ρ, R, h⟩ := h
  refine ⟨k, F, ρ, R, (Den.bind h).imp fun fl ρ1 h1 => ?_⟩
  cases fl with
  | nx => exact fun σ' F' H' R' s' => ⟨k, F', ρ1, R', (show Den (s2 ρ1) (Post X k F D) (XOk X.K X.mg k.B E) from h1).imp fun fl ρ2 q => q.mono s'⟩
  | bk => exact h1
  | ct => exact h1
  | rt t => exact h1
theorem fs_one (h1 : FS X E st s1) : FSs X E [st] s1 := pss_one h1
theorem fs_pass : FS X E (.Pass pos) skip := ps_imp ps_pass fun D σ H ⟨k, F, ρ, R, h⟩ => h σ F H R (Same.refl _)
def sBrk : MS := fun ρ => .ok .bk ρ
def sCnt : MS := fun ρ => .ok .ct ρ
theorem fs_break : FS X E (.Break pos) sBrk := ps_imp ps_break fun D σ H ⟨k, F, ρ, R, h⟩ => h σ F H R (Same.refl _)
theorem fs_continue : FS X E (.Continue pos) sCnt := ps_imp ps_continue fun D σ H ⟨k, F, ρ, R, h⟩ => h σ F H R (Same.refl _)
def bad : MS := fun _ => .bad
theorem fs_never : FS X E st bad := ps_imp ps_never fun D σ H ⟨k, F, ρ, R, h⟩ => h
theorem fss_never : FSs X E sts bad := pss_imp pss_never fun D σ H ⟨k, F, ρ, R, h⟩ => h
def sRet (f : M T) : MS := fun ρ => (f ρ).bind fun t ρ => .ok (.rt t) ρ
theorem fs_ret (h : FE X E e f) : FS X E (.Return (some e) pos) (sRet f) := by
  refine ps_imp (ps_ret h) fun D σ H h => ?_
  obtain ⟨k, F, ρ, R, h⟩ := h
  exact ⟨k, F, ρ, R, (Den.bind h).imp fun t ρ1 h1 v F1 H1 R1 s1 r1 => h1 v σ F1 H1 R1 s1 r1⟩
def sRetN : MS := fun ρ => .ok (.rt .non) ρ
theorem fs_retN : FS X E (.Return none pos) sRetN := ps_imp ps_retN fun D σ H ⟨k, F, ρ, R, h⟩ => h .non σ F H R (Same.refl _) rfl
def sIf (g : M Bool) (s1 s2 : MS) : MS := fun ρ => (g ρ).bind fun b ρ => if b = true then s1 ρ else s2 ρ
theorem fs_if (hc : FT X E c g) (ha : FSs X E a s1) (hb : FSs X E b s2) : FS X E (.If c a b pos) (sIf g s1 s2) := by
  refine ps_imp (ps_if hc ha hb) fun D σ H h => ?_
  obtain ⟨k, F, ρ, R, h⟩ := h
  refine ⟨k, F, ρ, R, (Den.bind h).imp fun t ρ1 h1 F1 H1 R1 s1 => ?_⟩
  split at h1
  · rename_i e
    rw [if_pos e]
    exact ⟨k, F1, ρ1, R1, h1.imp fun _ _ q => q.mono s1⟩
  · rename_i e
    rw [if_neg e]
    exact ⟨k, F1, ρ1, R1, h1.imp fun _ _ q => q.mono s1⟩
/-- an expression for its effect -/
def sExpr (f : M T) : MS := fun ρ => (f ρ).bind fun _ ρ => .ok .nx ρ
theorem fs_expr (h : FE X E e f) (hs : swapsWith e none pos.line X.env = pure false := by rfl) : FS X E (.Expr e pos) (sExpr f) := by
  refine ps_imp (ps_expr h hs) fun D σ H h => ?_
  obtain ⟨k, F, ρ, R, h⟩ := h
  exact ⟨k, F, ρ, R, (Den.bind h).imp fun t ρ1 h1 v F1 H1 R1 s1 r1 => h1 σ F1 H1 R1 s1⟩
theorem fs_doc {x j pos pos'} : FS X E (.Expr (.Constant (.str x) j pos) pos') skip := ps_imp ps_doc fun D σ H ⟨k, F, ρ, R, h⟩ => h σ F H R (Same.refl _)
/-- name = e -/
def put (i : Nat) (x : SV) (ρ : Env) : Res Fl := if i < ρ.length then .ok .nx (ρ.set i x) else .bad
def sSet (i : Nat) (f : M VO) : MS := fun ρ => (f ρ).bind fun x ρ => put i x.sv ρ
theorem fs_set {i : Nat} {x : Str} {pos' : Pos} (hN : X.N.Nodup) (hi : X.N[i]? = some x) (hx : Loc X.env.scope x) (he : FX X E e fx) (hs : swapsWith e (some (.Name x pos')) pos.line X.env = pure false := by rfl) (hf : X.fn x = true ∨ X.env.scope.names.lookup x = some .local := by first | exact .inl rfl | exact .inr rfl | assumption) :
    FS X E (.Assign [.Name x pos'] e pos) (sSet i fx) := by
  refine ps_imp (ps_set hN hi hx he hs hf) fun D σ H h => ?_
  obtain ⟨k, F, ρ, R, h⟩ := h
  refine ⟨k, F, ρ, R, (Den.bind h).imp fun x ρ1 h1 v F1 H1 R1 s1 l1 => ?_⟩
  unfold put at h1
  split at h1
  · rename_i hlt
    have R2 := RS.pop (ys := []) (ws := []) R1 l1 i hlt
    rw [List.append_nil, List.append_nil] at R2
    exact h1 _ F1 H1 R2 s1
  · exact h1.elim
/-- a, b = x, y -/
def put2 (i j : Nat) (xs : List VO) (ρ : Env) : Res Fl := match xs with
  | [x, y] => if i < ρ.length ∧ j < ρ.length then .ok .nx ((ρ.set i x.sv).set j y.sv) else .bad
  | _ => .bad
def sPar (i j : Nat) (fs : M (List VO)) : MS := fun ρ => (fs ρ).bind (put2 i j)
theorem two_slots {k : Bk} {F : Hp} {ρ : Env} {σ : L2.St} {H : Hp} {i j : Nat} {x y : SV} {v w : V} (R : RSk X k F (ρ ++ [x, y]) (σ ++ [some v, some w]) H) (l : ρ.length = σ.length) (hi : i < ρ.length) (hj : j < ρ.length) :
    RSk X k F ((ρ.set i x).set j y) ((σ.set i (some v)).set j (some w)) H := by
  have R1 := RS.pop (ys := [y]) (ws := [some w]) R l i hi
  have R2 := RS.pop (ys := []) (ws := []) R1 (by simpa using l) j (by simpa using hj)
  rw [List.append_nil, List.append_nil] at R2
  exact R2
theorem fs_par {i j : Nat} {x y : Str} {e1 e2 : Expr} {px py pt : Pos} {kt k2 pt2} (hc : X.calm = true) (hN : X.N.Nodup) (hi : X.N[i]? = some x) (hj : X.N[j]? = some y) (hij : i ≠ j)
    (hx : X.env.scope.names.lookup x = some .local) (hy : X.env.scope.names.lookup y = some .local) (ha : FXs X E [e1, e2] fs)
    (hw : swappedStores [.Tuple [.Name x px, .Name y py] kt pt] (.Tuple [e1, e2] k2 pt2) X.env = pure (some [x, y]))
    (hs : swapsWithSole [.Tuple [.Name x px, .Name y py] kt pt] (.Tuple [e1, e2] k2 pt2) pos.line X.env = pure false := by rfl) :
    FS X E (.Assign [.Tuple [.Name x px, .Name y py] kt pt] (.Tuple [e1, e2] k2 pt2) pos) (sPar i j fs) := by
  refine ps_imp (ps_par hc hN hi hj hij hx hy ha hw hs) fun D σ H h => ?_
  obtain ⟨k, F, ρ, R, h⟩ := h
  refine ⟨k, F, ρ, R, (Den.bind h).imp fun xs ρ1 h1 vs F1 H1 R1 s1 l1 lx => ?_⟩
  unfold put2 at h1
  split at h1
  · rename_i x y
    split at h1
    · rename_i hlt
      match vs, lx with
      | [v, w], _ => exact ⟨v, w, rfl, h1 _ F1 H1 (two_slots R1 l1 hlt.1 hlt.2) s1⟩
    · exact h1.elim
  · exact h1.elim
def put3 (i j l : Nat) (xs : List VO) (ρ : Env) : Res Fl := match xs with
  | [x, y, z] => if i < ρ.length ∧ j < ρ.length ∧ l < ρ.length then .ok .nx (((ρ.set i x.sv).set j y.sv).set l z.sv) else .bad
  | _ => .bad
def sPar3 (i j l : Nat) (fs : M (List VO)) : MS := fun ρ => (fs ρ).bind (put3 i j l)
theorem fs_par3 {i j l : Nat} {x y z : Str} {e1 e2 e3 : Expr} {px py pz pt : Pos} {kt k2 pt2} (hc : X.calm = true) (hN : X.N.Nodup) (hi : X.N[i]? = some x) (hj : X.N[j]? = some y) (hl : X.N[l]? = some z) (hij : i ≠ j) (hil : i ≠ l) (hjl : j ≠ l)
    (hx : X.env.scope.names.lookup x = some .local) (hy : X.env.scope.names.lookup y = some .local) (hz : X.env.scope.names.lookup z = some .local) (ha : FXs X E [e1, e2, e3] fs)
    (hw : swappedStores [.Tuple [.Name x px, .Name y py, .Name z pz] kt pt] (.Tuple [e1, e2, e3] k2 pt2) X.env = pure (some [x, y, z]))
    (hs : swapsWithSole [.Tuple [.Name x px, .Name y py, .Name z pz] kt pt] (.Tuple [e1, e2, e3] k2 pt2) pos.line X.env = pure false := by rfl) :
    FS X E (.Assign [.Tuple [.Name x px, .Name y py, .Name z pz] kt pt] (.Tuple [e1, e2, e3] k2 pt2) pos) (sPar3 i j l fs) := by
  refine ps_imp (ps_par3 hc hN hi hj hl hij hil hjl hx hy hz ha hw hs) fun D σ H h => ?_
  obtain ⟨k, F, ρ, R, h⟩ := h
  refine ⟨k, F, ρ, R, (Den.bind h).imp fun xs ρ1 h1 vs F1 H1 R1 s1 l1 lx => ?_⟩
  unfold put3 at h1
  split at h1
  · rename_i x y z
    split at h1
    · rename_i hlt
      match vs, lx with
      | [v, w, u], _ =>
        have R2 := RS.pop (ys := [y.sv, z.sv]) (ws := [some w, some u]) R1 l1 i hlt.1
        exact ⟨v, w, u, rfl, h1 _ F1 H1 (two_slots R2 (by simpa using l1) (by simpa using hlt.2.1) (by simpa using hlt.2.2)) s1⟩
    · exact h1.elim
  · exact h1.elim
/-! ### targets -/
/-- what a tree given to a target makes of the state; is: the slots that it changes -/
abbrev MG := T → Env → Option Env
def tG (X : Cx) (is : List Nat) (g : MG) : TG := fun v σ H Q => ∃ k F ρ t, RSk X k F ρ σ H ∧ Rep X.K X.mg F t v ∧ ∃ ρ', g t ρ = some ρ' ∧ ∀ σ' F' H', RSk X k F' ρ' σ' H' → Same F F' → σ'.length = σ.length → (∀ j, j ∉ is → σ'[j]? = σ[j]?) → Q σ' H'
abbrev FG (X : Cx) (is : List Nat) (e : Expr) (g : MG) : Prop := PG X e (tG X is g)
theorem pg_imp {X : Cx} {e : Expr} {t t' : TG} (h : PG X e t) (i : ∀ v σ H Q, t' v σ H Q → t v σ H Q) : PG X e t' := ⟨fun pins s σ H v u Q I r q => h.run pins s σ H v u Q I r (i _ _ _ _ q)⟩
def isPa (x : Option SV) : Bool := match x with
  | some (.pa _) => true
  | _ => false
def gN (i : Nat) : MG := fun t ρ => if i < ρ.length then some (ρ.set i (.fz t)) else none
theorem not_pa {x : Option SV} (h : isPa x = false) (o : O) : x ≠ some (.pa o) := fun e => by rw [e] at h; cases h
theorem fg_name {i : Nat} {x : Str} (hN : X.N.Nodup) (hi : X.N[i]? = some x) (hx : Loc X.env.scope x) (hf : X.fn x = true ∨ X.env.scope.names.lookup x = some .local := by first | exact .inl rfl | exact .inr rfl | assumption) : FG X [i] (.Name x pos) (gN i) := by
  refine pg_imp (pg_name hN hi hx hf) fun v σ H Q h => ?_
  obtain ⟨k, F, ρ, t, R, r, ρ', e, q⟩ := h
  unfold gN at e
  split at e
  · rename_i hlt
    cases e
    refine q _ F H (R.setF i r) (Same.refl _) (by simp) fun j hj => ?_
    rw [List.getElem?_set_ne (by simpa [eq_comm] using hj)]
  · cases e
/-- several targets by their trees -/
abbrev MGs := List T → Env → Option Env
def tGs (X : Cx) (is : List Nat) (g : MGs) : TGs := fun vs σ H Q => ∃ k F ρ ts, RSk X k F ρ σ H ∧ Reps X.K X.mg F ts vs ∧ ∃ ρ', g ts ρ = some ρ' ∧ ∀ σ' F' H', RSk X k F' ρ' σ' H' → Same F F' → σ'.length = σ.length → (∀ j, j ∉ is → σ'[j]? = σ[j]?) → Q σ' H'
abbrev FGs (X : Cx) (is : List Nat) (e : List Expr) (g : MGs) : Prop := PGs X e (tGs X is g)
theorem pgs_imp {X : Cx} {e : List Expr} {t t' : TGs} (h : PGs X e t) (i : ∀ v σ H Q, t' v σ H Q → t v σ H Q) : PGs X e t' := ⟨fun pins s σ H v u Q I r q => h.run pins s σ H v u Q I r (i _ _ _ _ q)⟩
def gsNil : MGs := fun ts ρ => match ts with
  | [] => some ρ
  | _ => none
def gsCons (g : MG) (gs : MGs) : MGs := fun ts ρ => match ts with
  | t :: ts => (g t ρ).bind fun ρ => gs ts ρ
  | [] => none
theorem fgs_nil : FGs X [] [] gsNil := pgs_imp pgs_nil fun vs σ H Q h => by
  obtain ⟨k, F, ρ, ts, R, r, ρ', e, q⟩ := h
  unfold gsNil at e
  split at e
  · cases e
    exact ⟨r, q σ F H R (Same.refl _) rfl fun _ _ => rfl⟩
  · cases e
theorem fgs_cons {is js : List Nat} {g : MG} {gs : MGs} (h1 : FG X is e g) (h2 : FGs X js es gs) (hs : (assignEach (e :: es) X.env).map (·.2) = assign e X.env :: (assignEach es X.env).map (·.2) := by rfl) : FGs X (is ++ js) (e :: es) (gsCons g gs) :=
  pgs_imp (pgs_cons h1 h2 hs) fun vs σ H Q h => by
  obtain ⟨k, F, ρ, ts, R, r, ρ', e, q⟩ := h
  unfold gsCons at e
  split at e
  · rename_i t ts
    rw [Option.bind_eq_some_iff] at e
    obtain ⟨ρ1, e1, e2⟩ := e
    obtain ⟨v, w, rfl, r1, r2⟩ := r
    refine ⟨v, w, rfl, k, F, ρ, t, R, r1, ρ1, e1, fun σ1 F1 H1 R1 s1 l1 d1 => ⟨k, F1, ρ1, ts, R1, r2.mono s1, ρ', e2, fun σ2 F2 H2 R2 s2 l2 d2 => ?_⟩⟩
    refine q σ2 F2 H2 R2 (s1.trans s2) (l2.trans l1) fun j hj => ?_
    rw [List.mem_append, not_or] at hj
    rw [d2 j hj.2, d1 j hj.1]
  · cases e
def gT (gs : MGs) : MG := fun t ρ => match t with
  | .tup ts => gs ts ρ
  | _ => none
theorem fg_tup {is : List Nat} {gs : MGs} {kk : Nat} {n : Nat} (hc : X.calm = true) (h : FGs X is es gs) (hn : (assignEach es X.env).length = n := by rfl) (hst : (assignEach es X.env).findIdx? (·.1) = none := by rfl)
    (hl : ∀ ts ρ ρ', gs ts ρ = some ρ' → ts.length = n) : FG X is (.Tuple es kk pos) (gT gs) := by
  refine pg_imp (pg_tup hc h hn hst) fun v σ H Q h => ?_
  obtain ⟨k, F, ρ, t, R, r, ρ', e, q⟩ := h
  unfold gT at e
  split at e
  · rename_i ts
    obtain ⟨p, vs, rfl, h1, h2⟩ := r
    exact ⟨p, vs, rfl, same_SqT R.fh h1, by rw [← h2.length]; exact hl _ _ _ e, k, F, ρ, ts, R, h2, ρ', e, q⟩
  · cases e
theorem gs_len0 : ∀ ts ρ ρ', gsNil ts ρ = some ρ' → ts.length = 0 := fun ts ρ ρ' h => by
  unfold gsNil at h
  split at h
  · rfl
  · cases h
theorem gs_len {g : MG} {gs : MGs} {n : Nat} (hl : ∀ ts ρ ρ', gs ts ρ = some ρ' → ts.length = n) : ∀ ts ρ ρ', gsCons g gs ts ρ = some ρ' → ts.length = n + 1 := fun ts ρ ρ' h => by
  unfold gsCons at h
  split at h
  · rw [Option.bind_eq_some_iff] at h
    obtain ⟨ρ1, _, h⟩ := h
    simp [hl _ _ _ h]
  · cases h
/-- target = e, a target of any form, e's tree -/
def sAsg (g : MG) (f : M T) : MS := fun ρ => (f ρ).bind fun t ρ => match g t ρ with
  | some ρ => .ok .nx ρ
  | none => .bad
theorem fs_asg {tg : Expr} {is : List Nat} {g : MG} (he : FE X E e f) (hg : FG X is tg g) (hs : swapsWithSole [tg] e pos.line X.env = pure false := by rfl) (hw : swappedStores [tg] e X.env = pure none := by rfl)
    (h1 : (assignEach [tg] X.env).map (·.2) = [assign tg X.env] := by rfl) : FS X E (.Assign [tg] e pos) (sAsg g f) := by
  refine ps_imp (ps_asg he hg hs hw h1) fun D σ H h => ?_
  obtain ⟨k, F, ρ, R, h⟩ := h
  refine ⟨k, F, ρ, R, (Den.bind h).imp fun t ρ1 h1 v F1 H1 R1 s1 r1 => ?_⟩
  split at h1
  · rename_i ρ2 e
    exact ⟨k, F1, ρ1, t, R1, r1, ρ2, e, fun σ' F' H' R' s' _ _ => h1 σ' F' H' R' (s1.trans s')⟩
  · exact h1.elim
/-! ### what is walked -/
/-- at each turn: the tree, as it lies or in a new tuple -/
def Yt (X : Cx) (F : Hp) (ts : List T) : Nat → Hp → V → Hp → Prop := fun i H v H' => ∃ t, ts[i]? = some t ∧ ((H' = H ∧ Rep X.K X.mg F t v) ∨ ∃ p us vs, t = .tup us ∧ v = .ref p ∧ H p = none ∧ H' = upd H p (.tup vs) ∧ Reps X.K X.mg F us vs)
def Wk (X : Cx) (F : Hp) (J : It) (ts : List T) : Prop := L2.Walk J ts.length (fun H => Same F H) (Yt X F ts)
def tI (X : Cx) (E : XK) (f : M (List T)) : TI := fun σ H R => ∃ k F ρ, RSk X k F ρ σ H ∧ Den (f ρ) (fun ts ρ' => ∀ J F' H', RSk X k F' ρ' σ H' → Same F F' → Wk X F' J ts → R J H') (XOk X.K X.mg k.B E)
abbrev FI (X : Cx) (E : XK) (tg e : Expr) (f : M (List T)) : Prop := PI X tg e (tI X E f)
theorem pi_imp {X : Cx} {tg e : Expr} {t t' : TI} (h : PI X tg e t) (i : ∀ σ H R, t' σ H R → t σ H R) : PI X tg e t' := ⟨fun pins s σ H R I q => h.run pins s σ H R I (i _ _ _ q)⟩
theorem Yt.grow {F F1 : Hp} {ts : List T} (s : Same F F1) {i : Nat} {H : Hp} {v : V} {H' : Hp} (h : Yt X F ts i H v H') : Yt X F1 ts i H v H' := by
  obtain ⟨t, e, h⟩ := h
  refine ⟨t, e, ?_⟩
  rcases h with ⟨h1, h2⟩ | ⟨p, us, vs, h1, h2, h3, h4, h5⟩
  · exact .inl ⟨h1, h2.mono s⟩
  · exact .inr ⟨p, us, vs, h1, h2, h3, h4, h5.mono s⟩
/-- what is given at a turn, in the state -/
theorem Yt.take {k : Bk} {F : Hp} {ρ : Env} {σ : L2.St} {H H' : Hp} {ts : List T} {i : Nat} {v : V} (R : RSk X k F ρ σ H) (h : Yt X F ts i H v H') : ∃ t F', ts[i]? = some t ∧ RSk X k F' ρ σ H' ∧ Same F F' ∧ Rep X.K X.mg F' t v := by
  obtain ⟨t, e, h⟩ := h
  rcases h with ⟨rfl, h2⟩ | ⟨p, us, vs, rfl, rfl, h3, rfl, h5⟩
  · exact ⟨t, F, e, R, Same.refl _, h2⟩
  · have sF : Same F (upd F p (.tup vs)) := same_upd (R.fnone h3)
    exact ⟨.tup us, upd F p (.tup vs), e, R.newF h3, sF, p, vs, rfl, SqT.of upd_same, h5.mono sF⟩
def iSeq (f : M T) : M (List T) := fun ρ => (f ρ).bind fun t ρ => liftO (seqT t) ρ
def itT (t : T) : Option (List T) := match t with
  | .tup ts => some ts
  | _ => none
def itL (t : T) : Option (List T) := match t with
  | .lst ts => some ts
  | .sl ts => some ts
  | _ => none
def iTupM (f : M T) : M (List T) := fun ρ => (f ρ).bind fun t ρ => liftO (itT t) ρ
def iLstM (f : M T) : M (List T) := fun ρ => (f ρ).bind fun t ρ => liftO (itL t) ρ
theorem yat {F : Hp} {ts : List T} {vs : List V} (r : Reps X.K X.mg F ts vs) {i : Nat} {H : Hp} {v : V} {H' : Hp} (h : YAt vs i H v H') : Yt X F ts i H v H' := by
  obtain ⟨rfl, h⟩ := h
  have hi : i < ts.length := by
    rw [r.length]
    exact (List.getElem?_eq_some_iff.mp h).1
  obtain ⟨w, h1, h2⟩ := r.get (List.getElem?_eq_getElem hi)
  rw [h] at h1
  cases h1
  exact ⟨_, List.getElem?_eq_getElem hi, .inl ⟨rfl, h2⟩⟩
theorem fi_tup {tg : Expr} (h : FE X E e f) : FI X E tg e (iTupM f) := by
  refine pi_imp (pi_tup h) fun σ H Q h => ?_
  obtain ⟨k, F, ρ, R, h⟩ := h
  refine ⟨k, F, ρ, R, (Den.bind h).imp fun t ρ1 h1 v F1 H1 R1 s1 r1 => ?_⟩
  obtain ⟨ts, e, q⟩ := Den.lift h1
  unfold itT at e
  split at e
  · cases e
    obtain ⟨p, vs, rfl, h2, h3⟩ := r1
    refine ⟨p, rfl, ⟨vs, same_SqT R1.fh h2⟩, q _ F1 H1 R1 s1 ?_⟩
    have w := walk_tup (K := X.K) (a := p) (xs := vs)
    rw [← h3.length] at w
    exact w.mono (fun H' s => same_SqT s h2) fun i H v H' _ _ y => yat h3 y
  · cases e
theorem fi_lst {tg : Expr} (h : FE X E e f) : FI X E tg e (iLstM f) := by
  refine pi_imp (pi_list h) fun σ H Q h => ?_
  obtain ⟨k, F, ρ, R, h⟩ := h
  refine ⟨k, F, ρ, R, (Den.bind h).imp fun t ρ1 h1 v F1 H1 R1 s1 r1 => ?_⟩
  obtain ⟨ts, e, q⟩ := Den.lift h1
  have go : ∀ p vs, v = .ref p → SqL X.K F1 p vs → Reps X.K X.mg F1 ts vs → iList X.K (fun _ H Q => Q v H) σ H1 Q := fun p vs ev h2 h3 => by
    subst ev
    refine ⟨p, rfl, ⟨vs, same_SqL R1.fh h2⟩, q _ F1 H1 R1 s1 ?_⟩
    have w := walk_list (K := X.K) (a := p) (xs := vs)
    rw [← h3.length] at w
    exact w.mono (fun H' s => same_SqL s h2) fun i H v H' _ _ y => yat h3 y
  unfold itL at e
  split at e
  · cases e
    obtain ⟨p, vs, ev, h2, h3⟩ := r1
    exact go p vs ev (SqL.of h2) h3
  · cases e
    obtain ⟨p, vs, ev, h2, h3⟩ := r1
    exact go p vs ev h2 h3
  · cases e
/-- range -/
def rgT (lo : Int) (n : Nat) : List T := (List.range n).map fun i => .int (lo + (i : Nat))
def rg1 (ts : List T) : Option (List T) := match ts with
  | [.int j] => if decide (-4611686018427387904 ≤ j) && decide (j < 4611686018427387904) then some (rgT 0 j.toNat) else none
  | _ => none
def rg2 (ts : List T) : Option (List T) := match ts with
  | [.int i, .int j] => if decide (-4611686018427387904 ≤ i) && decide (i < 4611686018427387904) && decide (-4611686018427387904 ≤ j) && decide (j < 4611686018427387904) then some (rgT i (j - i).toNat) else none
  | _ => none
def calI (o : List T → Option (List T)) (fs : M (List T)) : M (List T) := fun ρ => (fs ρ).bind fun ts ρ => liftO (o ts) ρ
theorem wk_range {F : Hp} {lo : Int} {n : Nat} : Wk X F (Itr lo n) (rgT lo n) := by
  have w := walk_range (lo := lo) (n := n)
  have e : (rgT lo n).length = n := by simp [rgT]
  unfold Wk
  rw [e]
  refine w.mono (fun _ _ => trivial) fun i H v H' hi _ y => ?_
  obtain ⟨rfl, rfl⟩ := y
  exact ⟨.int (lo + (i : Nat)), by simp [rgT, hi], .inl ⟨rfl, rfl⟩⟩
theorem fi_range1 {tg a : Expr} {fs : M (List T)} {p : Pos} (hg : Gl X "range") (hm : X.mg "range" = none) (ha : FA X E [a] fs) (hs : starEach [a] X.env = [(false, eval a X.env)] := by rfl) : FI X E tg (.Call (.Name "range" p) [a] [] pos) (calI rg1 fs) := by
  refine pi_imp (pi_range1 hg hm ha hs) fun σ H Q h => ?_
  obtain ⟨k, F, ρ, R, h⟩ := h
  refine ⟨k, F, ρ, R, (Den.bind h).imp fun ts ρ1 h1 vs F1 H1 R1 s1 r1 => ?_⟩
  obtain ⟨us, e, q⟩ := Den.lift h1
  unfold rg1 at e
  split at e
  · rename_i j
    split at e
    · rename_i hb
      cases e
      rw [Bool.and_eq_true] at hb
      have b1 := of_decide_eq_true hb.1
      have b2 := of_decide_eq_true hb.2
      obtain ⟨v, rfl, h2⟩ := r1.one_of
      have ev : v = .int j := h2
      subst ev
      exact ⟨j, rfl, by omega, by omega, q _ F1 H1 R1 s1 wk_range⟩
    · cases e
  · cases e
theorem fi_range2 {tg a b : Expr} {fs : M (List T)} {p : Pos} (hg : Gl X "range") (hm : X.mg "range" = none) (ha : FA X E [a, b] fs) (hs : starEach [a, b] X.env = [(false, eval a X.env), (false, eval b X.env)] := by rfl) (hs2 : starEach [b] X.env = [(false, eval b X.env)] := by rfl) : FI X E tg (.Call (.Name "range" p) [a, b] [] pos) (calI rg2 fs) := by
  refine pi_imp (pi_range2 hg hm ha hs hs2) fun σ H Q h => ?_
  obtain ⟨k, F, ρ, R, h⟩ := h
  refine ⟨k, F, ρ, R, (Den.bind h).imp fun ts ρ1 h1 vs F1 H1 R1 s1 r1 => ?_⟩
  obtain ⟨us, e, q⟩ := Den.lift h1
  unfold rg2 at e
  split at e
  · rename_i i j
    split at e
    · rename_i hb
      cases e
      rw [Bool.and_eq_true, Bool.and_eq_true, Bool.and_eq_true] at hb
      have b1 := of_decide_eq_true hb.1.1.1
      have b2 := of_decide_eq_true hb.1.1.2
      have b3 := of_decide_eq_true hb.1.2
      have b4 := of_decide_eq_true hb.2
      obtain ⟨v, w, rfl, h2, h3⟩ := r1.two_of
      have ev : v = .int i := h2
      have ew : w = .int j := h3
      subst ev ew
      exact ⟨i, j, rfl, ⟨by omega, by omega, by omega, by omega⟩, q _ F1 H1 R1 s1 wk_range⟩
    · cases e
  · cases e
/-! ### for -/
def forL (g : MG) (body : MS) : List T → MS
  | [], ρ => .ok .nx ρ
  | t :: ts, ρ => match g t ρ with
    | none => .bad
    | some ρ => (body ρ).bind fun fl ρ => match fl with
      | .nx => forL g body ts ρ
      | .ct => forL g body ts ρ
      | .bk => .ok .nx ρ
      | .rt t => .ok (.rt t) ρ
def sFor (src : M (List T)) (g : MG) (body : MS) : MS := fun ρ => (src ρ).bind fun ts ρ => forL g body ts ρ
theorem fs_for {tg iter : Expr} {body : List Stmt} {src : M (List T)} {g : MG} {is : List Nat} {sb : MS} (hp : PassesOwn (model X.prog X.w) X.A X.env X.xe) (hc : X.calm = true) (hi : FI X E tg iter src) (hg : FG X is tg g) (hb : FSs X E body sb)
    (hs : ∀ x, foldedSetIterable iter X.env x = pure x := by intro _; rfl) : FS X E (.For tg iter body [] pos) (sFor src g sb) := by
  refine ps_imp (ps_for hp hc hi hg hb hs) fun D σ H h => ?_
  obtain ⟨k, F, ρ, R, h⟩ := h
  refine ⟨k, F, ρ, R, (Den.bind h).imp fun ts ρ1 h1 J F1 H1 R1 s1 w1 => ?_⟩
  refine for_it w1 (fun i σ' H' => ∃ F' ρ', RSk X k F' ρ' σ' H' ∧ Same F1 F' ∧ Den (forL g sb (ts.drop i) ρ') (Post X k F D) (XOk X.K X.mg k.B E)) ⟨F1, ρ1, R1, Same.refl _, h1⟩ (fun i σ' H' _ q => ?_) (fun i x σ' H' H'' hlt q y => ?_) (fun σ' H' q => ?_)
  · obtain ⟨F', ρ', R', s', _⟩ := q
    exact s'.trans R'.fh
  · obtain ⟨F', ρ', R', s', d⟩ := q
    obtain ⟨t, F2, et, R2, s2, r2⟩ := (y.grow s').take R'
    have ed : ts.drop i = t :: ts.drop (i + 1) := by
      rw [List.drop_eq_getElem_cons hlt]
      rw [List.getElem?_eq_getElem hlt] at et
      rw [Option.some.inj et]
    rw [ed] at d
    unfold forL at d
    split at d
    · exact d.elim
    · rename_i ρ2 e2
      refine ⟨k, F2, ρ', t, R2, r2, ρ2, e2, fun σ3 F3 H3 R3 s3 _ _ => ⟨k, F3, ρ2, R3, (Den.bind d).imp fun fl ρ4 q4 => ?_⟩⟩
      have sAll : Same F F3 := s1.trans (s'.trans (s2.trans s3))
      cases fl with
      | nx => exact fun σ5 F5 H5 R5 s5 => ⟨F5, ρ4, R5, s'.trans (s2.trans (s3.trans s5)), q4⟩
      | ct => exact fun σ5 F5 H5 R5 s5 => ⟨F5, ρ4, R5, s'.trans (s2.trans (s3.trans s5)), q4⟩
      | bk => exact fun σ5 F5 H5 R5 s5 => q4 σ5 F5 H5 R5 (sAll.trans s5)
      | rt t => exact fun v σ5 F5 H5 R5 s5 r5 => q4 v σ5 F5 H5 R5 (sAll.trans s5) r5
  · obtain ⟨F', ρ', R', s', d⟩ := q
    rw [List.drop_length] at d
    exact d σ' F' H' R' (s1.trans s')
/-! ### while -/
def whl (g : M Bool) (body : MS) : Nat → MS
  | 0, _ => .bad
  | n + 1, ρ => (g ρ).bind fun b ρ => if b = true then (body ρ).bind fun fl ρ => match fl with
      | .nx => whl g body n ρ
      | .ct => whl g body n ρ
      | .bk => .ok .nx ρ
      | .rt t => .ok (.rt t) ρ
    else .ok .nx ρ
theorem fs_while {body : List Stmt} {sb : MS} (n : Nat) (hp : PassesOwn (model X.prog X.w) X.A X.env X.xe) (hc : FT X E c g) (hb : FSs X E body sb) : FS X E (.While c body [] pos) (whl g sb n) := by
  refine ps_imp (ps_while hp hc hb) fun D σ H h => ?_
  obtain ⟨k, F, ρ, R, h⟩ := h
  refine ⟨fun m σ' H' => ∃ F' ρ', RSk X k F' ρ' σ' H' ∧ Same F F' ∧ Den (whl g sb m ρ') (Post X k F D) (XOk X.K X.mg k.B E), ⟨n, F, ρ, R, Same.refl _, h⟩, fun m σ' H' q => ?_⟩
  obtain ⟨F', ρ', R', s', d⟩ := q
  cases m with
  | zero => exact d.elim
  | succ m =>
    unfold whl at d
    refine ⟨k, F', ρ', R', (Den.bind d).imp fun b ρ1 d1 F1 H1 R1 s1 => ?_⟩
    split at d1
    · rename_i eb
      rw [if_pos eb]
      refine ⟨fun σ2 H2 => ∃ F2 ρ2, RSk X k F2 ρ2 σ2 H2 ∧ Same F F2 ∧ Den (whl g sb m ρ2) (Post X k F D) (XOk X.K X.mg k.B E), fun σ2 H2 q2 => ⟨m, Nat.lt_succ_self m, q2⟩, k, F1, ρ1, R1, (Den.bind d1).imp fun fl ρ4 q4 => ?_⟩
      have sAll : Same F F1 := s'.trans s1
      cases fl with
      | nx => exact fun σ5 F5 H5 R5 s5 => ⟨F5, ρ4, R5, sAll.trans s5, q4⟩
      | ct => exact fun σ5 F5 H5 R5 s5 => ⟨F5, ρ4, R5, sAll.trans s5, q4⟩
      | bk => exact fun σ5 F5 H5 R5 s5 => q4 σ5 F5 H5 R5 (sAll.trans s5)
      | rt t => exact fun v σ5 F5 H5 R5 s5 r5 => q4 v σ5 F5 H5 R5 (sAll.trans s5) r5
    · rename_i eb
      rw [if_neg eb]
      exact d1 σ' F1 H1 R1 (s'.trans s1)
end
end FL

/-! FL6: comprehensions; objects changed; calls of defs. -/
namespace FL
open PySem PySem.Spec L2

/-! ### another view of the slots -/
section
variable {K : PySem.W.Frag} {mg : Str → Option Value} {B F0 F F' : Hp} {pm : Option Addr} {ρ ρ' ys : Env} {σ σ' ws : L2.St} {H H' : Hp} {i : Nat} {x : SV}
theorem RS.re (R : RS K mg B F0 pm F ρ σ H) (hl : ρ'.length = σ'.length) (h : ∀ (i : Nat) (x : SV), ρ'[i]? = some x → x = SV.un ∨ (∃ t v, x = .fz t ∧ σ'[i]? = some (some v) ∧ Rep K mg F t v) ∨ (ρ[i]? = some x ∧ σ'[i]? = σ[i]?)) : RS K mg B F0 pm F ρ' σ' H := by
  obtain ⟨α, h1, h2⟩ := R.ex
  have own : ∀ (i : Nat) (x : SV), ρ'[i]? = some x → x.owned = true → ρ[i]? = some x := fun i x hx ox => by
    rcases h i x hx with e | ⟨t, v, e, _⟩ | ⟨e, _⟩
    · subst e; cases ox
    · subst e; cases ox
    · exact e
  refine ⟨hl, R.fh, R.bh, R.f0, R.fr, R.pt, α, fun i x hx => ?_, fun j k x y hx hy ox oy ne => h2 j k x y (own j x hx ox) (own k y hy oy) ox oy ne⟩
  rcases h i x hx with e | ⟨t, v, e, e1, e2⟩ | ⟨e, e1⟩
  · subst e; trivial
  · subst e; exact ⟨v, e1, e2⟩
  · have q := h1 i x e
    cases x with
    | un => trivial
    | fz t => obtain ⟨v, a, b⟩ := q; exact ⟨v, e1.trans a, b⟩
    | ow o => obtain ⟨a, b⟩ := q; exact ⟨e1.trans a, b⟩
    | pa o => obtain ⟨a, b⟩ := q; exact ⟨e1.trans a, b⟩
/-- the slot x with another object -/
def SV.to (x : SV) (o' : O) : SV := match x with
  | .pa _ => .pa o'
  | _ => .ow o'
theorem RS.chg {o o' : O} (R : RS K mg B F0 pm F ρ σ H) (hi : ρ[i]? = some x) (hx : x = .ow o ∨ x = .pa o) : ∃ a h, σ[i]? = some (some (.ref a)) ∧ F a = none ∧ H a = some h ∧ ORep K mg F o h ∧
    ∀ {h'}, ORep K mg F o' h' → RS K mg B F0 pm F (ρ.set i (x.to o')) σ (upd H a h') := by
  obtain ⟨α, h1, h2⟩ := R.ex
  have q : σ[i]? = some (some (.ref (α i))) ∧ F (α i) = none ∧ B (α i) = none ∧ ∃ h, H (α i) = some h ∧ ORep K mg F o h := by
    have q := h1 i x hi
    rcases hx with e | e
    · subst e; obtain ⟨a, b, c, d, e⟩ := q; exact ⟨a, b, c, e⟩
    · subst e; obtain ⟨a, b, c, d, e⟩ := q; exact ⟨a, b, c, e⟩
  obtain ⟨es, fn, bn, h, hh, ro⟩ := q
  refine ⟨α i, h, es, fn, hh, ro, fun {h'} r' => ?_⟩
  have ox : x.owned = true := by rcases hx with e | e <;> subst e <;> rfl
  have hlt : i < ρ.length := (List.getElem?_eq_some_iff.mp hi).1
  have keep : ∀ (G : Hp), Same G H → G (α i) = none → Same G (upd H (α i) h') := fun G s n b u e => by
    rw [upd_ne (ne_of_none e n)]; exact s _ _ e
  have src : ∀ (j : Nat) (y : SV), (ρ.set i (x.to o'))[j]? = some y → (j = i ∧ y = (x.to o')) ∨ (j ≠ i ∧ ρ[j]? = some y) := fun j y hy => by
    by_cases e : j = i
    · subst e
      rw [List.getElem?_set_self hlt] at hy
      exact .inl ⟨rfl, (Option.some.inj hy).symm⟩
    · rw [List.getElem?_set_ne (Ne.symm e)] at hy
      exact .inr ⟨e, hy⟩
  have was : ∀ (j : Nat) (y : SV), (ρ.set i (x.to o'))[j]? = some y → y.owned = true → ∃ z : SV, ρ[j]? = some z ∧ z.owned = true := fun j y hy oy => by
    rcases src j y hy with ⟨e, _⟩ | ⟨_, e⟩
    · subst e; exact ⟨x, hi, ox⟩
    · exact ⟨y, e, oy⟩
  refine ⟨by simpa using R.len, keep F R.fh fn, keep B R.bh bn, R.f0, R.fr, fun a z => ?_, α, fun j y hy => ?_, fun j m y z hy hz oy oz ne => ?_⟩
  · obtain ⟨u, q⟩ := R.pt a z
    by_cases ha : a = α i
    · exact ⟨h', by rw [ha, upd_same]⟩
    · exact ⟨u, by rw [upd_ne ha]; exact q⟩
  · rcases src j y hy with ⟨e, ey⟩ | ⟨ne, e⟩
    · subst e
      have q := h1 j x hi
      rcases hx with e | e
      · subst e
        have ey' : y = .ow o' := ey
        subst ey'
        obtain ⟨a, b, c, d, _⟩ := q
        exact ⟨a, b, c, d, h', upd_same, r'⟩
      · subst e
        have ey' : y = .pa o' := ey
        subst ey'
        obtain ⟨a, b, c, d, _⟩ := q
        exact ⟨a, b, c, d, h', upd_same, r'⟩
    · have q := h1 j y e
      cases y with
      | un => trivial
      | fz t => exact q
      | ow o1 =>
        obtain ⟨a, b, c, d, u, e1, e2⟩ := q
        exact ⟨a, b, c, d, u, by rw [upd_ne (h2 j i _ x e hi rfl ox ne)]; exact e1, e2⟩
      | pa o1 =>
        obtain ⟨a, b, c, d, u, e1, e2⟩ := q
        exact ⟨a, b, c, d, u, by rw [upd_ne (h2 j i _ x e hi rfl ox ne)]; exact e1, e2⟩
  · obtain ⟨y', hy', oy'⟩ := was j y hy oy
    obtain ⟨z', hz', oz'⟩ := was m z hz oz
    exact h2 j m y' z' hy' hz' oy' oz' ne
end

/-! ### a block's own slots -/
def wipeE (ρ : Env) : List Nat → Env
  | [] => ρ
  | v :: vs => (wipeE ρ vs).set v .un
def bring (ρ0 ρ : Env) : List Nat → Env
  | [] => ρ
  | v :: vs => (bring ρ0 ρ vs).set v (ρ0.getD v .un)
def freeS (ρ : Env) (vs : List Nat) : Bool := vs.all fun v => match ρ[v]? with
  | some (.ow _) => false
  | some (.pa _) => false
  | _ => true
theorem wipeE_length (ρ : Env) : ∀ vs : List Nat, (wipeE ρ vs).length = ρ.length
  | [] => rfl
  | v :: vs => by unfold wipeE; rw [List.length_set, wipeE_length ρ vs]
theorem bring_length (ρ0 ρ : Env) : ∀ vs : List Nat, (bring ρ0 ρ vs).length = ρ.length
  | [] => rfl
  | v :: vs => by unfold bring; rw [List.length_set, bring_length ρ0 ρ vs]
theorem wipeE_get {ρ : Env} {i : Nat} {x : SV} : ∀ {vs : List Nat}, (wipeE ρ vs)[i]? = some x → x = .un ∨ (ρ[i]? = some x ∧ i ∉ vs)
  | [], h => .inr ⟨h, by simp⟩
  | v :: vs, h => by
    unfold wipeE at h
    by_cases e : v = i
    · subst e
      have hl := (List.getElem?_eq_some_iff.mp h).1
      rw [List.length_set] at hl
      rw [List.getElem?_set_self hl] at h
      exact .inl (Option.some.inj h).symm
    · rw [List.getElem?_set_ne e] at h
      rcases wipeE_get h with q | ⟨q, n⟩
      · exact .inl q
      · exact .inr ⟨q, by simp only [List.mem_cons, not_or]; exact ⟨fun z => e z.symm, n⟩⟩
theorem wipe_get {σ : L2.St} {i : Nat} : ∀ {vs : List Nat}, i ∉ vs → (wipe σ vs)[i]? = σ[i]?
  | [], _ => rfl
  | v :: vs, h => by
    simp only [List.mem_cons, not_or] at h
    unfold wipe
    rw [List.getElem?_set_ne (fun z => h.1 z.symm)]
    exact wipe_get h.2
theorem wipe_un {σ : L2.St} {i : Nat} : ∀ {vs : List Nat}, i ∈ vs → i < σ.length → (wipe σ vs)[i]? = some none
  | v :: vs, h, hl => by
    unfold wipe
    by_cases e : v = i
    · subst e
      rw [List.getElem?_set_self (by rw [wipe_length]; exact hl)]
    · rw [List.getElem?_set_ne e]
      exact wipe_un ((List.mem_cons.mp h).resolve_left fun z => e z.symm) hl
theorem wipe_eq {σ σ' : L2.St} {vs : List Nat} (hl : σ'.length = σ.length) (h : ∀ j, j ∉ vs → σ'[j]? = σ[j]?) : wipe σ' vs = wipe σ vs := by
  apply List.ext_getElem?
  intro i
  by_cases hi : i ∈ vs
  · by_cases hlt : i < σ.length
    · rw [wipe_un hi (by omega), wipe_un hi hlt]
    · rw [List.getElem?_eq_none (by rw [wipe_length]; omega), List.getElem?_eq_none (by rw [wipe_length]; omega)]
  · rw [wipe_get hi, wipe_get hi, h i hi]
theorem bring_get {ρ0 ρ : Env} {i : Nat} : ∀ {vs : List Nat}, (i ∉ vs → (bring ρ0 ρ vs)[i]? = ρ[i]?) ∧ (i ∈ vs → i < ρ.length → (bring ρ0 ρ vs)[i]? = some (ρ0.getD i .un))
  | [] => ⟨fun _ => rfl, fun h => by cases h⟩
  | v :: vs => by
    refine ⟨fun h => ?_, fun h hl => ?_⟩
    · simp only [List.mem_cons, not_or] at h
      unfold bring
      rw [List.getElem?_set_ne (fun z => h.1 z.symm)]
      exact bring_get.1 h.2
    · unfold bring
      by_cases e : v = i
      · subst e
        rw [List.getElem?_set_self (by rw [bring_length]; exact hl)]
      · rw [List.getElem?_set_ne e]
        exact bring_get.2 ((List.mem_cons.mp h).resolve_left fun z => e z.symm) hl
theorem freeS_bring {ρ0 ρ : Env} {vs : List Nat} (h : freeS ρ0 vs = true) (hl : ρ.length = ρ0.length) : freeS (bring ρ0 ρ vs) vs = true := by
  unfold freeS at h ⊢
  rw [List.all_eq_true] at h ⊢
  intro v hv
  have q := h v hv
  by_cases hlt : v < ρ.length
  · rw [bring_get.2 hv hlt]
    have e : ρ0[v]? = some (ρ0.getD v .un) := by
      rw [List.getD_eq_getElem?_getD, List.getElem?_eq_getElem (by omega)]
      rfl
    rw [e] at q
    exact q
  · rw [List.getElem?_eq_none (by rw [bring_length]; omega)]
section
variable {K : PySem.W.Frag} {mg : Str → Option Value} {B F0 F F' : Hp} {pm : Option Addr} {ρ ρ' ρ0 : Env} {σ σ' : L2.St} {H H' H0 : Hp} {vs : List Nat}
theorem RS.wiped (R : RS K mg B F0 pm F ρ σ H) (vs : List Nat) : RS K mg B F0 pm F (wipeE ρ vs) (wipe σ vs) H := by
  refine R.re (by rw [wipeE_length, wipe_length]; exact R.len) fun i x hx => ?_
  rcases wipeE_get hx with e | ⟨e, n⟩
  · exact .inl e
  · exact .inr (.inr ⟨e, wipe_get n⟩)
theorem RS.brought {B0 : Hp} {F1 : Hp} {p0 : Option Addr} (R : RS K mg B F0 pm F' ρ' σ' H') (R0 : RS K mg B0 F1 p0 F ρ0 σ H0) (s : Same F F') (hl : σ'.length = σ.length) (h : ∀ j, j ∉ vs → σ'[j]? = σ[j]?) (hf : freeS ρ0 vs = true) :
    RS K mg B F0 pm F' (bring ρ0 ρ' vs) σ H' := by
  have l0 := R0.len
  have l1 := R.len
  refine R.re (by rw [bring_length, l1, hl]) fun i x hx => ?_
  have hi : i < ρ'.length := by
    have := (List.getElem?_eq_some_iff.mp hx).1
    rwa [bring_length] at this
  by_cases hv : i ∈ vs
  · rw [bring_get.2 hv hi] at hx
    have e : ρ0[i]? = some (ρ0.getD i .un) := by
      rw [List.getD_eq_getElem?_getD, List.getElem?_eq_getElem (by omega)]
      rfl
    have ex := Option.some.inj hx
    rw [ex] at e
    unfold freeS at hf
    rw [List.all_eq_true] at hf
    have q := hf i hv
    rw [e] at q
    cases x with
    | un => exact .inl rfl
    | fz t =>
      obtain ⟨v, a, b⟩ := R0.slot e
      exact .inr (.inl ⟨t, v, rfl, a, b.mono s⟩)
    | ow o => cases q
    | pa o => cases q
  · rw [bring_get.1 hv] at hx
    exact .inr (.inr ⟨hx, (h i hv).symm⟩)
end
def noX {α : Type} (r : Res α) : Res α := match r with
  | .exc _ => .bad
  | r => r
theorem Den.noX {α : Type} {r : Res α} {p : α → Env → Prop} {x y : Ex → Prop} (h : Den (noX r) p x) : Den r p y := by
  cases r with
  | bad => exact h
  | exc e => exact (show False from h).elim
  | ok a ρ => exact h
/-! ### [e for x in xs if t] -/
def lcL (vs : List Nat) (g : MG) (test : M Bool) (elt : M T) : List T → List T → Env → Res (List T)
  | [], acc, ρ => .ok acc ρ
  | t :: ts, acc, ρ0 => match g t (wipeE ρ0 vs) with
    | none => .bad
    | some ρ1 => (noX (test ρ1)).bind fun b ρ2 => if b = true then (noX (elt ρ2)).bind fun y ρ3 => if acc.length < 16777216 then lcL vs g test elt ts (acc ++ [y]) (bring ρ0 ρ3 vs) else .bad
      else lcL vs g test elt ts acc (bring ρ0 ρ2 vs)
def lcM (vs : List Nat) (src : M (List T)) (g : MG) (test : M Bool) (elt : M T) : M O := fun ρ => (src ρ).bind fun ts ρ => if freeS ρ vs = true then (lcL vs g test elt ts [] ρ).bind fun l ρ => .ok (.l l) ρ else .bad
abbrev FTs (X : Cx) (E : XK) (ifs : List Expr) (f : M Bool) : Prop := PTs X ifs (tT X E f)
def yes : M Bool := fun ρ => .ok true ρ
section
variable {X : Cx} {E : XK} {e c : Expr} {es : List Expr} {pos : Pos} {f : M T} {fo : M O} {fs : M (List T)} {g : M Bool}
theorem fts_nil : FTs X E [] yes := ⟨fun pins s σ H Q I ⟨k, F, ρ, R, h⟩ => pts_nil.run pins s σ H Q I (h F H R (Same.refl _))⟩
theorem fts_one (h : FT X E c g) : FTs X E [c] g := pts_one h
theorem xok0 {B : Hp} {x : Ex} (h : False) : XOk X.K X.mg B E0 x := h.elim
/-- the lent slot at the end of the state -/
theorem end_slot {ρ : Env} {o : O} : (ρ ++ [SV.ow o])[ρ.length]? = some (.ow o) := by simp
theorem end_set {ρ : Env} {o : O} {x : SV} : (ρ ++ [SV.ow o]).set ρ.length x = ρ ++ [x] := by simp
theorem lc_of {own : List (Str × Nat)} {src : M (List T)} {gt : MG} {is : List Nat} {test : M Bool} (his : ∀ i ∈ is, i ∈ own.map (·.2)) {σ : L2.St} {H : Hp} {Q : VK} (h : tO X E (lcM (own.map (·.2)) src gt test f) σ H Q) :
    tLc (tI X E src) (tG X is gt) (tT X E0 test) (tE X E0 f) (own.map (·.2)) σ H Q := by
  obtain ⟨k, F, ρ, R, h⟩ := h
  refine ⟨k, F, ρ, R, (Den.bind h).imp fun ts ρ1 h1 J F1 H1 R1 s1 w1 => fun D nD => ?_⟩
  have hfree : freeS ρ1 (own.map (·.2)) = true := by
    cases e : freeS ρ1 (own.map (·.2)) with
    | true => rfl
    | false => rw [e] at h1; exact (show False from h1).elim
  rw [if_pos hfree] at h1
  have h2 := Den.bind h1
  refine lc_it w1 (fun i H' => ∃ F' ρ' acc, RSk X k F' (ρ' ++ [SV.ow (.l acc)]) (σ ++ [some (.ref D)]) H' ∧ ρ'.length = σ.length ∧ Same F1 F' ∧ freeS ρ' (own.map (·.2)) = true ∧
    Den (lcL (own.map (·.2)) gt test f (ts.drop i) acc ρ') (fun l ρ'' => Den (Res.ok (O.l l) ρ'') (fun o ρ' => ∀ v F' H', RSk X k F' (ρ' ++ [SV.ow o]) (σ ++ [some v]) H' → Same F F' → ρ'.length = σ.length → Q v H') (XOk X.K X.mg k.B E)) (XOk X.K X.mg k.B E)) ?_ (fun i H' _ q => ?_) (fun i x H' H'' hlt q y => ?_) (fun H' q => ?_)
  · exact ⟨F1, ρ1, [], R1.newO (o := .l []) ⟨[], rfl, .nil⟩ nD, R1.len, Same.refl _, hfree, h2⟩
  · obtain ⟨F', ρ', acc, R', _, s', _⟩ := q
    exact s'.trans R'.fh
  · obtain ⟨F', ρ', acc, R', l', s', fr', d⟩ := q
    obtain ⟨t, F2, et, R2, s2, r2⟩ := (y.grow s').take R'
    have ed : ts.drop i = t :: ts.drop (i + 1) := by
      rw [List.drop_eq_getElem_cons hlt]
      rw [List.getElem?_eq_getElem hlt] at et
      rw [Option.some.inj et]
    rw [ed] at d
    unfold lcL at d
    obtain ⟨p, ho, ep, fp, bp, npm, hp, ro, R0⟩ := RS.aside R2 l'
    cases ep
    have f0 : k.F0 D = none := R2.f0.free fp
    split at d
    · exact d.elim
    · rename_i ρ2 e2
      let k' : Bk := ⟨upd k.B D ho, k.F0, k.pm⟩
      refine ⟨k', F2, _, t, R0.wiped (own.map (·.2)), r2, ρ2, e2, fun σ3 F3 H3 R3 s3 l3 d3 => ⟨?_, ?_⟩⟩
      · rw [wipe_eq l3 fun j hj => d3 j fun z => hj (his j z)]
        exact wipe_eq (by rw [wipe_length]) fun j hj => wipe_get hj
      · have dk : ∀ {σ' : L2.St}, σ' = σ3 → σ'.length = σ.length ∧ ∀ j, j ∉ own.map (·.2) → σ'[j]? = σ[j]? := fun {σ'} e => by
          subst e
          refine ⟨by rw [l3, wipe_length], fun j hj => ?_⟩
          rw [d3 j fun z => hj (his j z), wipe_get hj]
        refine ⟨k', F3, ρ2, R3, Den.noX (y := XOk X.K X.mg k'.B E0) ((Den.bind d).imp fun b ρ4 d4 => fun F4 H4 R4 s4 => ?_)⟩
        split at d4
        · rename_i eb
          rw [if_pos eb]
          refine ⟨k', F4, ρ4, R4, Den.noX (y := XOk X.K X.mg k'.B E0) ((Den.bind d4).imp fun z ρ5 d5 => fun v F5 H5 R5 s5 r5 => ?_)⟩
          split at d5
          · rename_i hz
            have sx : Same F2 F5 := s3.trans (s4.trans s5)
            have R6 := RS.brought R5 R0 sx (dk rfl).1 (dk rfl).2 fr'
            have l6 : (bring ρ' ρ5 (own.map (·.2))).length = σ.length := R6.len
            have R7 := RS.back (ys := []) (ws := []) (by rw [List.append_nil, List.append_nil]; exact R6) l6 f0 bp npm (ro.mono sx)
            obtain ⟨a, h, ea, _, hh, roh, mk⟩ := RS.chg (o := .l acc) (o' := .l (acc ++ [z])) R7 end_slot (.inl rfl)
            have eD : a = D := by
              rw [l6] at ea
              simpa using ea.symm
            subst eD
            obtain ⟨accV, rfl, rv⟩ := roh
            refine ⟨accV, hh, by rw [← rv.length, szL]; exact hz, F5, bring ρ' ρ5 (own.map (·.2)), acc ++ [z], ?_, l6, s'.trans (s2.trans sx), freeS_bring fr' (by rw [R5.len, (dk rfl).1, l']), d5⟩
            have q := mk (h' := .lst (accV ++ [v])) ⟨_, rfl, rv.append (.one r5)⟩
            rw [end_set] at q
            exact q
          · exact d5.elim
        · rename_i eb
          rw [if_neg eb]
          have sx : Same F2 F4 := s3.trans s4
          have R6 := RS.brought R4 R0 sx (dk rfl).1 (dk rfl).2 fr'
          have l6 : (bring ρ' ρ4 (own.map (·.2))).length = σ.length := R6.len
          have R7 := RS.back (ys := []) (ws := []) (by rw [List.append_nil, List.append_nil]; exact R6) l6 f0 bp npm (ro.mono sx)
          exact ⟨F4, bring ρ' ρ4 (own.map (·.2)), acc, R7, l6, s'.trans (s2.trans sx), freeS_bring fr' (by rw [R4.len, (dk rfl).1, l']), d4⟩
  · obtain ⟨F', ρ', acc, R', l', s', _, d⟩ := q
    rw [List.drop_length] at d
    exact d _ F' H' R' (s1.trans s') l'
theorem fo_lc {elt tg iter : Expr} {ifs : List Expr} {scope : Scope} {own : List (Str × Nat)} {src : M (List T)} {gt : MG} {is : List Nat} {test : M Bool} (hc : X.calm = true) (hN : X.N.Nodup) (hi : FI X E tg iter src) (ok : BlkOk X.N X.env.scope scope own)
    (hg : ∀ (s : Shared) (H : Hp) (C : Addr) (cl : List (Str × Addr)) (fp : List Addr), PG (X.blk s H scope (compEnvC scope cl C X.env) fp) tg (tG X is gt)) (his : ∀ i ∈ is, i ∈ own.map (·.2))
    (ht : ∀ (s : Shared) (H : Hp) (C : Addr) (cl : List (Str × Addr)) (fp : List Addr), PTs (X.blk s H scope (compEnvC scope cl C X.env) fp) ifs (tT X E0 test))
    (he : ∀ (s : Shared) (H : Hp) (C : Addr) (cl : List (Str × Addr)) (fp : List Addr), PE (X.blk s H scope (compEnvC scope cl C X.env) fp) elt (tE X E0 f)) (hs : ∀ x, foldedSetIterable iter X.env x = pure x := by intro _; rfl) :
    FO X E (.ListComp elt [⟨tg, iter, ifs, 0⟩] scope pos) (lcM (own.map (·.2)) src gt test f) := pe_imp (pe_lc hc hN hi ok hg ht he hs) fun σ H Q h => lc_of his h
/-- name = [..] on one line, the name a local -/
theorem fs_setLc {elt tg iter : Expr} {ifs : List Expr} {scope : Scope} {own : List (Str × Nat)} {src : M (List T)} {gt : MG} {is : List Nat} {test : M Bool} {i : Nat} {y : Str} {py spos : Pos} (hc : X.calm = true) (hN : X.N.Nodup) (hy : X.N[i]? = some y) (hyl : X.env.scope.names.lookup y = some .local)
    (hsw : swapsWith (.ListComp elt [⟨tg, iter, ifs, 0⟩] scope pos) (some (.Name y py)) spos.line X.env = pure true) (hi : FI X E tg iter src) (ok : BlkOk X.N X.env.scope scope own)
    (hg : ∀ (s : Shared) (H : Hp) (C : Addr) (cl : List (Str × Addr)) (fp : List Addr), PG (X.blk s H scope (compEnvC scope cl C X.env) fp) tg (tG X is gt)) (his : ∀ i ∈ is, i ∈ own.map (·.2))
    (ht : ∀ (s : Shared) (H : Hp) (C : Addr) (cl : List (Str × Addr)) (fp : List Addr), PTs (X.blk s H scope (compEnvC scope cl C X.env) fp) ifs (tT X E0 test))
    (he : ∀ (s : Shared) (H : Hp) (C : Addr) (cl : List (Str × Addr)) (fp : List Addr), PE (X.blk s H scope (compEnvC scope cl C X.env) fp) elt (tE X E0 f)) (hs : ∀ x, foldedSetIterable iter X.env x = pure x := by intro _; rfl) :
    FS X E (.Assign [.Name y py] (.ListComp elt [⟨tg, iter, ifs, 0⟩] scope pos) spos) (sSet i (asO (lcM (own.map (·.2)) src gt test f))) := by
  refine ps_imp (ps_setLc hc hN hy hyl hsw hi ok hg ht he hs) fun D σ H h => ?_
  obtain ⟨k, F, ρ, R, h⟩ := h
  refine lc_of (E := E) his ⟨k, F, ρ, R, (Den.bind (Den.bind h)).imp fun o ρ1 h1 v F1 H1 R1 s1 l1 => ?_⟩
  have h1' : Den (put i (SV.ow o) ρ1) (Post X k F D) (XOk X.K X.mg k.B E) := h1
  unfold put at h1'
  split at h1'
  · rename_i hlt
    have R2 := RS.pop (ys := []) (ws := []) R1 l1 i hlt
    rw [List.append_nil, List.append_nil] at R2
    exact h1' _ F1 H1 R2 s1
  · exact h1'.elim
end
end FL

/-! FL7: objects of one's own; isinstance; slices; what a def is worth. -/
namespace FL
open PySem PySem.Spec L2

/-! ### objects of one's own -/
def SV.obj (x : SV) : Option O := match x with
  | .ow o => some o
  | .pa o => some o
  | _ => none
def rdOwn (i : Nat) (ρ : Env) : Option O := ρ[i]?.bind SV.obj
def setOwn (i : Nat) (o : O) (ρ : Env) : Env := match ρ[i]? with
  | some x => ρ.set i (x.to o)
  | none => ρ
theorem obj_cases {x : SV} {o : O} (h : x.obj = some o) : x = .ow o ∨ x = .pa o := by
  cases x <;> simp only [SV.obj, Option.some.injEq, reduceCtorEq] at h
  · subst h; exact .inl rfl
  · subst h; exact .inr rfl
section
variable {K : PySem.W.Frag} {mg : Str → Option Value} {B F0 F F' : Hp} {pm : Option Addr} {ρ ρ' : Env} {σ σ' : L2.St} {H H' : Hp} {i : Nat}
theorem RS.own {o : O} (R : RS K mg B F0 pm F ρ σ H) (h : rdOwn i ρ = some o) : ∃ a h, σ[i]? = some (some (.ref a)) ∧ F a = none ∧ H a = some h ∧ ORep K mg F o h ∧
    ∀ {o' : O} {h' : HO}, ORep K mg F o' h' → RS K mg B F0 pm F (setOwn i o' ρ) σ (upd H a h') := by
  unfold rdOwn at h
  rw [Option.bind_eq_some_iff] at h
  obtain ⟨x, hx, ho⟩ := h
  obtain ⟨a, h, e1, e2, e3, e4, _⟩ := R.chg (o := o) (o' := o) hx (obj_cases ho)
  refine ⟨a, h, e1, e2, e3, e4, fun {o' h'} r => ?_⟩
  obtain ⟨a', h2, e1', _, _, _, mk⟩ := R.chg (o := o) (o' := o') hx (obj_cases ho)
  rw [e1] at e1'
  cases e1'
  unfold setOwn
  rw [hx]
  exact mk r
end
section
variable {X : Cx} {E : XK} {e b : Expr} {es : List Expr} {pos p : Pos} {f fb fv : M T} {fs : M (List T)} {i : Nat} {x : Str}
/-- the object in slot i, behind an evaluation -/
theorem own_two {k k' : Bk} {F F1 : Hp} {ρ ρ1 : Env} {σ : L2.St} {H H1 : Hp} {o : O} {a : Addr} {h : HO} (R1 : RSk X k F1 ρ1 σ H1) (es : σ[i]? = some (some (.ref a))) (h : rdOwn i ρ1 = some o) : ∃ h, F1 a = none ∧ H1 a = some h ∧ ORep X.K X.mg F1 o h ∧
    ∀ {o' : O} {h' : HO}, ORep X.K X.mg F1 o' h' → RSk X k F1 (setOwn i o' ρ1) σ (upd H1 a h') := by
  obtain ⟨a1, h1, e1, e2, e3, e4, mk⟩ := R1.own h
  rw [es] at e1
  cases e1
  exact ⟨h1, e2, e3, e4, mk⟩
def withOwn {α : Type} (i : Nat) (f : M α) : M α := fun ρ => match rdOwn i ρ with
  | some _ => f ρ
  | none => .bad
theorem Den.own {α : Type} {f : M α} {ρ : Env} {p : α → Env → Prop} {x : Ex → Prop} (h : Den (withOwn i f ρ) p x) : (∃ o, rdOwn i ρ = some o) ∧ Den (f ρ) p x := by
  unfold withOwn at h
  split at h
  · rename_i o e
    exact ⟨⟨o, e⟩, h⟩
  · exact h.elim
/-- x[e] -/
def ixOwn (i : Nat) (f : M T) : M T := withOwn i fun ρ => (f ρ).bind fun y ρ => match rdOwn i ρ, y with
  | some (.l ts), .int j => liftO (atT ts j) ρ
  | _, _ => .bad
theorem fe_ixOwn (hN : X.N[i]? = some x := by rfl) (hv : Vis X.env.scope x := by first | exact Or.inl rfl | exact Or.inr (Or.inl rfl) | exact Or.inr (Or.inr rfl)) (hb : FE X E b fb) (hs : PlainIx b := by intro _ _; rfl) (hd : (x == ("__debug__" : Str)) = false := by decide) (hcd : (x == ("__classdict__" : Str)) = false := by decide) :
    FE X E (.Subscript (.Name x p) b pos) (ixOwn i fb) := by
  refine pe_imp (pe_ix ix_seq (pe_var hN hv hd hcd) hb hs) fun σ H Q h => ?_
  obtain ⟨k, F, ρ, R, h⟩ := h
  obtain ⟨⟨o, ho⟩, h⟩ := Den.own h
  obtain ⟨a, h0, es, _⟩ := R.own ho
  refine ⟨.ref a, es, k, F, ρ, R, (Den.bind h).imp fun y ρ1 h1 v F1 H1 R1 s1 r1 => ?_⟩
  split at h1
  · rename_i ts j e1
    obtain ⟨t, e, q⟩ := Den.lift h1
    obtain ⟨h2, e2, e3, e4, _⟩ := own_two (k' := k) (F := F) (ρ := ρ) (H := H) (h := h0) R1 es e1
    obtain ⟨vs, rfl, rv⟩ := e4
    obtain ⟨w, g1, g2⟩ := atT_rep rv e
    exact .inl ⟨a, vs, j, w, rfl, r1, SqL.of e3, g1, q _ F1 H1 R1 s1 g2⟩
  · exact h1.elim
/-- len(x) -/
def lenOwn (i : Nat) : M T := fun ρ => match rdOwn i ρ with
  | some (.l ts) => .ok (.int ts.length) ρ
  | _ => .bad
theorem fe_lenOwn {p2 : Pos} (hN : X.N[i]? = some x := by rfl) (hg : Gl X "len") (hm : X.mg "len" = none) (hbt : bootBuiltins "len" = some (.builtin "len")) (hv : Vis X.env.scope x := by first | exact Or.inl rfl | exact Or.inr (Or.inl rfl) | exact Or.inr (Or.inr rfl)) (hd : (x == ("__debug__" : Str)) = false := by decide) (hcd : (x == ("__classdict__" : Str)) = false := by decide)
    (hst : starEach [Expr.Name x p] X.env = (false, eval (Expr.Name x p) X.env) :: starEach [] X.env := by rfl) (hpl : (backTo pos (starEach [] X.env)).any (·.1) = false := by rfl) :
    FE X E (.Call (.Name "len" p2) [.Name x p] [] pos) (lenOwn i) := by
  refine pe_imp (pe_callB call_len hg hm hbt (pa_cons (pe_var hN hv hd hcd) pa_nil hst) (by decide) (by decide) hst hpl) fun σ H Q h => ?_
  obtain ⟨k, F, ρ, R, h⟩ := h
  unfold lenOwn at h
  split at h
  · rename_i ts ho
    obtain ⟨a, h0, es, e2, e3, e4, _⟩ := R.own ho
    obtain ⟨vs, rfl, rv⟩ := e4
    exact ⟨.ref a, es, .ref a, vs.length, rfl, .inl ⟨vs, SqL.of e3, rfl⟩, h _ F H R (Same.refl _) (by rw [rv.length]; rfl)⟩
  · exact h.elim
/-- x[e] = v -/
def sSetI (i : Nat) (fi fv : M T) : MS := fun ρ => (fv ρ).bind fun t ρ => withOwn i (fun ρ => (fi ρ).bind fun y ρ => match rdOwn i ρ, y with
  | some (.l ts), .int j => match idx ts.length j with
    | some m => .ok .nx (setOwn i (.l (ts.set m t)) ρ)
    | none => .bad
  | _, _ => .bad) ρ
theorem fs_setI {p2 : Pos} {fi : M T} (hN : X.N[i]? = some x := by rfl) (hv : Vis X.env.scope x := by first | exact Or.inl rfl | exact Or.inr (Or.inl rfl) | exact Or.inr (Or.inr rfl)) (hb : FE X E b fi) (he : FE X E e fv)
    (ha : ∀ v, assign (.Subscript (.Name x p) b p2) X.env v = (do
      let ov ← holding [v] (eval (.Name x p) X.env)
      let iv ← holding [v, ov] (eval b X.env)
      standAt p2
      holding [v, ov, iv] (setItem ov iv v)
      release [v, ov, iv] []) := by intro _; rfl) (hs : swapsWithSole [Expr.Subscript (.Name x p) b p2] e pos.line X.env = pure false := by rfl) (hw : swappedStores [Expr.Subscript (.Name x p) b p2] e X.env = pure none := by rfl)
    (h1 : (assignEach [Expr.Subscript (.Name x p) b p2] X.env).map (·.2) = [assign (Expr.Subscript (.Name x p) b p2) X.env] := by rfl) (hd : (x == ("__debug__" : Str)) = false := by decide) (hcd : (x == ("__classdict__" : Str)) = false := by decide) :
    FS X E (.Assign [.Subscript (.Name x p) b p2] e pos) (sSetI i fi fv) := by
  refine ps_imp (ps_asg he (pg_sub (pe_var hN hv hd hcd) hb set_list ha) hs hw h1) fun D σ H h => ?_
  obtain ⟨k, F, ρ, R, h⟩ := h
  refine ⟨k, F, ρ, R, (Den.bind h).imp fun t ρ1 h1 v F1 H1 R1 s1 r1 => ?_⟩
  obtain ⟨⟨o, ho⟩, h1⟩ := Den.own h1
  obtain ⟨a, h0, es, _⟩ := R1.own ho
  refine ⟨.ref a, es, k, F1, ρ1, R1, (Den.bind h1).imp fun y ρ2 h2 w F2 H2 R2 s2 r2 => ?_⟩
  split at h2
  · rename_i ts j e1
    split at h2
    · rename_i m em
      obtain ⟨h3, e2, e3, e4, mk⟩ := own_two (k' := k) (F := F) (ρ := ρ) (H := H) (h := h0) R2 es e1
      obtain ⟨vs, rfl, rv⟩ := e4
      refine ⟨a, vs, j, m, rfl, r2, e3, by rw [← rv.length]; exact em, ?_⟩
      exact h2 _ F2 _ (mk (o' := .l (ts.set m t)) ⟨_, rfl, rv.set (r1.mono s2) m⟩) (s1.trans s2)
    · exact h2.elim
  · exact h2.elim
/-- x.append(e), as an expression -/
def appM (i : Nat) (f : M T) : M T := withOwn i fun ρ => (f ρ).bind fun y ρ => match rdOwn i ρ with
  | some (.l ts) => if ts.length < 16777216 then .ok .non (setOwn i (.l (ts ++ [y])) ρ) else .bad
  | _ => .bad
def isL (o : Option O) : Bool := match o with
  | some (.l _) => true
  | _ => false
theorem tyV_own {k : Bk} {F : Hp} {ρ : Env} {σ : L2.St} {H : Hp} {a : Addr} {h : HO} {o : O} (e : H a = some h) (r : ORep X.K X.mg F o h) (hl : isL (some o) = true) : tyV X.K "list" (.ref a) H := by
  cases o with
  | l ts => obtain ⟨vs, rfl, _⟩ := r; exact .inl ⟨rfl, vs, SqL.of e⟩
  | dk _ _ => cases hl
  | dt _ _ => cases hl
def withL {α : Type} (i : Nat) (f : M α) : M α := fun ρ => if isL (rdOwn i ρ) = true then f ρ else .bad
theorem Den.ownL {α : Type} {f : M α} {ρ : Env} {p : α → Env → Prop} {x : Ex → Prop} (h : Den (withL i f ρ) p x) : (∃ ts, rdOwn i ρ = some (.l ts)) ∧ Den (f ρ) p x := by
  unfold withL at h
  split at h
  · rename_i e
    refine ⟨?_, h⟩
    cases q : rdOwn i ρ with
    | none => rw [q] at e; cases e
    | some o =>
      rw [q] at e
      cases o with
      | l ts => exact ⟨ts, rfl⟩
      | dk _ _ => cases e
      | dt _ _ => cases e
  · exact h.elim
def apnM (i : Nat) (f : M T) : M T := withL i fun ρ => (f ρ).bind fun y ρ => match rdOwn i ρ with
  | some (.l ts) => if ts.length < 16777216 then .ok .non (setOwn i (.l (ts ++ [y])) ρ) else .bad
  | _ => .bad
theorem fe_append {apos cpos : Pos} (hN : X.N[i]? = some x := by rfl) (he : FE X E e f) (hv : Vis X.env.scope x := by first | exact Or.inl rfl | exact Or.inr (Or.inl rfl) | exact Or.inr (Or.inr rfl)) (hd : (x == ("__debug__" : Str)) = false := by decide) (hcd : (x == ("__classdict__" : Str)) = false := by decide)
    (hbase : attributeBase (Expr.Name x p) "append" X.env (eval (Expr.Name x p) X.env) = eval (Expr.Name x p) X.env := by rfl)
    (hfew : ((backTo cpos (starEach [e] X.env)).all (fun x => !x.1) && (backToKw cpos (keywordEach [] X.env)).all (fun x => x.1.isSome)
      && decide ([e].length + ([] : List Keyword).length + (if ([] : List Keyword).isEmpty then 0 else 1) < 30)) = true := by rfl)
    (hline : (apos.endLine == cpos.line) = true := by rfl) (hs : starEach [e] X.env = (false, eval e X.env) :: starEach [] X.env := by rfl) (hplain : (backTo cpos (starEach [] X.env)).any (·.1) = false := by rfl) :
    FE X E (.Call (.Attribute (.Name x p) "append" apos) [e] [] cpos) (apnM i f) := by
  refine pe_imp (pe_bm PySem.F.plainAttrs_list PySem.F.slot_list_append PySem.F.type_list_append mt_append (pe_var hN hv hd hcd) (pa_cons he pa_nil hs) hbase hfew hline hs hplain) fun σ H Q h => ?_
  obtain ⟨k, F, ρ, R, h⟩ := h
  obtain ⟨⟨ts0, ho⟩, h⟩ := Den.ownL h
  obtain ⟨a, h0, es, e2, e3, e4, _⟩ := R.own ho
  refine ⟨.ref a, es, tyV_own (k := k) (ρ := ρ) (σ := σ) e3 e4 rfl, k, F, ρ, R, (Den.bind h).imp fun y ρ1 h1 v F1 H1 R1 s1 r1 => ?_⟩
  split at h1
  · rename_i ts e1
    split at h1
    · rename_i hz
      obtain ⟨h3, e2, e3, e4, mk⟩ := own_two (k' := k) (F := F) (ρ := ρ) (H := H) (h := h0) R1 es e1
      obtain ⟨vs, rfl, rv⟩ := e4
      rw [rv.length] at hz
      refine ⟨a, vs, v, rfl, rfl, e3, by rw [szL]; exact hz, ?_⟩
      exact h1 _ F1 _ (mk (o' := .l (ts ++ [y])) ⟨_, rfl, rv.append (.one r1)⟩) s1 rfl
    · exact h1.elim
  · exact h1.elim
/-- x.insert(e, e2) -/
def insM (i : Nat) (fs : M (List T)) : M T := withL i fun ρ => (fs ρ).bind fun us ρ => match rdOwn i ρ, us with
  | some (.l ts), [.int j, y] => if ts.length < 16777216 && decide (0 ≤ j) && decide (j < 9223372036854775808) then .ok .non (setOwn i (.l (ts.take j.toNat ++ [y] ++ ts.drop j.toNat)) ρ) else .bad
  | _, _ => .bad
theorem fe_insert {apos cpos : Pos} (hN : X.N[i]? = some x := by rfl) (he : FA X E (e :: es) fs) (hv : Vis X.env.scope x := by first | exact Or.inl rfl | exact Or.inr (Or.inl rfl) | exact Or.inr (Or.inr rfl)) (hd : (x == ("__debug__" : Str)) = false := by decide) (hcd : (x == ("__classdict__" : Str)) = false := by decide)
    (hbase : attributeBase (Expr.Name x p) "insert" X.env (eval (Expr.Name x p) X.env) = eval (Expr.Name x p) X.env := by rfl)
    (hfew : ((backTo cpos (starEach (e :: es) X.env)).all (fun x => !x.1) && (backToKw cpos (keywordEach [] X.env)).all (fun x => x.1.isSome)
      && decide ((e :: es).length + ([] : List Keyword).length + (if ([] : List Keyword).isEmpty then 0 else 1) < 30)) = true := by rfl)
    (hline : (apos.endLine == cpos.line) = true := by rfl) (hs : starEach (e :: es) X.env = (false, eval e X.env) :: starEach es X.env := by rfl) (hplain : (backTo cpos (starEach es X.env)).any (·.1) = false := by rfl) :
    FE X E (.Call (.Attribute (.Name x p) "insert" apos) (e :: es) [] cpos) (insM i fs) := by
  refine pe_imp (pe_bm PySem.F.plainAttrs_list PySem.F.slot_list_insert PySem.F.type_list_insert mt_insert (pe_var hN hv hd hcd) he hbase hfew hline hs hplain) fun σ H Q h => ?_
  obtain ⟨k, F, ρ, R, h⟩ := h
  obtain ⟨⟨ts0, ho⟩, h⟩ := Den.ownL h
  obtain ⟨a, h0, es, e2, e3, e4, _⟩ := R.own ho
  refine ⟨.ref a, es, tyV_own (k := k) (ρ := ρ) (σ := σ) e3 e4 rfl, k, F, ρ, R, (Den.bind h).imp fun us ρ1 h1 vs F1 H1 R1 s1 r1 => ?_⟩
  split at h1
  · rename_i ts j y e1
    split at h1
    · rename_i hz
      rw [Bool.and_eq_true, Bool.and_eq_true] at hz
      have z1 := of_decide_eq_true hz.1.1
      have z2 := of_decide_eq_true hz.1.2
      have z3 := of_decide_eq_true hz.2
      obtain ⟨h3, e2, e3, e4, mk⟩ := own_two (k' := k) (F := F) (ρ := ρ) (H := H) (h := h0) R1 es e1
      obtain ⟨ws, rfl, rv⟩ := e4
      obtain ⟨v, w, rfl, g1, g2⟩ := r1.two_of
      have ev : v = .int j := g1
      subst ev
      rw [rv.length] at z1
      refine ⟨a, ws, j, w, rfl, rfl, e3, by rw [szL]; exact z1, z2, by omega, ?_⟩
      exact h1 _ F1 _ (mk (o' := .l (ts.take j.toNat ++ [y] ++ ts.drop j.toNat)) ⟨_, rfl, ((rv.take _).append (.one g2)).append (rv.drop _)⟩) s1 rfl
    · exact h1.elim
  · exact h1.elim
/-- a name that holds an object of one's own, read: the object becomes a tree -/
def rdZ (i : Nat) : M T := fun ρ => match ρ[i]? with
  | some (.ow o) => .ok (frzO o) (ρ.set i (.fz (frzO o)))
  | _ => .bad
theorem RS.freeze {K : PySem.W.Frag} {mg : Str → Option Value} {B F0 F : Hp} {pm : Option Addr} {ρ : Env} {σ : L2.St} {H : Hp} {o : O} (R : RS K mg B F0 pm F ρ σ H) (hi : ρ[i]? = some (.ow o)) :
    ∃ a F', σ[i]? = some (some (.ref a)) ∧ Same F F' ∧ Rep K mg F' (frzO o) (.ref a) ∧ RS K mg B F0 pm F' (ρ.set i (.fz (frzO o))) σ H := by
  obtain ⟨α, h1, h2⟩ := R.ex
  obtain ⟨es, fn, bn, npm, h, hh, ro⟩ := h1 i _ hi
  have hlt : i < ρ.length := (List.getElem?_eq_some_iff.mp hi).1
  have sF : Same F (upd F (α i) h) := same_upd fn
  have src : ∀ (j : Nat) (y : SV), (ρ.set i (.fz (frzO o)))[j]? = some y → (j = i ∧ y = .fz (frzO o)) ∨ (j ≠ i ∧ ρ[j]? = some y) := fun j y hy => by
    by_cases e : j = i
    · subst e
      rw [List.getElem?_set_self hlt] at hy
      exact .inl ⟨rfl, (Option.some.inj hy).symm⟩
    · rw [List.getElem?_set_ne (Ne.symm e)] at hy
      exact .inr ⟨e, hy⟩
  refine ⟨α i, upd F (α i) h, es, sF, rep_frz fn ro, ⟨by simpa using R.len, fun a u e => ?_, R.bh, R.f0.trans sF, fun a u e => ?_, R.pt, α, fun j y hy => ?_, fun j m y z hy hz oy oz ne => ?_⟩⟩
  · by_cases ha : a = α i
    · subst ha; rw [upd_same] at e; cases e; exact hh
    · rw [upd_ne ha] at e; exact R.fh _ _ e
  · by_cases ha : a = α i
    · subst ha; exact .inr bn
    · rw [upd_ne ha] at e; exact R.fr _ _ e
  · rcases src j y hy with ⟨e, ey⟩ | ⟨ne, e⟩
    · subst e ey
      exact ⟨_, es, rep_frz fn ro⟩
    · have q := h1 j y e
      cases y with
      | un => trivial
      | fz t => obtain ⟨v, a, b⟩ := q; exact ⟨v, a, b.mono sF⟩
      | ow o1 => obtain ⟨a, b, c, d, u, e1, e2⟩ := q; exact ⟨a, by rw [upd_ne (h2 j i _ _ e hi rfl rfl ne)]; exact b, c, d, u, e1, e2.mono sF⟩
      | pa o1 => obtain ⟨a, b, c, d, u, e1, e2⟩ := q; exact ⟨a, by rw [upd_ne (h2 j i _ _ e hi rfl rfl ne)]; exact b, c, d, u, e1, e2.mono sF⟩
  · have back : ∀ (n : Nat) (w : SV), (ρ.set i (.fz (frzO o)))[n]? = some w → w.owned = true → ρ[n]? = some w := fun n w hn ow => by
      rcases src n w hn with ⟨_, e⟩ | ⟨_, e⟩
      · subst e; cases ow
      · exact e
    exact h2 j m y z (back j y hy oy) (back m z hz oz) oy oz ne
theorem fe_varZ (hN : X.N[i]? = some x := by rfl) (hv : Vis X.env.scope x := by first | exact Or.inl rfl | exact Or.inr (Or.inl rfl) | exact Or.inr (Or.inr rfl)) (hd : (x == ("__debug__" : Str)) = false := by decide) (hcd : (x == ("__classdict__" : Str)) = false := by decide) : FE X E (.Name x pos) (rdZ i) := by
  refine pe_imp (pe_var hN hv hd hcd) fun σ H Q h => ?_
  obtain ⟨k, F, ρ, R, h⟩ := h
  unfold rdZ at h
  split at h
  · rename_i o e
    obtain ⟨a, F', es, s, r, R'⟩ := R.freeze e
    exact ⟨.ref a, es, h _ F' H R' s r⟩
  · exact h.elim
/-! ### isinstance -/
inductive Ty where
  | non | bl | int | str | lst | tup
  deriving DecidableEq
def Ty.nm : Ty → String
  | .non => "NoneType" | .bl => "bool" | .int => "int" | .str => "str" | .lst => "list" | .tup => "tuple"
def tyT : T → Option Ty
  | .non => some .non
  | .bl _ => some .bl
  | .int _ => some .int
  | .str _ => some .str
  | .lst _ => some .lst
  | .sl _ => some .lst
  | .tup _ => some .tup
  | _ => none
/-- of a type, a class's name (a builtin one) -/
def isTy (a b : Ty) : Bool := decide (a = b) || (decide (a = .bl) && decide (b = .int))
theorem isTy_ok (a b : Ty) : kitB a.nm b.nm = some (isTy a b) := by
  cases a <;> cases b <;> decide +kernel
theorem tyx_of {K : PySem.W.Frag} {mg : Str → Option Value} {F H : Hp} {t : T} {v : V} {y : Ty} (s : Same F H) (r : Rep K mg F t v) (e : tyT t = some y) : TyX K H v (.type y.nm) := by
  have sq : ∀ {a : Addr} {xs : List V}, SqL K H a xs → TyX K H (.ref a) (.type "list") := fun h => by
    rcases h with (h | ⟨o, h⟩) | ⟨o, its, n, h, c, _⟩
    · exact .base (.lst h)
    · exact .base (.frz h)
    · exact .kList h c
  have sqt : ∀ {a : Addr} {xs : List V}, SqT K H a xs → TyX K H (.ref a) (.type "tuple") := fun h => by
    rcases h with (h | ⟨o, h⟩) | ⟨o, its, n, h, c, _⟩
    · exact .base (.tup h)
    · exact .fTuple h
    · exact .kTuple h c
  cases t <;> simp only [tyT, Option.some.injEq, reduceCtorEq] at e <;> subst e
  · have ev : v = .non := r
    subst ev; exact .base .non
  · have ev : v = .bl _ := r
    subst ev; exact .base (.bl _)
  · have ev : v = .int _ := r
    subst ev; exact .base (.int _)
  · have ev : v = .str _ := r
    subst ev; exact .base (.str _)
  · obtain ⟨p, vs, rfl, h1, _⟩ := r; exact sq (SqL.of (s _ _ h1))
  · obtain ⟨p, vs, rfl, h1, _⟩ := r; exact sqt (same_SqT s h1)
  · obtain ⟨p, vs, rfl, h1, _⟩ := r; exact sq (same_SqL s h1)
def isiO (b : Ty) (t : T) : Option T := (tyT t).map fun a => .bl (isTy a b)
theorem fe_isi (b : Ty) {ty : Str} {a : Expr} {p1 p2 : Pos} {fa : M T} (hg : Gl X "isinstance") (hm : X.mg "isinstance" = none) (hbt : bootBuiltins "isinstance" = some (.builtin "isinstance")) (hgt : Gl X ty) (hmt : X.mg ty = none) (hbty : bootBuiltins ty = some (.type b.nm)) (ha : FE X E a fa)
    (hn : ty ≠ "__name__" := by decide) (hdb : (ty == ("__debug__" : Str)) = false := by decide) (h1 : starEach [a, Expr.Name ty p2] X.env = (false, eval a X.env) :: starEach [Expr.Name ty p2] X.env := by rfl) (h2 : starEach [Expr.Name ty p2] X.env = (false, eval (Expr.Name ty p2) X.env) :: starEach [] X.env := by rfl)
    (hpl : (backTo pos (starEach [Expr.Name ty p2] X.env)).any (·.1) = false := by rfl) : FE X E (.Call (.Name "isinstance" p1) [a, .Name ty p2] [] pos) (op1 (isiO b) fa) := by
  refine pe_imp (pe_callB call_isi hg hm hbt (pa_cons ha (pa_cons (pe_bltn (v := .ty b.nm) hgt hmt hbty rfl hn hdb) pa_nil h2) h1) (by decide) (by decide) h1 hpl) fun σ H Q h => ?_
  obtain ⟨k, F, ρ, R, h⟩ := h
  refine ⟨k, F, ρ, R, (Den.bind h).imp fun t ρ1 h1 v F1 H1 R1 s1 r1 => ?_⟩
  obtain ⟨u, e, q⟩ := Den.lift h1
  unfold isiO at e
  rw [Option.map_eq_some_iff] at e
  obtain ⟨y, e, rfl⟩ := e
  exact ⟨v, .ty b.nm, .type y.nm, .type b.nm, isTy y b, rfl, .ty _, tyx_of R1.fh r1 e, kit_ty (isTy_ok y b), q _ F1 H1 R1 s1 rfl⟩
def isi2O (b c : Ty) (t : T) : Option T := (tyT t).map fun a => .bl (isTy a b || isTy a c)
theorem fe_isi2 (b c : Ty) {ty tz : Str} {a : Expr} {p1 p2 p3 p4 : Pos} {x1} {fa : M T} (hg : Gl X "isinstance") (hm : X.mg "isinstance" = none) (hbt : bootBuiltins "isinstance" = some (.builtin "isinstance")) (hgt : Gl X ty) (hmt : X.mg ty = none) (hbty : bootBuiltins ty = some (.type b.nm))
    (hgz : Gl X tz) (hmz : X.mg tz = none) (hbz : bootBuiltins tz = some (.type c.nm)) (ha : FE X E a fa)
    (hn : ty ≠ "__name__" := by decide) (hdb : (ty == ("__debug__" : Str)) = false := by decide) (hnz : tz ≠ "__name__" := by decide) (hdz : (tz == ("__debug__" : Str)) = false := by decide)
    (h1 : starEach [a, Expr.Tuple [.Name ty p2, .Name tz p3] x1 p4] X.env = (false, eval a X.env) :: starEach [Expr.Tuple [.Name ty p2, .Name tz p3] x1 p4] X.env := by rfl)
    (h2 : starEach [Expr.Tuple [.Name ty p2, .Name tz p3] x1 p4] X.env = (false, eval (Expr.Tuple [.Name ty p2, .Name tz p3] x1 p4) X.env) :: starEach [] X.env := by rfl)
    (h3 : starEach [Expr.Name ty p2, .Name tz p3] X.env = (false, eval (Expr.Name ty p2) X.env) :: starEach [Expr.Name tz p3] X.env := by rfl)
    (h4 : starEach [Expr.Name tz p3] X.env = (false, eval (Expr.Name tz p3) X.env) :: starEach [] X.env := by rfl)
    (hpl : (backTo pos (starEach [Expr.Tuple [.Name ty p2, .Name tz p3] x1 p4] X.env)).any (·.1) = false := by rfl) : FE X E (.Call (.Name "isinstance" p1) [a, .Tuple [.Name ty p2, .Name tz p3] x1 p4] [] pos) (op1 (isi2O b c) fa) := by
  refine pe_imp (pe_callB call_isiT hg hm hbt (pa_cons ha (pa_cons (pe_tup (pa_cons (pe_bltn (v := .ty b.nm) hgt hmt hbty rfl hn hdb) (pa_cons (pe_bltn (v := .ty c.nm) hgz hmz hbz rfl hnz hdz) pa_nil h4) h3)) pa_nil h2) h1) (by decide) (by decide) h1 hpl) fun σ H Q h => ?_
  obtain ⟨k, F, ρ, R, h⟩ := h
  refine ⟨k, F, ρ, R, (Den.bind h).imp fun t ρ1 h1 v F1 H1 R1 s1 r1 => ?_⟩
  obtain ⟨u, e, q⟩ := Den.lift h1
  unfold isi2O at e
  rw [Option.map_eq_some_iff] at e
  obtain ⟨y, e, rfl⟩ := e
  refine ⟨by show 2 ≤ sizeLine; decide, fun p np => ?_⟩
  have s2 : Same H1 (upd H1 p (.tup [.ty b.nm, .ty c.nm])) := same_upd np
  refine ⟨v, p, [.ty b.nm, .ty c.nm], .type y.nm, [.type b.nm, .type c.nm], isTy y b || isTy y c, rfl, upd_same, .cons (.ty _) (.cons (.ty _) .nil), tyx_of (R1.fh.trans s2) r1 e, ?_, q _ F1 _ (R1.grow s2) s1 rfl⟩
  refine kitAny_cons (kit_ty (isTy_ok y b)) (fun eb => ?_) (fun eb => by rw [eb]; rfl)
  rw [eb, Bool.false_or]
  refine kitAny_cons (kit_ty (isTy_ok y c)) (fun ec => by rw [ec]; exact kitAny_nil) (fun ec => ec)
/-! ### slices -/
abbrev MO := M (Option Int)
def tPO (X : Cx) (E : XK) (f : MO) : TO := fun σ H Q => ∃ k F ρ, RSk X k F ρ σ H ∧ Den (f ρ) (fun i ρ' => ∀ F' H', RSk X k F' ρ' σ H' → Same F F' → Q i H') (XOk X.K X.mg k.B E)
abbrev FPO (X : Cx) (E : XK) (e : Option Expr) (f : MO) : Prop := PO X e (tPO X E f)
def poN : MO := fun ρ => .ok none ρ
def poS (f : M T) : MO := fun ρ => (f ρ).bind fun t ρ => match t with
  | .int i => .ok (some i) ρ
  | _ => .bad
theorem fpo_none : FPO X E none poN := ⟨fun pins s σ H Q I ⟨k, F, ρ, R, h⟩ => po_none.run pins s σ H Q I (h F H R (Same.refl _))⟩
theorem fpo_some (h : FE X E e f) : FPO X E (some e) (poS f) := ⟨fun pins s σ H Q I hw => by
  obtain ⟨k, F, ρ, R, hw⟩ := hw
  refine (po_some h).run pins s σ H Q I ⟨k, F, ρ, R, (Den.bind hw).imp fun t ρ1 h1 v F1 H1 R1 s1 r1 => ?_⟩
  split at h1
  · rename_i j
    exact ⟨j, r1, h1 F1 H1 R1 s1⟩
  · exact h1.elim⟩
def cutT (xs : List T) (lo hi : Option Int) : List T := (xs.drop (HT.sIx xs.length 0 lo)).take (HT.sIx xs.length xs.length hi - HT.sIx xs.length 0 lo)
theorem Reps.cut {K : PySem.W.Frag} {mg : Str → Option Value} {F : Hp} {ts : List T} {vs : List V} (r : Reps K mg F ts vs) (lo hi : Option Int) : Reps K mg F (cutT ts lo hi) (cutV vs lo hi) := by
  unfold cutT cutV
  rw [r.length]
  exact (r.drop _).take _
def slO (t : T) (lo hi : Option Int) : Option T := match t with
  | .lst ts => some (.lst (cutT ts lo hi))
  | .tup ts => some (.tup (cutT ts lo hi))
  | .str z => if z.length ≤ 16777216 then some (.str (cutS z lo hi)) else none
  | _ => none
def slM (fa : M T) (fl fh : MO) : M T := fun ρ => (fa ρ).bind fun t ρ => (fl ρ).bind fun lo ρ => (fh ρ).bind fun hi ρ => liftO (slO t lo hi) ρ
def rSlice (X : Cx) : V → Option Int → Option Int → Hp → VK → Prop := fun x lo hi H Q => rSlL X.K x lo hi H Q ∨ rSlA X.K x lo hi H Q ∨ rSlS x lo hi H Q
theorem sl_all : SlR X (rSlice X) := SlR.or sl_list (SlR.or sl_tupA sl_str)
theorem fe_slice {lo hi : Option Expr} {fa : M T} {fl fh : MO} {p2 : Pos} (ha : FE X E e fa) (hl : FPO X E lo fl) (hh : FPO X E hi fh) : FE X E (.Subscript e (.Slice lo hi none p2) pos) (slM fa fl fh) := by
  refine pe_imp (pe_slice sl_all ha hl hh) fun σ H Q h => ?_
  obtain ⟨k, F, ρ, R, h⟩ := h
  refine ⟨k, F, ρ, R, (Den.bind h).imp fun t ρ1 h1 v F1 H1 R1 s1 r1 => ?_⟩
  refine ⟨k, F1, ρ1, R1, (Den.bind h1).imp fun l ρ2 h2 F2 H2 R2 s2 => ?_⟩
  refine ⟨k, F2, ρ2, R2, (Den.bind h2).imp fun u ρ3 h3 F3 H3 R3 s3 => ?_⟩
  obtain ⟨t', e, q⟩ := Den.lift h3
  have r3 := r1.mono (s2.trans s3)
  have sA : Same F F3 := s1.trans (s2.trans s3)
  unfold slO at e
  split at e
  · cases e
    obtain ⟨p, vs, rfl, g1, g2⟩ := r3
    refine .inl ⟨p, vs, rfl, SqL.of (R3.fh _ _ g1), fun p' np => ?_⟩
    have sF : Same F3 (upd F3 p' (.lst (cutV vs l u))) := same_upd (R3.fnone np)
    exact q _ _ _ (R3.newF np) (sA.trans sF) ⟨p', _, rfl, upd_same, (g2.cut l u).mono sF⟩
  · cases e
    obtain ⟨p, vs, rfl, g1, g2⟩ := r3
    refine .inr (.inl ⟨p, vs, rfl, same_SqT R3.fh g1, fun hw => ?_, fun _ p' np => ?_⟩)
    · refine q _ _ _ R3 sA ⟨p, vs, rfl, g1, ?_⟩
      have := g2.cut l u
      unfold cutV at this
      rw [hw.1, hw.2, List.drop_zero, Nat.sub_zero, List.take_length] at this
      exact this
    · have sF : Same F3 (upd F3 p' (.tup (cutV vs l u))) := same_upd (R3.fnone np)
      exact q _ _ _ (R3.newF np) (sA.trans sF) ⟨p', _, rfl, SqT.of upd_same, (g2.cut l u).mono sF⟩
  · rename_i z
    split at e
    · rename_i hz
      cases e
      exact .inr (.inr ⟨z, r3, by rw [szL]; exact hz, q _ _ _ R3 sA rfl⟩)
    · cases e
  · cases e
end

/-! ### what a def is worth -/
/-- a def as a function upon trees (of a result the state means nothing) -/
abbrev Sg := List T → Res T
def spF (K : PySem.W.Frag) (mg : Str → Option Value) (g : Sg) : Sp := fun vs H Q E => ∃ B F ts, Same F H ∧ Same B H ∧ Reps K mg F ts vs ∧
  Den (g ts) (fun t _ => ∀ v F' H', Same F' H' → Same B H' → Same F F' → (∀ a o, F' a = some o → (∃ u, F a = some u) ∨ B a = none) → Rep K mg F' t v → Q v H') (XOk K mg B E)
def outF (r : Res Fl) : Res T := match r with
  | .bad => .bad
  | .exc e => .exc e
  | .ok (.rt t) _ => .ok t []
  | .ok .nx _ => .ok .non []
  | .ok _ _ => .bad
/-- of a body: n names, m parameters -/
def fnF (n m : Nat) (fb : MS) : Sg := fun ts => if ts.length = m ∧ m ≤ n then outF (fb (ts.map SV.fz ++ List.replicate (n - m) SV.un)) else .bad
structure Known (P : Program) (w : World) (K : PySem.W.Frag) (mg : Str → Option Value) (base : Heap) (k : Nat) (nm : Str) (g : Sg) : Prop where
  ok : ∃ (f : Addr) (fd : FuncData) (ps : List Str), mg nm = some (.ref f) ∧ PySem.W.keepIn K (.ref f) = true ∧ Binds K fd ps [] ∧ FnOk P w K mg base (L2.CX P w) k f fd ps (spF K mg g)
theorem Known.mono {P : Program} {w : World} {K : PySem.W.Frag} {mg : Str → Option Value} {base : Heap} {j k : Nat} {nm : Str} {g : Sg} (h : Known P w K mg base j nm g) (l : j ≤ k) : Known P w K mg base k nm g := by
  obtain ⟨f, fd, ps, a, b, c, d⟩ := h.ok
  exact ⟨f, fd, ps, a, b, c, d.mono l⟩
section
variable {P : Program} {w : World} {K : PySem.W.Frag} {mg : Str → Option Value} {base : Heap}
theorem Den.ne {α : Type} {r : Res α} {p : α → Env → Prop} {x : Ex → Prop} (h : Den r p x) : r ≠ .bad := fun e => by rw [e] at h; exact h
theorem start_slots {B F : Hp} {H : Hp} {N : List Str} {ts : List T} {vs : List V} (s : Same F H) (b : Same B H) (r : Reps K mg F ts vs) (hl : ts.length ≤ N.length) : RS K mg B F none F (ts.map SV.fz ++ List.replicate (N.length - ts.length) SV.un) (L2.start N vs) H := by
  have lv := r.length
  refine ⟨?_, s, b, Same.refl _, fun a o e => .inl ⟨o, e⟩, (fun a e => nomatch e), fun _ => 0, fun i x hx => ?_, fun i j x y hx _ ox _ _ => ?_⟩
  · unfold L2.start
    simp only [List.length_append, List.length_map, List.length_replicate]
    omega
  · by_cases hi : i < ts.length
    · rw [List.getElem?_append_left (by simpa using hi), List.getElem?_map, List.getElem?_eq_getElem hi] at hx
      cases hx
      obtain ⟨v, h1, h2⟩ := r.get (List.getElem?_eq_getElem hi)
      refine ⟨v, ?_, h2⟩
      unfold L2.start
      rw [List.getElem?_append_left (by simp; omega), List.getElem?_map, h1]
      rfl
    · rw [List.getElem?_append_right (by simpa using hi), List.getElem?_replicate] at hx
      split at hx
      · cases hx; trivial
      · cases hx
  · exfalso
    by_cases hi : i < ts.length
    · rw [List.getElem?_append_left (by simpa using hi), List.getElem?_map, List.getElem?_eq_getElem hi] at hx
      cases hx; cases ox
    · rw [List.getElem?_append_right (by simpa using hi), List.getElem?_replicate] at hx
      split at hx
      · cases hx; cases ox
      · cases hx
/-- a def by its body -/
theorem fn_ok {x qual : Str} {st : Stmt} {f : Addr} {fd : FuncData} {N ps : List Str} {k : Nat} {fb : MS} (F : Fun K x qual st f fd) (S : FnScope N ps (defScope st))
    (hb : ∀ (cdv : Value) (A : Around) (outer : List PySem.Env) (s : Shared) (H : Hp) (E : XK), Room k (A.deeper (PyProof.Rows.envOfC qual (defScope st) s.heap.objs.size f cdv)) → FSs (cxOf (L2.CX P w) P w K mg base N qual (defScope st) f cdv A outer s H E) E (defBody st) fb) :
    FnOk P w K mg base (L2.CX P w) (k + 1) f fd ps (spF K mg (fnF N.length ps.length fb)) := by
  refine F.okX S (fun vs H Q E h => ?_) (fun cdv A outer s H vs Q E hr h => ?_)
  · obtain ⟨B, F, ts, _, _, r, d⟩ := h
    unfold fnF at d
    split at d
    · rename_i hl
      rw [← r.length]; exact hl.1
    · exact d.elim
  · obtain ⟨B, F', ts, sF, sB, r, d⟩ := h
    refine ⟨_, hb cdv A outer s H E hr, ⟨B, F', none⟩, F', ts.map SV.fz ++ List.replicate (N.length - ps.length) SV.un, ?_, ?_⟩
    · unfold fnF at d
      split at d
      · rename_i hl
        have q := start_slots (N := N) sF sB r (by omega)
        rw [hl.1] at q
        exact q
      · exact d.elim
    · unfold fnF at d
      split at d
      · cases e : fb (ts.map SV.fz ++ List.replicate (N.length - ps.length) SV.un) with
        | bad => rw [e] at d; exact d
        | exc x => rw [e] at d; exact d
        | ok fl ρ =>
          rw [e] at d
          cases fl with
          | nx => exact fun σ' F2 H' R s' => d .non F2 H' R.fh R.bh s' (fun a o q => R.fr a o q) rfl
          | bk => exact d.elim
          | ct => exact d.elim
          | rt t => exact fun v σ' F2 H' R s' rv => d v F2 H' R.fh R.bh s' (fun a o q => R.fr a o q) rv
      · exact d.elim
end
/-- a call of a def -/
def calU (g : Sg) (fs : M (List T)) : M T := fun ρ => (fs ρ).bind fun ts ρ => match g ts with
  | .bad => .bad
  | .exc e => .exc e
  | .ok t _ => .ok t ρ
section
variable {X : Cx} {E : XK} {e : Expr} {es : List Expr} {pos p : Pos} {fs : M (List T)} {x : Str} {g : Sg}
theorem XOk.mono {K : PySem.W.Frag} {mg : Str → Option Value} {B B' : Hp} {x : Ex} (s : Same B B') (h : XOk K mg B E x) : XOk K mg B' E x := by
  obtain ⟨c, a⟩ := x
  cases a with
  | none => exact fun C H' m s' => h C H' m (s.trans s')
  | some a => exact fun C d v F' H' m s' => h C d v F' H' m (s.trans s')
/-- behind a call of a def that changes nothing -/
theorem RS.called {K : PySem.W.Frag} {mg : Str → Option Value} {B F0 F F' : Hp} {pm : Option Addr} {ρ : Env} {σ : L2.St} {H H' : Hp} (R : RS K mg B F0 pm F ρ σ H) (s1 : Same F' H') (s2 : Same H H') (s3 : Same F F') (fr : ∀ a o, F' a = some o → (∃ u, F a = some u) ∨ H a = none) : RS K mg B F0 pm F' ρ σ H' := by
  obtain ⟨α, h1, h2⟩ := R.ex
  have far : ∀ a h, H a = some h → F a = none → F' a = none := fun a h e n => by
    cases q : F' a with
    | none => rfl
    | some u =>
      rcases fr a u q with ⟨w, e'⟩ | e'
      · rw [n] at e'; cases e'
      · rw [e] at e'; cases e'
  refine ⟨R.len, s1, R.bh.trans s2, R.f0.trans s3, fun a o e => ?_, fun a e => let ⟨o, q⟩ := R.pt a e; ⟨o, s2 _ _ q⟩, α, fun j y hy => ?_, h2⟩
  · rcases fr a o e with ⟨u, q⟩ | q
    · exact R.fr a u q
    · exact .inr (R.bnone q)
  · have q := h1 j y hy
    cases y with
    | un => trivial
    | fz t => obtain ⟨v, a, b⟩ := q; exact ⟨v, a, b.mono s3⟩
    | ow o => obtain ⟨a, b, c, d, u, e1, e2⟩ := q; exact ⟨a, far _ _ e1 b, c, d, u, s2 _ _ e1, e2.mono s3⟩
    | pa o => obtain ⟨a, b, c, d, u, e1, e2⟩ := q; exact ⟨a, far _ _ e1 b, c, d, u, s2 _ _ e1, e2.mono s3⟩
theorem fe_call {k : Nat} (Kn : Known X.prog X.w X.K X.mg X.base k x g) (hr : Room k X.A) (hg : Gl X x) (hx : Passes (L2.CX X.prog X.w) X E) (ha : FA X E (e :: es) fs) (hdb : (x == ("__debug__" : Str)) = false := by decide)
    (he : starEach (e :: es) X.env = (false, eval e X.env) :: starEach es X.env := by rfl) (hpl : (backTo pos (starEach es X.env)).any (·.1) = false := by rfl) : FE X E (.Call (.Name x p) (e :: es) [] pos) (calU g fs) := by
  obtain ⟨f, fd, ps, hm, hk, hb, F⟩ := Kn.ok
  refine pe_imp (pe_call F hr hg hm hk hb .nil hx ha hdb he hpl) fun σ H Q h => ?_
  obtain ⟨kk, F, ρ, R, h⟩ := h
  refine ⟨kk, F, ρ, R, (Den.bind h).imp fun ts ρ1 h1 vs F1 H1 R1 s1 r1 => ?_⟩
  show spF X.K X.mg g (vs ++ []) H1 Q E
  rw [List.append_nil]
  refine ⟨H1, F1, ts, R1.fh, Same.refl _, r1, ?_⟩
  cases eg : g ts with
  | bad => rw [eg] at h1; exact h1
  | exc x => rw [eg] at h1; exact XOk.mono R1.bh h1
  | ok t ρx =>
    rw [eg] at h1
    exact fun v F' H' a b c d r => h1 v F' H' (R1.called a b c d) (s1.trans c) r
end
end FL

/-! FL8: defs that change an object that the caller lends; the law's end. -/
namespace FL
open PySem PySem.Spec L2

abbrev SgM := O → List T → Res (T × O)
def spM (K : PySem.W.Frag) (mg : Str → Option Value) (g : SgM) : Sp := fun vs H Q E => ∃ B F a h o ws ts, vs = .ref a :: ws ∧ Same F H ∧ Same B H ∧ F a = none ∧ B a = none ∧ H a = some h ∧ ORep K mg F o h ∧ Reps K mg F ts ws ∧
  Den (g o ts) (fun r _ => ∀ v F' H' h', Same F' H' → Same B H' → Same F F' → (∀ b u, F' b = some u → (∃ u, F b = some u) ∨ B b = none) → F' a = none → H' a = some h' → ORep K mg F' r.2 h' → Rep K mg F' r.1 v → Q v H') (fun _ => False)
def lent (ρ : Env) : Option O := match ρ with
  | .pa o :: _ => some o
  | _ => none
theorem lent_some {ρ : Env} {o : O} (h : lent ρ = some o) : ρ[0]? = some (.pa o) := by
  unfold lent at h
  split at h
  · cases h; rfl
  · cases h
def outV (t : T) (ρ : Env) : Res (T × O) := match lent ρ with
  | some o => .ok (t, o) []
  | none => .bad
def outM (r : Res Fl) : Res (T × O) := match r with
  | .ok (.rt t) ρ => outV t ρ
  | .ok .nx ρ => outV .non ρ
  | _ => .bad
def fnM (n m : Nat) (fb : MS) : SgM := fun o ts => if ts.length + 1 = m ∧ m ≤ n then outM (fb (SV.pa o :: (ts.map SV.fz ++ List.replicate (n - m) SV.un))) else .bad
structure KnownM (P : Program) (w : World) (K : PySem.W.Frag) (mg : Str → Option Value) (base : Heap) (k : Nat) (nm : Str) (g : SgM) : Prop where
  ok : ∃ (f : Addr) (fd : FuncData) (ps : List Str), mg nm = some (.ref f) ∧ PySem.W.keepIn K (.ref f) = true ∧ Binds K fd ps [] ∧ FnOk P w K mg base (L2.CX P w) k f fd ps (spM K mg g)
theorem KnownM.mono {P : Program} {w : World} {K : PySem.W.Frag} {mg : Str → Option Value} {base : Heap} {j k : Nat} {nm : Str} {g : SgM} (h : KnownM P w K mg base j nm g) (l : j ≤ k) : KnownM P w K mg base k nm g := by
  obtain ⟨f, fd, ps, a, b, c, d⟩ := h.ok
  exact ⟨f, fd, ps, a, b, c, d.mono l⟩
section
variable {P : Program} {w : World} {K : PySem.W.Frag} {mg : Str → Option Value} {base : Heap}
theorem start_slotsM {B F : Hp} {H : Hp} {N : List Str} {ts : List T} {vs : List V} {a : Addr} {o : O} {h : HO} (s : Same F H) (b : Same B H) (fa : F a = none) (ba : B a = none) (ha : H a = some h) (ro : ORep K mg F o h) (r : Reps K mg F ts vs) (hl : ts.length + 1 ≤ N.length) :
    RS K mg B F (some a) F (SV.pa o :: (ts.map SV.fz ++ List.replicate (N.length - (ts.length + 1)) SV.un)) (L2.start N (.ref a :: vs)) H := by
  have lv := r.length
  have src : ∀ (i : Nat) (x : SV), (SV.pa o :: (ts.map SV.fz ++ List.replicate (N.length - (ts.length + 1)) SV.un))[i]? = some x → (i = 0 ∧ x = .pa o) ∨ x = .un ∨ ∃ t j, x = .fz t ∧ i = j + 1 ∧ ts[j]? = some t := fun i x hx => by
    cases i with
    | zero => exact .inl ⟨rfl, (Option.some.inj hx).symm⟩
    | succ i =>
      rw [List.getElem?_cons_succ] at hx
      by_cases hi : i < ts.length
      · rw [List.getElem?_append_left (by simpa using hi), List.getElem?_map, List.getElem?_eq_getElem hi] at hx
        cases hx
        exact .inr (.inr ⟨_, i, rfl, rfl, List.getElem?_eq_getElem hi⟩)
      · rw [List.getElem?_append_right (by simpa using hi), List.getElem?_replicate] at hx
        split at hx
        · cases hx; exact .inr (.inl rfl)
        · cases hx
  refine ⟨?_, s, b, Same.refl _, fun a o e => .inl ⟨o, e⟩, fun a' e => by cases e; exact ⟨h, ha⟩, fun _ => a, fun i x hx => ?_, fun i j x y hx hy ox oy ne => ?_⟩
  · unfold L2.start
    simp only [List.length_append, List.length_map, List.length_replicate, List.length_cons]
    omega
  · rcases src i x hx with ⟨e, e'⟩ | e | ⟨t, j, e, e1, e2⟩
    · subst e e'
      exact ⟨rfl, fa, ba, rfl, h, ha, ro⟩
    · subst e; trivial
    · subst e e1
      obtain ⟨v, h1, h2⟩ := r.get e2
      refine ⟨v, ?_, h2⟩
      unfold L2.start
      have hj := (List.getElem?_eq_some_iff.mp e2).1
      rw [List.getElem?_append_left (by simp; omega), List.map_cons, List.getElem?_cons_succ, List.getElem?_map, h1]
      rfl
  · exfalso
    rcases src i x hx with ⟨e, e'⟩ | e | ⟨t, _, e, _⟩
    · rcases src j y hy with ⟨e2, _⟩ | e2 | ⟨t, _, e2, _⟩
      · exact ne (e.trans e2.symm)
      · subst e2; cases oy
      · subst e2; cases oy
    · subst e; cases ox
    · subst e; cases ox
/-- a def that changes its first argument, by its body -/
theorem fm_ok {x qual : Str} {st : Stmt} {f : Addr} {fd : FuncData} {N ps : List Str} {k : Nat} {fb : MS} (F : Fun K x qual st f fd) (S : FnScope N ps (defScope st))
    (hb : ∀ (cdv : Value) (A : Around) (outer : List PySem.Env) (s : Shared) (H : Hp) (E : XK), Room k (A.deeper (PyProof.Rows.envOfC qual (defScope st) s.heap.objs.size f cdv)) → FSs (cxOf (L2.CX P w) P w K mg base N qual (defScope st) f cdv A outer s H E) E0 (defBody st) fb) :
    FnOk P w K mg base (L2.CX P w) (k + 1) f fd ps (spM K mg (fnM N.length ps.length fb)) := by
  refine F.okX S (fun vs H Q E h => ?_) (fun cdv A outer s H vs Q E hr h => ?_)
  · obtain ⟨B, F, a, h, o, ws, ts, rfl, _, _, _, _, _, _, r, d⟩ := h
    unfold fnM at d
    split at d
    · rename_i hl
      rw [List.length_cons, ← r.length]; exact hl.1
    · exact d.elim
  · obtain ⟨B, F', a, h, o, ws, ts, rfl, sF, sB, fa, ba, ha, ro, r, d⟩ := h
    unfold fnM at d
    split at d
    · rename_i hl
      refine ⟨_, hb cdv A outer s H E hr, ⟨B, F', some a⟩, F', _, start_slotsM (N := N) sF sB fa ba ha ro r (by omega), ?_⟩
      rw [hl.1]
      cases e : fb (SV.pa o :: (ts.map SV.fz ++ List.replicate (N.length - ps.length) SV.un)) with
      | bad => rw [e] at d; exact d
      | exc x => rw [e] at d; exact (show False from d).elim
      | ok fl ρ =>
        rw [e] at d
        have fin : ∀ {σ' : L2.St} {F2 H' : Hp} {o' : O}, RS K mg B F' (some a) F2 ρ σ' H' → ρ[0]? = some (.pa o') → ∃ h', F2 a = none ∧ H' a = some h' ∧ ORep K mg F2 o' h' := fun {σ' F2 H' o'} R e0 => by
          obtain ⟨α, h1, _⟩ := R.ex
          obtain ⟨_, b, _, d, u, e1, e2⟩ := h1 0 _ e0
          have ea : a = α 0 := Option.some.inj d
          rw [← ea] at b e1
          exact ⟨u, b, e1, e2⟩
        cases fl with
        | nx =>
          have d' : Den (outV .non ρ) _ _ := d
          unfold outV at d'
          split at d'
          · rename_i o' e0
            intro σ' F2 H' R s'
            obtain ⟨h', g1, g2, g3⟩ := fin R (lent_some e0)
            exact d' .non F2 H' h' R.fh R.bh s' (fun a o q => R.fr a o q) g1 g2 g3 rfl
          · exact d'.elim
        | bk => exact (show False from d).elim
        | ct => exact (show False from d).elim
        | rt t =>
          have d' : Den (outV t ρ) _ _ := d
          unfold outV at d'
          split at d'
          · rename_i o' e0
            intro v σ' F2 H' R s' rv
            obtain ⟨h', g1, g2, g3⟩ := fin R (lent_some e0)
            exact d' v F2 H' h' R.fh R.bh s' (fun a o q => R.fr a o q) g1 g2 g3 rv
          · exact d'.elim
    · exact d.elim
end
/-- a call f(x, ..) of a def that changes what x holds -/
def calM (g : SgM) (i : Nat) (fs : M (List T)) : M T := withOwn i fun ρ => (fs ρ).bind fun ts ρ => match rdOwn i ρ with
  | some o => match g o ts with
    | .ok (t, o') _ => .ok t (setOwn i o' ρ)
    | _ => .bad
  | none => .bad
section
variable {X : Cx} {E : XK} {e : Expr} {es : List Expr} {pos p p2 : Pos} {fs : M (List T)} {x y : Str} {g : SgM} {i : Nat}
theorem RS.calledM {K : PySem.W.Frag} {mg : Str → Option Value} {B F0 F F' : Hp} {pm : Option Addr} {ρ : Env} {σ : L2.St} {H H' : Hp} {a : Addr} {o o' : O} {h' : HO} (R : RS K mg B F0 pm F ρ σ H) (ho : rdOwn i ρ = some o) (es : σ[i]? = some (some (.ref a)))
    (s1 : Same F' H') (s2 : ∀ b u, b ≠ a → H b = some u → H' b = some u) (s3 : Same F F') (fr : ∀ b u, F' b = some u → (∃ u, F b = some u) ∨ H b = none ∨ b = a) (fa : F' a = none) (ha : H' a = some h') (ro : ORep K mg F' o' h') : RS K mg B F0 pm F' (setOwn i o' ρ) σ H' := by
  obtain ⟨α, h1, h2⟩ := R.ex
  unfold rdOwn at ho
  rw [Option.bind_eq_some_iff] at ho
  obtain ⟨x, hx, hox⟩ := ho
  have ox : x.owned = true := by rcases obj_cases hox with e | e <;> subst e <;> rfl
  have q : σ[i]? = some (some (.ref (α i))) ∧ F (α i) = none ∧ B (α i) = none ∧ ∃ h, H (α i) = some h := by
    have q := h1 i x hx
    rcases obj_cases hox with e | e
    · subst e; obtain ⟨a, b, c, d, h, e, _⟩ := q; exact ⟨a, b, c, h, e⟩
    · subst e; obtain ⟨a, b, c, d, h, e, _⟩ := q; exact ⟨a, b, c, h, e⟩
  have ea : a = α i := by
    rw [q.1] at es
    cases es; rfl
  subst ea
  have hlt : i < ρ.length := (List.getElem?_eq_some_iff.mp hx).1
  unfold setOwn
  rw [hx]
  have far : ∀ b h, b ≠ α i → H b = some h → F b = none → F' b = none := fun b h ne e n => by
    cases q : F' b with
    | none => rfl
    | some u =>
      rcases fr b u q with ⟨w, e'⟩ | e' | e'
      · rw [n] at e'; cases e'
      · rw [e] at e'; cases e'
      · exact absurd e' ne
  have src : ∀ (j : Nat) (y : SV), (ρ.set i (x.to o'))[j]? = some y → (j = i ∧ y = x.to o') ∨ (j ≠ i ∧ ρ[j]? = some y) := fun j y hy => by
    by_cases e : j = i
    · subst e
      rw [List.getElem?_set_self hlt] at hy
      exact .inl ⟨rfl, (Option.some.inj hy).symm⟩
    · rw [List.getElem?_set_ne (Ne.symm e)] at hy
      exact .inr ⟨e, hy⟩
  refine ⟨by simpa using R.len, s1, fun b u e => s2 b u (ne_of_none e q.2.2.1) (R.bh _ _ e), R.f0.trans s3, fun b u e => ?_, fun b e => ?_, α, fun j y hy => ?_, fun j m y z hy hz oy oz ne => ?_⟩
  · rcases fr b u e with ⟨w, q'⟩ | q' | q'
    · exact R.fr b w q'
    · exact .inr (R.bnone q')
    · subst q'; rw [fa] at e; cases e
  · obtain ⟨u, e'⟩ := R.pt b e
    by_cases hb : b = α i
    · subst hb; exact ⟨h', ha⟩
    · exact ⟨u, s2 b u hb e'⟩
  · rcases src j y hy with ⟨e, ey⟩ | ⟨ne, e⟩
    · subst e
      have q' := h1 j x hx
      rcases obj_cases hox with e | e
      · subst e
        have ey' : y = .ow o' := ey
        subst ey'
        obtain ⟨a, b, c, d, _⟩ := q'
        exact ⟨a, fa, c, d, h', ha, ro⟩
      · subst e
        have ey' : y = .pa o' := ey
        subst ey'
        obtain ⟨a, b, c, d, _⟩ := q'
        exact ⟨a, fa, c, d, h', ha, ro⟩
    · have q' := h1 j y e
      cases y with
      | un => trivial
      | fz t => obtain ⟨v, a, b⟩ := q'; exact ⟨v, a, b.mono s3⟩
      | ow o1 =>
        obtain ⟨a, b, c, d, u, e1, e2⟩ := q'
        have na := h2 j i _ x e hx rfl ox ne
        exact ⟨a, far _ _ na e1 b, c, d, u, s2 _ _ na e1, e2.mono s3⟩
      | pa o1 =>
        obtain ⟨a, b, c, d, u, e1, e2⟩ := q'
        have na := h2 j i _ x e hx rfl ox ne
        exact ⟨a, far _ _ na e1 b, c, d, u, s2 _ _ na e1, e2.mono s3⟩
  · have back : ∀ (n : Nat) (w : SV), (ρ.set i (x.to o'))[n]? = some w → w.owned = true → ∃ z : SV, ρ[n]? = some z ∧ z.owned = true := fun n w hn ow => by
      rcases src n w hn with ⟨e, _⟩ | ⟨_, e⟩
      · subst e; exact ⟨x, hx, ox⟩
      · exact ⟨w, e, ow⟩
    obtain ⟨y', hy', oy'⟩ := back j y hy oy
    obtain ⟨z', hz', oz'⟩ := back m z hz oz
    exact h2 j m y' z' hy' hz' oy' oz' ne
theorem fe_callM {k : Nat} (Kn : KnownM X.prog X.w X.K X.mg X.base k y g) (hr : Room k X.A) (hg : Gl X y) (hxx : Passes (L2.CX X.prog X.w) X E0) (hN : X.N[i]? = some x := by rfl) (ha : FA X E es fs)
    (hv : Vis X.env.scope x := by first | exact Or.inl rfl | exact Or.inr (Or.inl rfl) | exact Or.inr (Or.inr rfl)) (hd : (x == ("__debug__" : Str)) = false := by decide) (hcd : (x == ("__classdict__" : Str)) = false := by decide) (hdb : (y == ("__debug__" : Str)) = false := by decide)
    (he : starEach (.Name x p2 :: es) X.env = (false, eval (.Name x p2) X.env) :: starEach es X.env := by rfl) (hpl : (backTo pos (starEach es X.env)).any (·.1) = false := by rfl) : FE X E (.Call (.Name y p) (.Name x p2 :: es) [] pos) (calM g i fs) := by
  obtain ⟨f, fd, ps, hm, hk, hb, F⟩ := Kn.ok
  refine pe_imp (pe_call F hr hg hm hk hb .nil hxx (pa_cons (pe_var hN hv hd hcd) ha he) hdb he hpl) fun σ H Q h => ?_
  obtain ⟨kk, F, ρ, R, h⟩ := h
  obtain ⟨⟨o0, ho0⟩, h⟩ := Den.own h
  obtain ⟨a, h0, es', _⟩ := R.own ho0
  refine ⟨.ref a, es', kk, F, ρ, R, (Den.bind h).imp fun ts ρ1 h1 vs F1 H1 R1 s1 r1 => ?_⟩
  show spM X.K X.mg g ((.ref a :: vs) ++ []) H1 Q E0
  rw [List.append_nil]
  split at h1
  · rename_i o ho
    obtain ⟨a1, h2, e1, e2, e3, e4, _⟩ := R1.own ho
    rw [es'] at e1
    cases e1
    refine ⟨fun b => if b = a then none else H1 b, F1, a, h2, o, vs, ts, rfl, R1.fh, fun b u e => ?_, e2, by simp, e3, e4, r1, ?_⟩
    · dsimp only at e
      split at e
      · cases e
      · exact e
    · split at h1
      · rename_i t o' ρx eg
        rw [eg]
        exact fun v F' H' h' c1 c2 c3 c4 c5 c6 c7 c8 => h1 v F' H' (R1.calledM ho es' c1 (fun b u ne e => c2 b u (by show (if b = a then none else H1 b) = some u; rw [if_neg ne]; exact e)) c3 (fun b u e => by
          rcases c4 b u e with q | q
          · exact .inl q
          · have q' : (if b = a then none else H1 b) = none := q
            split at q'
            · rename_i eb; exact .inr (.inr eb)
            · exact .inr (.inl q')) c5 c6 c7) (s1.trans c3) c8
      · exact h1.elim
  · exact h1.elim
end
/-! ### the law's end -/
def spLaw (K : PySem.W.Frag) : Sp := fun vs H Q _ => ∃ (a : Addr) (ns : List Int), vs = [.ref a] ∧ SqL K H a (ns.map V.int) ∧ ns.length ≤ 63 ∧ ∀ H', Q (.bl true) H'
theorem law_imp {P : Program} {w : World} {K : PySem.W.Frag} {mg : Str → Option Value} {base : Heap} {k : Nat} {f : Addr} {fd : FuncData} {x : Str} {g : Sg} (F : FnOk P w K mg base (L2.CX P w) k f fd [x] (spF K mg g)) (hg : ∀ ns : List Int, ns.length ≤ 63 → g [.sl (ns.map T.int)] = .ok (.bl true) []) :
    FnOk P w K mg base (L2.CX P w) k f fd [x] (spLaw K) := F.imp fun vs H Q E h => by
  obtain ⟨a, ns, rfl, hS, hl, q⟩ := h
  refine ⟨fun _ => none, H, [.sl (ns.map T.int)], Same.refl _, fun _ _ e => (nomatch e), .cons ⟨a, ns.map V.int, rfl, hS, Reps.of_ints⟩ .nil, ?_⟩
  rw [hg ns hl]
  intro v F' H' _ _ _ _ r
  have ev : v = .bl true := r
  subst ev
  exact q H'
theorem noE0 {P : Program} {w : World} {H : Hp} {s : Shared} {e : Value} {s' : Shared} (h : L2.CX P w [] H s (fun _ _ _ => False) e s') : False := by
  obtain ⟨_, _, _, _, _, _, _, _, _, _, _, _, z⟩ := h
  exact z.elim
end FL

/-! FL9: enumerate and zip over lists and tuples. -/
namespace FL
open PySem PySem.Spec L2 PyProof.Rows

/-- a list or a tuple that is read -/
def Sq (K : PySem.W.Frag) (H : Hp) (c : Bool) (a : Addr) (xs : List V) : Prop := if c = true then SqL K H a xs else SqT K H a xs
def ItAt (c : Bool) (h : Heap) (it a : Addr) (i : Nat) : Prop := if c = true then h.IsListIter it a i else h.IsTupleIter it a i
def SqAt (c : Bool) (h : Heap) (a : Addr) (items : Array Value) : Prop := if c = true then h.IsList a items else h.IsTuple a items
theorem ItAt.obj {c : Bool} {h : Heap} {it a : Addr} {i : Nat} (x : ItAt c h it a i) : ∃ o, h.get? it = some o ∧ ∀ v, o.data ≠ .cell v := by
  cases c with
  | true => obtain ⟨o, e, _, d⟩ : h.IsListIter it a i := x; exact ⟨o, e, fun v q => by rw [d] at q; cases q⟩
  | false => obtain ⟨o, e, _, d⟩ : h.IsTupleIter it a i := x; exact ⟨o, e, fun v q => by rw [d] at q; cases q⟩
theorem ItAt.keep {c : Bool} {h h' : Heap} {it a : Addr} {i : Nat} (x : ItAt c h it a i) (k : ∀ o, h.get? it = some o → h'.get? it = some o) : ItAt c h' it a i := by
  cases c with
  | true => exact (show h.IsListIter it a i from x).at k
  | false => exact (show h.IsTupleIter it a i from x).at k
theorem sq_at {X : Cx} {pins : List (Addr × Obj)} {σ : L2.St} {H : Hp} {s : Shared} {c : Bool} {a : Addr} {xs : List V} (I : Inv X pins σ H s) (h : Sq X.K H c a xs) : ∃ its : List Value, Vals xs its ∧ SqAt c s.heap a its.toArray := by
  cases c with
  | true => obtain ⟨its, r, p, _⟩ := I.list (show SqL X.K H a xs from h); exact ⟨its, r, p.isList⟩
  | false => obtain ⟨its, r, p, _⟩ := I.tuple (show SqT X.K H a xs from h); exact ⟨its, r, p⟩
theorem sq_inj {X : Cx} {pins : List (Addr × Obj)} {σ : L2.St} {H : Hp} {s : Shared} {c : Bool} {a : Addr} {xs ys : List V} (I : Inv X pins σ H s) (h : Sq X.K H c a xs) (h' : Sq X.K H c a ys) : xs = ys := by
  cases c with
  | true => exact I.list_inj (show SqL X.K H a xs from h) h'
  | false => exact I.tuple_inj (show SqT X.K H a xs from h) h'
theorem sq_lt {c : Bool} {h : Heap} {a : Addr} {items : Array Value} (x : SqAt c h a items) : a < h.objs.size := by
  cases c with
  | true => obtain ⟨o, e, _⟩ : h.IsList a items := x; exact Heap.lt_size e
  | false => obtain ⟨o, e, _⟩ : h.IsTuple a items := x; exact Heap.lt_size e
def itObj (c : Bool) (a : Addr) : Obj := if c = true then { cls := .type "list_iterator", data := .fields #[.ref a, .int 0 0] } else { cls := .type "tuple_iterator", data := .fields #[.ref a, .int 0 0] }
theorem begins_sq (c : Bool) (a : Addr) (items : Array Value) : PySem.Begins (.ref a) (itObj c a) (fun h => SqAt c h a items) := by
  cases c with
  | true => exact begins_list a items
  | false => exact begins_tuple a items
theorem itAt0 {c : Bool} {h : Heap} {it a : Addr} (e : h.get? it = some (itObj c a)) : ItAt c h it a 0 := by
  cases c with
  | true => exact ⟨_, e, rfl, rfl⟩
  | false => exact ⟨_, e, rfl, rfl⟩
theorem draws_sq {prog : Program} {w : World} {A : Around} (hh : A.handled = none) (c : Bool) (it a : Addr) (hne : a ≠ it) (items : Array Value) :
    PySem.Draws prog w A it [it, a] items.size (fun i v => items[i]? = some v) (fun i h => ItAt c h it a i ∧ SqAt c h a items) := by
  cases c with
  | true => exact PySem.Draws.list hh it a hne items
  | false => exact PySem.Draws.tuple hh it a hne items

/-! ### enumerate(x) -/
def Itq (K : PySem.W.Frag) (c : Bool) (a : Addr) : It :=
  ⟨fun i H => ∃ (xs : List V) (x : V), Sq K H c a xs ∧ xs[i]? = some x, fun i H v H' => ∃ T x, v = .ref T ∧ H T = none ∧ H' = upd H T (.tup [.int (i : Nat), x]) ∧ ∀ xs, Sq K H c a xs → xs[i]? = some x, fun i H => ∃ xs : List V, Sq K H c a xs ∧ xs.length = i⟩
theorem turn_enumS {P : Program} {w : World} {K : PySem.W.Frag} {elts : List Expr} {kk : Nat} {tpos : Pos} (c : Bool) (a e it : Addr) :
    Turn P w K (.Tuple elts kk tpos) (Itq K c a) [e, it] e (fun i h => (∃ old, IsEnum h e it ((i : Nat) : Int) old) ∧ ItAt c h it a i ∧ e ≠ it ∧ a ≠ it ∧ a ≠ e) where
  mem := by simp
  obj := fun i h st b hb => by
    obtain ⟨⟨old, he⟩, hi, _⟩ := st
    have e' : b = e ∨ b = it := by simpa using hb
    rcases e' with z | z
    · rw [z]; exact ⟨_, he, fun v q => nomatch q⟩
    · rw [z]; exact hi.obj
  keep := fun i h h' st k => let ⟨⟨old, he⟩, hi, hne⟩ := st; ⟨⟨old, k e (by simp) _ he⟩, hi.keep fun o q => k it (by simp) o q, hne⟩
  item := by
    intro X hP hw hK hc i pins s σ H E I hf st hg
    subst hP hw hK
    obtain ⟨⟨old, he⟩, hit, hne, hai, hae⟩ := st
    obtain ⟨xs, x, hq, hx⟩ := hg
    obtain ⟨its, rv, p⟩ := sq_at I hq
    obtain ⟨u, hu, ru⟩ := rv.get hx
    have hel : e < s.heap.objs.size := Heap.lt_size he
    have hil : it < s.heap.objs.size := by obtain ⟨o, q, _⟩ := hit.obj; exact Heap.lt_size q
    have hlt : i < its.toArray.size := by
      have := (List.getElem?_eq_some_iff.mp hu).1
      simpa using this
    refine PySem.wpAny_pyNext_enum_itemD (draws_sq (prog := X.prog) (w := X.w) (A := X.A.in1) (I.ok.hd hc) c it a hai its.toArray) he ⟨hit, p⟩ hlt hne (by simp only [List.mem_cons, List.not_mem_nil, or_false, not_or]; exact ⟨hne, Ne.symm hae⟩) fun v h' tk hv ho hit' hT hsz hk => ?_
    have ev : v = u := by
      have h1 : its.toArray[i]? = some v := hv
      rw [List.getElem?_toArray, hu] at h1
      exact (Option.some.inj h1).symm
    subst ev
    refine ⟨_, rfl, PySem.wpAny_letOwnedTupleGo_enum (s := { s with heap := h', toks := tk + 1 }) ho fun h'' he' sb => ?_⟩
    have hT2 : h''.get? s.heap.objs.size = some { cls := .type "tuple", data := .seq #[.int i tk, v] } := (sb.2 _ (Nat.ne_of_gt hel)).trans hT
    have new : ObjOk X.prog X.w (upd H s.heap.objs.size (.tup [.int (i : Nat), x])) h'' s.heap.objs.size (.tup [.int (i : Nat), x]) :=
      ⟨by show 2 ≤ sizeLine; decide, [.int i tk, v], .cons ⟨_, rfl⟩ (.cons ru .nil), ⟨_, hT2, rfl, _, rfl⟩⟩
    have I1 : Inv X pins σ (upd H s.heap.objs.size (.tup [.int (i : Nat), x])) { s with heap := h'', toks := tk + 1 } :=
      I.turnedNew (ch := [e, it]) (fun b ob hb q => (sb.2 b (fun z => hb (by simp [z]))).trans (hk b ob (fun z => hb (by simp [z])) (fun z => hb (by simp [z])) q)) hf (Nat.le_refl _) new
    refine ⟨.ref s.heap.objs.size, _, I1, rfl, ⟨_, x, rfl, I.hok.fresh (Nat.le_refl _), rfl, fun ys hy => by rw [sq_inj I hy hq]; exact hx⟩, ⟨⟨v, ?_⟩, hit'.1.keep fun o q => (sb.2 it (Ne.symm hne)).trans q, hne, hai, hae⟩, fun b hb => ?_⟩
    · have e1 : ((i + 1 : Nat) : Int) = (i : Int) + 1 := by omega
      rw [e1]; exact he'
    · have hb' : b < s.heap.objs.size := by
        have e' : b = e ∨ b = it := by simpa using hb
        rcases e' with z | z
        · rw [z]; exact hel
        · rw [z]; exact hil
      rw [upd_ne (Nat.ne_of_lt hb')]
      exact (hf b hb).1
  done := by
    intro X hP hw hK hc i pins s σ H E I hf st hg
    subst hP hw hK
    obtain ⟨⟨old, he⟩, hit, hne, hai, hae⟩ := st
    obtain ⟨xs, hq, hx⟩ := hg
    obtain ⟨its, rv, p⟩ := sq_at I hq
    obtain ⟨f0, f1, f2, f3, f4, f5⟩ := hf it (by simp)
    have hl := rv.length
    have es : its.toArray.size = i := by rw [List.size_toArray]; omega
    subst es
    exact PySem.wpAny_pyNext_enum_endD (draws_sq (prog := X.prog) (w := X.w) (A := X.A.in1) (I.ok.hd hc) c it a hai its.toArray) he ⟨hit, p⟩ fun h' eb => ⟨rfl, I.turned (t' := s.toks) (fun b o hb q => eb b o hb q) f0 f1 f3 f4 f5⟩
  self := fun A i s Q E st h => let ⟨⟨_, he⟩, _⟩ := st; PySem.wpAny_pyIter_enum he h
section
open PySem (IsEnum)
open AutoSeq1 (wpAny_loadPart')
set_option maxHeartbeats 1000000 in
theorem meets_enum1 {v : Value} {o : Obj} {H : Heap → Prop} (B : PySem.Begins v o H) :
    Meets (Builtin.«enumerate.__new__» ⟨[.type "enumerate", v], []⟩) (fun _ R s => H s.heap ∧
      R (.ok (.ret (.ref (s.heap.push o).objs.size))) { s with heap := (s.heap.push o).push { cls := .type "enumerate", data := .fields #[.none, .bool false, .ref s.heap.objs.size, rawInt 0, .none, .none] } }) :=
  .of_wp fun prog w A R s h => by
    obtain ⟨hp, g, d, tk, os⟩ := s; obtain ⟨h1, h⟩ := h
    have hsub := sub_enumerate
    have q1 : ∀ {A' : Around} {E : Value → Shared → Prop} {Q : Value → Shared → Prop}, Q (.ref hp.objs.size) ⟨hp.push o, g, d, tk, os⟩ → wpAny (model prog w) A' (pyIter v) Q E ⟨hp, g, d, tk, os⟩ :=
      fun q => B.iter prog w _ _ ⟨hp, g, d, tk, os⟩ _ h1 q
    wp_walk using q1
    refine wpAny_stack_any fun st => wpAny_pure ?_
    split
    · rename_i c _ _ _ _ _
      cases (c == Value.type "enumerate")
      · wp_walk using q1
        exact ⟨_, rfl, h⟩
      · wp_walk using q1
        exact ⟨_, rfl, h⟩
    · wp_walk using q1
      exact ⟨_, rfl, h⟩
theorem enum_begins1 {prog : Program} {w : World} {A : Around} {E : Value → Shared → Prop} {s : Shared} {v : Value} {o : Obj} {H : Heap → Prop} {Q : Value → Shared → Prop} (B : PySem.Begins v o H) (h1 : H s.heap)
    (h : ∀ h', IsEnum h' (s.heap.objs.size + 1) s.heap.objs.size 0 .none → h'.get? s.heap.objs.size = some o → h'.objs.size = s.heap.objs.size + 2 →
      (∀ b o, s.heap.get? b = some o → h'.get? b = some o) → Q (.ref (s.heap.objs.size + 1)) { s with heap := h' }) :
    wpAny (model prog w) A (call (.type "enumerate") [v]) Q E s := by
  refine callType_new F.called_enumerate (by decide) (F.typeCall_enumerate_1 _) (F.newCall_enumerate_1 _) (fun obj => F.args_object_init_2 obj _) F.entry_enumerate_new
    (meets_enum1 B) ⟨h1, ?_⟩
  have hz : (s.heap.push o).objs.size = s.heap.objs.size + 1 := Heap.size_push ..
  show _ ∧ _
  rw [hz]
  have he : IsEnum ((s.heap.push o).push { cls := .type "enumerate", data := .fields #[.none, .bool false, .ref s.heap.objs.size, rawInt 0, .none, .none] }) (s.heap.objs.size + 1) s.heap.objs.size 0 .none := by
    have := Heap.get?_push_size (s.heap.push o) (o := { cls := .type "enumerate", data := .fields #[.none, .bool false, .ref s.heap.objs.size, rawInt 0, .none, .none] }) rfl
    rw [hz] at this; exact this
  refine ⟨⟨_, he, rfl⟩, h _ he (Heap.get?_push_of_some _ (Heap.get?_push_size _ B.free)) (by rw [Heap.size_push, hz]) fun b o x => Heap.get?_push_of_some _ (Heap.get?_push_of_some _ x)⟩
end
def iEnumS (K : PySem.W.Frag) (ta : TA) : TI := fun σ H R => ta σ H fun vs H1 => ∃ a xs c, vs = [.ref a] ∧ Sq K H1 c a xs ∧ R (Itq K c a) H1
theorem pi_enumS {X : Cx} {e : Expr} {ta : TA} {p pos tpos : Pos} {elts : List Expr} {kk : Nat} (hg : Gl X "enumerate") (hm : X.mg "enumerate" = none) (ha : PA X [e] ta) (hs : starEach [e] X.env = [(false, eval e X.env)] := by rfl) :
    PI X (.Tuple elts kk tpos) (.Call (.Name "enumerate" p) [e] [] pos) (iEnumS X.K ta) := by
  refine ⟨fun pins s σ H R I h => ?_⟩
  refine Call_ (ld_blt I hg hm PyProof.Rows.boot_enumerate (PyProof.Rows.callWith_type1 (thn (ha.run pos pins s σ H _ I h) fun us s1 ⟨vs, H1, I1, r1, q1⟩ => ?_) hs rfl))
  obtain ⟨a, xs, c, ex, hq, q⟩ := q1
  subst ex
  cases r1 with
  | cons r rr =>
    cases rr
    cases r
    obtain ⟨its, rv, p'⟩ := sq_at I1 hq
    have hlt := sq_lt p'
    refine enum_begins1 (begins_sq c a its.toArray) p' fun h' he hit hsz hk => PySem.wpAny_pyIter_enum he ?_
    have I2 : Inv X pins σ H1 { s1 with heap := h' } := I1.kept (t' := s1.toks) hk
    refine ⟨s1.heap.objs.size + 1, [s1.heap.objs.size + 1, s1.heap.objs.size], _, _, H1, rfl, I2, turn_enumS c a (s1.heap.objs.size + 1) s1.heap.objs.size, ⟨⟨.none, he⟩, itAt0 hit, Nat.succ_ne_self _, Nat.ne_of_lt hlt, Nat.ne_of_lt (Nat.lt_succ_of_lt hlt)⟩, fun b hb => ?_, q⟩
    have e' : b = s1.heap.objs.size + 1 ∨ b = s1.heap.objs.size := by simpa using hb
    have hle : s1.heap.objs.size ≤ b := by
      rcases e' with z | z
      · rw [z]; exact Nat.le_add_right _ _
      · rw [z]; exact Nat.le_refl _
    exact I1.fpOk hle (I1.hok.fresh hle)
/-! ### zip(x, y) -/
def Itw (K : PySem.W.Frag) (c d : Bool) (a b : Addr) : It :=
  ⟨fun i H => ∃ (xs ys : List V) (x y : V), Sq K H c a xs ∧ Sq K H d b ys ∧ xs[i]? = some x ∧ ys[i]? = some y,
    fun i H v H' => ∃ T x y, v = .ref T ∧ H T = none ∧ H' = upd H T (.tup [x, y]) ∧ (∀ xs, Sq K H c a xs → xs[i]? = some x) ∧ ∀ ys, Sq K H d b ys → ys[i]? = some y,
    fun i H => ∃ xs ys : List V, Sq K H c a xs ∧ Sq K H d b ys ∧ i ≤ xs.length ∧ i ≤ ys.length ∧ (i = xs.length ∨ i = ys.length)⟩
theorem turn_zipS {P : Program} {w : World} {K : PySem.W.Frag} {elts : List Expr} {kk : Nat} {tpos : Pos} {c d : Bool} {a b z TI TO i1 i2 : Addr} (D : PySem.ZipSep2 z TI TO i1 i2 [i1, a] [i2, b]) (e12 : i1 ≠ i2) (nz : i1 ≠ z) (nz2 : i2 ≠ z) (nT : i1 ≠ TO) (nT2 : i2 ≠ TO) (n1 : a ≠ i1) (n2 : b ≠ i2) :
    Turn P w K (.Tuple elts kk tpos) (Itw K c d a b) [z, TI, TO, i1, i2] z (fun i h => PySem.IsZip h z TI TO .none ∧ PySem.IsTupOf2 h TI (.ref i1) (.ref i2) ∧ (∃ x y, PySem.IsTupOf2 h TO x y) ∧ ItAt c h i1 a i ∧ ItAt d h i2 b i) where
  mem := by simp
  obj := fun i h st x hx => by
    obtain ⟨hz, hTI, ⟨u, y, hTO⟩, h1, h2⟩ := st
    have e' : x = z ∨ x = TI ∨ x = TO ∨ x = i1 ∨ x = i2 := by simpa using hx
    rcases e' with q | q | q | q | q
    · rw [q]; exact ⟨_, hz, fun v q => nomatch q⟩
    · rw [q]; exact ⟨_, hTI, fun v q => nomatch q⟩
    · rw [q]; exact ⟨_, hTO, fun v q => nomatch q⟩
    · rw [q]; exact h1.obj
    · rw [q]; exact h2.obj
  keep := fun i h h' st k => by
    obtain ⟨hz, hTI, ⟨x, y, hTO⟩, h1, h2⟩ := st
    exact ⟨k z (by simp) _ hz, k TI (by simp) _ hTI, ⟨x, y, k TO (by simp) _ hTO⟩, h1.keep fun o q => k i1 (by simp) o q, h2.keep fun o q => k i2 (by simp) o q⟩
  item := by
    intro X hP hw hK hc i pins s σ H E I hf st hg
    subst hP hw hK
    obtain ⟨hz, hTI, ⟨x0, y0, hTO⟩, h1, h2⟩ := st
    obtain ⟨xs, ys, x, y, hqx, hqy, hx, hy⟩ := hg
    obtain ⟨its, rv, p⟩ := sq_at I hqx
    obtain ⟨its2, rv2, p2⟩ := sq_at I hqy
    obtain ⟨u, hu, ru⟩ := rv.get hx
    obtain ⟨u2, hu2, ru2⟩ := rv2.get hy
    have hzl : z < s.heap.objs.size := Heap.lt_size hz
    have l1 : i < its.toArray.size := by have := (List.getElem?_eq_some_iff.mp hu).1; simpa using this
    have l2 : i < its2.toArray.size := by have := (List.getElem?_eq_some_iff.mp hu2).1; simpa using this
    refine PySem.wpAny_pyNext_zipD2_item D (draws_sq (prog := X.prog) (w := X.w) (A := X.A.in1) (I.ok.hd hc) c i1 a n1 its.toArray) (draws_sq (prog := X.prog) (w := X.w) (A := X.A.in1) (I.ok.hd hc) d i2 b n2 its2.toArray) hz hTI hTO ⟨h1, p⟩ ⟨h2, p2⟩ l1 l2 fun v1 v2 h' tk g1 g2 z' TO' h1' h2' hT hsz hk => ?_
    have ev : v1 = u := by
      have q : its.toArray[i]? = some v1 := g1
      rw [List.getElem?_toArray, hu] at q
      exact (Option.some.inj q).symm
    have ev2 : v2 = u2 := by
      have q : its2.toArray[i]? = some v2 := g2
      rw [List.getElem?_toArray, hu2] at q
      exact (Option.some.inj q).symm
    subst ev ev2
    refine ⟨_, rfl, PySem.wpAny_letOwnedTupleGo_zip (s := { s with heap := h', toks := tk }) z' fun h'' z'' sb => ?_⟩
    have hT2 : h''.get? s.heap.objs.size = some { cls := .type "tuple", data := .seq #[v1, v2] } := (sb.2 _ (Nat.ne_of_gt hzl)).trans hT
    have new : ObjOk X.prog X.w (upd H s.heap.objs.size (.tup [x, y])) h'' s.heap.objs.size (.tup [x, y]) :=
      ⟨by show 2 ≤ sizeLine; decide, [v1, v2], .cons ru (.cons ru2 .nil), ⟨_, hT2, rfl, _, rfl⟩⟩
    have I1 : Inv X pins σ (upd H s.heap.objs.size (.tup [x, y])) { s with heap := h'', toks := tk } :=
      I.turnedNew (ch := [z, TI, TO, i1, i2]) (fun c o hb q => (sb.2 c (fun q' => hb (by simp [q']))).trans (hk c o (fun q' => hb (by simp [q'])) (fun q' => hb (by simp [q'])) (fun q' => hb (by simp [q'])) (fun q' => hb (by simp [q'])) q)) hf (Nat.le_refl _) new
    refine ⟨.ref s.heap.objs.size, _, I1, rfl, ⟨_, x, y, rfl, I.hok.fresh (Nat.le_refl _), rfl, fun l hl => by rw [sq_inj I hl hqx]; exact hx, fun l hl => by rw [sq_inj I hl hqy]; exact hy⟩, ⟨z'', ?_, ⟨v1, v2, ?_⟩, ?_, ?_⟩, fun c hcm => ?_⟩
    · exact (sb.2 _ D.TIz).trans (hk _ _ D.TIz D.TITO D.TIi1 D.TIi2 hTI)
    · exact (sb.2 _ D.TOz).trans TO'
    · exact h1'.1.keep fun o q => (sb.2 _ nz).trans q
    · exact h2'.1.keep fun o q => (sb.2 _ nz2).trans q
    · have hlt : c < s.heap.objs.size := by
        have e' : c = z ∨ c = TI ∨ c = TO ∨ c = i1 ∨ c = i2 := by simpa using hcm
        rcases e' with q | q | q | q | q
        · rw [q]; exact hzl
        · rw [q]; exact Heap.lt_size hTI
        · rw [q]; exact Heap.lt_size hTO
        · rw [q]; obtain ⟨_, e1, _⟩ := h1.obj; exact Heap.lt_size e1
        · rw [q]; obtain ⟨_, e2, _⟩ := h2.obj; exact Heap.lt_size e2
      rw [upd_ne (Nat.ne_of_lt hlt)]
      exact (hf c hcm).1
  done := by
    intro X hP hw hK hc i pins s σ H E I hf st hg
    subst hP hw hK
    obtain ⟨hz, hTI, ⟨x0, y0, hTO⟩, h1, h2⟩ := st
    obtain ⟨xs, ys, hqx, hqy, b1, b2, hend⟩ := hg
    obtain ⟨its, rv, p⟩ := sq_at I hqx
    obtain ⟨its2, rv2, p2⟩ := sq_at I hqy
    have l1 := rv.length
    have l2 := rv2.length
    exact PySem.wpAny_pyNext_zipD2_end D (draws_sq (prog := X.prog) (w := X.w) (A := X.A.in1) (I.ok.hd hc) c i1 a n1 its.toArray) (draws_sq (prog := X.prog) (w := X.w) (A := X.A.in1) (I.ok.hd hc) d i2 b n2 its2.toArray) hz hTI hTO ⟨h1, p⟩ ⟨h2, p2⟩ (by simp; omega) (by simp; omega) (by simp; omega) fun h' tk hk => ⟨rfl, I.turnedL (ch := [z, TI, TO, i1, i2]) (fun c o hb q =>
      hk c o (fun q' => hb (by simp [q'])) (fun q' => hb (by simp [q'])) (fun q' => hb (by simp [q'])) (fun q' => hb (by simp [q'])) q) hf⟩
  self := fun A i s Q E st h => PySem.wpAny_pyIter_zip st.1 h
def iZipS (K : PySem.W.Frag) (ta : TA) : TI := fun σ H R => ta σ H fun vs H1 => ∃ a b xs ys c d, vs = [.ref a, .ref b] ∧ Sq K H1 c a xs ∧ Sq K H1 d b ys ∧ R (Itw K c d a b) H1
theorem off_ne {N i j : Nat} (h : i ≠ j) : N + i ≠ N + j := by omega
theorem off_ne0 {N i : Nat} (h : 0 ≠ i) : N ≠ N + i := by omega
theorem pi_zipS {X : Cx} {e e2 : Expr} {ta : TA} {p pos tpos : Pos} {elts : List Expr} {kk : Nat} (hg : Gl X "zip") (hm : X.mg "zip" = none) (ha : PA X [e, e2] ta)
    (hs : starEach [e, e2] X.env = (false, eval e X.env) :: starEach [e2] X.env := by rfl) (hpl : (backTo pos (starEach [e2] X.env)).any (·.1) = false := by rfl) :
    PI X (.Tuple elts kk tpos) (.Call (.Name "zip" p) [e, e2] [] pos) (iZipS X.K ta) := by
  refine ⟨fun pins s σ H R I h => ?_⟩
  refine Call_ (ld_blt I hg hm PyProof.Rows.boot_zip (PyProof.Rows.callWith_type1 (thn (ha.run pos pins s σ H _ I h) fun us s1 ⟨vs, H1, I1, r1, q1⟩ => ?_) hs hpl))
  obtain ⟨a, b, xs, ys, c, d, ex, hqx, hqy, q⟩ := q1
  subst ex
  cases r1 with
  | cons r rr =>
    cases rr with
    | cons r' rr =>
      cases rr
      cases r
      cases r'
      obtain ⟨its, rv, p1⟩ := sq_at I1 hqx
      obtain ⟨its2, rv2, p2⟩ := sq_at I1 hqy
      have la : a < s1.heap.objs.size := sq_lt p1
      have lb : b < s1.heap.objs.size := sq_lt p2
      refine PySem.zip_begins2 (begins_sq c a its.toArray) (begins_sq d b its2.toArray) p1 p2 fun h' hz hTI hTO h1 h2 hsz hk => PySem.wpAny_pyIter_zip hz ?_
      have I2 : Inv X pins σ H1 { s1 with heap := h' } := I1.kept (t' := s1.toks) hk
      have S : PySem.ZipSep2 (s1.heap.objs.size + 4) (s1.heap.objs.size + 2) (s1.heap.objs.size + 3) s1.heap.objs.size (s1.heap.objs.size + 1) [s1.heap.objs.size, a] [s1.heap.objs.size + 1, b] :=
        PySem.zip_sep2 (fun x hx => by rw [List.mem_singleton.mp hx]; exact la) (fun x hx => by rw [List.mem_singleton.mp hx]; exact lb)
      refine ⟨s1.heap.objs.size + 4, [s1.heap.objs.size + 4, s1.heap.objs.size + 2, s1.heap.objs.size + 3, s1.heap.objs.size, s1.heap.objs.size + 1], _, _, H1, rfl, I2,
        turn_zipS S (off_ne0 (by decide)) (off_ne0 (by decide)) (off_ne (by decide)) (off_ne0 (by decide)) (off_ne (by decide)) (Nat.ne_of_lt la) (Nat.ne_of_lt (Nat.lt_succ_of_lt lb)), ⟨hz, hTI, ⟨_, _, hTO⟩, itAt0 h1, itAt0 h2⟩, fun c hcm => ?_, q⟩
      have e' : c = s1.heap.objs.size + 4 ∨ c = s1.heap.objs.size + 2 ∨ c = s1.heap.objs.size + 3 ∨ c = s1.heap.objs.size ∨ c = s1.heap.objs.size + 1 := by simpa using hcm
      have hle : s1.heap.objs.size ≤ c := by
        rcases e' with z | z | z | z | z
        · rw [z]; exact Nat.le_add_right _ _
        · rw [z]; exact Nat.le_add_right _ _
        · rw [z]; exact Nat.le_add_right _ _
        · rw [z]; exact Nat.le_refl _
        · rw [z]; exact Nat.le_add_right _ _
      exact I1.fpOk hle (I1.hok.fresh hle)
end FL

/-! FL10: names read whatever they hold; what is walked, of either kind; op=; two clauses. -/
namespace FL
open PySem PySem.Spec L2
section
variable {X : Cx} {E : XK} {e b c : Expr} {es : List Expr} {pos p : Pos} {f fb fv : M T} {fs : M (List T)} {i : Nat} {x : Str} {g : M Bool}

/-! ### a name, whatever it holds -/
def rdA (i : Nat) : M T := fun ρ => match ρ[i]? with
  | some (.fz t) => .ok t ρ
  | some (.ow o) => .ok (frzO o) (ρ.set i (.fz (frzO o)))
  | _ => .bad
theorem fe_varA (hN : X.N[i]? = some x := by rfl) (hv : Vis X.env.scope x := by first | exact Or.inl rfl | exact Or.inr (Or.inl rfl) | exact Or.inr (Or.inr rfl)) (hd : (x == ("__debug__" : Str)) = false := by decide) (hcd : (x == ("__classdict__" : Str)) = false := by decide) : FE X E (.Name x pos) (rdA i) := by
  refine pe_imp (pe_var hN hv hd hcd) fun σ H Q h => ?_
  obtain ⟨k, F, ρ, R, h⟩ := h
  unfold rdA at h
  split at h
  · rename_i t e
    obtain ⟨v, e1, r⟩ := R.slot e
    exact ⟨v, e1, h v F H R (Same.refl _) r⟩
  · rename_i o e
    obtain ⟨a, F', es, s, r, R'⟩ := R.freeze e
    exact ⟨.ref a, es, h _ F' H R' s r⟩
  · exact h.elim
/-- what a slot holds: a tree, or an object -/
inductive Has where
  | t (x : T) | o (x : O) | no
def has (i : Nat) (ρ : Env) : Has := match ρ[i]? with
  | some (.fz t) => .t t
  | some (.ow o) => .o o
  | some (.pa o) => .o o
  | _ => .no
theorem has_t {i : Nat} {ρ : Env} {t : T} (h : has i ρ = .t t) : ρ[i]? = some (.fz t) := by
  unfold has at h
  split at h
  · rename_i t' e; cases h; exact e
  · cases h
  · cases h
  · cases h
theorem has_o {i : Nat} {ρ : Env} {o : O} (h : has i ρ = .o o) : rdOwn i ρ = some o := by
  unfold has at h
  split at h
  · cases h
  · rename_i o' e; cases h; unfold rdOwn; rw [e]; rfl
  · rename_i o' e; cases h; unfold rdOwn; rw [e]; rfl
  · cases h
def isHas (h : Has) : Bool := match h with
  | .no => false
  | _ => true
theorem has_slot {k : Bk} {F : Hp} {ρ : Env} {σ : L2.St} {H : Hp} (R : RSk X k F ρ σ H) (h : isHas (has i ρ) = true) : ∃ v, σ[i]? = some (some v) := by
  cases e : has i ρ with
  | t t => obtain ⟨v, q, _⟩ := R.slot (has_t e); exact ⟨v, q⟩
  | o o => obtain ⟨a, h, q, _⟩ := R.own (has_o e); exact ⟨_, q⟩
  | no => rw [e] at h; cases h
/-- x[e] -/
def ixA (i : Nat) (f : M T) : M T := fun ρ => if isHas (has i ρ) = true then (f ρ).bind fun y ρ => match has i ρ with
  | .t t => liftO (ixO t y) ρ
  | .o (.l ts) => match y with
    | .int j => liftO (atT ts j) ρ
    | _ => .bad
  | _ => .bad else .bad
theorem fe_ixA (hN : X.N[i]? = some x := by rfl) (hb : FE X E b fb) (hv : Vis X.env.scope x := by first | exact Or.inl rfl | exact Or.inr (Or.inl rfl) | exact Or.inr (Or.inr rfl)) (hs : PlainIx b := by intro _ _; rfl) (hd : (x == ("__debug__" : Str)) = false := by decide) (hcd : (x == ("__classdict__" : Str)) = false := by decide) :
    FE X E (.Subscript (.Name x p) b pos) (ixA i fb) := by
  refine pe_imp (pe_ix ix_seq (pe_var hN hv hd hcd) hb hs) fun σ H Q h => ?_
  obtain ⟨k, F, ρ, R, h⟩ := h
  unfold ixA at h
  split at h
  · rename_i hh
    obtain ⟨v, ev⟩ := has_slot R hh
    refine ⟨v, ev, k, F, ρ, R, (Den.bind h).imp fun y ρ1 h1 w F1 H1 R1 s1 r1 => ?_⟩
    split at h1
    · rename_i t e
      obtain ⟨t', e', q⟩ := Den.lift h1
      obtain ⟨v', ev', rv⟩ := R1.slot (has_t e)
      rw [ev] at ev'
      cases ev'
      exact ot_ix k F1 ρ1 σ H1 Q t y t' v w R1 rv r1 e' fun v' F' H' R' s' r' => q v' F' H' R' (s1.trans s') r'
    · rename_i ts e
      split at h1
      · rename_i j
        obtain ⟨t', e', q⟩ := Den.lift h1
        obtain ⟨a, h2, ea, e2, e3, e4, _⟩ := R1.own (has_o e)
        rw [ev] at ea
        cases ea
        obtain ⟨vs, rfl, rv⟩ := e4
        obtain ⟨w', g1, g2⟩ := atT_rep rv e'
        exact .inl ⟨a, vs, j, w', rfl, r1, SqL.of e3, g1, q _ F1 H1 R1 s1 g2⟩
      · exact h1.elim
    · exact h1.elim
  · exact h.elim
/-- len(x) -/
def lenA (i : Nat) : M T := fun ρ => match has i ρ with
  | .t t => liftO (lenO [t]) ρ
  | .o (.l ts) => .ok (.int ts.length) ρ
  | _ => .bad
theorem fe_lenA {p2 : Pos} (hg : Gl X "len") (hm : X.mg "len" = none) (hbt : bootBuiltins "len" = some (.builtin "len")) (hN : X.N[i]? = some x := by rfl) (hv : Vis X.env.scope x := by first | exact Or.inl rfl | exact Or.inr (Or.inl rfl) | exact Or.inr (Or.inr rfl)) (hd : (x == ("__debug__" : Str)) = false := by decide) (hcd : (x == ("__classdict__" : Str)) = false := by decide)
    (hst : starEach [Expr.Name x p] X.env = (false, eval (Expr.Name x p) X.env) :: starEach [] X.env := by rfl) (hpl : (backTo pos (starEach [] X.env)).any (·.1) = false := by rfl) :
    FE X E (.Call (.Name "len" p2) [.Name x p] [] pos) (lenA i) := by
  refine pe_imp (pe_callB call_len hg hm hbt (pa_cons (pe_var hN hv hd hcd) pa_nil hst) (by decide) (by decide) hst hpl) fun σ H Q h => ?_
  obtain ⟨k, F, ρ, R, h⟩ := h
  unfold lenA at h
  split at h
  · rename_i t e
    obtain ⟨t', e', q⟩ := Den.lift h
    obtain ⟨v, ev, rv⟩ := R.slot (has_t e)
    exact ⟨v, ev, ct_len k F ρ σ H Q [t] t' [v] R (.one rv) e' q⟩
  · rename_i ts e
    obtain ⟨a, h0, es, e2, e3, e4, _⟩ := R.own (has_o e)
    obtain ⟨vs, rfl, rv⟩ := e4
    exact ⟨.ref a, es, .ref a, vs.length, rfl, .inl ⟨vs, SqL.of e3, rfl⟩, h _ F H R (Same.refl _) (by rw [rv.length]; rfl)⟩
  · exact h.elim
/-! ### what is walked, a list or a tuple -/
theorem pi_seqS {tg l : Expr} {tl : TE} (hl : PE X l tl) : PI X tg l (fun σ H R => tl σ H fun x H1 => ∃ a, x = .ref a ∧ ((∃ xs, SqL X.K H1 a xs) ∧ R (Itl X.K a) H1 ∨ (∃ xs, SqT X.K H1 a xs) ∧ R (Itt X.K a) H1)) := by
  refine ⟨fun pins s σ H R I h => ?_⟩
  refine thn (hl.run pins s σ H _ I h) fun v s1 ⟨x, H1, I1, r1, q1⟩ => ?_
  obtain ⟨a, e, q⟩ := q1
  subst e
  cases r1
  rcases q with ⟨⟨xs, hq⟩, q⟩ | ⟨⟨xs, hq⟩, q⟩
  · obtain ⟨its, rv, p, hz⟩ := I1.list hq
    refine wpAny_pyIter_list p.isList ?_
    refine ⟨s1.heap.objs.size, [s1.heap.objs.size], _, _, H1, rfl, I1.kept (t' := s1.toks) fun b o e => Heap.get?_push_of_some _ e, turn_list a _, ⟨_, Heap.get?_push_size _ rfl, rfl, rfl⟩, fun b hb => ?_, q⟩
    have e : b = s1.heap.objs.size := by simpa using hb
    subst e
    exact I1.fpOk (Nat.le_refl _) (I1.hok.fresh (Nat.le_refl _))
  · obtain ⟨its, rv, p, hz⟩ := I1.tuple hq
    refine wpAny_pyIter_tuple (show s1.heap.IsTuple a its.toArray from p) ?_
    refine ⟨s1.heap.objs.size, [s1.heap.objs.size], _, _, H1, rfl, I1.kept (t' := s1.toks) fun b o e => Heap.get?_push_of_some _ e, turn_tuple a _, ⟨_, Heap.get?_push_size _ rfl, rfl, rfl⟩, fun b hb => ?_, q⟩
    have e : b = s1.heap.objs.size := by simpa using hb
    subst e
    exact I1.fpOk (Nat.le_refl _) (I1.hok.fresh (Nat.le_refl _))
theorem fi_seq {tg : Expr} (h : FE X E e f) : FI X E tg e (iSeq f) := by
  refine pi_imp (pi_seqS h) fun σ H Q h => ?_
  obtain ⟨k, F, ρ, R, h⟩ := h
  refine ⟨k, F, ρ, R, (Den.bind h).imp fun t ρ1 h1 v F1 H1 R1 s1 r1 => ?_⟩
  obtain ⟨ts, e, q⟩ := Den.lift h1
  obtain ⟨p, vs, rfl, hs, r⟩ := seqT_rep (Same.refl F1) r1 e
  refine ⟨p, rfl, ?_⟩
  rcases hs with hs | hs
  · refine .inl ⟨⟨vs, same_SqL R1.fh hs⟩, q _ F1 H1 R1 s1 ?_⟩
    have w := walk_list (K := X.K) (a := p) (xs := vs)
    rw [← r.length] at w
    exact w.mono (fun H' s => same_SqL s hs) fun i H v H' _ _ y => yat r y
  · refine .inr ⟨⟨vs, same_SqT R1.fh hs⟩, q _ F1 H1 R1 s1 ?_⟩
    have w := walk_tup (K := X.K) (a := p) (xs := vs)
    rw [← r.length] at w
    exact w.mono (fun H' s => same_SqT s hs) fun i H v H' _ _ y => yat r y
/-! ### enumerate, zip -/
theorem sq_of {F H : Hp} {t : T} {ts : List T} {v : V} (s : Same F H) (r : Rep X.K X.mg F t v) (e : seqT t = some ts) : ∃ p vs d, v = .ref p ∧ Sq X.K F d p vs ∧ (∀ G, Same F G → Sq X.K G d p vs) ∧ Reps X.K X.mg F ts vs := by
  obtain ⟨p, vs, rfl, hs, r⟩ := seqT_rep (Same.refl F) r e
  rcases hs with hs | hs
  · exact ⟨p, vs, true, rfl, hs, fun G g => same_SqL g hs, r⟩
  · exact ⟨p, vs, false, rfl, hs, fun G g => same_SqT g hs, r⟩
def enumT : Nat → List T → List T
  | _, [] => []
  | n, t :: ts => .tup [.int n, t] :: enumT (n + 1) ts
theorem enumT_len : ∀ (n : Nat) (ts : List T), (enumT n ts).length = ts.length
  | _, [] => rfl
  | n, t :: ts => by simp [enumT, enumT_len (n + 1) ts]
theorem enumT_get : ∀ (n : Nat) (ts : List T) (i : Nat) (t : T), ts[i]? = some t → (enumT n ts)[i]? = some (.tup [.int ((n + i : Nat) : Int), t])
  | _, [], _, _, h => by simp at h
  | n, t :: ts, 0, u, h => by
    simp at h; subst h; rfl
  | n, t :: ts, i + 1, u, h => by
    have := enumT_get (n + 1) ts i u (by simpa using h)
    show (enumT (n + 1) ts)[i]? = _
    rw [this]
    congr 4
    omega
def enum1 (ts : List T) : Option (List T) := match ts with
  | [t] => (seqT t).map (enumT 0)
  | _ => none
theorem fi_enum {a : Expr} {fa : M (List T)} {p tpos : Pos} {elts : List Expr} {kk : Nat} (hg : Gl X "enumerate") (hm : X.mg "enumerate" = none) (ha : FA X E [a] fa) (hs : starEach [a] X.env = [(false, eval a X.env)] := by rfl) :
    FI X E (.Tuple elts kk tpos) (.Call (.Name "enumerate" p) [a] [] pos) (calI enum1 fa) := by
  refine pi_imp (pi_enumS hg hm ha hs) fun σ H Q h => ?_
  obtain ⟨k, F, ρ, R, h⟩ := h
  refine ⟨k, F, ρ, R, (Den.bind h).imp fun ts ρ1 h1 vs F1 H1 R1 s1 r1 => ?_⟩
  obtain ⟨us, e, q⟩ := Den.lift h1
  unfold enum1 at e
  split at e
  · rename_i t
    rw [Option.map_eq_some_iff] at e
    obtain ⟨ts', e, rfl⟩ := e
    obtain ⟨v, rfl, r⟩ := r1.one_of
    obtain ⟨p, ws, d, rfl, hq, hG, rw'⟩ := sq_of R1.fh r e
    refine ⟨p, ws, d, rfl, hG _ R1.fh, q _ F1 H1 R1 s1 ?_⟩
    have ll := rw'.length
    refine ⟨fun i G hi g => ?_, fun G g => ?_, fun i G v G' hi g y => ?_⟩
    · rw [enumT_len] at hi
      exact ⟨ws, ws[i]'(by omega), hG G g, by simp [show i < ws.length by omega]⟩
    · exact ⟨ws, hG G g, by rw [enumT_len]; exact ll.symm⟩
    · rw [enumT_len] at hi
      obtain ⟨T', x, rfl, nT, rfl, hx⟩ := y
      have hx' := hx ws (hG G g)
      obtain ⟨w, g1, g2⟩ := rw'.get (List.getElem?_eq_getElem hi)
      rw [hx'] at g1
      cases g1
      have eg := enumT_get 0 ts' i _ (List.getElem?_eq_getElem hi)
      rw [Nat.zero_add] at eg
      exact ⟨_, eg, .inr ⟨T', _, _, rfl, rfl, nT, rfl, .cons rfl (.one g2)⟩⟩
  · cases e
def zipT : List T → List T → List T
  | a :: as, b :: bs => .tup [a, b] :: zipT as bs
  | _, _ => []
theorem zipT_len : ∀ as bs : List T, (zipT as bs).length = min as.length bs.length
  | [], _ => by simp [zipT]
  | _ :: _, [] => by simp [zipT]
  | a :: as, b :: bs => by simp [zipT, zipT_len as bs]
theorem zipT_get : ∀ (as bs : List T) (i : Nat) (a b : T), as[i]? = some a → bs[i]? = some b → (zipT as bs)[i]? = some (.tup [a, b])
  | [], _, _, _, _, h, _ => by simp at h
  | _ :: _, [], _, _, _, _, h => by simp at h
  | a :: as, b :: bs, 0, x, y, h, h2 => by
    simp at h h2; subst h h2; rfl
  | a :: as, b :: bs, i + 1, x, y, h, h2 => zipT_get as bs i x y (by simpa using h) (by simpa using h2)
def zip2 (ts : List T) : Option (List T) := match ts with
  | [t, u] => (seqT t).bind fun as => (seqT u).map fun bs => zipT as bs
  | _ => none
theorem fi_zip {a a2 : Expr} {fa : M (List T)} {p tpos : Pos} {elts : List Expr} {kk : Nat} (hg : Gl X "zip") (hm : X.mg "zip" = none) (ha : FA X E [a, a2] fa)
    (hs : starEach [a, a2] X.env = (false, eval a X.env) :: starEach [a2] X.env := by rfl) (hpl : (backTo pos (starEach [a2] X.env)).any (·.1) = false := by rfl) :
    FI X E (.Tuple elts kk tpos) (.Call (.Name "zip" p) [a, a2] [] pos) (calI zip2 fa) := by
  refine pi_imp (pi_zipS hg hm ha hs hpl) fun σ H Q h => ?_
  obtain ⟨k, F, ρ, R, h⟩ := h
  refine ⟨k, F, ρ, R, (Den.bind h).imp fun ts ρ1 h1 vs F1 H1 R1 s1 r1 => ?_⟩
  obtain ⟨us, e, q⟩ := Den.lift h1
  unfold zip2 at e
  split at e
  · rename_i t u
    rw [Option.bind_eq_some_iff] at e
    obtain ⟨as, e1, e⟩ := e
    rw [Option.map_eq_some_iff] at e
    obtain ⟨bs, e2, rfl⟩ := e
    obtain ⟨v, w, rfl, r, r'⟩ := r1.two_of
    obtain ⟨p1, ws, d, rfl, _, hG, rw1⟩ := sq_of R1.fh r e1
    obtain ⟨p2, xs, d', rfl, _, hG2, rw2⟩ := sq_of R1.fh r' e2
    refine ⟨p1, p2, ws, xs, d, d', rfl, hG _ R1.fh, hG2 _ R1.fh, q _ F1 H1 R1 s1 ?_⟩
    have l1 := rw1.length
    have l2 := rw2.length
    refine ⟨fun i G hi g => ?_, fun G g => ?_, fun i G v G' hi g y => ?_⟩
    · rw [zipT_len] at hi
      exact ⟨ws, xs, ws[i]'(by omega), xs[i]'(by omega), hG G g, hG2 G g, by simp [show i < ws.length by omega], by simp [show i < xs.length by omega]⟩
    · refine ⟨ws, xs, hG G g, hG2 G g, ?_⟩
      rw [zipT_len]
      omega
    · rw [zipT_len] at hi
      obtain ⟨T', x, y', rfl, nT, rfl, hx, hy⟩ := y
      have hi1 : i < as.length := by omega
      have hi2 : i < bs.length := by omega
      obtain ⟨w1, g1, g2⟩ := rw1.get (List.getElem?_eq_getElem hi1)
      obtain ⟨w2, g3, g4⟩ := rw2.get (List.getElem?_eq_getElem hi2)
      rw [hx ws (hG G g)] at g1
      rw [hy xs (hG2 G g)] at g3
      cases g1
      cases g3
      exact ⟨_, zipT_get as bs i _ _ (List.getElem?_eq_getElem hi1) (List.getElem?_eq_getElem hi2), .inr ⟨T', _, _, rfl, rfl, nT, rfl, .cons g2 (.one g4)⟩⟩
  · cases e
/-! ### name op= e -/
def sAug (i : Nat) (o : T → T → Option T) (f : M T) : MS := fun ρ => match has i ρ with
  | .t x => (f ρ).bind fun y ρ => match o x y with
    | some t => if i < ρ.length then .ok .nx (ρ.set i (.fz t)) else .bad
    | none => .bad
  | _ => .bad
def IpT (X : Cx) (r : TIp) (o : T → T → Option T) : Prop := ∀ (k : Bk) (F : Hp) (ρ : Env) (σ : L2.St) (H : Hp) (Q : VK) (x y t : T) (v u : V), RSk X k F ρ σ H → Rep X.K X.mg F x v → Rep X.K X.mg F y u → o x y = some t → Go X k F ρ σ t Q → r v u H Q
theorem it_add : IpT X (ipI fun i j => i + j) (intO fun i j => .int (i + j)) := fun k F ρ σ H Q x y t v u R rx ry e q => by
  obtain ⟨i, j, rfl, rfl, rfl⟩ := intO_some e
  exact ⟨i, j, rx, ry, q _ F H R (Same.refl _) rfl⟩
theorem it_sub : IpT X (ipI fun i j => i - j) (intO fun i j => .int (i - j)) := fun k F ρ σ H Q x y t v u R rx ry e q => by
  obtain ⟨i, j, rfl, rfl, rfl⟩ := intO_some e
  exact ⟨i, j, rx, ry, q _ F H R (Same.refl _) rfl⟩
theorem fs_aug {op : Operator} {r : TIp} {o : T → T → Option T} {pos' : Pos} (hN : X.N.Nodup) (hi : X.N[i]? = some x) (hx : Loc X.env.scope x) (he : FE X E e f) (ho : PIp X op r) (hr : IpT X r o) (hf : X.fn x = true ∨ X.env.scope.names.lookup x = some .local := by first | exact .inl rfl | exact .inr rfl | assumption) :
    FS X E (.AugAssign (.Name x pos') op e pos) (sAug i o f) := by
  refine ps_imp (ps_aug hN hi hx he ho hf) fun D σ H h => ?_
  obtain ⟨k, F, ρ, R, h⟩ := h
  unfold sAug at h
  split at h
  · rename_i t et
    obtain ⟨v, ev, rv⟩ := R.slot (has_t et)
    refine ⟨v, ev, k, F, ρ, R, (Den.bind h).imp fun y ρ1 h1 u F1 H1 R1 s1 r1 => ?_⟩
    split at h1
    · rename_i t' e'
      split at h1
      · rename_i hc
        exact hr k F1 ρ1 σ H1 _ t y t' v u R1 (rv.mono s1) r1 e' fun v' F' H' R' s' r' => h1 _ F' H' (R'.setF i r') (s1.trans s')
      · exact h1.elim
    · exact h1.elim
  · exact h.elim
/-! ### [..] given to a name of one line, as a tree -/
theorem end_fz {k : Bk} {F : Hp} {ρ : Env} {σ : L2.St} {H : Hp} {o : O} {v : V} (R : RSk X k F (ρ ++ [SV.ow o]) (σ ++ [some v]) H) (l : ρ.length = σ.length) : ∃ F', Same F F' ∧ RSk X k F' (ρ ++ [SV.fz (frzO o)]) (σ ++ [some v]) H := by
  obtain ⟨a, F', ea, s, r, R'⟩ := R.freeze end_slot
  rw [end_set] at R'
  exact ⟨F', s, R'⟩
theorem fs_setLcF {elt tg iter : Expr} {ifs : List Expr} {scope : Scope} {own : List (Str × Nat)} {src : M (List T)} {gt : MG} {is : List Nat} {test : M Bool} {y : Str} {py spos : Pos} (hc : X.calm = true) (hN : X.N.Nodup) (hy : X.N[i]? = some y) (hyl : X.env.scope.names.lookup y = some .local)
    (hsw : swapsWith (.ListComp elt [⟨tg, iter, ifs, 0⟩] scope pos) (some (.Name y py)) spos.line X.env = pure true) (hi : FI X E tg iter src) (ok : BlkOk X.N X.env.scope scope own)
    (hg : ∀ (s : Shared) (H : Hp) (C : Addr) (cl : List (Str × Addr)) (fp : List Addr), PG (X.blk s H scope (compEnvC scope cl C X.env) fp) tg (tG X is gt)) (his : ∀ i ∈ is, i ∈ own.map (·.2))
    (ht : ∀ (s : Shared) (H : Hp) (C : Addr) (cl : List (Str × Addr)) (fp : List Addr), PTs (X.blk s H scope (compEnvC scope cl C X.env) fp) ifs (tT X E0 test))
    (he : ∀ (s : Shared) (H : Hp) (C : Addr) (cl : List (Str × Addr)) (fp : List Addr), PE (X.blk s H scope (compEnvC scope cl C X.env) fp) elt (tE X E0 f)) (hs : ∀ x, foldedSetIterable iter X.env x = pure x := by intro _; rfl) :
    FS X E (.Assign [.Name y py] (.ListComp elt [⟨tg, iter, ifs, 0⟩] scope pos) spos) (sSet i (asT (frzM (lcM (own.map (·.2)) src gt test f)))) := by
  refine ps_imp (ps_setLc hc hN hy hyl hsw hi ok hg ht he hs) fun D σ H h => ?_
  obtain ⟨k, F, ρ, R, h⟩ := h
  refine lc_of (E := E) his ⟨k, F, ρ, R, (Den.bind (Den.bind (Den.bind h))).imp fun o ρ1 h1 v F1 H1 R1 s1 l1 => ?_⟩
  have h1' : Den (put i (SV.fz (frzO o)) ρ1) (Post X k F D) (XOk X.K X.mg k.B E) := h1
  unfold put at h1'
  split at h1'
  · rename_i hlt
    obtain ⟨F2, s2, R2⟩ := end_fz R1 l1
    have R3 := RS.pop (ys := []) (ws := []) R2 l1 i hlt
    rw [List.append_nil, List.append_nil] at R3
    exact h1' _ F2 H1 R3 (s1.trans s2)
  · exact h1'.elim
end
end FL

/-! FL11: the built-ins' names. -/
namespace FL
open PySem
theorem bt_len : bootBuiltins "len" = some (.builtin "len") := by decide +kernel
theorem bt_abs : bootBuiltins "abs" = some (.builtin "abs") := by decide +kernel
theorem bt_max : bootBuiltins "max" = some (.builtin "max") := by decide +kernel
theorem bt_min : bootBuiltins "min" = some (.builtin "min") := by decide +kernel
theorem bt_sum : bootBuiltins "sum" = some (.builtin "sum") := by decide +kernel
theorem bt_any : bootBuiltins "any" = some (.builtin "any") := by decide +kernel
theorem bt_all : bootBuiltins "all" = some (.builtin "all") := by decide +kernel
theorem bt_sorted : bootBuiltins "sorted" = some (.builtin "sorted") := by decide +kernel
theorem bt_isinstance : bootBuiltins "isinstance" = some (.builtin "isinstance") := by decide +kernel
theorem bt_int : bootBuiltins "int" = some (.type "int") := by decide +kernel
theorem bt_bool : bootBuiltins "bool" = some (.type "bool") := by decide +kernel
theorem bt_str : bootBuiltins "str" = some (.type "str") := by decide +kernel
theorem bt_tuple : bootBuiltins "tuple" = some (.type "tuple") := by decide +kernel
theorem bt_list : bootBuiltins "list" = some (.type "list") := by decide +kernel
theorem bt_dict : bootBuiltins "dict" = some (.type "dict") := by decide +kernel
theorem bt_set : bootBuiltins "set" = some (.type "set") := by decide +kernel
end FL

/-! FL12: how readings are reckoned (for simp). -/
namespace FL
open PySem
section
variable {α β : Type} {a : α} {ρ ρ' : Env} {k : α → Env → Res β} {e : Ex} {f fa fb fc g : M T} {ga gb : M Bool} {fs : M (List T)} {i j l : Nat} {s s1 s2 : MS} {o : T → T → Option T}
@[simp] theorem bind_ok : (Res.ok a ρ).bind k = k a ρ := Eq.trans rfl rfl
@[simp] theorem bind_bad : (Res.bad : Res α).bind k = .bad := Eq.trans rfl rfl
@[simp] theorem bind_exc : (Res.exc e : Res α).bind k = .exc e := Eq.trans rfl rfl
@[simp] theorem lift_some : liftO (some a) ρ = .ok a ρ := Eq.trans rfl rfl
@[simp] theorem lift_none : liftO (none : Option α) ρ = .bad := Eq.trans rfl rfl
@[simp] theorem noX_ok : noX (Res.ok a ρ) = .ok a ρ := Eq.trans rfl rfl
@[simp] theorem noX_bad : noX (Res.bad : Res α) = .bad := Eq.trans rfl rfl
theorem bind_ite {c : Prop} [Decidable c] {x y : Res α} : (if c then x else y).bind k = if c then x.bind k else y.bind k := by split <;> rfl
@[simp] theorem rdC_e {t : T} : rdC t ρ = .ok t ρ := Eq.trans rfl rfl
@[simp] theorem op2_e : op2 o fa fb ρ = (fa ρ).bind fun x ρ => (fb ρ).bind fun y ρ => liftO (o x y) ρ := Eq.trans rfl rfl
@[simp] theorem op1_e {o : T → Option T} : op1 o fa ρ = (fa ρ).bind fun x ρ => liftO (o x) ρ := Eq.trans rfl rfl
@[simp] theorem toB_bl {b : Bool} : toB (.bl b) = some b := Eq.trans rfl rfl
@[simp] theorem tst_e : tst f ρ = (f ρ).bind fun t ρ => liftO (toB t) ρ := Eq.trans rfl rfl
@[simp] theorem truth_e : truth f ρ = (f ρ).bind fun t ρ => liftO (tru t) ρ := Eq.trans rfl rfl
@[simp] theorem tru_bl {b : Bool} : tru (.bl b) = some b := Eq.trans rfl rfl
@[simp] theorem tru_int {n : Int} : tru (.int n) = some (n != 0) := Eq.trans rfl rfl
@[simp] theorem tru_non : tru .non = some false := Eq.trans rfl rfl
@[simp] theorem tru_lst {ts : List T} : tru (.lst ts) = some (!ts.isEmpty) := Eq.trans rfl rfl
@[simp] theorem tru_tup {ts : List T} : tru (.tup ts) = some (!ts.isEmpty) := Eq.trans rfl rfl
@[simp] theorem andV_e : andV fa fb ρ = (fa ρ).bind fun t ρ => match toB t with
  | some true => fb ρ
  | some false => .ok (.bl false) ρ
  | none => .bad := Eq.trans rfl rfl
@[simp] theorem orV_e : orV fa fb ρ = (fa ρ).bind fun t ρ => match toB t with
  | some false => fb ρ
  | some true => .ok (.bl true) ρ
  | none => .bad := Eq.trans rfl rfl
@[simp] theorem notV_e : notV fa ρ = (fa ρ).bind fun t ρ => match toB t with
  | some b => .ok (.bl (!b)) ρ
  | none => .bad := Eq.trans rfl rfl
@[simp] theorem andT_e : andT ga gb ρ = (ga ρ).bind fun b ρ => if b = true then gb ρ else .ok false ρ := Eq.trans rfl rfl
@[simp] theorem orT_e : orT ga gb ρ = (ga ρ).bind fun b ρ => if b = true then .ok true ρ else gb ρ := Eq.trans rfl rfl
@[simp] theorem notT_e : notT ga ρ = (ga ρ).bind fun b ρ => .ok (!b) ρ := Eq.trans rfl rfl
@[simp] theorem ifE_e : ifE ga fa fb ρ = (ga ρ).bind fun b ρ => if b = true then fa ρ else fb ρ := Eq.trans rfl rfl
@[simp] theorem chn_e {o o' : T → T → Option T} : chn o o' fa fb fc ρ = (fa ρ).bind fun x ρ => (fb ρ).bind fun y ρ => match (o x y).bind toB with
  | some true => (fc ρ).bind fun z ρ => liftO (o' y z) ρ
  | some false => .ok (.bl false) ρ
  | none => .bad := Eq.trans rfl rfl
@[simp] theorem rdNil_e : rdNil ρ = .ok [] ρ := Eq.trans rfl rfl
@[simp] theorem rdCons_e : rdCons f fs ρ = (f ρ).bind fun x ρ => (fs ρ).bind fun xs ρ => .ok (x :: xs) ρ := Eq.trans rfl rfl
@[simp] theorem calF_e {o : List T → Option T} : calF o fs ρ = (fs ρ).bind fun ts ρ => liftO (o ts) ρ := Eq.trans rfl rfl
@[simp] theorem calO_e {o : List T → Option O} : calO o fs ρ = (fs ρ).bind fun ts ρ => liftO (o ts) ρ := Eq.trans rfl rfl
@[simp] theorem calI_e {o : List T → Option (List T)} : calI o fs ρ = (fs ρ).bind fun ts ρ => liftO (o ts) ρ := Eq.trans rfl rfl
@[simp] theorem frzM_e {fo : M O} : frzM fo ρ = (fo ρ).bind fun o ρ => .ok (frzO o) ρ := Eq.trans rfl rfl
@[simp] theorem frzO_l {ts : List T} : frzO (.l ts) = .lst ts := Eq.trans rfl rfl
@[simp] theorem frzO_dk {ks : List L2.Key} {ts : List T} : frzO (.dk ks ts) = .dk ks ts := Eq.trans rfl rfl
@[simp] theorem asT_e : asT f ρ = (f ρ).bind fun t ρ => .ok (.tr t) ρ := Eq.trans rfl rfl
@[simp] theorem asO_e {fo : M O} : asO fo ρ = (fo ρ).bind fun o ρ => .ok (.ob o) ρ := Eq.trans rfl rfl
@[simp] theorem sv_tr {t : T} : (VO.tr t).sv = .fz t := Eq.trans rfl rfl
@[simp] theorem sv_ob {o : O} : (VO.ob o).sv = .ow o := Eq.trans rfl rfl
@[simp] theorem xsNil_e : xsNil ρ = .ok [] ρ := Eq.trans rfl rfl
@[simp] theorem xsCons_e {fx : M VO} {fxs : M (List VO)} : xsCons fx fxs ρ = (fx ρ).bind fun x ρ => (fxs ρ).bind fun xs ρ => .ok (x :: xs) ρ := Eq.trans rfl rfl
@[simp] theorem put_e {x : SV} : put i x ρ = if i < ρ.length then .ok .nx (ρ.set i x) else .bad := Eq.trans rfl rfl
@[simp] theorem sSet_e {fx : M VO} : sSet i fx ρ = (fx ρ).bind fun x ρ => put i x.sv ρ := Eq.trans rfl rfl
@[simp] theorem put2_e {x y : VO} : put2 i j [x, y] ρ = if i < ρ.length ∧ j < ρ.length then .ok .nx ((ρ.set i x.sv).set j y.sv) else .bad := Eq.trans rfl rfl
@[simp] theorem sPar_e {fxs : M (List VO)} : sPar i j fxs ρ = (fxs ρ).bind (put2 i j) := Eq.trans rfl rfl
@[simp] theorem put3_e {x y z : VO} : put3 i j l [x, y, z] ρ = if i < ρ.length ∧ j < ρ.length ∧ l < ρ.length then .ok .nx (((ρ.set i x.sv).set j y.sv).set l z.sv) else .bad := Eq.trans rfl rfl
@[simp] theorem sPar3_e {fxs : M (List VO)} : sPar3 i j l fxs ρ = (fxs ρ).bind (put3 i j l) := Eq.trans rfl rfl
@[simp] theorem skip_e : skip ρ = .ok .nx ρ := Eq.trans rfl rfl
@[simp] theorem bad_e : bad ρ = .bad := Eq.trans rfl rfl
@[simp] theorem sq_e {s s' : MS} : sq s s' ρ = (s ρ).bind fun fl ρ => match fl with
  | .nx => s' ρ
  | .rt t => .ok (.rt t) ρ
  | .bk => .ok .bk ρ
  | .ct => .ok .ct ρ := Eq.trans rfl rfl
@[simp] theorem sRet_e : sRet f ρ = (f ρ).bind fun t ρ => .ok (.rt t) ρ := Eq.trans rfl rfl
@[simp] theorem sRetN_e : sRetN ρ = .ok (.rt .non) ρ := Eq.trans rfl rfl
@[simp] theorem sIf_e : sIf ga s1 s2 ρ = (ga ρ).bind fun b ρ => if b = true then s1 ρ else s2 ρ := Eq.trans rfl rfl
@[simp] theorem sExpr_e : sExpr f ρ = (f ρ).bind fun _ ρ => .ok .nx ρ := Eq.trans rfl rfl
@[simp] theorem sBrk_e : sBrk ρ = .ok .bk ρ := Eq.trans rfl rfl
@[simp] theorem sCnt_e : sCnt ρ = .ok .ct ρ := Eq.trans rfl rfl
@[simp] theorem sFor_e {src : M (List T)} {gt : MG} : sFor src gt s ρ = (src ρ).bind fun ts ρ => forL gt s ts ρ := Eq.trans rfl rfl
@[simp] theorem sAsg_e {gt : MG} : sAsg gt f ρ = (f ρ).bind fun t ρ => match gt t ρ with
  | some ρ => .ok .nx ρ
  | none => .bad := Eq.trans rfl rfl
@[simp] theorem gN_e {t : T} : gN i t ρ = if i < ρ.length then some (ρ.set i (.fz t)) else none := Eq.trans rfl rfl
@[simp] theorem gT_e {gs : MGs} {ts : List T} : gT gs (.tup ts) ρ = gs ts ρ := Eq.trans rfl rfl
@[simp] theorem gsNil_e : gsNil [] ρ = some ρ := Eq.trans rfl rfl
@[simp] theorem gsCons_e {gt : MG} {gs : MGs} {t : T} {ts : List T} : gsCons gt gs (t :: ts) ρ = (gt t ρ).bind fun ρ => gs ts ρ := Eq.trans rfl rfl
@[simp] theorem iSeq_e : iSeq f ρ = (f ρ).bind fun t ρ => liftO (seqT t) ρ := Eq.trans rfl rfl
@[simp] theorem seqT_l {ts : List T} : seqT (.lst ts) = some ts := Eq.trans rfl rfl
@[simp] theorem seqT_s {ts : List T} : seqT (.sl ts) = some ts := Eq.trans rfl rfl
@[simp] theorem seqT_t {ts : List T} : seqT (.tup ts) = some ts := Eq.trans rfl rfl
@[simp] theorem yes_e : yes ρ = .ok true ρ := Eq.trans rfl rfl
@[simp] theorem calU_e {G : Sg} : calU G fs ρ = (fs ρ).bind fun ts ρ => match G ts with
  | .bad => .bad
  | .exc e => .exc e
  | .ok t _ => .ok t ρ := Eq.trans rfl rfl
@[simp] theorem rdA_0 {x : SV} {r : Env} {t : T} : rdA 0 (.fz t :: r) = .ok t (.fz t :: r) := Eq.trans rfl rfl
theorem rdA_e : rdA i ρ = match ρ[i]? with
  | some (.fz t) => .ok t ρ
  | some (.ow o) => .ok (frzO o) (ρ.set i (.fz (frzO o)))
  | _ => .bad := Eq.trans rfl rfl
theorem has_e : has i ρ = match ρ[i]? with
  | some (.fz t) => .t t
  | some (.ow o) => .o o
  | some (.pa o) => .o o
  | _ => .no := Eq.trans rfl rfl
@[simp] theorem isHas_t {t : T} : isHas (.t t) = true := Eq.trans rfl rfl
@[simp] theorem isHas_o {o : O} : isHas (.o o) = true := Eq.trans rfl rfl
@[simp] theorem ixA_e : ixA i f ρ = if isHas (has i ρ) = true then (f ρ).bind fun y ρ => match has i ρ with
  | .t t => liftO (ixO t y) ρ
  | .o (.l ts) => match y with
    | .int j => liftO (atT ts j) ρ
    | _ => .bad
  | _ => .bad else .bad := Eq.trans rfl rfl
@[simp] theorem lenA_e : lenA i ρ = match has i ρ with
  | .t t => liftO (lenO [t]) ρ
  | .o (.l ts) => .ok (.int ts.length) ρ
  | _ => .bad := Eq.trans rfl rfl
theorem rdOwn_e : rdOwn i ρ = ρ[i]?.bind SV.obj := Eq.trans rfl rfl
@[simp] theorem obj_ow {o : O} : SV.obj (.ow o) = some o := Eq.trans rfl rfl
@[simp] theorem obj_pa {o : O} : SV.obj (.pa o) = some o := Eq.trans rfl rfl
@[simp] theorem obj_fz {t : T} : SV.obj (.fz t) = none := Eq.trans rfl rfl
theorem setOwn_e {o : O} : setOwn i o ρ = match ρ[i]? with
  | some x => ρ.set i (x.to o)
  | none => ρ := Eq.trans rfl rfl
@[simp] theorem to_ow {o o' : O} : (SV.ow o).to o' = .ow o' := Eq.trans rfl rfl
@[simp] theorem to_pa {o o' : O} : (SV.pa o).to o' = .pa o' := Eq.trans rfl rfl
@[simp] theorem withOwn_e {f : M α} : withOwn i f ρ = match rdOwn i ρ with
  | some _ => f ρ
  | none => .bad := Eq.trans rfl rfl
@[simp] theorem withL_e {f : M α} : withL i f ρ = if isL (rdOwn i ρ) = true then f ρ else .bad := Eq.trans rfl rfl
@[simp] theorem isL_l {ts : List T} : isL (some (.l ts)) = true := Eq.trans rfl rfl
@[simp] theorem sSetI_e {fi fv : M T} : sSetI i fi fv ρ = (fv ρ).bind fun t ρ => withOwn i (fun ρ => (fi ρ).bind fun y ρ => match rdOwn i ρ, y with
  | some (.l ts), .int j => match idx ts.length j with
    | some m => .ok .nx (setOwn i (.l (ts.set m t)) ρ)
    | none => .bad
  | _, _ => .bad) ρ := Eq.trans rfl rfl
@[simp] theorem apnM_e : apnM i f ρ = withL i (fun ρ => (f ρ).bind fun y ρ => match rdOwn i ρ with
  | some (.l ts) => if ts.length < 16777216 then .ok .non (setOwn i (.l (ts ++ [y])) ρ) else .bad
  | _ => .bad) ρ := Eq.trans rfl rfl
@[simp] theorem insM_e : insM i fs ρ = withL i (fun ρ => (fs ρ).bind fun us ρ => match rdOwn i ρ, us with
  | some (.l ts), [.int j, y] => if ts.length < 16777216 && decide (0 ≤ j) && decide (j < 9223372036854775808) then .ok .non (setOwn i (.l (ts.take j.toNat ++ [y] ++ ts.drop j.toNat)) ρ) else .bad
  | _, _ => .bad) ρ := Eq.trans rfl rfl
@[simp] theorem calM_e {G : SgM} : calM G i fs ρ = withOwn i (fun ρ => (fs ρ).bind fun ts ρ => match rdOwn i ρ with
  | some o => match G o ts with
    | .ok (t, o') _ => .ok t (setOwn i o' ρ)
    | _ => .bad
  | none => .bad) ρ := Eq.trans rfl rfl
@[simp] theorem lcM_e {vs : List Nat} {src : M (List T)} {gt : MG} {test : M Bool} {elt : M T} : lcM vs src gt test elt ρ = (src ρ).bind fun ts ρ => if freeS ρ vs = true then (lcL vs gt test elt ts [] ρ).bind fun l ρ => .ok (.l l) ρ else .bad := Eq.trans rfl rfl
@[simp] theorem sAug_e : sAug i o f ρ = match has i ρ with
  | .t x => (f ρ).bind fun y ρ => match o x y with
    | some t => if i < ρ.length then .ok .nx (ρ.set i (.fz t)) else .bad
    | none => .bad
  | _ => .bad := Eq.trans rfl rfl
@[simp] theorem poN_e : poN ρ = .ok none ρ := Eq.trans rfl rfl
@[simp] theorem slM_e {fl fh : MO} : slM fa fl fh ρ = (fa ρ).bind fun t ρ => (fl ρ).bind fun lo ρ => (fh ρ).bind fun hi ρ => liftO (slO t lo hi) ρ := Eq.trans rfl rfl
@[simp] theorem poS_e : poS f ρ = (f ρ).bind fun t ρ => match t with
  | .int i => .ok (some i) ρ
  | _ => .bad := Eq.trans rfl rfl
@[simp] theorem outF_rt {t : T} : outF (.ok (.rt t) ρ) = .ok t [] := Eq.trans rfl rfl
@[simp] theorem outF_nx : outF (.ok .nx ρ) = .ok .non [] := Eq.trans rfl rfl
@[simp] theorem outF_bad : outF .bad = .bad := Eq.trans rfl rfl
@[simp] theorem lent_e {o : O} {r : Env} : lent (.pa o :: r) = some o := Eq.trans rfl rfl
@[simp] theorem outM_rt {t : T} : outM (.ok (.rt t) ρ) = outV t ρ := Eq.trans rfl rfl
@[simp] theorem outM_nx : outM (.ok .nx ρ) = outV .non ρ := Eq.trans rfl rfl
@[simp] theorem outM_bad : outM .bad = .bad := Eq.trans rfl rfl
@[simp] theorem outV_e {t : T} {o : O} {r : Env} : outV t (.pa o :: r) = .ok (t, o) [] := Eq.trans rfl rfl
end
/-! ### operators on given kinds -/
section
variable {i j : Int} {a b : Bool} {x y : T} {xs ys : List T} {z w : Str}
@[simp] theorem intO_e {f : Int → Int → T} : intO f (.int i) (.int j) = some (f i j) := Eq.trans rfl rfl
@[simp] theorem intC_e {c : Int → Int → Bool} {f : Int → Int → Int} : intC c f (.int i) (.int j) = if c i j then some (.int (f i j)) else none := Eq.trans rfl rfl
@[simp] theorem mulO_e : mulO (.int i) (.int j) = if mulC i j then some (.int (i * j)) else none := Eq.trans rfl rfl
@[simp] theorem addO_int : addO (.int i) (.int j) = some (.int (i + j)) := Eq.trans rfl rfl
@[simp] theorem addO_lst : addO (.lst xs) (.lst ys) = if xs.length + ys.length ≤ 16777216 then some (.lst (xs ++ ys)) else none := Eq.trans rfl rfl
@[simp] theorem addO_tup : addO (.tup xs) (.tup ys) = if xs.length + ys.length ≤ 16777216 then some (.tup (xs ++ ys)) else none := Eq.trans rfl rfl
@[simp] theorem addO_str : addO (.str z) (.str w) = if z.length + w.length ≤ 16777216 then some (.str (z ++ w)) else none := Eq.trans rfl rfl
@[simp] theorem negO_e : negO (.int i) = some (.int (-i)) := Eq.trans rfl rfl
theorem divC_pos (h : 0 < j) (h2 : j < 18446744073709551616) : divC i j = true := by
  unfold divC
  rw [decide_eq_true h, Bool.true_and, decide_eq_true_eq]
  have : j.natAbs < 2 ^ 64 := by omega
  exact Nat.lt_of_lt_of_le (PySem.Flt.log2_lt_of (by decide) this) (by decide)
theorem divO_e (h : 0 < j) (h2 : j < 18446744073709551616) : divO (.int i) (.int j) = some (.int (i / j)) := by
  show (if divC i j = true then _ else _) = _
  rw [divC_pos h h2]; rfl
theorem modO_e (h : 0 < j) : modO (.int i) (.int j) = some (.int (i % j)) := by
  show (if decide (j ≠ 0) = true then some (T.int (i.fmod j)) else none) = _
  rw [if_pos (decide_eq_true (by omega)), Int.fmod_eq_emod_of_nonneg _ (by omega)]
theorem mulC_of {m n : Nat} (hi : i.natAbs < 2 ^ m) (hj : j.natAbs < 2 ^ n) (hm : 0 < m) (hn : 0 < n) (h : m + n ≤ 1000000) : mulC i j = true := by
  unfold mulC
  rw [decide_eq_true_eq]
  have h1 := PySem.Flt.log2_lt_of hm hi
  have h2 := PySem.Flt.log2_lt_of hn hj
  omega
/-- factors of 64 bits -/
def in64 (i : Int) : Prop := -18446744073709551616 < i ∧ i < 18446744073709551616
theorem mulO_64 (hi : -18446744073709551616 < i) (hi2 : i < 18446744073709551616) (hj : -18446744073709551616 < j) (hj2 : j < 18446744073709551616) : mulO (.int i) (.int j) = some (.int (i * j)) := by
  rw [mulO_e, if_pos (mulC_of (m := 64) (n := 64) (by omega) (by omega) (by decide) (by decide) (by decide))]
@[simp] theorem eqO_int : eqO (.int i) (.int j) = some (.bl (decide (i = j))) := by
  simp [eqO, eqT, flatT, L2.scal]
@[simp] theorem neO_int : neO (.int i) (.int j) = some (.bl (!decide (i = j))) := by
  simp [neO, eqT, flatT, L2.scal]
@[simp] theorem eqO_bl : eqO (.bl a) (.bl b) = some (.bl (decide (a = b))) := by
  simp [eqO, eqT, flatT, L2.scal]
@[simp] theorem neO_bl : neO (.bl a) (.bl b) = some (.bl (!decide (a = b))) := by
  simp [neO, eqT, flatT, L2.scal]
@[simp] theorem eqO_str : eqO (.str z) (.str w) = some (.bl (decide (z = w))) := by
  simp [eqO, eqT, flatT, L2.scal]
@[simp] theorem neO_str : neO (.str z) (.str w) = some (.bl (!decide (z = w))) := by
  simp [neO, eqT, flatT, L2.scal]
@[simp] theorem eqO_nn : eqO .non .non = some (.bl true) := by
  simp [eqO, eqT, flatT, L2.scal]
@[simp] theorem is_bl : isNO false (.bl a) (.bl b) = some (.bl (decide (a = b))) := Eq.trans rfl rfl
@[simp] theorem isn_bl : isNO true (.bl a) (.bl b) = some (.bl (!decide (a = b))) := Eq.trans rfl rfl
@[simp] theorem is_nn : isNO false .non .non = some (.bl true) := Eq.trans rfl rfl
@[simp] theorem isn_nn : isNO true .non .non = some (.bl false) := Eq.trans rfl rfl
@[simp] theorem is_tn : isNO false (.tup xs) .non = some (.bl false) := Eq.trans rfl rfl
@[simp] theorem is_in : isNO false (.int i) .non = some (.bl false) := Eq.trans rfl rfl
@[simp] theorem isn_tn : isNO true (.tup xs) .non = some (.bl true) := Eq.trans rfl rfl
@[simp] theorem isn_in : isNO true (.int i) .non = some (.bl true) := Eq.trans rfl rfl
@[simp] theorem tyT_non : tyT .non = some .non := Eq.trans rfl rfl
@[simp] theorem tyT_bl : tyT (.bl a) = some .bl := Eq.trans rfl rfl
@[simp] theorem tyT_int : tyT (.int i) = some .int := Eq.trans rfl rfl
@[simp] theorem tyT_str : tyT (.str z) = some .str := Eq.trans rfl rfl
@[simp] theorem tyT_lst : tyT (.lst xs) = some .lst := Eq.trans rfl rfl
@[simp] theorem tyT_sl : tyT (.sl xs) = some .lst := Eq.trans rfl rfl
@[simp] theorem tyT_tup : tyT (.tup xs) = some .tup := Eq.trans rfl rfl
@[simp] theorem isiO_e {b : Ty} : isiO b x = (tyT x).map fun a => .bl (isTy a b) := Eq.trans rfl rfl
@[simp] theorem isi2O_e {b c : Ty} : isi2O b c x = (tyT x).map fun a => .bl (isTy a b || isTy a c) := Eq.trans rfl rfl
@[simp] theorem isTy_e {a b : Ty} : isTy a b = (decide (a = b) || (decide (a = .bl) && decide (b = .int))) := Eq.trans rfl rfl
@[simp] theorem tupO_e : tupO xs = if xs.length ≤ 16777216 then some (.tup xs) else none := Eq.trans rfl rfl
@[simp] theorem newL_e : newL xs = if xs.length ≤ 16777216 then some (.l xs) else none := Eq.trans rfl rfl
@[simp] theorem int1O_e : int1O [.int i] = some (.int i) := Eq.trans rfl rfl
@[simp] theorem abs1O_e : abs1O [.int i] = some (.int (if i < 0 then -i else i)) := Eq.trans rfl rfl
@[simp] theorem max2O_e : max2O [.int i, .int j] = some (.int (if j > i then j else i)) := Eq.trans rfl rfl
@[simp] theorem min2O_e : min2O [.int i, .int j] = some (.int (if j < i then j else i)) := Eq.trans rfl rfl
@[simp] theorem tuple1O_l : tuple1O [.lst xs] = some (.tup xs) := Eq.trans rfl rfl
@[simp] theorem tuple1O_t : tuple1O [.tup xs] = some (.tup xs) := Eq.trans rfl rfl
@[simp] theorem lenO_l : lenO [.lst xs] = some (.int xs.length) := Eq.trans rfl rfl
@[simp] theorem lenO_s : lenO [.sl xs] = some (.int xs.length) := Eq.trans rfl rfl
@[simp] theorem lenO_t : lenO [.tup xs] = some (.int xs.length) := Eq.trans rfl rfl
@[simp] theorem lenO_str : lenO [.str z] = if z.length ≤ 16777216 then some (.int z.length) else none := Eq.trans rfl rfl
@[simp] theorem ixO_l : ixO (.lst xs) (.int i) = atT xs i := Eq.trans rfl rfl
@[simp] theorem ixO_s : ixO (.sl xs) (.int i) = atT xs i := Eq.trans rfl rfl
@[simp] theorem ixO_t : ixO (.tup xs) (.int i) = atT xs i := Eq.trans rfl rfl
@[simp] theorem all1O_e : all1O [.lst xs] = (blsT xs).map fun bs => .bl (bs.all id) := Eq.trans rfl rfl
@[simp] theorem any1O_e : any1O [.lst xs] = (blsT xs).map fun bs => .bl (bs.any id) := Eq.trans rfl rfl
@[simp] theorem sum1O_e : sum1O [.lst xs] = (intsT xs).map fun bs => .int bs.sum := Eq.trans rfl rfl
@[simp] theorem rg1_e : rg1 [.int j] = if decide (-4611686018427387904 ≤ j) && decide (j < 4611686018427387904) then some (rgT 0 j.toNat) else none := Eq.trans rfl rfl
@[simp] theorem rg2_e : rg2 [.int i, .int j] = if decide (-4611686018427387904 ≤ i) && decide (i < 4611686018427387904) && decide (-4611686018427387904 ≤ j) && decide (j < 4611686018427387904) then some (rgT i (j - i).toNat) else none := Eq.trans rfl rfl
@[simp] theorem enum1_e : enum1 [x] = (seqT x).map (enumT 0) := Eq.trans rfl rfl
@[simp] theorem zip2_e : zip2 [x, y] = (seqT x).bind fun as => (seqT y).map fun bs => zipT as bs := Eq.trans rfl rfl
@[simp] theorem list1_e : list1 [x] = (seqT x).map O.l := Eq.trans rfl rfl
theorem atT_nat {n : Nat} {t : T} (h : xs[n]? = some t) : atT xs (n : Int) = some t := by
  have hl := (List.getElem?_eq_some_iff.mp h).1
  unfold atT idx
  rw [if_pos (by omega), if_pos (by omega)]
  simpa using h
theorem atT_pos {t : T} (h0 : 0 ≤ i) (h : xs[i.toNat]? = some t) : atT xs i = some t := by
  have := atT_nat h
  rwa [Int.toNat_of_nonneg h0] at this
end
/-! ### loops -/
@[simp] theorem forL_nil {g : MG} {s : MS} {ρ : Env} : forL g s [] ρ = .ok .nx ρ := Eq.trans rfl rfl
theorem forL_cons {g : MG} {s : MS} {t : T} {ts : List T} {ρ : Env} : forL g s (t :: ts) ρ = match g t ρ with
    | none => .bad
    | some ρ => (s ρ).bind fun fl ρ => match fl with
      | .nx => forL g s ts ρ
      | .ct => forL g s ts ρ
      | .bk => .ok .nx ρ
      | .rt t => .ok (.rt t) ρ := Eq.trans rfl rfl
theorem whl_succ {g : M Bool} {s : MS} {n : Nat} {ρ : Env} : whl g s (n + 1) ρ = (g ρ).bind fun b ρ => if b = true then (s ρ).bind fun fl ρ => match fl with
      | .nx => whl g s n ρ
      | .ct => whl g s n ρ
      | .bk => .ok .nx ρ
      | .rt t => .ok (.rt t) ρ
    else .ok .nx ρ := Eq.trans rfl rfl
/-- more fuel changes nothing -/
theorem whl_mono {g : M Bool} {s : MS} : ∀ {n : Nat} (m : Nat) {ρ : Env}, n ≤ m → whl g s n ρ ≠ .bad → whl g s m ρ = whl g s n ρ
  | 0, m, ρ, _, h => absurd rfl h
  | n + 1, 0, ρ, hl, h => by omega
  | n + 1, m + 1, ρ, hl, h => by
    rw [whl_succ] at h ⊢
    rw [whl_succ]
    cases e : g ρ with
    | bad => rfl
    | exc x => rfl
    | ok b ρ1 =>
      rw [e] at h
      simp only [bind_ok] at h ⊢
      by_cases hb : b = true
      · rw [if_pos hb] at h ⊢
        rw [if_pos hb]
        cases e2 : s ρ1 with
        | bad => rfl
        | exc x => rfl
        | ok fl ρ2 =>
          rw [e2] at h
          simp only [bind_ok] at h ⊢
          cases fl with
          | nx => exact whl_mono m (by omega) h
          | ct => exact whl_mono m (by omega) h
          | bk => rfl
          | rt t => rfl
      · rw [if_neg hb]
        rw [if_neg hb]
theorem whl_to {g : M Bool} {s : MS} {n m : Nat} {ρ : Env} {fl : Fl} {ρ' : Env} (h : whl g s n ρ = .ok fl ρ') (hl : n ≤ m) : whl g s m ρ = .ok fl ρ' := by
  rw [whl_mono m hl (by rw [h]; exact fun e => nomatch e), h]
/-- a loop that only goes on -/
theorem forL_inv {g : MG} {s : MS} (P : Env → Prop) : ∀ {ts : List T} {ρ : Env}, P ρ → (∀ t ∈ ts, ∀ ρ, P ρ → ∃ ρ1 ρ2, g t ρ = some ρ1 ∧ s ρ1 = .ok .nx ρ2 ∧ P ρ2) → ∃ ρ', forL g s ts ρ = .ok .nx ρ' ∧ P ρ'
  | [], ρ, h, _ => ⟨ρ, rfl, h⟩
  | t :: ts, ρ, h, hs => by
    obtain ⟨ρ1, ρ2, e1, e2, h2⟩ := hs t (List.mem_cons_self ..) ρ h
    obtain ⟨ρ3, e3, h3⟩ := forL_inv P (ts := ts) h2 fun t ht => hs t (List.mem_cons_of_mem _ ht)
    exact ⟨ρ3, by rw [forL_cons, e1]; simp only [e2, bind_ok, e3], h3⟩
/-- [e for x in ts if t], nothing else changed -/
theorem lcL_map {ρ0 : Env} {i : Nat} {test : M Bool} {elt : M T} {p : T → Bool} {φ : T → T} (hi : i < ρ0.length) : ∀ {ts acc : List T}, (∀ t ∈ ts, test (ρ0.set i (.fz t)) = .ok (p t) (ρ0.set i (.fz t))) → (∀ t ∈ ts, p t = true → elt (ρ0.set i (.fz t)) = .ok (φ t) (ρ0.set i (.fz t))) →
    acc.length + ts.length ≤ 16777216 → lcL [i] (gN i) test elt ts acc ρ0 = .ok (acc ++ (ts.filter p).map φ) ρ0
  | [], acc, _, _, _ => by simp [lcL]
  | t :: ts, acc, h1, h2, hl => by
    have b1 : ∀ x, bring ρ0 (ρ0.set i x) [i] = ρ0 := fun x => by
      show (ρ0.set i x).set i (ρ0.getD i .un) = ρ0
      rw [List.set_set]
      apply List.ext_getElem?
      intro j
      by_cases hj : i = j
      · subst hj
        rw [List.getElem?_set_self (by simpa using hi), List.getD_eq_getElem?_getD, List.getElem?_eq_getElem hi]
        rfl
      · rw [List.getElem?_set_ne hj]
    have w1 : gN i t (wipeE ρ0 [i]) = some (ρ0.set i (.fz t)) := by
      show (if i < ((ρ0.set i .un)).length then some ((ρ0.set i .un).set i (.fz t)) else none) = _
      rw [if_pos (by simpa using hi), List.set_set]
    have h1t := h1 t (List.mem_cons_self ..)
    unfold lcL
    rw [w1]
    simp only [h1t, noX_ok, bind_ok]
    simp only [List.length_cons] at hl
    cases hp : p t with
    | true =>
      simp only [if_true, h2 t (List.mem_cons_self ..) hp, noX_ok, bind_ok, b1]
      rw [if_pos (by omega), lcL_map hi (fun t ht => h1 t (List.mem_cons_of_mem _ ht)) (fun t ht => h2 t (List.mem_cons_of_mem _ ht)) (by simp; omega)]
      simp [List.filter_cons, hp]
    | false =>
      simp only [Bool.false_eq_true, if_false, b1]
      rw [lcL_map hi (fun t ht => h1 t (List.mem_cons_of_mem _ ht)) (fun t ht => h2 t (List.mem_cons_of_mem _ ht)) (by omega)]
      simp [List.filter_cons, hp]
/-- .. without a test -/
theorem lcL_all {ρ0 : Env} {i : Nat} {elt : M T} {φ : T → T} (hi : i < ρ0.length) {ts : List T} (h2 : ∀ t ∈ ts, elt (ρ0.set i (.fz t)) = .ok (φ t) (ρ0.set i (.fz t))) (hl : ts.length ≤ 16777216) : lcL [i] (gN i) yes elt ts [] ρ0 = .ok (ts.map φ) ρ0 := by
  have h := lcL_map (test := yes) (p := fun _ => true) (φ := φ) (acc := []) (ts := ts) hi (fun _ _ => rfl) (fun t ht _ => h2 t ht) (by simpa using hl)
  rw [List.nil_append, List.filter_eq_self.mpr (fun _ _ => rfl)] at h
  exact h
theorem blsT_map {α : Type} (p : α → Bool) (xs : List α) : blsT (xs.map fun x => T.bl (p x)) = some (xs.map p) := by
  induction xs with
  | nil => rfl
  | cons x xs ih => simp [blsT, ih]
end FL

/-! FL13: small things. -/
namespace FL
open PySem PySem.Spec L2
theorem bad_sp {K : PySem.W.Frag} {mg : Str → Option Value} {vs : List V} {H : Hp} {Q : V → Hp → Prop} {E : XK} (h : spF K mg (fun _ => .bad) vs H Q E) : False := by
  obtain ⟨B, F, ts, _, _, _, z⟩ := h
  exact z
section
variable {i j : Int}
@[simp] theorem gtO_e : gtO (.int i) (.int j) = some (.bl (decide (j < i))) := Eq.trans rfl rfl
@[simp] theorem ltO_e : ltO (.int i) (.int j) = some (.bl (decide (i < j))) := Eq.trans rfl rfl
@[simp] theorem geO_e : geO (.int i) (.int j) = some (.bl (decide (j ≤ i))) := Eq.trans rfl rfl
@[simp] theorem leO_e : leO (.int i) (.int j) = some (.bl (decide (i ≤ j))) := Eq.trans rfl rfl
@[simp] theorem subO_e : subO (.int i) (.int j) = some (.int (i - j)) := Eq.trans rfl rfl
end
end FL

/-! FL14: == on data. -/
namespace FL
open PySem PySem.Spec L2
mutual
/-- numbers, texts, and rows of them, so deep -/
def dat : Nat → T → Bool
  | _, .non => true
  | _, .int _ => true
  | _, .str x => PyData.strOk x
  | k + 1, .tup ts => dats k ts
  | k + 1, .lst ts => dats k ts
  | _, _ => false
def dats : Nat → List T → Bool
  | _, [] => true
  | k, t :: ts => dat k t && dats k ts
end
mutual
theorem dat_toD : ∀ {k : Nat} {t : T}, dat k t = true → ∃ d, toD t = some d ∧ d.canLay0 = true ∧ d.depth ≤ k
  | k, .non, _ => ⟨.none, by simp only [toD], by simp only [PyData.canLay0], by simp [PyData.depth]⟩
  | k, .int i, _ => ⟨.int i, by simp only [toD], by simp only [PyData.canLay0], by simp [PyData.depth]⟩
  | k, .str x, h => ⟨.str x, by simp only [toD], by simpa only [PyData.canLay0, dat] using h, by simp [PyData.depth]⟩
  | k + 1, .tup ts, h => by
    obtain ⟨ds, e, c, l⟩ := dats_toD (k := k) (ts := ts) (by simpa only [dat] using h)
    exact ⟨.tuple ds, by simp only [toD, e, Option.map_some], by simpa only [PyData.canLay0] using c, by simp only [PyData.depth]; omega⟩
  | k + 1, .lst ts, h => by
    obtain ⟨ds, e, c, l⟩ := dats_toD (k := k) (ts := ts) (by simpa only [dat] using h)
    exact ⟨.list ds, by simp only [toD, e, Option.map_some], by simpa only [PyData.canLay0] using c, by simp only [PyData.depth]; omega⟩
  | 0, .tup ts, h => by simp [dat] at h
  | 0, .lst ts, h => by simp [dat] at h
  | _, .bl _, h => by simp [dat] at h
  | _, .sl _, h => by simp [dat] at h
  | _, .fn _, h => by simp [dat] at h
  | _, .dk _ _, h => by simp [dat] at h
  | _, .dt _ _, h => by simp [dat] at h
theorem dats_toD : ∀ {k : Nat} {ts : List T}, dats k ts = true → ∃ ds, toDs ts = some ds ∧ PyData.canLayAll0 ds = true ∧ PyData.depthAll ds ≤ k
  | k, [], _ => ⟨[], by simp only [toDs], by simp only [PyData.canLayAll0], by simp [PyData.depthAll]⟩
  | k, t :: ts, h => by
    simp only [dats, Bool.and_eq_true] at h
    obtain ⟨d, e1, c1, l1⟩ := dat_toD h.1
    obtain ⟨ds, e2, c2, l2⟩ := dats_toD h.2
    exact ⟨d :: ds, by simp only [toDs, e1, e2], by simp only [PyData.canLayAll0, c1, c2, Bool.and_self], by simp only [PyData.depthAll]; omega⟩
end
mutual
theorem eqv_dat : ∀ {k m : Nat} {t u : T} {d e : PyData}, dat k t = true → dat m u = true → toD t = some d → toD u = some e → (PyData.eqv d e = true ↔ t = u)
  | k, m, t, u, d, e, ht, hu, hd, he => by
    cases t <;> first
      | (simp [dat] at ht; done)
      | skip
    all_goals cases u <;> first
      | (simp [dat] at hu; done)
      | skip
    all_goals simp only [toD, Option.some.injEq, Option.map_eq_some_iff] at hd he
    all_goals first
      | (obtain ⟨ds, h1, rfl⟩ := hd; obtain ⟨es, h2, rfl⟩ := he
         cases k with
         | zero => simp [dat] at ht
         | succ k => cases m with
           | zero => simp [dat] at hu
           | succ m =>
             simp only [dat] at ht hu
             have := eqvs_dat ht hu h1 h2
             simp [PyData.eqv, this]
             done)
      | (obtain ⟨ds, h1, rfl⟩ := hd; subst he; simp [PyData.eqv]; done)
      | (obtain ⟨ds, h1, rfl⟩ := he; subst hd; simp [PyData.eqv]; done)
      | (subst hd; subst he; simp [PyData.eqv]; done)
theorem eqvs_dat : ∀ {k m : Nat} {ts us : List T} {ds es : List PyData}, dats k ts = true → dats m us = true → toDs ts = some ds → toDs us = some es → (PyData.eqvAll ds es = true ↔ ts = us)
  | k, m, [], [], ds, es, _, _, hd, he => by
    simp only [toDs, Option.some.injEq] at hd he
    subst hd he; simp [PyData.eqvAll]
  | k, m, t :: ts, [], ds, es, ht, _, hd, he => by
    simp only [dats, Bool.and_eq_true] at ht
    obtain ⟨d, e1, _, _⟩ := dat_toD ht.1
    obtain ⟨ds', e2, _, _⟩ := dats_toD ht.2
    simp only [toDs, e1, e2, Option.some.injEq] at hd he
    subst hd he; simp [PyData.eqvAll]
  | k, m, [], u :: us, ds, es, _, hu, hd, he => by
    simp only [dats, Bool.and_eq_true] at hu
    obtain ⟨d, e1, _, _⟩ := dat_toD hu.1
    obtain ⟨ds', e2, _, _⟩ := dats_toD hu.2
    simp only [toDs, e1, e2, Option.some.injEq] at hd he
    subst hd he; simp [PyData.eqvAll]
  | k, m, t :: ts, u :: us, ds, es, ht, hu, hd, he => by
    simp only [dats, Bool.and_eq_true] at ht hu
    obtain ⟨d, e1, _, _⟩ := dat_toD ht.1
    obtain ⟨ds', e2, _, _⟩ := dats_toD ht.2
    obtain ⟨f, e3, _, _⟩ := dat_toD hu.1
    obtain ⟨fs', e4, _, _⟩ := dats_toD hu.2
    simp only [toDs, e1, e2, e3, e4, Option.some.injEq] at hd he
    subst hd he
    simp only [PyData.eqvAll, Bool.and_eq_true, eqv_dat ht.1 hu.1 e1 e3, eqvs_dat ht.2 hu.2 e2 e4, List.cons.injEq]
end
theorem eqT_dat {k m : Nat} {t u : T} (ht : dat k t = true) (hu : dat m u = true) (hk : k ≤ 64) (hm : m ≤ 64) : ∃ b : Bool, eqT t u = some b ∧ (b = true ↔ t = u) := by
  obtain ⟨d, e1, c1, l1⟩ := dat_toD ht
  obtain ⟨e, e2, c2, l2⟩ := dat_toD hu
  have s1 : SeqAt.shaped d = true := by unfold SeqAt.shaped; rw [c1, Bool.true_and, decide_eq_true_eq]; omega
  have s2 : SeqAt.shaped e = true := by unfold SeqAt.shaped; rw [c2, Bool.true_and, decide_eq_true_eq]; omega
  have g : (match toD t, toD u with
    | some d, some e => if SeqAt.shaped d && SeqAt.shaped e then some (PyData.eqv d e) else none
    | _, _ => none) = some (PyData.eqv d e) := by rw [e1, e2]; simp [s1, s2]
  have hv := eqv_dat ht hu e1 e2
  unfold eqT
  split
  · rename_i v w h1 h2
    split
    · refine ⟨_, rfl, ?_⟩
      rw [decide_eq_true_eq]
      cases t <;> simp only [flatT, Option.some.injEq, reduceCtorEq] at h1 <;> cases u <;> simp only [flatT, Option.some.injEq, reduceCtorEq] at h2 <;> subst h1 <;> subst h2 <;> simp [dat] at ht hu ⊢
    · exact ⟨_, g, hv⟩
  · exact ⟨_, g, hv⟩
theorem eqO_same {k : Nat} {t : T} (h : dat k t = true) (hk : k ≤ 64) : eqO t t = some (.bl true) := by
  obtain ⟨b, e, hb⟩ := eqT_dat h h hk hk
  unfold eqO; rw [e, hb.mpr rfl]; rfl
theorem eqO_ne {k m : Nat} {t u : T} (h : dat k t = true) (h2 : dat m u = true) (hk : k ≤ 64) (hm : m ≤ 64) (hn : t ≠ u) : eqO t u = some (.bl false) := by
  obtain ⟨b, e, hb⟩ := eqT_dat h h2 hk hm
  unfold eqO; rw [e]
  cases b with
  | true => exact absurd (hb.mp rfl) hn
  | false => rfl
theorem neO_same {k : Nat} {t : T} (h : dat k t = true) (hk : k ≤ 64) : neO t t = some (.bl false) := by
  obtain ⟨b, e, hb⟩ := eqT_dat h h hk hk
  unfold neO; rw [e, hb.mpr rfl]; rfl
theorem neO_ne {k m : Nat} {t u : T} (h : dat k t = true) (h2 : dat m u = true) (hk : k ≤ 64) (hm : m ≤ 64) (hn : t ≠ u) : neO t u = some (.bl true) := by
  obtain ⟨b, e, hb⟩ := eqT_dat h h2 hk hm
  unfold neO; rw [e]
  cases b with
  | true => exact absurd (hb.mp rfl) hn
  | false => rfl
/-- rows of ints -/
def its (L : List Int) : List T := L.map T.int
theorem its_inj : ∀ {L M : List Int}, its L = its M ↔ L = M
  | [], [] => by simp [its]
  | _ :: _, [] => by simp [its]
  | [], _ :: _ => by simp [its]
  | a :: L, b :: M => by
    have := its_inj (L := L) (M := M)
    simp only [its] at this
    simp [its, this]
theorem dats_its (k : Nat) : ∀ L : List Int, dats k (its L) = true
  | [] => by simp [its, dats]
  | a :: L => by
    have := dats_its k L
    simp only [its] at this
    cases k <;> simp [its, dats, dat, this]
theorem dat_its (k : Nat) (L : List Int) : dat (k + 1) (.tup (its L)) = true := by simp only [dat]; exact dats_its k L
theorem dat_itsl (k : Nat) (L : List Int) : dat (k + 1) (.lst (its L)) = true := by simp only [dat]; exact dats_its k L
theorem eqO_of {k : Nat} {t u : T} {c : Prop} [Decidable c] (h : dat k t = true) (h2 : dat k u = true) (hk : k ≤ 64) (hc : t = u ↔ c) : eqO t u = some (.bl (decide c)) := by
  by_cases x : c
  · rw [decide_eq_true x, hc.mpr x]; exact eqO_same h2 hk
  · rw [decide_eq_false x]; exact eqO_ne h h2 hk hk (fun e => x (hc.mp e))
theorem neO_of {k : Nat} {t u : T} {c : Prop} [Decidable c] (h : dat k t = true) (h2 : dat k u = true) (hk : k ≤ 64) (hc : t = u ↔ c) : neO t u = some (.bl (!decide c)) := by
  by_cases x : c
  · rw [decide_eq_true x, hc.mpr x]; exact neO_same h2 hk
  · rw [decide_eq_false x]; exact neO_ne h h2 hk hk (fun e => x (hc.mp e))
theorem eqO_its {L M : List Int} : eqO (.tup (its L)) (.tup (its M)) = some (.bl (decide (L = M))) := eqO_of (dat_its 0 _) (dat_its 0 _) (by decide) (by rw [T.tup.injEq, its_inj])
theorem neO_its {L M : List Int} : neO (.tup (its L)) (.tup (its M)) = some (.bl (!decide (L = M))) := neO_of (dat_its 0 _) (dat_its 0 _) (by decide) (by rw [T.tup.injEq, its_inj])
theorem eqO_itsl {L M : List Int} : eqO (.lst (its L)) (.lst (its M)) = some (.bl (decide (L = M))) := eqO_of (dat_itsl 0 _) (dat_itsl 0 _) (by decide) (by rw [T.lst.injEq, its_inj])
theorem neO_itsl {L M : List Int} : neO (.lst (its L)) (.lst (its M)) = some (.bl (!decide (L = M))) := neO_of (dat_itsl 0 _) (dat_itsl 0 _) (by decide) (by rw [T.lst.injEq, its_inj])
end FL

/-! FL15: loops: an accumulator; the first that stops; comprehensions that draw. -/
namespace FL
open PySem PySem.Spec L2
/-- a loop that only goes on, with a state -/
theorem forL_acc {β : Type} {g : MG} {s : MS} (S : β → FL.Env → Prop) (step : β → T → β) : ∀ {ts : List T} {a : β} {ρ : FL.Env}, S a ρ → (∀ t ∈ ts, ∀ a ρ, S a ρ → ∃ ρ1 ρ2, g t ρ = some ρ1 ∧ s ρ1 = .ok .nx ρ2 ∧ S (step a t) ρ2) → ∃ ρ', forL g s ts ρ = .ok .nx ρ' ∧ S (ts.foldl step a) ρ'
  | [], a, ρ, h, _ => ⟨ρ, rfl, h⟩
  | t :: ts, a, ρ, h, hs => by
    obtain ⟨ρ1, ρ2, e1, e2, h2⟩ := hs t (List.mem_cons_self ..) a ρ h
    obtain ⟨ρ3, e3, h3⟩ := forL_acc S step (ts := ts) h2 fun t ht => hs t (List.mem_cons_of_mem _ ht)
    exact ⟨ρ3, by rw [forL_cons, e1]; simp only [e2, bind_ok, e3], h3⟩
/-- a loop that returns at the first t with p -/
theorem forL_find {g : MG} {s : MS} (P : FL.Env → Prop) (p : T → Bool) (r : T → T) : ∀ {ts : List T} {ρ : FL.Env}, P ρ → (∀ t ∈ ts, ∀ ρ, P ρ → ∃ ρ1 ρ2, g t ρ = some ρ1 ∧ s ρ1 = .ok (if p t then .rt (r t) else .nx) ρ2 ∧ P ρ2) →
    ∃ ρ', forL g s ts ρ = .ok (match ts.find? p with | some t => .rt (r t) | none => .nx) ρ' ∧ P ρ'
  | [], ρ, h, _ => ⟨ρ, rfl, h⟩
  | t :: ts, ρ, h, hs => by
    obtain ⟨ρ1, ρ2, e1, e2, h2⟩ := hs t (List.mem_cons_self ..) ρ h
    by_cases hp : p t = true
    · rw [hp] at e2
      exact ⟨ρ2, by rw [forL_cons, e1]; simp only [e2, bind_ok, if_true, List.find?_cons_of_pos hp], h2⟩
    · have hf : p t = false := by simpa using hp
      rw [hf] at e2
      obtain ⟨ρ3, e3, h3⟩ := forL_find P p r (ts := ts) h2 fun t ht => hs t (List.mem_cons_of_mem _ ht)
      exact ⟨ρ3, by rw [forL_cons, e1]; simp only [e2, bind_ok, Bool.false_eq_true, if_false, List.find?_cons_of_neg hp, e3], h3⟩
/-- a loop that only goes on, by the number of turns done -/
theorem forL_ix {g : MG} {s : MS} (S : Nat → FL.Env → Prop) : ∀ {ts : List T} {m : Nat} {ρ : FL.Env}, S m ρ → (∀ (k : Nat) (t : T), ts[k]? = some t → ∀ ρ, S (m + k) ρ → ∃ ρ1 ρ2, g t ρ = some ρ1 ∧ s ρ1 = .ok .nx ρ2 ∧ S (m + k + 1) ρ2) → ∃ ρ', forL g s ts ρ = .ok .nx ρ' ∧ S (m + ts.length) ρ'
  | [], m, ρ, h, _ => ⟨ρ, rfl, h⟩
  | t :: ts, m, ρ, h, hs => by
    obtain ⟨ρ1, ρ2, e1, e2, h2⟩ := hs 0 t rfl ρ h
    obtain ⟨ρ3, e3, h3⟩ := forL_ix S (ts := ts) (m := m + 1) h2 fun k u hk ρ hρ => by
      have := hs (k + 1) u (by simpa using hk) ρ (by rw [show m + (k + 1) = m + 1 + k by omega]; exact hρ)
      rwa [show m + (k + 1) + 1 = m + 1 + k + 1 by omega] at this
    refine ⟨ρ3, by rw [forL_cons, e1]; simp only [e2, bind_ok, e3], ?_⟩
    rw [List.length_cons, show m + (ts.length + 1) = m + 1 + ts.length by omega]
    exact h3
theorem gN_wipe {i : Nat} {t : T} {ρ : FL.Env} (hi : i < ρ.length) : gN i t (wipeE ρ [i]) = some (ρ.set i (.fz t)) := by
  show gN i t (ρ.set i .un) = _
  rw [gN_e, if_pos (by simpa using hi), List.set_set]
/-- [e for x in ts], where e may change other slots -/
theorem lcL_some {i : Nat} {elt : M T} (P : FL.Env → Prop) (Q : T → Prop) : ∀ {ts acc : List T} {ρ : FL.Env}, P ρ → (∀ t ∈ ts, ∀ ρ, P ρ → i < ρ.length ∧ ∃ y ρ3, elt (ρ.set i (.fz t)) = .ok y ρ3 ∧ Q y ∧ P (ρ3.set i (ρ.getD i .un))) → acc.length + ts.length ≤ 16777216 →
    ∃ ys ρ', lcL [i] (gN i) yes elt ts acc ρ = .ok (acc ++ ys) ρ' ∧ ys.length = ts.length ∧ (∀ y ∈ ys, Q y) ∧ P ρ'
  | [], acc, ρ, h, _, _ => ⟨[], ρ, by simp [lcL], rfl, (fun y h => nomatch h), h⟩
  | t :: ts, acc, ρ, h, hs, hl => by
    obtain ⟨hi, y, ρ3, e, q, h2⟩ := hs t (List.mem_cons_self ..) ρ h
    simp only [List.length_cons] at hl
    obtain ⟨ys, ρ', e3, l3, q3, h3⟩ := lcL_some P Q (ts := ts) (acc := acc ++ [y]) h2 (fun t ht => hs t (List.mem_cons_of_mem _ ht)) (by simp; omega)
    refine ⟨y :: ys, ρ', ?_, by simp [l3], fun z hz => ?_, h3⟩
    · unfold lcL
      rw [gN_wipe hi]
      simp only [yes_e, noX_ok, bind_ok, if_true, e]
      rw [if_pos (by omega)]
      show lcL [i] (gN i) yes elt ts (acc ++ [y]) (ρ3.set i (ρ.getD i .un)) = _
      rw [e3, List.append_assoc]; rfl
    · rcases List.mem_cons.mp hz with rfl | hz
      · exact q
      · exact q3 z hz
end FL

namespace TW
open PySem FL
-- inner: 0:rows 1:row
def blocks.L_inner_1 (s : FL.Env) : Res T :=
  (frzM (calO list1 (rdCons (slM (rdA 1) (poS (rdC (.int 1))) (poN)) (rdNil)))) s
def blocks.R_inner (s : FL.Env) : Res Fl :=
  (sRet (frzM (lcM [1] (iSeq (rdA 0)) (gN 1) (yes) (blocks.L_inner_1)))) s
def blocks.F_inner : Sg := fnF 2 1 blocks.R_inner
-- exponents: 0:limit 1:number 2:found 3:prime 4:many
def diamonds.C_exponents_1 (s : FL.Env) : Res Bool :=
  (tst (op2 eqO (op2 modO (rdA 1) (rdA 3)) (rdC (.int 0)))) s
def diamonds.B_exponents_1 (s : FL.Env) : Res Fl :=
  (sPar 1 4 (xsCons (asT (op2 divO (rdA 1) (rdA 3))) (xsCons (asT (op2 addO (rdA 4) (rdC (.int 1)))) (xsNil)))) s
def diamonds.B_exponents_2 (s : FL.Env) : Res Fl :=
  (sq (sSet 4 (asT (rdC (.int 0))))
  (sq (whl (diamonds.C_exponents_1) (diamonds.B_exponents_1) 1000000)
  (sExpr (apnM 2 (rdA 4))))) s
def diamonds.R_exponents (s : FL.Env) : Res Fl :=
  (sq (sSet 2 (asO (calO newL (rdNil))))
  (sq (sFor (iSeq (rdA 0)) (gN 3) (diamonds.B_exponents_2))
  (sRet (ifE (tst (op2 eqO (rdA 1) (rdC (.int 1)))) (calF tuple1O (rdCons (rdA 2) (rdNil))) (rdC .non))))) s
def diamonds.F_exponents : Sg := fnF 5 2 diamonds.R_exponents
-- need_octave: 0:limit
def diamonds.R_need_octave (s : FL.Env) : Res Fl :=
  (sIf (tst (op2 neO (ixA 0 (rdC (.int 0))) (rdC (.int 2)))) (bad) (skip)) s
def diamonds.F_need_octave : Sg := fnF 1 1 diamonds.R_need_octave
-- less: 0:row 1:other 2:factor 3:left 4:right
def lattices.L_less_1 (s : FL.Env) : Res T :=
  (op2 subO (rdA 3) (op2 mulO (rdA 2) (rdA 4))) s
def lattices.R_less (s : FL.Env) : Res Fl :=
  (sRet (frzM (lcM [3, 4] (calI zip2 (rdCons (rdA 0) (rdCons (rdA 1) (rdNil)))) (gT (gsCons (gN 3) (gsCons (gN 4) (gsNil)))) (yes) (lattices.L_less_1)))) s
def lattices.F_less : Sg := fnF 5 3 lattices.R_less
-- told_rows: 0:rows 1:row
def lattices.L_told_rows_1 (s : FL.Env) : Res T :=
  (calF tuple1O (rdCons (rdA 1) (rdNil))) s
def lattices.R_told_rows (s : FL.Env) : Res Fl :=
  (sRet (calF tuple1O (rdCons (frzM (lcM [1] (iSeq (rdA 0)) (gN 1) (yes) (lattices.L_told_rows_1))) (rdNil)))) s
def lattices.F_told_rows : Sg := fnF 2 1 lattices.R_told_rows
-- unit: 0:size 1:row 2:at
def lattices.L_unit_1 (s : FL.Env) : Res T :=
  (ifE (tst (op2 eqO (rdA 2) (rdA 1))) (rdC (.int 1)) (rdC (.int 0))) s
def lattices.L_unit_2 (s : FL.Env) : Res T :=
  (frzM (lcM [2] (calI rg1 (rdCons (rdA 0) (rdNil))) (gN 2) (yes) (lattices.L_unit_1))) s
def lattices.R_unit (s : FL.Env) : Res Fl :=
  (sRet (frzM (lcM [1] (calI rg1 (rdCons (rdA 0) (rdNil))) (gN 1) (yes) (lattices.L_unit_2)))) s
def lattices.F_unit : Sg := fnF 3 1 lattices.R_unit
-- common: 0:one 1:other
def limits.C_common_1 (s : FL.Env) : Res Bool :=
  (tst (op2 neO (rdA 1) (rdC (.int 0)))) s
def limits.B_common_1 (s : FL.Env) : Res Fl :=
  (sPar 0 1 (xsCons (asT (rdA 1)) (xsCons (asT (op2 modO (rdA 0) (rdA 1))) (xsNil)))) s
def limits.R_common (s : FL.Env) : Res Fl :=
  (sq (sPar 0 1 (xsCons (asT (calF abs1O (rdCons (rdA 0) (rdNil)))) (xsCons (asT (calF abs1O (rdCons (rdA 1) (rdNil)))) (xsNil))))
  (sq (whl (limits.C_common_1) (limits.B_common_1) 1000000)
  (sRet (rdA 0)))) s
def limits.F_common : Sg := fnF 2 2 limits.R_common
-- is_int: 0:value
def limits.R_is_int (s : FL.Env) : Res Fl :=
  (sRet (andV (op1 (isiO .int) (rdA 0)) (notV (op1 (isiO .bl) (rdA 0))))) s
def limits.F_is_int : Sg := fnF 1 1 limits.R_is_int
-- is_prime: 0:number 1:part
def limits.Q_is_prime_1 (s : FL.Env) : Res Bool :=
  (tst (op2 leO (op2 mulO (rdA 1) (rdA 1)) (rdA 0))) s
def limits.L_is_prime_1 (s : FL.Env) : Res T :=
  (op2 eqO (op2 modO (rdA 0) (rdA 1)) (rdC (.int 0))) s
def limits.R_is_prime (s : FL.Env) : Res Fl :=
  (sRet (andV (op2 gtO (rdA 0) (rdC (.int 1))) (notV (calF any1O (rdCons (frzM (lcM [1] (calI rg2 (rdCons (rdC (.int 2)) (rdCons (rdA 0) (rdNil)))) (gN 1) (limits.Q_is_prime_1) (limits.L_is_prime_1))) (rdNil)))))) s
def limits.F_is_prime : Sg := fnF 2 1 limits.R_is_prime
-- minus: 0:one 1:other 2:left 3:right
def limits.L_minus_1 (s : FL.Env) : Res T :=
  (op2 subO (rdA 2) (rdA 3)) s
def limits.R_minus (s : FL.Env) : Res Fl :=
  (sRet (calF tuple1O (rdCons (frzM (lcM [2, 3] (calI zip2 (rdCons (rdA 0) (rdCons (rdA 1) (rdNil)))) (gT (gsCons (gN 2) (gsCons (gN 3) (gsNil)))) (yes) (limits.L_minus_1))) (rdNil)))) s
def limits.F_minus : Sg := fnF 4 2 limits.R_minus
-- plus: 0:one 1:other 2:left 3:right
def limits.L_plus_1 (s : FL.Env) : Res T :=
  (op2 addO (rdA 2) (rdA 3)) s
def limits.R_plus (s : FL.Env) : Res Fl :=
  (sRet (calF tuple1O (rdCons (frzM (lcM [2, 3] (calI zip2 (rdCons (rdA 0) (rdCons (rdA 1) (rdNil)))) (gT (gsCons (gN 2) (gsCons (gN 3) (gsNil)))) (yes) (limits.L_plus_1))) (rdNil)))) s
def limits.F_plus : Sg := fnF 4 2 limits.R_plus
-- power: 0:base 1:exponent 2:found
def limits.C_power_1 (s : FL.Env) : Res Bool :=
  (tst (op2 gtO (rdA 1) (rdC (.int 0)))) s
def limits.B_power_1 (s : FL.Env) : Res Fl :=
  (sq (sIf (tst (op2 eqO (op2 modO (rdA 1) (rdC (.int 2))) (rdC (.int 1)))) (sSet 2 (asT (op2 mulO (rdA 2) (rdA 0)))) (skip))
  (sPar 0 1 (xsCons (asT (op2 mulO (rdA 0) (rdA 0))) (xsCons (asT (op2 divO (rdA 1) (rdC (.int 2)))) (xsNil))))) s
def limits.R_power (s : FL.Env) : Res Fl :=
  (sq (sSet 2 (asT (rdC (.int 1))))
  (sq (whl (limits.C_power_1) (limits.B_power_1) 1000000)
  (sRet (rdA 2)))) s
def limits.F_power : Sg := fnF 3 2 limits.R_power
-- head_place: 0:row 1:at 2:entry
def lists.Q_head_place_1 (s : FL.Env) : Res Bool :=
  (tst (op2 neO (rdA 2) (rdC (.int 0)))) s
def lists.L_head_place_1 (s : FL.Env) : Res T :=
  (rdA 1) s
def lists.R_head_place (s : FL.Env) : Res Fl :=
  (sRet (op2 ixO (frzM (lcM [1, 2] (calI enum1 (rdCons (rdA 0) (rdNil))) (gT (gsCons (gN 1) (gsCons (gN 2) (gsNil)))) (lists.Q_head_place_1) (lists.L_head_place_1))) (rdC (.int 0)))) s
def lists.F_head_place : Sg := fnF 3 1 lists.R_head_place
-- _law_below: 0:_law_one 1:_law_other
def lw.R__law_below (s : FL.Env) : Res Fl :=
  (sRet (op2 ltO (op2 mulO (ixA 0 (rdC (.int 0))) (ixA 1 (rdC (.int 1)))) (op2 mulO (ixA 1 (rdC (.int 0))) (ixA 0 (rdC (.int 1)))))) s
def lw.F__law_below : Sg := fnF 2 2 lw.R__law_below
-- _law_box: 0:_law_wide 1:_law_most 2:_law_found 3:_law_turn 4:_law_longer 5:_law_told 6:_law_entry
def lw.L__law_box_1 (s : FL.Env) : Res T :=
  (op2 addO (rdA 5) (calF tupO (rdCons (rdA 6) (rdNil)))) s
def lw.B__law_box_1 (s : FL.Env) : Res Fl :=
  (sSet 4 (asT (op2 addO (rdA 4) (frzM (lcM [6] (calI rg2 (rdCons (op2 subO (rdC (.int 0)) (rdA 1)) (rdCons (op2 addO (rdA 1) (rdC (.int 1))) (rdNil)))) (gN 6) (yes) (lw.L__law_box_1)))))) s
def lw.B__law_box_2 (s : FL.Env) : Res Fl :=
  (sq (sSet 4 (asT (frzM (calO newL (rdNil)))))
  (sq (sFor (iSeq (rdA 2)) (gN 5) (lw.B__law_box_1))
  (sSet 2 (asT (rdA 4))))) s
def lw.R__law_box (s : FL.Env) : Res Fl :=
  (sq (sSet 2 (asT (frzM (calO newL (rdCons (calF tupO (rdNil)) (rdNil))))))
  (sq (sFor (calI rg1 (rdCons (rdA 0) (rdNil))) (gN 3) (lw.B__law_box_2))
  (sRet (rdA 2)))) s
def lw.F__law_box : Sg := fnF 7 2 lw.R__law_box
-- _law_columns: 0:_law_wide 1:_law_many 2:_law_found 3:_law_turn 4:_law_longer 5:_law_told 6:_law_at
def lw.L__law_columns_1 (s : FL.Env) : Res T :=
  (op2 addO (rdA 5) (calF tupO (rdCons (rdA 6) (rdNil)))) s
def lw.B__law_columns_1 (s : FL.Env) : Res Fl :=
  (sSet 4 (asT (op2 addO (rdA 4) (frzM (lcM [6] (calI rg2 (rdCons (ifE (tst (op2 neO (rdA 5) (calF tupO (rdNil)))) (op2 addO (ixA 5 (op1 negO (rdC (.int 1)))) (rdC (.int 1))) (rdC (.int 0))) (rdCons (rdA 0) (rdNil)))) (gN 6) (yes) (lw.L__law_columns_1)))))) s
def lw.B__law_columns_2 (s : FL.Env) : Res Fl :=
  (sq (sSet 4 (asT (frzM (calO newL (rdNil)))))
  (sq (sFor (iSeq (rdA 2)) (gN 5) (lw.B__law_columns_1))
  (sSet 2 (asT (rdA 4))))) s
def lw.R__law_columns (s : FL.Env) : Res Fl :=
  (sq (sSet 2 (asT (frzM (calO newL (rdCons (calF tupO (rdNil)) (rdNil))))))
  (sq (sFor (calI rg1 (rdCons (rdA 1) (rdNil))) (gN 3) (lw.B__law_columns_2))
  (sRet (rdA 2)))) s
def lw.F__law_columns : Sg := fnF 7 2 lw.R__law_columns
-- _law_common: 0:_law_one 1:_law_other
def lw.C__law_common_1 (s : FL.Env) : Res Bool :=
  (tst (op2 neO (rdA 1) (rdC (.int 0)))) s
def lw.B__law_common_1 (s : FL.Env) : Res Fl :=
  (sPar 0 1 (xsCons (asT (rdA 1)) (xsCons (asT (op2 modO (rdA 0) (rdA 1))) (xsNil)))) s
def lw.R__law_common (s : FL.Env) : Res Fl :=
  (sq (sPar 0 1 (xsCons (asT (calF abs1O (rdCons (rdA 0) (rdNil)))) (xsCons (asT (calF abs1O (rdCons (rdA 1) (rdNil)))) (xsNil))))
  (sq (whl (lw.C__law_common_1) (lw.B__law_common_1) 1000000)
  (sRet (rdA 0)))) s
def lw.F__law_common : Sg := fnF 2 2 lw.R__law_common
-- _law_dot: 0:_law_one 1:_law_other 2:_law_at
def lw.L__law_dot_1 (s : FL.Env) : Res T :=
  (op2 mulO (ixA 0 (rdA 2)) (ixA 1 (rdA 2))) s
def lw.R__law_dot (s : FL.Env) : Res Fl :=
  (sRet (calF sum1O (rdCons (frzM (lcM [2] (calI rg1 (rdCons (lenA 0) (rdNil))) (gN 2) (yes) (lw.L__law_dot_1))) (rdNil)))) s
def lw.F__law_dot : Sg := fnF 3 2 lw.R__law_dot
-- _law_fits: 0:_law_rows_here 1:_law_line 2:_law_entry
def lw.Q__law_fits_1 (s : FL.Env) : Res Bool :=
  (tst (op2 gtO (calF abs1O (rdCons (rdA 2) (rdNil))) (rdC (.int 9999)))) s
def lw.L__law_fits_1 (s : FL.Env) : Res T :=
  (rdA 2) s
def lw.Q__law_fits_2 (s : FL.Env) : Res Bool :=
  (tst (op2 neO (frzM (lcM [2] (iSeq (rdA 1)) (gN 2) (lw.Q__law_fits_1) (lw.L__law_fits_1))) (frzM (calO newL (rdNil))))) s
def lw.L__law_fits_2 (s : FL.Env) : Res T :=
  (rdA 1) s
def lw.R__law_fits (s : FL.Env) : Res Fl :=
  (sRet (op2 eqO (frzM (lcM [1] (iSeq (rdA 0)) (gN 1) (lw.Q__law_fits_2) (lw.L__law_fits_2))) (frzM (calO newL (rdNil))))) s
def lw.F__law_fits : Sg := fnF 3 1 lw.R__law_fits
-- _law_ints: 0:_law_value 1:_law_one
def lw.Q__law_ints_1 (s : FL.Env) : Res Bool :=
  (orT (notT (truth (op1 (isiO .int) (rdA 1)))) (truth (op1 (isiO .bl) (rdA 1)))) s
def lw.L__law_ints_1 (s : FL.Env) : Res T :=
  (rdA 1) s
def lw.R__law_ints (s : FL.Env) : Res Fl :=
  (sRet (op2 eqO (frzM (lcM [1] (iSeq (rdA 0)) (gN 1) (lw.Q__law_ints_1) (lw.L__law_ints_1))) (frzM (calO newL (rdNil))))) s
def lw.F__law_ints : Sg := fnF 2 1 lw.R__law_ints
-- _law_is_form: 0:_law_rows_here 1:_law_line 2:_law_at 3:_law_last 4:_law_places 5:_law_heads
def lw.Q__law_is_form_1 (s : FL.Env) : Res Bool :=
  (tst (op2 neO (ixA 1 (rdA 2)) (rdC (.int 0)))) s
def lw.L__law_is_form_1 (s : FL.Env) : Res T :=
  (rdA 2) s
def lw.B__law_is_form_1 (s : FL.Env) : Res Fl :=
  (sq (sSet 5 (asT (frzM (lcM [2] (calI rg1 (rdCons (lenA 1) (rdNil))) (gN 2) (lw.Q__law_is_form_1) (lw.L__law_is_form_1)))))
  (sq (sIf (orT (notT (truth (op1 (isiO .tup) (rdA 1)))) (orT (tst (op2 eqO (rdA 5) (frzM (calO newL (rdNil))))) (orT (tst (op2 leO (ixA 5 (rdC (.int 0))) (rdA 3))) (tst (op2 ltO (ixA 1 (ixA 5 (rdC (.int 0)))) (rdC (.int 1))))))) (sRet (rdC (.bl false))) (skip))
  (sq (sSet 3 (asT (ixA 5 (rdC (.int 0)))))
  (sExpr (apnM 4 (rdA 3)))))) s
def lw.Q__law_is_form_2 (s : FL.Env) : Res Bool :=
  (notT (tst (chn leO ltO (rdC (.int 0)) (ixA 1 (ixA 4 (rdA 2))) (op2 ixO (ixA 0 (rdA 2)) (ixA 4 (rdA 2)))))) s
def lw.L__law_is_form_2 (s : FL.Env) : Res T :=
  (rdA 1) s
def lw.B__law_is_form_2 (s : FL.Env) : Res Fl :=
  (sIf (tst (op2 neO (frzM (lcM [1] (iSeq (slM (rdA 0) (poN) (poS (rdA 2)))) (gN 1) (lw.Q__law_is_form_2) (lw.L__law_is_form_2))) (frzM (calO newL (rdNil))))) (sRet (rdC (.bl false))) (skip)) s
def lw.R__law_is_form (s : FL.Env) : Res Fl :=
  (sq (sIf (notT (truth (op1 (isiO .tup) (rdA 0)))) (sRet (rdC (.bl false))) (skip))
  (sq (sAsg (gT (gsCons (gN 3) (gsCons (gN 4) (gsNil)))) (calF tupO (rdCons (op1 negO (rdC (.int 1))) (rdCons (frzM (calO newL (rdNil))) (rdNil)))))
  (sq (sFor (iSeq (rdA 0)) (gN 1) (lw.B__law_is_form_1))
  (sq (sFor (calI rg1 (rdCons (lenA 0) (rdNil))) (gN 2) (lw.B__law_is_form_2))
  (sRet (rdC (.bl true))))))) s
def lw.F__law_is_form : Sg := fnF 6 1 lw.R__law_is_form
-- _law_less: 0:_law_line 1:_law_other 2:_law_factor 3:_law_at
def lw.L__law_less_1 (s : FL.Env) : Res T :=
  (op2 subO (ixA 0 (rdA 3)) (op2 mulO (rdA 2) (ixA 1 (rdA 3)))) s
def lw.R__law_less (s : FL.Env) : Res Fl :=
  (sRet (frzM (lcM [3] (calI rg1 (rdCons (lenA 0) (rdNil))) (gN 3) (yes) (lw.L__law_less_1)))) s
def lw.F__law_less : Sg := fnF 4 3 lw.R__law_less
-- _law_minus: 0:_law_one 1:_law_other 2:_law_at
def lw.L__law_minus_1 (s : FL.Env) : Res T :=
  (op2 subO (ixA 0 (rdA 2)) (ixA 1 (rdA 2))) s
def lw.R__law_minus (s : FL.Env) : Res Fl :=
  (sRet (calF tuple1O (rdCons (frzM (lcM [2] (calI rg1 (rdCons (lenA 0) (rdNil))) (gN 2) (yes) (lw.L__law_minus_1))) (rdNil)))) s
def lw.F__law_minus : Sg := fnF 3 2 lw.R__law_minus
-- _law_move: 0:_law_many 1:_law_third 2:_law_fifth 3:_law_told 4:_law_move_here 5:_law_step 6:_law_root 7:_law_upright
def lw.R__law_move (s : FL.Env) : Res Fl :=
  (sq (sAsg (gT (gsCons (gN 6) (gsCons (gN 7) (gsNil)))) (rdA 3))
  (sq (sIf (tst (op2 eqO (rdA 4) (rdC (.str (PySem.Str.ofString "P"))))) (sRet (calF tupO (rdCons (rdA 6) (rdCons (notV (rdA 7)) (rdNil))))) (skip))
  (sq (sSet 5 (asT (ifE (tst (op2 eqO (rdA 4) (rdC (.str (PySem.Str.ofString "L"))))) (rdA 1) (op2 subO (rdA 1) (rdA 2)))))
  (sRet (ifE (truth (rdA 7)) (calF tupO (rdCons (op2 modO (op2 addO (rdA 6) (rdA 5)) (rdA 0)) (rdCons (rdC (.bl false)) (rdNil)))) (calF tupO (rdCons (op2 modO (op2 subO (rdA 6) (rdA 5)) (rdA 0)) (rdCons (rdC (.bl true)) (rdNil))))))))) s
def lw.F__law_move : Sg := fnF 8 5 lw.R__law_move
-- _law_plus: 0:_law_one 1:_law_other 2:_law_at
def lw.L__law_plus_1 (s : FL.Env) : Res T :=
  (op2 addO (ixA 0 (rdA 2)) (ixA 1 (rdA 2))) s
def lw.R__law_plus (s : FL.Env) : Res Fl :=
  (sRet (calF tuple1O (rdCons (frzM (lcM [2] (calI rg1 (rdCons (lenA 0) (rdNil))) (gN 2) (yes) (lw.L__law_plus_1))) (rdNil)))) s
def lw.F__law_plus : Sg := fnF 3 2 lw.R__law_plus
-- _law_power: 0:_law_base 1:_law_exponent 2:_law_found 3:_law_turn
def lw.B__law_power_1 (s : FL.Env) : Res Fl :=
  (sSet 2 (asT (op2 mulO (rdA 2) (rdA 0)))) s
def lw.R__law_power (s : FL.Env) : Res Fl :=
  (sq (sSet 2 (asT (rdC (.int 1))))
  (sq (sFor (calI rg1 (rdCons (rdA 1) (rdNil))) (gN 3) (lw.B__law_power_1))
  (sRet (rdA 2)))) s
def lw.F__law_power : Sg := fnF 4 2 lw.R__law_power
-- _law_taken: 0:_law_row 1:_law_many 2:_law_cell 3:_law_found
def lw.R__law_taken (s : FL.Env) : Res Fl :=
  (sq (sIf (tst (op2 gtO (ixA 0 (rdC (.int 3))) (rdC (.int 0)))) (sq (sSet 3 (asT (op2 modO (calF int1O (rdCons (ixA 0 (rdC (.int 3))) (rdNil))) (rdA 1))))
  (sq (sSetI 0 (rdC (.int 3)) (op2 divO (ixA 0 (rdC (.int 3))) (rdA 1)))
  (sRet (rdA 3)))) (skip))
  (sq (sSetI 0 (rdC (.int 1)) (op2 addO (ixA 0 (rdC (.int 1))) (rdC (.int 1))))
  (sq (sIf (tst (op2 gtO (ixA 0 (rdC (.int 1))) (calF lenO (rdCons (ixA 0 (rdC (.int 0))) (rdNil))))) (sq (sSetI 0 (rdC (.int 2)) (op2 modO (calF int1O (rdCons (op2 addO (op2 mulO (ixA 0 (rdC (.int 2))) (rdC (.int 48271))) (rdC (.int 11))) (rdNil))) (rdC (.int 2147483647))))
  (sRet (op2 modO (calF int1O (rdCons (op2 divO (ixA 0 (rdC (.int 2))) (rdC (.int 7))) (rdNil))) (rdA 1)))) (skip))
  (sq (sSet 2 (asT (op2 ixO (ixA 0 (rdC (.int 0))) (op2 subO (ixA 0 (rdC (.int 1))) (rdC (.int 1))))))
  (sq (sSetI 0 (rdC (.int 2)) (op2 modO (calF int1O (rdCons (op2 addO (op2 addO (op2 mulO (ixA 0 (rdC (.int 2))) (rdC (.int 48271))) (rdA 2)) (rdC (.int 11))) (rdNil))) (rdC (.int 2147483647))))
  (sq (sIf (tst (op2 geO (rdA 2) (op2 powO (rdC (.int 10)) (rdC (.int 18))))) (sSetI 0 (rdC (.int 3)) (op2 divO (rdA 2) (rdA 1))) (skip))
  (sRet (op2 modO (calF int1O (rdCons (rdA 2) (rdNil))) (rdA 1))))))))) s
def lw.F__law_taken : SgM := fnM 4 2 lw.R__law_taken
-- _law_told: 0:_law_lines 1:_law_line
def lw.L__law_told_1 (s : FL.Env) : Res T :=
  (calF tuple1O (rdCons (rdA 1) (rdNil))) s
def lw.R__law_told (s : FL.Env) : Res Fl :=
  (sRet (calF tuple1O (rdCons (frzM (lcM [1] (iSeq (rdA 0)) (gN 1) (yes) (lw.L__law_told_1))) (rdNil)))) s
def lw.F__law_told : Sg := fnF 2 1 lw.R__law_told
-- signed: 0:row 1:heads 2:entry
def minors.Q_signed_1 (s : FL.Env) : Res Bool :=
  (tst (op2 neO (rdA 2) (rdC (.int 0)))) s
def minors.L_signed_1 (s : FL.Env) : Res T :=
  (rdA 2) s
def minors.L_signed_2 (s : FL.Env) : Res T :=
  (op1 negO (rdA 2)) s
def minors.R_signed (s : FL.Env) : Res Fl :=
  (sq (sSet 1 (asT (frzM (lcM [2] (iSeq (rdA 0)) (gN 2) (minors.Q_signed_1) (minors.L_signed_1)))))
  (sRet (ifE (andT (tst (op2 neO (rdA 1) (frzM (calO newL (rdNil))))) (tst (op2 ltO (ixA 1 (rdC (.int 0))) (rdC (.int 0))))) (frzM (lcM [2] (iSeq (rdA 0)) (gN 2) (yes) (minors.L_signed_2))) (frzM (calO list1 (rdCons (rdA 0) (rdNil))))))) s
def minors.F_signed : Sg := fnF 3 1 minors.R_signed
-- name_of: 0:at 1:letter 2:signs
def names.R_name_of (s : FL.Env) : Res Fl :=
  (sq (sPar 1 2 (xsCons (asT (op2 ixO (rdC (.str (PySem.Str.ofString "FCGDAEB"))) (op2 modO (op2 addO (rdA 0) (rdC (.int 1))) (rdC (.int 7))))) (xsCons (asT (op2 divO (op2 addO (rdA 0) (rdC (.int 1))) (rdC (.int 7)))) (xsNil))))
  (sRet (op2 addO (rdA 1) (ifE (tst (op2 geO (rdA 2) (rdC (.int 0)))) (op2 mulO (rdC (.str (PySem.Str.ofString "#"))) (rdA 2)) (op2 mulO (rdC (.str (PySem.Str.ofString "b"))) (op1 negO (rdA 2))))))) s
def names.F_name_of : Sg := fnF 3 1 names.R_name_of
-- exponents_of: 0:limit 1:number 2:found 3:prime 4:many
def neighbors.C_exponents_of_1 (s : FL.Env) : Res Bool :=
  (tst (op2 eqO (op2 modO (rdA 1) (rdA 3)) (rdC (.int 0)))) s
def neighbors.B_exponents_of_1 (s : FL.Env) : Res Fl :=
  (sPar 1 4 (xsCons (asT (op2 divO (rdA 1) (rdA 3))) (xsCons (asT (op2 addO (rdA 4) (rdC (.int 1)))) (xsNil)))) s
def neighbors.B_exponents_of_2 (s : FL.Env) : Res Fl :=
  (sq (sSet 4 (asT (rdC (.int 0))))
  (sq (whl (neighbors.C_exponents_of_1) (neighbors.B_exponents_of_1) 1000000)
  (sExpr (apnM 2 (rdA 4))))) s
def neighbors.R_exponents_of (s : FL.Env) : Res Fl :=
  (sq (sSet 2 (asO (calO newL (rdNil))))
  (sq (sFor (iSeq (rdA 0)) (gN 3) (neighbors.B_exponents_of_2))
  (sRet (ifE (tst (op2 eqO (rdA 1) (rdC (.int 1)))) (rdA 2) (rdC .non))))) s
def neighbors.F_exponents_of : Sg := fnF 5 2 neighbors.R_exponents_of
-- root: 0:number 1:low 2:high 3:middle
def neighbors.C_root_1 (s : FL.Env) : Res Bool :=
  (tst (op2 gtO (op2 subO (rdA 2) (rdA 1)) (rdC (.int 1)))) s
def neighbors.B_root_1 (s : FL.Env) : Res Fl :=
  (sq (sSet 3 (asT (op2 divO (op2 addO (rdA 1) (rdA 2)) (rdC (.int 2)))))
  (sIf (tst (op2 leO (op2 mulO (rdA 3) (rdA 3)) (rdA 0))) (sSet 1 (asT (rdA 3))) (sSet 2 (asT (rdA 3))))) s
def neighbors.R_root (s : FL.Env) : Res Fl :=
  (sq (sPar 1 2 (xsCons (asT (rdC (.int 0))) (xsCons (asT (op2 addO (rdA 0) (rdC (.int 1)))) (xsNil))))
  (sq (whl (neighbors.C_root_1) (neighbors.B_root_1) 1000000)
  (sRet (rdA 1)))) s
def neighbors.F_root : Sg := fnF 4 1 neighbors.R_root
-- octave_of: 0:limit
def ranges.R_octave_of (s : FL.Env) : Res Fl :=
  (sRet (op2 addO (calF tupO (rdCons (rdC (.int 1)) (rdNil))) (op2 mulO (calF tupO (rdCons (rdC (.int 0)) (rdNil))) (op2 subO (lenA 0) (rdC (.int 1)))))) s
def ranges.F_octave_of : Sg := fnF 1 1 ranges.R_octave_of
-- below: 0:one 1:other
def ratios.R_below (s : FL.Env) : Res Fl :=
  (sRet (op2 ltO (op2 mulO (ixA 0 (rdC (.int 0))) (ixA 1 (rdC (.int 1)))) (op2 mulO (ixA 1 (rdC (.int 0))) (ixA 0 (rdC (.int 1)))))) s
def ratios.F_below : Sg := fnF 2 2 ratios.R_below
-- floor: 0:one
def ratios.R_floor (s : FL.Env) : Res Fl :=
  (sRet (op2 divO (ixA 0 (rdC (.int 0))) (ixA 0 (rdC (.int 1))))) s
def ratios.F_floor : Sg := fnF 1 1 ratios.R_floor
-- first_of: 0:limit
def scales.R_first_of (s : FL.Env) : Res Fl :=
  (sRet (op2 addO (calF tupO (rdCons (rdC (.int 1)) (rdNil))) (op2 mulO (calF tupO (rdCons (rdC (.int 0)) (rdNil))) (op2 subO (lenA 0) (rdC (.int 1)))))) s
def scales.F_first_of : Sg := fnF 1 1 scales.R_first_of
-- note_at: 0:limit 1:scale 2:at 3:rounds 4:place
def scales.R_note_at (s : FL.Env) : Res Fl :=
  (sq (sPar 3 4 (xsCons (asT (op2 divO (rdA 2) (lenA 1))) (xsCons (asT (op2 modO (rdA 2) (lenA 1))) (xsNil))))
  (sRet (op2 addO (calF tupO (rdCons (op2 addO (op2 ixO (ixA 1 (rdA 4)) (rdC (.int 0))) (rdA 3)) (rdNil))) (slM (ixA 1 (rdA 4)) (poS (rdC (.int 1))) (poN))))) s
def scales.F_note_at : Sg := fnF 5 3 scales.R_note_at
-- ways: 0:many 1:notes 2:found 3:at
def sets.B_ways_1 (s : FL.Env) : Res Fl :=
  (sSet 2 (asT (op2 divO (op2 mulO (rdA 2) (op2 subO (rdA 0) (rdA 3))) (op2 addO (rdA 3) (rdC (.int 1)))))) s
def sets.R_ways (s : FL.Env) : Res Fl :=
  (sq (sSet 2 (asT (rdC (.int 1))))
  (sq (sFor (calI rg1 (rdCons (rdA 1) (rdNil))) (gN 3) (sets.B_ways_1))
  (sRet (rdA 2)))) s
def sets.F_ways : Sg := fnF 4 2 sets.R_ways
-- head_of: 0:row 1:entry
def temper.Q_head_of_1 (s : FL.Env) : Res Bool :=
  (tst (op2 neO (rdA 1) (rdC (.int 0)))) s
def temper.L_head_of_1 (s : FL.Env) : Res T :=
  (rdA 1) s
def temper.R_head_of (s : FL.Env) : Res Fl :=
  (sRet (op2 ixO (frzM (lcM [1] (iSeq (rdA 0)) (gN 1) (temper.Q_head_of_1) (temper.L_head_of_1))) (rdC (.int 0)))) s
def temper.F_head_of : Sg := fnF 2 1 temper.R_head_of
-- steps_of: 0:maps 1:interval 2:row 3:left 4:right
def temper.L_steps_of_1 (s : FL.Env) : Res T :=
  (op2 mulO (rdA 3) (rdA 4)) s
def temper.L_steps_of_2 (s : FL.Env) : Res T :=
  (calF sum1O (rdCons (frzM (lcM [3, 4] (calI zip2 (rdCons (rdA 2) (rdCons (rdA 1) (rdNil)))) (gT (gsCons (gN 3) (gsCons (gN 4) (gsNil)))) (yes) (temper.L_steps_of_1))) (rdNil))) s
def temper.R_steps_of (s : FL.Env) : Res Fl :=
  (sRet (calF tuple1O (rdCons (frzM (lcM [2] (iSeq (rdA 0)) (gN 2) (yes) (temper.L_steps_of_2))) (rdNil)))) s
def temper.F_steps_of : Sg := fnF 5 2 temper.R_steps_of
-- _wall: 0:k
def tp.C__wall_1 (s : FL.Env) : Res Bool :=
  (truth (rdC (.bl true))) s
def tp.B__wall_1 (s : FL.Env) : Res Fl :=
  (skip) s
def tp.R__wall (s : FL.Env) : Res Fl :=
  (whl (tp.C__wall_1) (tp.B__wall_1) 1000000) s
def tp.F__wall : Sg := fnF 1 1 tp.R__wall
-- move_of: 0:many 1:third 2:fifth 3:told 4:move 5:step 6:root 7:is_upright
def triads.R_move_of (s : FL.Env) : Res Fl :=
  (sq (sAsg (gT (gsCons (gN 6) (gsCons (gN 7) (gsNil)))) (rdA 3))
  (sq (sIf (tst (op2 eqO (rdA 4) (rdC (.str (PySem.Str.ofString "P"))))) (sRet (calF tupO (rdCons (rdA 6) (rdCons (notV (rdA 7)) (rdNil))))) (skip))
  (sq (sSet 5 (asT (ifE (tst (op2 eqO (rdA 4) (rdC (.str (PySem.Str.ofString "L"))))) (rdA 1) (op2 subO (rdA 1) (rdA 2)))))
  (sRet (calF tupO (rdCons (ifE (truth (rdA 7)) (op2 modO (op2 addO (rdA 6) (rdA 5)) (rdA 0)) (op2 modO (op2 subO (rdA 6) (rdA 5)) (rdA 0))) (rdCons (notV (rdA 7)) (rdNil)))))))) s
def triads.F_move_of : Sg := fnF 8 5 triads.R_move_of
-- notes_of: 0:many 1:third 2:fifth 3:told 4:middle
def triads.R_notes_of (s : FL.Env) : Res Fl :=
  (sq (sSet 4 (asT (ifE (truth (ixA 3 (rdC (.int 1)))) (rdA 1) (op2 subO (rdA 2) (rdA 1)))))
  (sRet (calF tupO (rdCons (ixA 3 (rdC (.int 0))) (rdCons (op2 modO (op2 addO (ixA 3 (rdC (.int 0))) (rdA 4)) (rdA 0)) (rdCons (op2 modO (op2 addO (ixA 3 (rdC (.int 0))) (rdA 2)) (rdA 0)) (rdNil))))))) s
def triads.F_notes_of : Sg := fnF 5 4 triads.R_notes_of
-- fractions_to: 0:above 1:low 2:left 3:right 4:found 5:middle
def words.C_fractions_to_1 (s : FL.Env) : Res Bool :=
  (truth (rdC (.bl true))) s
def words.B_fractions_to_1 (s : FL.Env) : Res Fl :=
  (sq (sSet 5 (asT (calF tupO (rdCons (op2 addO (ixA 2 (rdC (.int 0))) (ixA 3 (rdC (.int 0)))) (rdCons (op2 addO (ixA 2 (rdC (.int 1))) (ixA 3 (rdC (.int 1)))) (rdNil))))))
  (sq (sIf (tst (op2 gtO (ixA 5 (rdC (.int 1))) (rdA 1))) (sRet (rdA 4)) (skip))
  (sq (sExpr (apnM 4 (ixA 5 (rdC (.int 1)))))
  (sq (sIf (tst (op2 eqO (op2 mulO (ixA 5 (rdC (.int 0))) (rdA 1)) (op2 mulO (rdA 0) (ixA 5 (rdC (.int 1)))))) (sRet (rdA 4)) (skip))
  (sIf (tst (op2 ltO (op2 mulO (ixA 5 (rdC (.int 0))) (rdA 1)) (op2 mulO (rdA 0) (ixA 5 (rdC (.int 1)))))) (sSet 2 (asT (rdA 5))) (sSet 3 (asT (rdA 5)))))))) s
def words.R_fractions_to (s : FL.Env) : Res Fl :=
  (sq (sPar3 2 3 4 (xsCons (asT (calF tupO (rdCons (rdC (.int 0)) (rdCons (rdC (.int 1)) (rdNil))))) (xsCons (asT (calF tupO (rdCons (rdC (.int 1)) (rdCons (rdC (.int 0)) (rdNil))))) (xsCons (asO (calO newL (rdCons (rdC (.int 1)) (rdNil)))) (xsNil)))))
  (whl (words.C_fractions_to_1) (words.B_fractions_to_1) 1000000)) s
def words.F_fractions_to : Sg := fnF 6 2 words.R_fractions_to
-- in_order: 0:pairs 1:found 2:pair 3:at
def chains.C_in_order_1 (s : FL.Env) : Res Bool :=
  (andT (tst (op2 gtO (rdA 3) (rdC (.int 0)))) (truth (calU ratios.F_below (rdCons (ixA 2 (rdC (.int 0))) (rdCons (op2 ixO (ixA 1 (op2 subO (rdA 3) (rdC (.int 1)))) (rdC (.int 0))) (rdNil)))))) s
def chains.B_in_order_1 (s : FL.Env) : Res Fl :=
  (sAug 3 (intO fun i j => .int (i - j)) (rdC (.int 1))) s
def chains.B_in_order_2 (s : FL.Env) : Res Fl :=
  (sq (sSet 3 (asT (lenA 1)))
  (sq (whl (chains.C_in_order_1) (chains.B_in_order_1) 1000000)
  (sExpr (insM 1 (rdCons (rdA 3) (rdCons (rdA 2) (rdNil))))))) s
def chains.R_in_order (s : FL.Env) : Res Fl :=
  (sq (sSet 1 (asO (calO newL (rdNil))))
  (sq (sFor (iSeq (rdA 0)) (gN 2) (chains.B_in_order_2))
  (sRet (rdA 1)))) s
def chains.F_in_order : Sg := fnF 4 1 chains.R_in_order
-- narrower: 0:one 1:other
def chains.R_narrower (s : FL.Env) : Res Fl :=
  (sRet (ifE (truth (calU ratios.F_below (rdCons (rdA 1) (rdCons (rdA 0) (rdNil))))) (rdA 1) (rdA 0))) s
def chains.F_narrower : Sg := fnF 2 2 chains.R_narrower
-- wider: 0:one 1:other
def chains.R_wider (s : FL.Env) : Res Fl :=
  (sRet (ifE (truth (calU ratios.F_below (rdCons (rdA 0) (rdCons (rdA 1) (rdNil))))) (rdA 1) (rdA 0))) s
def chains.F_wider : Sg := fnF 2 2 chains.R_wider
-- is_above: 0:limit 1:first 2:one 3:second 4:other
def equal.R_is_above (s : FL.Env) : Res Fl :=
  (sRet (ifE (tst (op2 gtO (op2 subO (op2 mulO (rdC (.int 2)) (rdA 2)) (rdC (.int 1))) (rdC (.int 0)))) (op2 gtO (calU limits.F_power (rdCons (rdA 3) (rdCons (op2 subO (op2 mulO (rdC (.int 2)) (rdA 2)) (rdC (.int 1))) (rdNil)))) (calU limits.F_power (rdCons (rdA 1) (rdCons (op2 addO (op2 mulO (rdC (.int 2)) (rdA 4)) (rdC (.int 1))) (rdNil))))) (rdC (.bl false)))) s
def equal.F_is_above : Sg := fnF 5 5 equal.R_is_above
-- nearest_entry: 0:limit 1:steps 2:prime 3:goal 4:low 5:high 6:middle
def equal.C_nearest_entry_1 (s : FL.Env) : Res Bool :=
  (tst (op2 ltO (rdA 4) (rdA 5))) s
def equal.B_nearest_entry_1 (s : FL.Env) : Res Fl :=
  (sq (sSet 6 (asT (op2 divO (op2 addO (rdA 4) (rdA 5)) (rdC (.int 2)))))
  (sIf (tst (op2 gtO (calU limits.F_power (rdCons (ixA 0 (rdC (.int 0))) (rdCons (op2 addO (op2 mulO (rdC (.int 2)) (rdA 6)) (rdC (.int 1))) (rdNil)))) (rdA 3))) (sSet 5 (asT (rdA 6))) (sSet 4 (asT (op2 addO (rdA 6) (rdC (.int 1))))))) s
def equal.R_nearest_entry (s : FL.Env) : Res Fl :=
  (sq (sPar3 3 4 5 (xsCons (asT (calU limits.F_power (rdCons (rdA 2) (rdCons (op2 mulO (rdC (.int 2)) (rdA 1)) (rdNil))))) (xsCons (asT (rdC (.int 0))) (xsCons (asT (op2 addO (op2 mulO (rdC (.int 6)) (rdA 1)) (rdC (.int 1)))) (xsNil)))))
  (sq (whl (equal.C_nearest_entry_1) (equal.B_nearest_entry_1) 1000000)
  (sRet (rdA 4)))) s
def equal.F_nearest_entry : Sg := fnF 7 3 equal.R_nearest_entry
-- next_place: 0:limit 1:told 2:best 3:at
def equal.B_next_place_1 (s : FL.Env) : Res Fl :=
  (sIf (tst (op2 ltO (calU limits.F_power (rdCons (ixA 0 (rdA 2)) (rdCons (op2 addO (op2 mulO (rdC (.int 2)) (ixA 1 (rdA 3))) (rdC (.int 1))) (rdNil)))) (calU limits.F_power (rdCons (ixA 0 (rdA 3)) (rdCons (op2 addO (op2 mulO (rdC (.int 2)) (ixA 1 (rdA 2))) (rdC (.int 1))) (rdNil)))))) (sSet 2 (asT (rdA 3))) (skip)) s
def equal.R_next_place (s : FL.Env) : Res Fl :=
  (sq (sSet 2 (asT (rdC (.int 0))))
  (sq (sFor (calI rg2 (rdCons (rdC (.int 1)) (rdCons (lenA 0) (rdNil)))) (gN 3) (equal.B_next_place_1))
  (sRet (rdA 2)))) s
def equal.F_next_place : Sg := fnF 4 2 equal.R_next_place
-- divided: 0:row 1:shared 2:entry
def lattices.B_divided_1 (s : FL.Env) : Res Fl :=
  (sSet 1 (asT (calU limits.F_common (rdCons (rdA 1) (rdCons (rdA 2) (rdNil)))))) s
def lattices.L_divided_1 (s : FL.Env) : Res T :=
  (op2 divO (rdA 2) (rdA 1)) s
def lattices.R_divided (s : FL.Env) : Res Fl :=
  (sq (sSet 1 (asT (rdC (.int 0))))
  (sq (sFor (iSeq (rdA 0)) (gN 2) (lattices.B_divided_1))
  (sRet (ifE (tst (op2 gtO (rdA 1) (rdC (.int 0)))) (frzM (lcM [2] (iSeq (rdA 0)) (gN 2) (yes) (lattices.L_divided_1))) (frzM (calO list1 (rdCons (rdA 0) (rdNil)))))))) s
def lattices.F_divided : Sg := fnF 3 1 lattices.R_divided
-- unfit: 0:told 1:left 2:at 3:row 4:entry
def lattices.L_unfit_1 (s : FL.Env) : Res T :=
  (op2 neO (op2 modO (rdA 4) (op2 ixO (ixA 0 (rdA 2)) (rdA 2))) (rdC (.int 0))) s
def lattices.B_unfit_1 (s : FL.Env) : Res Fl :=
  (sIf (truth (calF any1O (rdCons (frzM (lcM [4] (iSeq (slM (ixA 0 (rdA 3)) (poS (op2 addO (rdA 2) (rdC (.int 1)))) (poN))) (gN 4) (yes) (lattices.L_unfit_1))) (rdNil)))) (sq (sSetI 0 (rdA 2) (calU lattices.F_less (rdCons (ixA 0 (rdA 2)) (rdCons (ixA 0 (rdA 3)) (rdCons (op1 negO (rdC (.int 1))) (rdNil))))))
  (sq (sSetI 1 (rdA 2) (calU lattices.F_less (rdCons (ixA 1 (rdA 2)) (rdCons (ixA 1 (rdA 3)) (rdCons (op1 negO (rdC (.int 1))) (rdNil))))))
  (sRet (rdC (.bl true))))) (skip)) s
def lattices.R_unfit (s : FL.Env) : Res Fl :=
  (sq (sFor (calI rg2 (rdCons (op2 addO (rdA 2) (rdC (.int 1))) (rdCons (lenA 0) (rdNil)))) (gN 3) (lattices.B_unfit_1))
  (sRet (rdC (.bl false)))) s
def lattices.F_unfit : SgM := fnM 5 3 lattices.R_unfit
-- is_in: 0:value 1:least 2:most
def limits.R_is_in (s : FL.Env) : Res Fl :=
  (sRet (andV (calU limits.F_is_int (rdCons (rdA 0) (rdNil))) (chn leO leO (rdA 1) (rdA 0) (rdA 2)))) s
def limits.F_is_in : Sg := fnF 3 3 limits.R_is_in
-- ratio_of: 0:limit 1:interval 2:above 3:low 4:prime 5:entry
def limits.B_ratio_of_1 (s : FL.Env) : Res Fl :=
  (sIf (tst (op2 gtO (rdA 5) (rdC (.int 0)))) (sSet 2 (asT (op2 mulO (rdA 2) (calU limits.F_power (rdCons (rdA 4) (rdCons (rdA 5) (rdNil))))))) (sSet 3 (asT (op2 mulO (rdA 3) (calU limits.F_power (rdCons (rdA 4) (rdCons (op1 negO (rdA 5)) (rdNil)))))))) s
def limits.R_ratio_of (s : FL.Env) : Res Fl :=
  (sq (sAsg (gT (gsCons (gN 2) (gsCons (gN 3) (gsNil)))) (calF tupO (rdCons (rdC (.int 1)) (rdCons (rdC (.int 1)) (rdNil)))))
  (sq (sFor (calI zip2 (rdCons (rdA 0) (rdCons (rdA 1) (rdNil)))) (gT (gsCons (gN 4) (gsCons (gN 5) (gsNil)))) (limits.B_ratio_of_1))
  (sRet (calF tupO (rdCons (rdA 2) (rdCons (rdA 3) (rdNil))))))) s
def limits.F_ratio_of : Sg := fnF 6 2 limits.R_ratio_of
-- most_entries: 0:limit 1:height 2:found 3:prime 4:many
def lists.C_most_entries_1 (s : FL.Env) : Res Bool :=
  (tst (op2 leO (calU limits.F_power (rdCons (rdA 3) (rdCons (op2 addO (rdA 4) (rdC (.int 1))) (rdNil)))) (rdA 1))) s
def lists.B_most_entries_1 (s : FL.Env) : Res Fl :=
  (sAug 4 (intO fun i j => .int (i + j)) (rdC (.int 1))) s
def lists.B_most_entries_2 (s : FL.Env) : Res Fl :=
  (sq (sSet 4 (asT (rdC (.int 0))))
  (sq (whl (lists.C_most_entries_1) (lists.B_most_entries_1) 1000000)
  (sExpr (apnM 2 (rdA 4))))) s
def lists.R_most_entries (s : FL.Env) : Res Fl :=
  (sq (sSet 2 (asO (calO newL (rdNil))))
  (sq (sFor (iSeq (rdA 0)) (gN 3) (lists.B_most_entries_2))
  (sRet (rdA 2)))) s
def lists.F_most_entries : Sg := fnF 5 2 lists.R_most_entries
-- sums_within: 0:rows 1:most 2:wide 3:found 4:row 5:told 6:at 7:longer 8:low 9:high 10:factor 11:left 12:right
def lists.L_sums_within_1 (s : FL.Env) : Res T :=
  (op2 addO (rdA 11) (op2 mulO (rdA 10) (rdA 12))) s
def lists.B_sums_within_1 (s : FL.Env) : Res Fl :=
  (sExpr (apnM 7 (frzM (lcM [11, 12] (calI zip2 (rdCons (rdA 5) (rdCons (rdA 4) (rdNil)))) (gT (gsCons (gN 11) (gsCons (gN 12) (gsNil)))) (yes) (lists.L_sums_within_1))))) s
def lists.B_sums_within_2 (s : FL.Env) : Res Fl :=
  (sq (sSet 8 (asT (op1 negO (op2 divO (op2 addO (ixA 1 (rdA 6)) (ixA 5 (rdA 6))) (ixA 4 (rdA 6))))))
  (sq (sSet 9 (asT (op2 divO (op2 subO (ixA 1 (rdA 6)) (ixA 5 (rdA 6))) (ixA 4 (rdA 6)))))
  (sFor (calI rg2 (rdCons (rdA 8) (rdCons (op2 addO (rdA 9) (rdC (.int 1))) (rdNil)))) (gN 10) (lists.B_sums_within_1)))) s
def lists.B_sums_within_3 (s : FL.Env) : Res Fl :=
  (sq (sPar 6 7 (xsCons (asT (calU lists.F_head_place (rdCons (rdA 4) (rdNil)))) (xsCons (asO (calO newL (rdNil))) (xsNil))))
  (sq (sFor (iSeq (rdA 3)) (gN 5) (lists.B_sums_within_2))
  (sSet 3 (asT (rdA 7))))) s
def lists.R_sums_within (s : FL.Env) : Res Fl :=
  (sq (sSet 3 (asT (frzM (calO newL (rdCons (op2 mulO (frzM (calO newL (rdCons (rdC (.int 0)) (rdNil)))) (rdA 2)) (rdNil))))))
  (sq (sFor (iSeq (rdA 0)) (gN 4) (lists.B_sums_within_3))
  (sRet (rdA 3)))) s
def lists.F_sums_within : Sg := fnF 13 3 lists.R_sums_within
-- _law_interval: 0:_law_row 1:_law_limit_here 2:_law_most 3:_law_prime
def lw.L__law_interval_1 (s : FL.Env) : Res T :=
  (op2 subO (calM lw.F__law_taken 0 (rdCons (op2 addO (op2 mulO (rdC (.int 2)) (rdA 2)) (rdC (.int 1))) (rdNil))) (rdA 2)) s
def lw.R__law_interval (s : FL.Env) : Res Fl :=
  (sRet (calF tuple1O (rdCons (frzM (lcM [3] (iSeq (rdA 1)) (gN 3) (yes) (lw.L__law_interval_1))) (rdNil)))) s
def lw.F__law_interval : SgM := fnM 4 3 lw.R__law_interval
-- _law_is_ratio: 0:_law_value
def lw.R__law_is_ratio (s : FL.Env) : Res Fl :=
  (sq (sIf (orT (notT (truth (op1 (isiO .tup) (rdA 0)))) (orT (tst (op2 neO (lenA 0) (rdC (.int 2)))) (notT (truth (calU lw.F__law_ints (rdCons (rdA 0) (rdNil))))))) (sRet (rdC (.bl false))) (skip))
  (sRet (andV (op2 gtO (ixA 0 (rdC (.int 1))) (rdC (.int 0))) (op2 eqO (calU lw.F__law_common (rdCons (ixA 0 (rdC (.int 0))) (rdCons (ixA 0 (rdC (.int 1))) (rdNil)))) (rdC (.int 1)))))) s
def lw.F__law_is_ratio : Sg := fnF 1 1 lw.R__law_is_ratio
-- _law_is_sum: 0:_law_lines 1:_law_goal 2:_law_line 3:_law_at 4:_law_entry 5:_law_place
def lw.Q__law_is_sum_1 (s : FL.Env) : Res Bool :=
  (tst (op2 neO (ixA 2 (rdA 5)) (rdC (.int 0)))) s
def lw.L__law_is_sum_1 (s : FL.Env) : Res T :=
  (rdA 5) s
def lw.B__law_is_sum_1 (s : FL.Env) : Res Fl :=
  (sq (sSet 3 (asT (op2 ixO (frzM (lcM [5] (calI rg1 (rdCons (lenA 2) (rdNil))) (gN 5) (lw.Q__law_is_sum_1) (lw.L__law_is_sum_1))) (rdC (.int 0)))))
  (sq (sIf (tst (op2 neO (op2 modO (ixA 1 (rdA 3)) (ixA 2 (rdA 3))) (rdC (.int 0)))) (sRet (rdC (.bl false))) (skip))
  (sSet 1 (asT (calU lw.F__law_less (rdCons (rdA 1) (rdCons (rdA 2) (rdCons (op2 divO (ixA 1 (rdA 3)) (ixA 2 (rdA 3))) (rdNil))))))))) s
def lw.Q__law_is_sum_2 (s : FL.Env) : Res Bool :=
  (tst (op2 neO (rdA 4) (rdC (.int 0)))) s
def lw.L__law_is_sum_2 (s : FL.Env) : Res T :=
  (rdA 4) s
def lw.R__law_is_sum (s : FL.Env) : Res Fl :=
  (sq (sSet 1 (asT (frzM (calO list1 (rdCons (rdA 1) (rdNil))))))
  (sq (sFor (iSeq (rdA 0)) (gN 2) (lw.B__law_is_sum_1))
  (sRet (op2 eqO (frzM (lcM [4] (iSeq (rdA 1)) (gN 4) (lw.Q__law_is_sum_2) (lw.L__law_is_sum_2))) (frzM (calO newL (rdNil))))))) s
def lw.F__law_is_sum : Sg := fnF 6 2 lw.R__law_is_sum
-- _law_lowered: 0:_law_above 1:_law_low 2:_law_shared
def lw.R__law_lowered (s : FL.Env) : Res Fl :=
  (sq (sSet 2 (asT (calU lw.F__law_common (rdCons (rdA 0) (rdCons (rdA 1) (rdNil))))))
  (sRet (calF tupO (rdCons (op2 divO (rdA 0) (rdA 2)) (rdCons (op2 divO (rdA 1) (rdA 2)) (rdNil)))))) s
def lw.F__law_lowered : Sg := fnF 3 2 lw.R__law_lowered
-- _law_pick: 0:_law_row 1:_law_things
def lw.R__law_pick (s : FL.Env) : Res Fl :=
  (sRet (ixA 1 (calM lw.F__law_taken 0 (rdCons (lenA 1) (rdNil))))) s
def lw.F__law_pick : SgM := fnM 2 2 lw.R__law_pick
-- _law_quotient: 0:_law_limit_here 1:_law_interval_here 2:_law_at 3:_law_above 4:_law_low
def lw.B__law_quotient_1 (s : FL.Env) : Res Fl :=
  (sIf (tst (op2 gtO (ixA 1 (rdA 2)) (rdC (.int 0)))) (sSet 3 (asT (op2 mulO (rdA 3) (calU lw.F__law_power (rdCons (ixA 0 (rdA 2)) (rdCons (ixA 1 (rdA 2)) (rdNil))))))) (sSet 4 (asT (op2 mulO (rdA 4) (calU lw.F__law_power (rdCons (ixA 0 (rdA 2)) (rdCons (op2 subO (rdC (.int 0)) (ixA 1 (rdA 2))) (rdNil)))))))) s
def lw.R__law_quotient (s : FL.Env) : Res Fl :=
  (sq (sAsg (gT (gsCons (gN 3) (gsCons (gN 4) (gsNil)))) (calF tupO (rdCons (rdC (.int 1)) (rdCons (rdC (.int 1)) (rdNil)))))
  (sq (sFor (calI rg1 (rdCons (lenA 0) (rdNil))) (gN 2) (lw.B__law_quotient_1))
  (sRet (calF tupO (rdCons (rdA 3) (rdCons (rdA 4) (rdNil))))))) s
def lw.F__law_quotient : Sg := fnF 5 2 lw.R__law_quotient
-- _law_rows: 0:_law_row 1:_law_high 2:_law_wide 3:_law_most 4:_law_line 5:_law_at
def lw.L__law_rows_1 (s : FL.Env) : Res T :=
  (op2 subO (calM lw.F__law_taken 0 (rdCons (op2 addO (op2 mulO (rdC (.int 2)) (rdA 3)) (rdC (.int 1))) (rdNil))) (rdA 3)) s
def lw.L__law_rows_2 (s : FL.Env) : Res T :=
  (calF tuple1O (rdCons (frzM (lcM [5] (calI rg1 (rdCons (rdA 2) (rdNil))) (gN 5) (yes) (lw.L__law_rows_1))) (rdNil))) s
def lw.R__law_rows (s : FL.Env) : Res Fl :=
  (sRet (calF tuple1O (rdCons (frzM (lcM [4] (calI rg1 (rdCons (rdA 1) (rdNil))) (gN 4) (yes) (lw.L__law_rows_2))) (rdNil)))) s
def lw.F__law_rows : SgM := fnM 6 4 lw.R__law_rows
-- _law_set: 0:_law_row 1:_law_many 2:_law_note
def lw.Q__law_set_1 (s : FL.Env) : Res Bool :=
  (tst (op2 eqO (calM lw.F__law_taken 0 (rdCons (rdC (.int 3)) (rdNil))) (rdC (.int 0)))) s
def lw.L__law_set_1 (s : FL.Env) : Res T :=
  (rdA 2) s
def lw.R__law_set (s : FL.Env) : Res Fl :=
  (sRet (calF tuple1O (rdCons (frzM (lcM [2] (calI rg1 (rdCons (rdA 1) (rdNil))) (gN 2) (lw.Q__law_set_1) (lw.L__law_set_1))) (rdNil)))) s
def lw.F__law_set : SgM := fnM 3 2 lw.R__law_set
-- _law_steps: 0:_law_maps 1:_law_interval_here 2:_law_line
def lw.L__law_steps_1 (s : FL.Env) : Res T :=
  (calU lw.F__law_dot (rdCons (rdA 2) (rdCons (rdA 1) (rdNil)))) s
def lw.R__law_steps (s : FL.Env) : Res Fl :=
  (sRet (calF tuple1O (rdCons (frzM (lcM [2] (iSeq (rdA 0)) (gN 2) (yes) (lw.L__law_steps_1))) (rdNil)))) s
def lw.F__law_steps : Sg := fnF 3 2 lw.R__law_steps
-- _law_triads: 0:_law_row 1:_law_turn 2:_law_many 3:_law_third 4:_law_fifth
def lw.B__law_triads_1 (s : FL.Env) : Res Fl :=
  (sq (sSet 2 (asT (op2 addO (rdC (.int 3)) (calM lw.F__law_taken 0 (rdCons (rdC (.int 30)) (rdNil))))))
  (sq (sSet 3 (asT (op2 addO (rdC (.int 1)) (calM lw.F__law_taken 0 (rdCons (op2 subO (rdA 2) (rdC (.int 2))) (rdNil))))))
  (sq (sSet 4 (asT (op2 addO (op2 addO (rdA 3) (rdC (.int 1))) (calM lw.F__law_taken 0 (rdCons (op2 subO (op2 subO (rdA 2) (rdC (.int 1))) (rdA 3)) (rdNil))))))
  (sIf (andT (tst (op2 neO (op2 modO (op2 mulO (rdC (.int 2)) (rdA 3)) (rdA 2)) (rdA 4))) (andT (tst (op2 neO (op2 modO (op2 mulO (rdC (.int 2)) (rdA 4)) (rdA 2)) (rdA 3))) (tst (op2 neO (op2 modO (op2 addO (rdA 3) (rdA 4)) (rdA 2)) (rdC (.int 0)))))) (sRet (calF tupO (rdCons (rdA 2) (rdCons (rdA 3) (rdCons (rdA 4) (rdNil)))))) (skip))))) s
def lw.R__law_triads (s : FL.Env) : Res Fl :=
  (sq (sFor (calI rg1 (rdCons (rdC (.int 50)) (rdNil))) (gN 1) (lw.B__law_triads_1))
  (sRet (calF tupO (rdCons (rdC (.int 12)) (rdCons (rdC (.int 4)) (rdCons (rdC (.int 7)) (rdNil))))))) s
def lw.F__law_triads : SgM := fnM 5 1 lw.R__law_triads
-- first_pair: 0:number 1:base 2:part 3:low 4:term 5:one 6:before 7:other 8:ahead
def neighbors.C_first_pair_1 (s : FL.Env) : Res Bool :=
  (tst (op2 neO (op2 subO (op2 mulO (rdA 5) (rdA 5)) (op2 mulO (op2 mulO (rdA 0) (rdA 7)) (rdA 7))) (rdC (.int 1)))) s
def neighbors.B_first_pair_1 (s : FL.Env) : Res Fl :=
  (sq (sSet 2 (asT (op2 subO (op2 mulO (rdA 4) (rdA 3)) (rdA 2))))
  (sq (sSet 3 (asT (op2 divO (op2 subO (rdA 0) (op2 mulO (rdA 2) (rdA 2))) (rdA 3))))
  (sq (sSet 4 (asT (op2 divO (op2 addO (rdA 1) (rdA 2)) (rdA 3))))
  (sq (sPar 5 6 (xsCons (asT (op2 addO (op2 mulO (rdA 4) (rdA 5)) (rdA 6))) (xsCons (asT (rdA 5)) (xsNil))))
  (sPar 7 8 (xsCons (asT (op2 addO (op2 mulO (rdA 4) (rdA 7)) (rdA 8))) (xsCons (asT (rdA 7)) (xsNil)))))))) s
def neighbors.R_first_pair (s : FL.Env) : Res Fl :=
  (sq (sSet 1 (asT (calU neighbors.F_root (rdCons (rdA 0) (rdNil)))))
  (sq (sPar3 2 3 4 (xsCons (asT (rdC (.int 0))) (xsCons (asT (rdC (.int 1))) (xsCons (asT (rdA 1)) (xsNil)))))
  (sq (sAsg (gT (gsCons (gN 5) (gsCons (gN 6) (gsCons (gN 7) (gsCons (gN 8) (gsNil)))))) (calF tupO (rdCons (rdA 1) (rdCons (rdC (.int 1)) (rdCons (rdC (.int 1)) (rdCons (rdC (.int 0)) (rdNil)))))))
  (sq (whl (neighbors.C_first_pair_1) (neighbors.B_first_pair_1) 1000000)
  (sRet (calF tupO (rdCons (rdA 5) (rdCons (rdA 7) (rdNil))))))))) s
def neighbors.F_first_pair : Sg := fnF 9 1 neighbors.R_first_pair
-- sign_of_parts: 0:limit 1:value 2:low 3:one 4:above 5:below 6:prime 7:entry
def projections.B_sign_of_parts_1 (s : FL.Env) : Res Fl :=
  (sSet 2 (asT (op2 divO (op2 mulO (rdA 2) (ixA 3 (rdC (.int 1)))) (calU limits.F_common (rdCons (rdA 2) (rdCons (ixA 3 (rdC (.int 1))) (rdNil))))))) s
def projections.B_sign_of_parts_2 (s : FL.Env) : Res Fl :=
  (sq (sSet 7 (asT (op2 mulO (ixA 3 (rdC (.int 0))) (op2 divO (rdA 2) (ixA 3 (rdC (.int 1)))))))
  (sIf (tst (op2 gtO (rdA 7) (rdC (.int 0)))) (sSet 4 (asT (op2 mulO (rdA 4) (calU limits.F_power (rdCons (rdA 6) (rdCons (rdA 7) (rdNil))))))) (sSet 5 (asT (op2 mulO (rdA 5) (calU limits.F_power (rdCons (rdA 6) (rdCons (op1 negO (rdA 7)) (rdNil))))))))) s
def projections.R_sign_of_parts (s : FL.Env) : Res Fl :=
  (sq (sSet 2 (asT (rdC (.int 1))))
  (sq (sFor (iSeq (rdA 1)) (gN 3) (projections.B_sign_of_parts_1))
  (sq (sAsg (gT (gsCons (gN 4) (gsCons (gN 5) (gsNil)))) (calF tupO (rdCons (rdC (.int 1)) (rdCons (rdC (.int 1)) (rdNil)))))
  (sq (sFor (calI zip2 (rdCons (rdA 0) (rdCons (rdA 1) (rdNil)))) (gT (gsCons (gN 6) (gsCons (gN 3) (gsNil)))) (projections.B_sign_of_parts_2))
  (sRet (op2 subO (op2 gtO (rdA 4) (rdA 5)) (op2 ltO (rdA 4) (rdA 5)))))))) s
def projections.F_sign_of_parts : Sg := fnF 8 2 projections.R_sign_of_parts
-- steps_between: 0:limit 1:intervals 2:at
def ranges.L_steps_between_1 (s : FL.Env) : Res T :=
  (calU limits.F_minus (rdCons (ixA 1 (rdA 2)) (rdCons (ixA 1 (op2 subO (rdA 2) (rdC (.int 1)))) (rdNil)))) s
def ranges.R_steps_between (s : FL.Env) : Res Fl :=
  (sRet (frzM (lcM [2] (calI rg2 (rdCons (rdC (.int 1)) (rdCons (lenA 1) (rdNil)))) (gN 2) (yes) (ranges.L_steps_between_1)))) s
def ranges.F_steps_between : Sg := fnF 3 2 ranges.R_steps_between
-- is_ratio: 0:value
def ratios.R_is_ratio (s : FL.Env) : Res Fl :=
  (sq (sIf (orT (notT (truth (op1 (isiO .tup) (rdA 0)))) (orT (tst (op2 neO (lenA 0) (rdC (.int 2)))) (orT (notT (truth (calU limits.F_is_int (rdCons (ixA 0 (rdC (.int 0))) (rdNil))))) (notT (truth (calU limits.F_is_int (rdCons (ixA 0 (rdC (.int 1))) (rdNil)))))))) (sRet (rdC (.bl false))) (skip))
  (sRet (andV (op2 gtO (ixA 0 (rdC (.int 1))) (rdC (.int 0))) (op2 eqO (calU limits.F_common (rdCons (ixA 0 (rdC (.int 0))) (rdCons (ixA 0 (rdC (.int 1))) (rdNil)))) (rdC (.int 1)))))) s
def ratios.F_is_ratio : Sg := fnF 1 1 ratios.R_is_ratio
-- lowered: 0:above 1:low 2:shared 3:sign
def ratios.R_lowered (s : FL.Env) : Res Fl :=
  (sq (sSet 2 (asT (calU limits.F_common (rdCons (rdA 0) (rdCons (rdA 1) (rdNil))))))
  (sq (sSet 3 (asT (ifE (tst (op2 gtO (rdA 1) (rdC (.int 0)))) (rdC (.int 1)) (op1 negO (rdC (.int 1))))))
  (sRet (calF tupO (rdCons (op2 divO (op2 mulO (rdA 3) (rdA 0)) (rdA 2)) (rdCons (op2 divO (op2 mulO (rdA 3) (rdA 1)) (rdA 2)) (rdNil))))))) s
def ratios.F_lowered : Sg := fnF 4 2 ratios.R_lowered
-- spans_of: 0:limit 1:scale 2:size 3:at
def scales.L_spans_of_1 (s : FL.Env) : Res T :=
  (calU limits.F_minus (rdCons (calU scales.F_note_at (rdCons (rdA 0) (rdCons (rdA 1) (rdCons (op2 addO (rdA 3) (rdA 2)) (rdNil))))) (rdCons (ixA 1 (rdA 3)) (rdNil)))) s
def scales.R_spans_of (s : FL.Env) : Res Fl :=
  (sRet (frzM (lcM [3] (calI rg1 (rdCons (lenA 1) (rdNil))) (gN 3) (yes) (scales.L_spans_of_1)))) s
def scales.F_spans_of : Sg := fnF 4 3 scales.R_spans_of
-- walked: 0:many 1:third 2:fifth 3:told 4:moves 5:move
def triads.B_walked_1 (s : FL.Env) : Res Fl :=
  (sSet 3 (asT (calU triads.F_move_of (rdCons (rdA 0) (rdCons (rdA 1) (rdCons (rdA 2) (rdCons (rdA 3) (rdCons (rdA 5) (rdNil))))))))) s
def triads.R_walked (s : FL.Env) : Res Fl :=
  (sq (sFor (iSeq (rdA 4)) (gN 5) (triads.B_walked_1))
  (sRet (rdA 3))) s
def triads.F_walked : Sg := fnF 6 5 triads.R_walked
-- need_shifts: 0:rows 1:value 2:one
def blocks.L_need_shifts_1 (s : FL.Env) : Res T :=
  (calU ratios.F_is_ratio (rdCons (rdA 2) (rdNil))) s
def blocks.L_need_shifts_2 (s : FL.Env) : Res T :=
  (andV (op2 geO (ixA 2 (rdC (.int 0))) (rdC (.int 0))) (calU ratios.F_below (rdCons (rdA 2) (rdCons (calF tupO (rdCons (rdC (.int 1)) (rdCons (rdC (.int 1)) (rdNil)))) (rdNil))))) s
def blocks.R_need_shifts (s : FL.Env) : Res Fl :=
  (sq (sIf (orT (notT (truth (op1 (isiO .tup) (rdA 1)))) (orT (tst (op2 neO (lenA 1) (lenA 0))) (notT (truth (calF all1O (rdCons (frzM (lcM [2] (iSeq (rdA 1)) (gN 2) (yes) (blocks.L_need_shifts_1))) (rdNil))))))) (bad) (skip))
  (sIf (notT (truth (calF all1O (rdCons (frzM (lcM [2] (iSeq (rdA 1)) (gN 2) (yes) (blocks.L_need_shifts_2))) (rdNil))))) (bad) (skip))) s
def blocks.F_need_shifts : Sg := fnF 3 2 blocks.R_need_shifts
-- placed: 0:rows 1:some 2:shifts 3:table 4:found 5:at 6:row 7:place 8:total 9:steps 10:entry 11:column 12:left 13:right
def blocks.B_placed_1 (s : FL.Env) : Res Fl :=
  (sSet 8 (asT (calU ratios.F_lowered (rdCons (op2 addO (op2 mulO (ixA 8 (rdC (.int 0))) (op2 ixO (ixA 11 (rdA 5)) (rdC (.int 1)))) (op2 mulO (op2 mulO (rdA 10) (op2 ixO (ixA 11 (rdA 5)) (rdC (.int 0)))) (ixA 8 (rdC (.int 1))))) (rdCons (op2 mulO (ixA 8 (rdC (.int 1))) (op2 ixO (ixA 11 (rdA 5)) (rdC (.int 1)))) (rdNil)))))) s
def blocks.L_placed_1 (s : FL.Env) : Res T :=
  (op2 subO (rdA 12) (op2 mulO (rdA 9) (rdA 13))) s
def blocks.B_placed_2 (s : FL.Env) : Res Fl :=
  (sq (sSet 7 (asT (ixA 2 (rdA 5))))
  (sq (sSet 8 (asT (calU ratios.F_lowered (rdCons (ixA 7 (rdC (.int 0))) (rdCons (ixA 7 (rdC (.int 1))) (rdNil))))))
  (sq (sFor (calI zip2 (rdCons (rdA 1) (rdCons (rdA 3) (rdNil)))) (gT (gsCons (gN 10) (gsCons (gN 11) (gsNil)))) (blocks.B_placed_1))
  (sq (sSet 9 (asT (calU ratios.F_floor (rdCons (rdA 8) (rdNil)))))
  (sSet 4 (asT (frzM (lcM [12, 13] (calI zip2 (rdCons (rdA 4) (rdCons (rdA 6) (rdNil)))) (gT (gsCons (gN 12) (gsCons (gN 13) (gsNil)))) (yes) (blocks.L_placed_1))))))))) s
def blocks.R_placed (s : FL.Env) : Res Fl :=
  (sq (sSet 4 (asT (frzM (calO list1 (rdCons (rdA 1) (rdNil))))))
  (sq (sFor (calI enum1 (rdCons (rdA 0) (rdNil))) (gT (gsCons (gN 5) (gsCons (gN 6) (gsNil)))) (blocks.B_placed_2))
  (sRet (rdA 4)))) s
def blocks.F_placed : Sg := fnF 14 4 blocks.R_placed
-- need_size: 0:value
def chains.R_need_size (s : FL.Env) : Res Fl :=
  (sIf (orT (notT (truth (calU ratios.F_is_ratio (rdCons (rdA 0) (rdNil))))) (orT (tst (op2 ltO (ixA 0 (rdC (.int 0))) (rdC (.int 0)))) (orT (tst (op2 geO (ixA 0 (rdC (.int 0))) (ixA 0 (rdC (.int 1))))) (tst (op2 gtO (ixA 0 (rdC (.int 1))) (rdC (.int (9999)))))))) (bad) (skip)) s
def chains.F_need_size : Sg := fnF 1 1 chains.R_need_size
-- need_odd: 0:value
def diamonds.R_need_odd (s : FL.Env) : Res Fl :=
  (sIf (orT (notT (truth (calU limits.F_is_in (rdCons (rdA 0) (rdCons (rdC (.int 1)) (rdCons (rdC (.int (45))) (rdNil))))))) (tst (op2 eqO (op2 modO (rdA 0) (rdC (.int 2))) (rdC (.int 0))))) (bad) (skip)) s
def diamonds.F_need_odd : Sg := fnF 1 1 diamonds.R_need_odd
-- clash_of: 0:limit 1:told 2:at 3:first 4:place 5:second
def equal.B_clash_of_1 (s : FL.Env) : Res Fl :=
  (sIf (andT (tst (op2 neO (rdA 2) (rdA 4))) (truth (calU equal.F_is_above (rdCons (rdA 0) (rdCons (rdA 3) (rdCons (ixA 1 (rdA 2)) (rdCons (rdA 5) (rdCons (ixA 1 (rdA 4)) (rdNil))))))))) (sRet (calF tupO (rdCons (rdA 2) (rdCons (rdA 4) (rdNil))))) (skip)) s
def equal.B_clash_of_2 (s : FL.Env) : Res Fl :=
  (sFor (calI enum1 (rdCons (rdA 0) (rdNil))) (gT (gsCons (gN 4) (gsCons (gN 5) (gsNil)))) (equal.B_clash_of_1)) s
def equal.R_clash_of (s : FL.Env) : Res Fl :=
  (sq (sFor (calI enum1 (rdCons (rdA 0) (rdNil))) (gT (gsCons (gN 2) (gsCons (gN 3) (gsNil)))) (equal.B_clash_of_2))
  (sRet (rdC .non))) s
def equal.F_clash_of : Sg := fnF 6 2 equal.R_clash_of
-- need_map: 0:limit 1:value 2:entry
def equal.L_need_map_1 (s : FL.Env) : Res T :=
  (calU limits.F_is_in (rdCons (rdA 2) (rdCons (rdC (.int 0)) (rdCons (op2 mulO (rdC (.int (300))) (rdC (.int 6))) (rdNil))))) s
def equal.R_need_map (s : FL.Env) : Res Fl :=
  (sq (sIf (orT (notT (truth (op1 (isiO .tup) (rdA 1)))) (tst (op2 neO (lenA 1) (lenA 0)))) (bad) (skip))
  (sIf (notT (truth (calF all1O (rdCons (frzM (lcM [2] (iSeq (rdA 1)) (gN 2) (yes) (equal.L_need_map_1))) (rdNil))))) (bad) (skip))) s
def equal.F_need_map : Sg := fnF 3 2 equal.R_need_map
-- need_row: 0:rows 1:value 2:entry
def lattices.L_need_row_1 (s : FL.Env) : Res T :=
  (calU limits.F_is_in (rdCons (rdA 2) (rdCons (op1 negO (rdC (.int (9999)))) (rdCons (rdC (.int (9999))) (rdNil))))) s
def lattices.R_need_row (s : FL.Env) : Res Fl :=
  (sq (sIf (orT (notT (truth (op1 (isiO .tup) (rdA 1)))) (tst (op2 neO (lenA 1) (calF lenO (rdCons (ixA 0 (rdC (.int 0))) (rdNil)))))) (bad) (skip))
  (sIf (notT (truth (calF all1O (rdCons (frzM (lcM [2] (iSeq (rdA 1)) (gN 2) (yes) (lattices.L_need_row_1))) (rdNil))))) (bad) (skip))) s
def lattices.F_need_row : Sg := fnF 3 2 lattices.R_need_row
-- need_rows: 0:value 1:index 2:row 3:entry
def lattices.L_need_rows_1 (s : FL.Env) : Res T :=
  (calU limits.F_is_in (rdCons (rdA 3) (rdCons (op1 negO (rdC (.int (9999)))) (rdCons (rdC (.int (9999))) (rdNil))))) s
def lattices.B_need_rows_1 (s : FL.Env) : Res Fl :=
  (sq (sIf (orT (notT (truth (op1 (isiO .tup) (rdA 2)))) (orT (notT (tst (chn leO leO (rdC (.int 1)) (lenA 2) (rdC (.int (8)))))) (tst (op2 neO (lenA 2) (calF lenO (rdCons (ixA 0 (rdC (.int 0))) (rdNil))))))) (bad) (skip))
  (sIf (notT (truth (calF all1O (rdCons (frzM (lcM [3] (iSeq (rdA 2)) (gN 3) (yes) (lattices.L_need_rows_1))) (rdNil))))) (bad) (skip))) s
def lattices.R_need_rows (s : FL.Env) : Res Fl :=
  (sq (sIf (orT (notT (truth (op1 (isiO .tup) (rdA 0)))) (notT (tst (chn leO leO (rdC (.int 1)) (lenA 0) (rdC (.int (8))))))) (bad) (skip))
  (sFor (calI enum1 (rdCons (rdA 0) (rdNil))) (gT (gsCons (gN 1) (gsCons (gN 2) (gsNil)))) (lattices.B_need_rows_1))) s
def lattices.F_need_rows : Sg := fnF 4 1 lattices.R_need_rows
-- need_layout: 0:many 1:right 2:up
def layouts.R_need_layout (s : FL.Env) : Res Fl :=
  (sq (sIf (notT (truth (calU limits.F_is_in (rdCons (rdA 0) (rdCons (rdC (.int 1)) (rdCons (rdC (.int (200))) (rdNil))))))) (bad) (skip))
  (sIf (orT (notT (truth (calU limits.F_is_in (rdCons (rdA 1) (rdCons (op1 negO (rdC (.int (200)))) (rdCons (rdC (.int (200))) (rdNil))))))) (notT (truth (calU limits.F_is_in (rdCons (rdA 2) (rdCons (op1 negO (rdC (.int (200)))) (rdCons (rdC (.int (200))) (rdNil)))))))) (bad) (skip))) s
def layouts.F_need_layout : Sg := fnF 3 3 layouts.R_need_layout
-- is_interval: 0:limit 1:value 2:entry
def limits.L_is_interval_1 (s : FL.Env) : Res T :=
  (calU limits.F_is_in (rdCons (rdA 2) (rdCons (op1 negO (rdC (.int (99)))) (rdCons (rdC (.int (99))) (rdNil))))) s
def limits.R_is_interval (s : FL.Env) : Res Fl :=
  (sq (sIf (orT (notT (truth (op1 (isiO .tup) (rdA 1)))) (tst (op2 neO (lenA 1) (lenA 0)))) (sRet (rdC (.bl false))) (skip))
  (sRet (calF all1O (rdCons (frzM (lcM [2] (iSeq (rdA 1)) (gN 2) (yes) (limits.L_is_interval_1))) (rdNil))))) s
def limits.F_is_interval : Sg := fnF 3 2 limits.R_is_interval
-- need_limit: 0:value 1:prime 2:at
def limits.L_need_limit_1 (s : FL.Env) : Res T :=
  (andV (calU limits.F_is_in (rdCons (rdA 1) (rdCons (rdC (.int 2)) (rdCons (rdC (.int (43))) (rdNil))))) (calU limits.F_is_prime (rdCons (rdA 1) (rdNil)))) s
def limits.L_need_limit_2 (s : FL.Env) : Res T :=
  (op2 ltO (ixA 0 (op2 subO (rdA 2) (rdC (.int 1)))) (ixA 0 (rdA 2))) s
def limits.R_need_limit (s : FL.Env) : Res Fl :=
  (sq (sIf (orT (notT (truth (op1 (isiO .tup) (rdA 0)))) (notT (tst (chn leO leO (rdC (.int 1)) (lenA 0) (rdC (.int (6))))))) (bad) (skip))
  (sq (sIf (notT (truth (calF all1O (rdCons (frzM (lcM [1] (iSeq (rdA 0)) (gN 1) (yes) (limits.L_need_limit_1))) (rdNil))))) (bad) (skip))
  (sIf (notT (truth (calF all1O (rdCons (frzM (lcM [2] (calI rg2 (rdCons (rdC (.int 1)) (rdCons (lenA 0) (rdNil)))) (gN 2) (yes) (limits.L_need_limit_2))) (rdNil))))) (bad) (skip)))) s
def limits.F_need_limit : Sg := fnF 3 1 limits.R_need_limit
-- sign_of: 0:limit 1:interval 2:above 3:low
def limits.R_sign_of (s : FL.Env) : Res Fl :=
  (sq (sAsg (gT (gsCons (gN 2) (gsCons (gN 3) (gsNil)))) (calU limits.F_ratio_of (rdCons (rdA 0) (rdCons (rdA 1) (rdNil)))))
  (sRet (op2 subO (op2 gtO (rdA 2) (rdA 3)) (op2 ltO (rdA 2) (rdA 3))))) s
def limits.F_sign_of : Sg := fnF 4 2 limits.R_sign_of
-- within: 0:limit 1:interval 2:moves 3:above 4:low
def limits.C_within_1 (s : FL.Env) : Res Bool :=
  (tst (op2 ltO (rdA 3) (rdA 4))) s
def limits.B_within_1 (s : FL.Env) : Res Fl :=
  (sPar 3 2 (xsCons (asT (op2 mulO (rdA 3) (ixA 0 (rdC (.int 0))))) (xsCons (asT (op2 addO (rdA 2) (rdC (.int 1)))) (xsNil)))) s
def limits.C_within_2 (s : FL.Env) : Res Bool :=
  (tst (op2 geO (rdA 3) (op2 mulO (rdA 4) (ixA 0 (rdC (.int 0)))))) s
def limits.B_within_2 (s : FL.Env) : Res Fl :=
  (sPar 4 2 (xsCons (asT (op2 mulO (rdA 4) (ixA 0 (rdC (.int 0))))) (xsCons (asT (op2 subO (rdA 2) (rdC (.int 1)))) (xsNil)))) s
def limits.R_within (s : FL.Env) : Res Fl :=
  (sq (sAsg (gT (gsCons (gN 3) (gsCons (gN 4) (gsNil)))) (calU limits.F_ratio_of (rdCons (rdA 0) (rdCons (rdA 1) (rdNil)))))
  (sq (sSet 2 (asT (rdC (.int 0))))
  (sq (whl (limits.C_within_1) (limits.B_within_1) 1000000)
  (sq (whl (limits.C_within_2) (limits.B_within_2) 1000000)
  (sRet (op2 addO (calF tupO (rdCons (op2 addO (ixA 1 (rdC (.int 0))) (rdA 2)) (rdNil))) (slM (rdA 1) (poS (rdC (.int 1))) (poN)))))))) s
def limits.F_within : Sg := fnF 5 2 limits.R_within
-- _law_add: 0:_law_one 1:_law_other
def lw.R__law_add (s : FL.Env) : Res Fl :=
  (sRet (calU lw.F__law_lowered (rdCons (op2 addO (op2 mulO (ixA 0 (rdC (.int 0))) (ixA 1 (rdC (.int 1)))) (op2 mulO (ixA 1 (rdC (.int 0))) (ixA 0 (rdC (.int 1))))) (rdCons (op2 mulO (ixA 0 (rdC (.int 1))) (ixA 1 (rdC (.int 1)))) (rdNil))))) s
def lw.F__law_add : Sg := fnF 2 2 lw.R__law_add
-- _law_limit: 0:_law_row
def lw.R__law_limit (s : FL.Env) : Res Fl :=
  (sRet (calM lw.F__law_pick 0 (rdCons (frzM (calO newL (rdCons (calF tupO (rdCons (rdC (.int 2)) (rdCons (rdC (.int 3)) (rdCons (rdC (.int 5)) (rdNil))))) (rdCons (calF tupO (rdCons (rdC (.int 2)) (rdCons (rdC (.int 3)) (rdNil)))) (rdCons (calF tupO (rdCons (rdC (.int 2)) (rdCons (rdC (.int 3)) (rdCons (rdC (.int 5)) (rdCons (rdC (.int 7)) (rdNil)))))) (rdCons (calF tupO (rdCons (rdC (.int 2)) (rdCons (rdC (.int 3)) (rdCons (rdC (.int 7)) (rdNil))))) (rdCons (calF tupO (rdCons (rdC (.int 3)) (rdCons (rdC (.int 5)) (rdCons (rdC (.int 7)) (rdNil))))) (rdCons (calF tupO (rdCons (rdC (.int 2)) (rdCons (rdC (.int 5)) (rdNil)))) (rdCons (calF tupO (rdCons (rdC (.int 2)) (rdCons (rdC (.int 3)) (rdCons (rdC (.int 5)) (rdCons (rdC (.int 7)) (rdCons (rdC (.int 11)) (rdNil))))))) (rdCons (calF tupO (rdCons (rdC (.int 2)) (rdCons (rdC (.int 7)) (rdCons (rdC (.int 11)) (rdCons (rdC (.int 13)) (rdNil)))))) (rdNil))))))))))) (rdNil)))) s
def lw.F__law_limit : SgM := fnM 1 1 lw.R__law_limit
-- _law_sign: 0:_law_limit_here 1:_law_interval_here 2:_law_above 3:_law_low
def lw.R__law_sign (s : FL.Env) : Res Fl :=
  (sq (sAsg (gT (gsCons (gN 2) (gsCons (gN 3) (gsNil)))) (calU lw.F__law_quotient (rdCons (rdA 0) (rdCons (rdA 1) (rdNil)))))
  (sRet (op2 subO (calF int1O (rdCons (op2 gtO (rdA 2) (rdA 3)) (rdNil))) (calF int1O (rdCons (op2 ltO (rdA 2) (rdA 3)) (rdNil)))))) s
def lw.F__law_sign : Sg := fnF 4 2 lw.R__law_sign
-- _law_times: 0:_law_one 1:_law_other
def lw.R__law_times (s : FL.Env) : Res Fl :=
  (sRet (calU lw.F__law_lowered (rdCons (op2 mulO (ixA 0 (rdC (.int 0))) (ixA 1 (rdC (.int 0)))) (rdCons (op2 mulO (ixA 0 (rdC (.int 1))) (ixA 1 (rdC (.int 1)))) (rdNil))))) s
def lw.F__law_times : Sg := fnF 2 2 lw.R__law_times
-- _law_two: 0:_law_row 1:_law_limit 2:_law_rows_here 3:_law_wide 4:_law_first
def lw.R__law_two (s : FL.Env) : Res Fl :=
  (sq (sPar 2 3 (xsCons (asT (calM lw.F__law_rows 0 (rdCons (rdC (.int 2)) (rdCons (lenA 1) (rdCons (rdC (.int 9)) (rdNil)))))) (xsCons (asT (lenA 1)) (xsNil))))
  (sq (sIf (tst (op2 eqO (calM lw.F__law_taken 0 (rdCons (rdC (.int 2)) (rdNil))) (rdC (.int 0)))) (sq (sSet 4 (asT (calF tupO (rdCons (op2 addO (calF tupO (rdCons (rdC (.int 1)) (rdCons (rdC (.int 0)) (rdNil)))) (op2 mulO (calF tupO (rdCons (rdC (.int 0)) (rdNil))) (op2 subO (rdA 3) (rdC (.int 2))))) (rdCons (op2 addO (op2 mulO (calF tupO (rdCons (rdC (.int 0)) (rdNil))) (op2 subO (rdA 3) (rdC (.int 1)))) (calF tupO (rdCons (rdC (.int 1)) (rdNil)))) (rdNil))))))
  (sRet (calM lw.F__law_pick 0 (rdCons (frzM (calO newL (rdCons (rdA 4) (rdCons (calF tupO (rdCons (op2 addO (calF tupO (rdCons (rdC (.int 12)) (rdNil))) (op2 mulO (calF tupO (rdCons (rdC (.int 19)) (rdNil))) (op2 subO (rdA 3) (rdC (.int 1))))) (rdCons (op2 addO (op2 addO (calF tupO (rdCons (rdC (.int 5)) (rdNil))) (op2 mulO (calF tupO (rdCons (rdC (.int 8)) (rdNil))) (op2 subO (rdA 3) (rdC (.int 2))))) (calF tupO (rdCons (rdC (.int 9)) (rdNil)))) (rdNil)))) (rdNil))))) (rdNil))))) (skip))
  (sRet (rdA 2)))) s
def lw.F__law_two : SgM := fnM 5 2 lw.R__law_two
-- _law_within: 0:_law_limit_here 1:_law_interval_here 2:_law_moves 3:_law_above 4:_law_low
def lw.C__law_within_1 (s : FL.Env) : Res Bool :=
  (tst (op2 ltO (rdA 3) (rdA 4))) s
def lw.B__law_within_1 (s : FL.Env) : Res Fl :=
  (sPar 3 2 (xsCons (asT (op2 mulO (rdA 3) (ixA 0 (rdC (.int 0))))) (xsCons (asT (op2 addO (rdA 2) (rdC (.int 1)))) (xsNil)))) s
def lw.C__law_within_2 (s : FL.Env) : Res Bool :=
  (tst (op2 geO (rdA 3) (op2 mulO (rdA 4) (ixA 0 (rdC (.int 0)))))) s
def lw.B__law_within_2 (s : FL.Env) : Res Fl :=
  (sPar 4 2 (xsCons (asT (op2 mulO (rdA 4) (ixA 0 (rdC (.int 0))))) (xsCons (asT (op2 subO (rdA 2) (rdC (.int 1)))) (xsNil)))) s
def lw.R__law_within (s : FL.Env) : Res Fl :=
  (sq (sAsg (gT (gsCons (gN 3) (gsCons (gN 4) (gsNil)))) (calU lw.F__law_quotient (rdCons (rdA 0) (rdCons (rdA 1) (rdNil)))))
  (sq (sSet 2 (asT (rdC (.int 0))))
  (sq (whl (lw.C__law_within_1) (lw.B__law_within_1) 1000000)
  (sq (whl (lw.C__law_within_2) (lw.B__law_within_2) 1000000)
  (sRet (op2 addO (calF tupO (rdCons (op2 addO (ixA 1 (rdC (.int 0))) (rdA 2)) (rdNil))) (slM (rdA 1) (poS (rdC (.int 1))) (poN)))))))) s
def lw.F__law_within : Sg := fnF 5 2 lw.R__law_within
-- lowest: 0:value 1:entry
def minors.L_lowest_1 (s : FL.Env) : Res T :=
  (calU limits.F_is_int (rdCons (rdA 1) (rdNil))) s
def minors.R_lowest (s : FL.Env) : Res Fl :=
  (sq (sIf (orT (notT (truth (op1 (isiO .tup) (rdA 0)))) (orT (notT (truth (calF all1O (rdCons (frzM (lcM [1] (iSeq (rdA 0)) (gN 1) (yes) (minors.L_lowest_1))) (rdNil))))) (notT (truth (calF any1O (rdCons (rdA 0) (rdNil))))))) (bad) (skip))
  (sRet (calF tuple1O (rdCons (calU minors.F_signed (rdCons (calU lattices.F_divided (rdCons (frzM (calO list1 (rdCons (rdA 0) (rdNil)))) (rdNil))) (rdNil))) (rdNil))))) s
def minors.F_lowest : Sg := fnF 2 1 minors.R_lowest
-- key: 0:at 1:step
def names.L_key_1 (s : FL.Env) : Res T :=
  (calU names.F_name_of (rdCons (op2 addO (rdA 0) (rdA 1)) (rdNil))) s
def names.R_key (s : FL.Env) : Res Fl :=
  (sq (sIf (notT (truth (calU limits.F_is_in (rdCons (rdA 0) (rdCons (op2 subO (rdC (.int 6)) (rdC (.int (70)))) (rdCons (op2 subO (rdC (.int (70))) (rdC (.int 6))) (rdNil))))))) (bad) (skip))
  (sRet (calF tuple1O (rdCons (frzM (lcM [1] (iSeq (calF tupO (rdCons (rdC (.int 0)) (rdCons (rdC (.int 2)) (rdCons (rdC (.int 4)) (rdCons (op1 negO (rdC (.int 1))) (rdCons (rdC (.int 1)) (rdCons (rdC (.int 3)) (rdCons (rdC (.int 5)) (rdNil)))))))))) (gN 1) (yes) (names.L_key_1))) (rdNil))))) s
def names.F_key : Sg := fnF 2 1 names.R_key
-- need_at: 0:value
def names.R_need_at (s : FL.Env) : Res Fl :=
  (sIf (notT (truth (calU limits.F_is_in (rdCons (rdA 0) (rdCons (op1 negO (rdC (.int (70)))) (rdCons (rdC (.int (70))) (rdNil))))))) (bad) (skip)) s
def names.F_need_at : Sg := fnF 1 1 names.R_need_at
-- need_fifth: 0:many 1:fifth
def names.R_need_fifth (s : FL.Env) : Res Fl :=
  (sIf (orT (notT (truth (calU limits.F_is_in (rdCons (rdA 0) (rdCons (rdC (.int 1)) (rdCons (rdC (.int (200))) (rdNil))))))) (notT (truth (calU limits.F_is_in (rdCons (rdA 1) (rdCons (rdC (.int 0)) (rdCons (op2 subO (rdA 0) (rdC (.int 1))) (rdNil)))))))) (bad) (skip)) s
def names.F_need_fifth : Sg := fnF 2 2 names.R_need_fifth
-- signs_of_key: 0:at 1:told 2:signed 3:step 4:word
def names.L_signs_of_key_1 (s : FL.Env) : Res T :=
  (calU names.F_name_of (rdCons (ifE (tst (op2 gtO (rdA 0) (rdC (.int 0)))) (op2 addO (op2 subO (rdA 0) (rdC (.int 1))) (rdA 3)) (op2 subO (op2 addO (rdA 0) (rdC (.int 5))) (rdA 3))) (rdNil))) s
def names.Q_signs_of_key_1 (s : FL.Env) : Res Bool :=
  (tst (op2 gtO (lenA 4) (rdC (.int 1)))) s
def names.L_signs_of_key_2 (s : FL.Env) : Res T :=
  (rdA 4) s
def names.R_signs_of_key (s : FL.Env) : Res Fl :=
  (sq (sIf (notT (truth (calU limits.F_is_in (rdCons (rdA 0) (rdCons (op2 subO (rdC (.int 6)) (rdC (.int (70)))) (rdCons (op2 subO (rdC (.int (70))) (rdC (.int 6))) (rdNil))))))) (bad) (skip))
  (sq (sSet 1 (asT (frzM (lcM [3] (calI rg1 (rdCons (rdC (.int 7)) (rdNil))) (gN 3) (yes) (names.L_signs_of_key_1)))))
  (sq (sSet 2 (asT (frzM (lcM [4] (iSeq (rdA 1)) (gN 4) (names.Q_signs_of_key_1) (names.L_signs_of_key_2)))))
  (sRet (calF tuple1O (rdCons (rdA 2) (rdNil))))))) s
def names.F_signs_of_key : Sg := fnF 5 1 names.R_signs_of_key
-- is_parts: 0:limit 1:value 2:one
def projections.L_is_parts_1 (s : FL.Env) : Res T :=
  (calU ratios.F_is_ratio (rdCons (rdA 2) (rdNil))) s
def projections.L_is_parts_2 (s : FL.Env) : Res T :=
  (andV (op2 leO (calF abs1O (rdCons (ixA 2 (rdC (.int 0))) (rdNil))) (rdC (.int (200)))) (op2 leO (ixA 2 (rdC (.int 1))) (rdC (.int (200))))) s
def projections.R_is_parts (s : FL.Env) : Res Fl :=
  (sq (sIf (orT (notT (truth (op1 (isiO .tup) (rdA 1)))) (orT (tst (op2 neO (lenA 1) (lenA 0))) (notT (truth (calF all1O (rdCons (frzM (lcM [2] (iSeq (rdA 1)) (gN 2) (yes) (projections.L_is_parts_1))) (rdNil))))))) (sRet (rdC (.bl false))) (skip))
  (sRet (calF all1O (rdCons (frzM (lcM [2] (iSeq (rdA 1)) (gN 2) (yes) (projections.L_is_parts_2))) (rdNil))))) s
def projections.F_is_parts : Sg := fnF 3 2 projections.R_is_parts
-- add: 0:one 1:other
def ratios.R_add (s : FL.Env) : Res Fl :=
  (sRet (calU ratios.F_lowered (rdCons (op2 addO (op2 mulO (ixA 0 (rdC (.int 0))) (ixA 1 (rdC (.int 1)))) (op2 mulO (ixA 1 (rdC (.int 0))) (ixA 0 (rdC (.int 1))))) (rdCons (op2 mulO (ixA 0 (rdC (.int 1))) (ixA 1 (rdC (.int 1)))) (rdNil))))) s
def ratios.F_add : Sg := fnF 2 2 ratios.R_add
-- multiply: 0:one 1:other
def ratios.R_multiply (s : FL.Env) : Res Fl :=
  (sRet (calU ratios.F_lowered (rdCons (op2 mulO (ixA 0 (rdC (.int 0))) (ixA 1 (rdC (.int 0)))) (rdCons (op2 mulO (ixA 0 (rdC (.int 1))) (ixA 1 (rdC (.int 1)))) (rdNil))))) s
def ratios.F_multiply : Sg := fnF 2 2 ratios.R_multiply
-- need_set: 0:many 1:value 2:at 3:note
def sets.L_need_set_1 (s : FL.Env) : Res T :=
  (calU limits.F_is_in (rdCons (rdA 3) (rdCons (rdC (.int 0)) (rdCons (op2 subO (rdA 0) (rdC (.int 1))) (rdNil))))) s
def sets.L_need_set_2 (s : FL.Env) : Res T :=
  (op2 ltO (ixA 1 (op2 subO (rdA 2) (rdC (.int 1)))) (ixA 1 (rdA 2))) s
def sets.R_need_set (s : FL.Env) : Res Fl :=
  (sq (sIf (notT (truth (calU limits.F_is_in (rdCons (rdA 0) (rdCons (rdC (.int 1)) (rdCons (rdC (.int (60))) (rdNil))))))) (bad) (skip))
  (sq (sIf (orT (notT (truth (op1 (isiO .tup) (rdA 1)))) (notT (truth (calF all1O (rdCons (frzM (lcM [3] (iSeq (rdA 1)) (gN 3) (yes) (sets.L_need_set_1))) (rdNil)))))) (bad) (skip))
  (sIf (notT (truth (calF all1O (rdCons (frzM (lcM [2] (calI rg2 (rdCons (rdC (.int 1)) (rdCons (lenA 1) (rdNil)))) (gN 2) (yes) (sets.L_need_set_2))) (rdNil))))) (bad) (skip)))) s
def sets.F_need_set : Sg := fnF 4 2 sets.R_need_set
-- need_steps: 0:maps 1:value 2:entry
def temper.L_need_steps_1 (s : FL.Env) : Res T :=
  (calU limits.F_is_in (rdCons (rdA 2) (rdCons (op1 negO (rdC (.int (1000000)))) (rdCons (rdC (.int (1000000))) (rdNil))))) s
def temper.R_need_steps (s : FL.Env) : Res Fl :=
  (sq (sIf (orT (notT (truth (op1 (isiO .tup) (rdA 1)))) (tst (op2 neO (lenA 1) (lenA 0)))) (bad) (skip))
  (sIf (notT (truth (calF all1O (rdCons (frzM (lcM [2] (iSeq (rdA 1)) (gN 2) (yes) (temper.L_need_steps_1))) (rdNil))))) (bad) (skip))) s
def temper.F_need_steps : Sg := fnF 3 2 temper.R_need_steps
-- need_shape: 0:many 1:third 2:fifth
def triads.R_need_shape (s : FL.Env) : Res Fl :=
  (sq (sIf (orT (notT (truth (calU limits.F_is_in (rdCons (rdA 0) (rdCons (rdC (.int 3)) (rdCons (rdC (.int (60))) (rdNil))))))) (orT (notT (truth (calU limits.F_is_in (rdCons (rdA 1) (rdCons (rdC (.int 1)) (rdCons (op2 subO (rdA 0) (rdC (.int 2))) (rdNil))))))) (notT (truth (calU limits.F_is_in (rdCons (rdA 2) (rdCons (op2 addO (rdA 1) (rdC (.int 1))) (rdCons (op2 subO (rdA 0) (rdC (.int 1))) (rdNil))))))))) (bad) (skip))
  (sIf (orT (tst (op2 eqO (op2 modO (op2 mulO (rdC (.int 2)) (rdA 1)) (rdA 0)) (rdA 2))) (orT (tst (op2 eqO (op2 modO (op2 mulO (rdC (.int 2)) (rdA 2)) (rdA 0)) (rdA 1))) (tst (op2 eqO (op2 modO (op2 addO (rdA 1) (rdA 2)) (rdA 0)) (rdC (.int 0)))))) (bad) (skip))) s
def triads.F_need_shape : Sg := fnF 3 3 triads.R_need_shape
-- need_triad: 0:many 1:value
def triads.R_need_triad (s : FL.Env) : Res Fl :=
  (sq (sIf (orT (notT (truth (op1 (isiO .tup) (rdA 1)))) (orT (tst (op2 neO (lenA 1) (rdC (.int 2)))) (notT (truth (calU limits.F_is_in (rdCons (ixA 1 (rdC (.int 0))) (rdCons (rdC (.int 0)) (rdCons (op2 subO (rdA 0) (rdC (.int 1))) (rdNil))))))))) (bad) (skip))
  (sIf (notT (truth (op1 (isiO .bl) (ixA 1 (rdC (.int 1)))))) (bad) (skip))) s
def triads.F_need_triad : Sg := fnF 2 2 triads.R_need_triad
-- need_chain: 0:many 1:step 2:notes
def words.R_need_chain (s : FL.Env) : Res Fl :=
  (sq (sIf (orT (notT (truth (calU limits.F_is_in (rdCons (rdA 0) (rdCons (rdC (.int 1)) (rdCons (rdC (.int (200))) (rdNil))))))) (notT (truth (calU limits.F_is_in (rdCons (rdA 1) (rdCons (rdC (.int 0)) (rdCons (op2 subO (rdA 0) (rdC (.int 1))) (rdNil)))))))) (bad) (skip))
  (sIf (notT (truth (calU limits.F_is_in (rdCons (rdA 2) (rdCons (rdC (.int 1)) (rdCons (op2 divO (rdA 0) (calU limits.F_common (rdCons (rdA 0) (rdCons (rdA 1) (rdNil))))) (rdNil))))))) (bad) (skip))) s
def words.F_need_chain : Sg := fnF 3 3 words.R_need_chain
-- need_letters: 0:large 1:small
def words.R_need_letters (s : FL.Env) : Res Fl :=
  (sq (sIf (orT (notT (truth (calU limits.F_is_in (rdCons (rdA 0) (rdCons (rdC (.int 0)) (rdCons (rdC (.int (40))) (rdNil))))))) (notT (truth (calU limits.F_is_in (rdCons (rdA 1) (rdCons (rdC (.int 0)) (rdCons (rdC (.int (40))) (rdNil)))))))) (bad) (skip))
  (sIf (notT (tst (chn leO leO (rdC (.int 1)) (op2 addO (rdA 0) (rdA 1)) (rdC (.int (40)))))) (bad) (skip))) s
def words.F_need_letters : Sg := fnF 2 2 words.R_need_letters
-- need_chain: 0:size 1:periods 2:notes
def chains.R_need_chain (s : FL.Env) : Res Fl :=
  (sq (sExpr (calU chains.F_need_size (rdCons (rdA 0) (rdNil))))
  (sIf (orT (notT (truth (calU limits.F_is_in (rdCons (rdA 1) (rdCons (rdC (.int 1)) (rdCons (rdC (.int (12))) (rdNil))))))) (notT (truth (calU limits.F_is_in (rdCons (rdA 2) (rdCons (rdC (.int 1)) (rdCons (rdC (.int (60))) (rdNil)))))))) (bad) (skip))) s
def chains.F_need_chain : Sg := fnF 3 3 chains.R_need_chain
-- position: 0:size 1:periods 2:at 3:told
def chains.R_position (s : FL.Env) : Res Fl :=
  (sq (sSet 3 (asT (calU ratios.F_multiply (rdCons (calF tupO (rdCons (rdA 2) (rdCons (rdC (.int 1)) (rdNil)))) (rdCons (rdA 0) (rdNil))))))
  (sRet (calU ratios.F_add (rdCons (rdA 3) (rdCons (calU ratios.F_multiply (rdCons (calF tupO (rdCons (op1 negO (calU ratios.F_floor (rdCons (calU ratios.F_multiply (rdCons (rdA 3) (rdCons (calF tupO (rdCons (rdA 1) (rdCons (rdC (.int 1)) (rdNil)))) (rdNil)))) (rdNil)))) (rdCons (rdC (.int 1)) (rdNil)))) (rdCons (calF tupO (rdCons (rdC (.int 1)) (rdCons (rdA 1) (rdNil)))) (rdNil)))) (rdNil)))))) s
def chains.F_position : Sg := fnF 4 3 chains.R_position
-- is_uniform: 0:limit 1:told
def equal.R_is_uniform (s : FL.Env) : Res Fl :=
  (sq (sExpr (calU limits.F_need_limit (rdCons (rdA 0) (rdNil))))
  (sq (sExpr (calU equal.F_need_map (rdCons (rdA 0) (rdCons (rdA 1) (rdNil)))))
  (sRet (op2 (isNO false) (calU equal.F_clash_of (rdCons (rdA 0) (rdCons (rdA 1) (rdNil)))) (rdC .non))))) s
def equal.F_is_uniform : Sg := fnF 2 2 equal.R_is_uniform
-- map_clash: 0:limit 1:told
def equal.R_map_clash (s : FL.Env) : Res Fl :=
  (sq (sExpr (calU limits.F_need_limit (rdCons (rdA 0) (rdNil))))
  (sq (sExpr (calU equal.F_need_map (rdCons (rdA 0) (rdCons (rdA 1) (rdNil)))))
  (sRet (calU equal.F_clash_of (rdCons (rdA 0) (rdCons (rdA 1) (rdNil))))))) s
def equal.F_map_clash : Sg := fnF 2 2 equal.R_map_clash
-- nearest_map: 0:limit 1:steps 2:prime
def equal.L_nearest_map_1 (s : FL.Env) : Res T :=
  (calU equal.F_nearest_entry (rdCons (rdA 0) (rdCons (rdA 1) (rdCons (rdA 2) (rdNil))))) s
def equal.R_nearest_map (s : FL.Env) : Res Fl :=
  (sq (sExpr (calU limits.F_need_limit (rdCons (rdA 0) (rdNil))))
  (sq (sIf (notT (truth (calU limits.F_is_in (rdCons (rdA 1) (rdCons (rdC (.int 1)) (rdCons (rdC (.int (300))) (rdNil))))))) (bad) (skip))
  (sRet (calF tuple1O (rdCons (frzM (lcM [2] (iSeq (rdA 0)) (gN 2) (yes) (equal.L_nearest_map_1))) (rdNil)))))) s
def equal.F_nearest_map : Sg := fnF 3 2 equal.R_nearest_map
-- need_two: 0:one 1:other
def lattices.R_need_two (s : FL.Env) : Res Fl :=
  (sq (sExpr (calU lattices.F_need_rows (rdCons (rdA 0) (rdNil))))
  (sq (sExpr (calU lattices.F_need_rows (rdCons (rdA 1) (rdNil))))
  (sIf (tst (op2 neO (calF lenO (rdCons (ixA 0 (rdC (.int 0))) (rdNil))) (calF lenO (rdCons (ixA 1 (rdC (.int 0))) (rdNil))))) (bad) (skip)))) s
def lattices.F_need_two : Sg := fnF 2 2 lattices.R_need_two
-- shows_refusal: 0:rows 1:goal 2:value 3:numbers 4:low 5:row 6:part 7:left 8:right
def lattices.L_shows_refusal_1 (s : FL.Env) : Res T :=
  (calU limits.F_is_int (rdCons (rdA 6) (rdNil))) s
def lattices.L_shows_refusal_2 (s : FL.Env) : Res T :=
  (op2 mulO (rdA 7) (rdA 8)) s
def lattices.L_shows_refusal_3 (s : FL.Env) : Res T :=
  (op2 neO (op2 modO (calF sum1O (rdCons (frzM (lcM [7, 8] (calI zip2 (rdCons (rdA 5) (rdCons (rdA 3) (rdNil)))) (gT (gsCons (gN 7) (gsCons (gN 8) (gsNil)))) (yes) (lattices.L_shows_refusal_2))) (rdNil))) (rdA 4)) (rdC (.int 0))) s
def lattices.L_shows_refusal_4 (s : FL.Env) : Res T :=
  (op2 mulO (rdA 7) (rdA 8)) s
def lattices.R_shows_refusal (s : FL.Env) : Res Fl :=
  (sq (sExpr (calU lattices.F_need_rows (rdCons (rdA 0) (rdNil))))
  (sq (sExpr (calU lattices.F_need_row (rdCons (rdA 0) (rdCons (rdA 1) (rdNil)))))
  (sq (sIf (orT (notT (truth (op1 (isiO .tup) (rdA 2)))) (orT (tst (op2 neO (lenA 2) (rdC (.int 2)))) (orT (notT (truth (calU limits.F_is_int (rdCons (ixA 2 (rdC (.int 1))) (rdNil))))) (tst (op2 ltO (ixA 2 (rdC (.int 1))) (rdC (.int 1))))))) (sRet (rdC (.bl false))) (skip))
  (sq (sAsg (gT (gsCons (gN 3) (gsCons (gN 4) (gsNil)))) (rdA 2))
  (sq (sIf (orT (notT (truth (op1 (isiO .tup) (rdA 3)))) (orT (tst (op2 neO (lenA 3) (lenA 1))) (notT (truth (calF all1O (rdCons (frzM (lcM [6] (iSeq (rdA 3)) (gN 6) (yes) (lattices.L_shows_refusal_1))) (rdNil))))))) (sRet (rdC (.bl false))) (skip))
  (sq (sIf (truth (calF any1O (rdCons (frzM (lcM [5] (iSeq (rdA 0)) (gN 5) (yes) (lattices.L_shows_refusal_3))) (rdNil)))) (sRet (rdC (.bl false))) (skip))
  (sRet (op2 neO (op2 modO (calF sum1O (rdCons (frzM (lcM [7, 8] (calI zip2 (rdCons (rdA 1) (rdCons (rdA 3) (rdNil)))) (gT (gsCons (gN 7) (gsCons (gN 8) (gsNil)))) (yes) (lattices.L_shows_refusal_4))) (rdNil))) (rdA 4)) (rdC (.int 0)))))))))) s
def lattices.F_shows_refusal : Sg := fnF 9 3 lattices.R_shows_refusal
-- has_all: 0:many 1:right 2:up
def layouts.R_has_all (s : FL.Env) : Res Fl :=
  (sq (sExpr (calU layouts.F_need_layout (rdCons (rdA 0) (rdCons (rdA 1) (rdCons (rdA 2) (rdNil))))))
  (sRet (op2 eqO (calU limits.F_common (rdCons (calU limits.F_common (rdCons (rdA 1) (rdCons (rdA 2) (rdNil)))) (rdCons (rdA 0) (rdNil)))) (rdC (.int 1))))) s
def layouts.F_has_all : Sg := fnF 3 3 layouts.R_has_all
-- note_on: 0:many 1:right 2:up 3:x 4:y
def layouts.R_note_on (s : FL.Env) : Res Fl :=
  (sq (sExpr (calU layouts.F_need_layout (rdCons (rdA 0) (rdCons (rdA 1) (rdCons (rdA 2) (rdNil))))))
  (sq (sIf (orT (notT (truth (calU limits.F_is_in (rdCons (rdA 3) (rdCons (op1 negO (rdC (.int (200)))) (rdCons (rdC (.int (200))) (rdNil))))))) (notT (truth (calU limits.F_is_in (rdCons (rdA 4) (rdCons (op1 negO (rdC (.int (200)))) (rdCons (rdC (.int (200))) (rdNil)))))))) (bad) (skip))
  (sRet (op2 modO (op2 addO (op2 mulO (rdA 1) (rdA 3)) (op2 mulO (rdA 2) (rdA 4))) (rdA 0))))) s
def layouts.F_note_on : Sg := fnF 5 5 layouts.R_note_on
-- by_size: 0:limit 1:intervals 2:found 3:interval 4:low 5:high 6:middle
def limits.C_by_size_1 (s : FL.Env) : Res Bool :=
  (tst (op2 ltO (rdA 4) (rdA 5))) s
def limits.B_by_size_1 (s : FL.Env) : Res Fl :=
  (sq (sSet 6 (asT (op2 divO (op2 addO (rdA 4) (rdA 5)) (rdC (.int 2)))))
  (sIf (tst (op2 ltO (calU limits.F_sign_of (rdCons (rdA 0) (rdCons (calU limits.F_minus (rdCons (rdA 3) (rdCons (ixA 2 (rdA 6)) (rdNil)))) (rdNil)))) (rdC (.int 0)))) (sSet 5 (asT (rdA 6))) (sSet 4 (asT (op2 addO (rdA 6) (rdC (.int 1))))))) s
def limits.B_by_size_2 (s : FL.Env) : Res Fl :=
  (sq (sPar 4 5 (xsCons (asT (rdC (.int 0))) (xsCons (asT (lenA 2)) (xsNil))))
  (sq (whl (limits.C_by_size_1) (limits.B_by_size_1) 1000000)
  (sExpr (insM 2 (rdCons (rdA 4) (rdCons (rdA 3) (rdNil))))))) s
def limits.R_by_size (s : FL.Env) : Res Fl :=
  (sq (sSet 2 (asO (calO newL (rdNil))))
  (sq (sFor (iSeq (rdA 1)) (gN 3) (limits.B_by_size_2))
  (sRet (rdA 2)))) s
def limits.F_by_size : Sg := fnF 7 2 limits.R_by_size
-- interval_of: 0:limit 1:above 2:low 3:found 4:prime 5:many
def limits.C_interval_of_1 (s : FL.Env) : Res Bool :=
  (tst (op2 eqO (op2 modO (rdA 1) (rdA 4)) (rdC (.int 0)))) s
def limits.B_interval_of_1 (s : FL.Env) : Res Fl :=
  (sPar 1 5 (xsCons (asT (op2 divO (rdA 1) (rdA 4))) (xsCons (asT (op2 addO (rdA 5) (rdC (.int 1)))) (xsNil)))) s
def limits.C_interval_of_2 (s : FL.Env) : Res Bool :=
  (tst (op2 eqO (op2 modO (rdA 2) (rdA 4)) (rdC (.int 0)))) s
def limits.B_interval_of_2 (s : FL.Env) : Res Fl :=
  (sPar 2 5 (xsCons (asT (op2 divO (rdA 2) (rdA 4))) (xsCons (asT (op2 subO (rdA 5) (rdC (.int 1)))) (xsNil)))) s
def limits.B_interval_of_3 (s : FL.Env) : Res Fl :=
  (sq (sSet 5 (asT (rdC (.int 0))))
  (sq (whl (limits.C_interval_of_1) (limits.B_interval_of_1) 1000000)
  (sq (whl (limits.C_interval_of_2) (limits.B_interval_of_2) 1000000)
  (sExpr (apnM 3 (rdA 5)))))) s
def limits.R_interval_of (s : FL.Env) : Res Fl :=
  (sq (sExpr (calU limits.F_need_limit (rdCons (rdA 0) (rdNil))))
  (sq (sIf (orT (notT (truth (calU limits.F_is_in (rdCons (rdA 1) (rdCons (rdC (.int 1)) (rdCons (rdC (.int (1000000000000000000000000000000))) (rdNil))))))) (notT (truth (calU limits.F_is_in (rdCons (rdA 2) (rdCons (rdC (.int 1)) (rdCons (rdC (.int (1000000000000000000000000000000))) (rdNil)))))))) (bad) (skip))
  (sq (sSet 3 (asO (calO newL (rdNil))))
  (sq (sFor (iSeq (rdA 0)) (gN 4) (limits.B_interval_of_3))
  (sq (sIf (tst (op2 neO (rdA 1) (rdA 2))) (bad) (skip))
  (sRet (calF tuple1O (rdCons (rdA 3) (rdNil))))))))) s
def limits.F_interval_of : Sg := fnF 6 3 limits.R_interval_of
-- need_interval: 0:limit 1:value
def limits.R_need_interval (s : FL.Env) : Res Fl :=
  (sIf (notT (truth (calU limits.F_is_interval (rdCons (rdA 0) (rdCons (rdA 1) (rdNil)))))) (bad) (skip)) s
def limits.F_need_interval : Sg := fnF 2 2 limits.R_need_interval
-- need_intervals: 0:limit 1:value 2:least 3:index 4:interval
def limits.B_need_intervals_1 (s : FL.Env) : Res Fl :=
  (sIf (notT (truth (calU limits.F_is_interval (rdCons (rdA 0) (rdCons (rdA 4) (rdNil)))))) (bad) (skip)) s
def limits.R_need_intervals (s : FL.Env) : Res Fl :=
  (sq (sIf (orT (notT (truth (op1 (isiO .tup) (rdA 1)))) (notT (tst (chn leO leO (rdA 2) (lenA 1) (rdC (.int (60))))))) (bad) (skip))
  (sFor (calI enum1 (rdCons (rdA 1) (rdNil))) (gT (gsCons (gN 3) (gsCons (gN 4) (gsNil)))) (limits.B_need_intervals_1))) s
def limits.F_need_intervals : Sg := fnF 5 3 limits.R_need_intervals
-- _law_by_size: 0:_law_limit_here 1:_law_intervals 2:_law_found 3:_law_interval_here 4:_law_at
def lw.C__law_by_size_1 (s : FL.Env) : Res Bool :=
  (andT (tst (op2 gtO (rdA 4) (rdC (.int 0)))) (tst (op2 ltO (calU lw.F__law_sign (rdCons (rdA 0) (rdCons (calU lw.F__law_minus (rdCons (rdA 3) (rdCons (ixA 2 (op2 subO (rdA 4) (rdC (.int 1)))) (rdNil)))) (rdNil)))) (rdC (.int 0))))) s
def lw.B__law_by_size_1 (s : FL.Env) : Res Fl :=
  (sSet 4 (asT (op2 subO (rdA 4) (rdC (.int 1))))) s
def lw.B__law_by_size_2 (s : FL.Env) : Res Fl :=
  (sq (sSet 4 (asT (lenA 2)))
  (sq (whl (lw.C__law_by_size_1) (lw.B__law_by_size_1) 1000000)
  (sSet 2 (asT (op2 addO (op2 addO (slM (rdA 2) (poN) (poS (rdA 4))) (frzM (calO newL (rdCons (rdA 3) (rdNil))))) (slM (rdA 2) (poS (rdA 4)) (poN))))))) s
def lw.R__law_by_size (s : FL.Env) : Res Fl :=
  (sq (sSet 2 (asT (frzM (calO newL (rdNil)))))
  (sq (sFor (iSeq (rdA 1)) (gN 3) (lw.B__law_by_size_2))
  (sRet (rdA 2)))) s
def lw.F__law_by_size : Sg := fnF 5 2 lw.R__law_by_size
-- circle: 0:many 1:fifth
def names.R_circle (s : FL.Env) : Res Fl :=
  (sq (sExpr (calU names.F_need_fifth (rdCons (rdA 0) (rdCons (rdA 1) (rdNil)))))
  (sRet (op2 divO (rdA 0) (calU limits.F_common (rdCons (rdA 0) (rdCons (rdA 1) (rdNil))))))) s
def names.F_circle : Sg := fnF 2 2 names.R_circle
-- is_rising: 0:many 1:fifth 2:told 3:at
def names.L_is_rising_1 (s : FL.Env) : Res T :=
  (op2 modO (op2 mulO (rdA 3) (rdA 1)) (rdA 0)) s
def names.L_is_rising_2 (s : FL.Env) : Res T :=
  (op2 ltO (ixA 2 (op2 subO (rdA 3) (rdC (.int 1)))) (ixA 2 (rdA 3))) s
def names.R_is_rising (s : FL.Env) : Res Fl :=
  (sq (sExpr (calU names.F_need_fifth (rdCons (rdA 0) (rdCons (rdA 1) (rdNil)))))
  (sq (sSet 2 (asT (frzM (lcM [3] (iSeq (calF tupO (rdCons (rdC (.int 0)) (rdCons (rdC (.int 2)) (rdCons (rdC (.int 4)) (rdCons (op1 negO (rdC (.int 1))) (rdCons (rdC (.int 1)) (rdCons (rdC (.int 3)) (rdCons (rdC (.int 5)) (rdNil)))))))))) (gN 3) (yes) (names.L_is_rising_1)))))
  (sRet (calF all1O (rdCons (frzM (lcM [3] (calI rg2 (rdCons (rdC (.int 1)) (rdCons (rdC (.int 7)) (rdNil)))) (gN 3) (yes) (names.L_is_rising_2))) (rdNil)))))) s
def names.F_is_rising : Sg := fnF 4 2 names.R_is_rising
-- name: 0:at
def names.R_name (s : FL.Env) : Res Fl :=
  (sq (sExpr (calU names.F_need_at (rdCons (rdA 0) (rdNil))))
  (sRet (calU names.F_name_of (rdCons (rdA 0) (rdNil))))) s
def names.F_name : Sg := fnF 1 1 names.R_name
-- sharp: 0:many 1:fifth 2:told
def names.R_sharp (s : FL.Env) : Res Fl :=
  (sq (sExpr (calU names.F_need_fifth (rdCons (rdA 0) (rdCons (rdA 1) (rdNil)))))
  (sq (sSet 2 (asT (op2 modO (op2 mulO (rdC (.int 7)) (rdA 1)) (rdA 0))))
  (sRet (ifE (tst (op2 gtO (op2 mulO (rdC (.int 2)) (rdA 2)) (rdA 0))) (op2 subO (rdA 2) (rdA 0)) (rdA 2))))) s
def names.F_sharp : Sg := fnF 3 2 names.R_sharp
-- spelling: 0:many 1:fifth 2:note 3:far 4:at
def names.B_spelling_1 (s : FL.Env) : Res Fl :=
  (sIf (tst (op2 eqO (op2 modO (op2 mulO (rdA 4) (rdA 1)) (rdA 0)) (rdA 2))) (sRet (calU names.F_name_of (rdCons (rdA 4) (rdNil)))) (skip)) s
def names.B_spelling_2 (s : FL.Env) : Res Fl :=
  (sFor (iSeq (calF tupO (rdCons (op2 subO (rdC (.int 2)) (rdA 3)) (rdCons (op2 addO (rdC (.int 2)) (rdA 3)) (rdNil))))) (gN 4) (names.B_spelling_1)) s
def names.R_spelling (s : FL.Env) : Res Fl :=
  (sq (sExpr (calU names.F_need_fifth (rdCons (rdA 0) (rdCons (rdA 1) (rdNil)))))
  (sq (sIf (notT (truth (calU limits.F_is_in (rdCons (rdA 2) (rdCons (rdC (.int 0)) (rdCons (op2 subO (rdA 0) (rdC (.int 1))) (rdNil))))))) (bad) (skip))
  (sq (sFor (calI rg1 (rdCons (op2 subO (rdC (.int (70))) (rdC (.int 2))) (rdNil))) (gN 3) (names.B_spelling_2))
  (sRet (rdC .non))))) s
def names.F_spelling : Sg := fnF 5 3 names.R_spelling
-- whole_steps: 0:many 1:fifth
def names.R_whole_steps (s : FL.Env) : Res Fl :=
  (sq (sExpr (calU names.F_need_fifth (rdCons (rdA 0) (rdCons (rdA 1) (rdNil)))))
  (sRet (calF tupO (rdCons (op2 modO (op2 mulO (rdC (.int 2)) (rdA 1)) (rdA 0)) (rdCons (op2 modO (op2 mulO (op1 negO (rdC (.int 5))) (rdA 1)) (rdA 0)) (rdNil)))))) s
def names.F_whole_steps : Sg := fnF 2 2 names.R_whole_steps
-- need_small: 0:limit
def neighbors.R_need_small (s : FL.Env) : Res Fl :=
  (sq (sExpr (calU limits.F_need_limit (rdCons (rdA 0) (rdNil))))
  (sIf (tst (op2 gtO (ixA 0 (op1 negO (rdC (.int 1)))) (rdC (.int (13))))) (bad) (skip))) s
def neighbors.F_need_small : Sg := fnF 1 1 neighbors.R_need_small
-- tuned_of: 0:found 1:interval 2:total 3:entry 4:row 5:one 6:other
def projections.L_tuned_of_1 (s : FL.Env) : Res T :=
  (calU ratios.F_add (rdCons (rdA 5) (rdCons (calU ratios.F_multiply (rdCons (calF tupO (rdCons (rdA 3) (rdCons (rdC (.int 1)) (rdNil)))) (rdCons (rdA 6) (rdNil)))) (rdNil)))) s
def projections.B_tuned_of_1 (s : FL.Env) : Res Fl :=
  (sSet 2 (asT (frzM (lcM [5, 6] (calI zip2 (rdCons (rdA 2) (rdCons (rdA 4) (rdNil)))) (gT (gsCons (gN 5) (gsCons (gN 6) (gsNil)))) (yes) (projections.L_tuned_of_1))))) s
def projections.R_tuned_of (s : FL.Env) : Res Fl :=
  (sq (sSet 2 (asT (op2 mulO (frzM (calO newL (rdCons (calF tupO (rdCons (rdC (.int 0)) (rdCons (rdC (.int 1)) (rdNil)))) (rdNil)))) (lenA 1))))
  (sq (sFor (calI zip2 (rdCons (rdA 1) (rdCons (rdA 0) (rdNil)))) (gT (gsCons (gN 3) (gsCons (gN 4) (gsNil)))) (projections.B_tuned_of_1))
  (sRet (calF tuple1O (rdCons (rdA 2) (rdNil)))))) s
def projections.F_tuned_of : Sg := fnF 7 2 projections.R_tuned_of
-- narrowest: 0:limit 1:intervals 2:found 3:interval
def scales.B_narrowest_1 (s : FL.Env) : Res Fl :=
  (sIf (tst (op2 ltO (calU limits.F_sign_of (rdCons (rdA 0) (rdCons (calU limits.F_minus (rdCons (rdA 3) (rdCons (rdA 2) (rdNil)))) (rdNil)))) (rdC (.int 0)))) (sSet 2 (asT (rdA 3))) (skip)) s
def scales.R_narrowest (s : FL.Env) : Res Fl :=
  (sq (sSet 2 (asT (ixA 1 (rdC (.int 0)))))
  (sq (sFor (iSeq (slM (rdA 1) (poS (rdC (.int 1))) (poN))) (gN 3) (scales.B_narrowest_1))
  (sRet (rdA 2)))) s
def scales.F_narrowest : Sg := fnF 4 2 scales.R_narrowest
-- need_scale: 0:limit 1:value 2:told 3:at 4:note
def scales.L_need_scale_1 (s : FL.Env) : Res T :=
  (calU limits.F_is_interval (rdCons (rdA 0) (rdCons (rdA 4) (rdNil)))) s
def scales.L_need_scale_2 (s : FL.Env) : Res T :=
  (op2 gtO (calU limits.F_sign_of (rdCons (rdA 0) (rdCons (calU limits.F_minus (rdCons (ixA 2 (rdA 3)) (rdCons (ixA 2 (op2 subO (rdA 3) (rdC (.int 1)))) (rdNil)))) (rdNil)))) (rdC (.int 0))) s
def scales.R_need_scale (s : FL.Env) : Res Fl :=
  (sq (sExpr (calU limits.F_need_limit (rdCons (rdA 0) (rdNil))))
  (sq (sIf (orT (notT (truth (op1 (isiO .tup) (rdA 1)))) (notT (tst (chn leO leO (rdC (.int 1)) (lenA 1) (rdC (.int (24))))))) (bad) (skip))
  (sq (sIf (orT (notT (truth (calF all1O (rdCons (frzM (lcM [4] (iSeq (rdA 1)) (gN 4) (yes) (scales.L_need_scale_1))) (rdNil))))) (tst (op2 neO (ixA 1 (rdC (.int 0))) (op2 mulO (calF tupO (rdCons (rdC (.int 0)) (rdNil))) (lenA 0))))) (bad) (skip))
  (sq (sSet 2 (asT (op2 addO (frzM (calO list1 (rdCons (rdA 1) (rdNil)))) (frzM (calO newL (rdCons (calU scales.F_first_of (rdCons (rdA 0) (rdNil))) (rdNil)))))))
  (sIf (notT (truth (calF all1O (rdCons (frzM (lcM [3] (calI rg2 (rdCons (rdC (.int 1)) (rdCons (lenA 2) (rdNil)))) (gN 3) (yes) (scales.L_need_scale_2))) (rdNil))))) (bad) (skip)))))) s
def scales.F_need_scale : Sg := fnF 5 2 scales.R_need_scale
-- widest: 0:limit 1:intervals 2:found 3:interval
def scales.B_widest_1 (s : FL.Env) : Res Fl :=
  (sIf (tst (op2 gtO (calU limits.F_sign_of (rdCons (rdA 0) (rdCons (calU limits.F_minus (rdCons (rdA 3) (rdCons (rdA 2) (rdNil)))) (rdNil)))) (rdC (.int 0)))) (sSet 2 (asT (rdA 3))) (skip)) s
def scales.R_widest (s : FL.Env) : Res Fl :=
  (sq (sSet 2 (asT (ixA 1 (rdC (.int 0)))))
  (sq (sFor (iSeq (slM (rdA 1) (poS (rdC (.int 1))) (poN))) (gN 3) (scales.B_widest_1))
  (sRet (rdA 2)))) s
def scales.F_widest : Sg := fnF 4 2 scales.R_widest
-- need_tempering: 0:limit 1:rows
def temper.R_need_tempering (s : FL.Env) : Res Fl :=
  (sq (sExpr (calU limits.F_need_limit (rdCons (rdA 0) (rdNil))))
  (sq (sExpr (calU lattices.F_need_rows (rdCons (rdA 1) (rdNil))))
  (sIf (tst (op2 neO (calF lenO (rdCons (ixA 1 (rdC (.int 0))) (rdNil))) (lenA 0))) (bad) (skip)))) s
def temper.F_need_tempering : Sg := fnF 2 2 temper.R_need_tempering
-- reached: 0:many 1:third 2:fifth 3:step
def triads.R_reached (s : FL.Env) : Res Fl :=
  (sq (sExpr (calU triads.F_need_shape (rdCons (rdA 0) (rdCons (rdA 1) (rdCons (rdA 2) (rdNil))))))
  (sq (sSet 3 (asT (calU limits.F_common (rdCons (calU limits.F_common (rdCons (rdA 1) (rdCons (rdA 2) (rdNil)))) (rdCons (rdA 0) (rdNil))))))
  (sRet (op2 mulO (rdC (.int 2)) (op2 divO (rdA 0) (rdA 3)))))) s
def triads.F_reached : Sg := fnF 4 3 triads.R_reached
-- places_of: 0:size 1:periods 2:notes 3:at
def chains.L_places_of_1 (s : FL.Env) : Res T :=
  (calF tupO (rdCons (calU chains.F_position (rdCons (rdA 0) (rdCons (rdA 1) (rdCons (rdA 3) (rdNil))))) (rdCons (rdA 3) (rdNil)))) s
def chains.R_places_of (s : FL.Env) : Res Fl :=
  (sRet (calU chains.F_in_order (rdCons (frzM (lcM [3] (calI rg1 (rdCons (rdA 2) (rdNil))) (gN 3) (yes) (chains.L_places_of_1))) (rdNil)))) s
def chains.F_places_of : Sg := fnF 4 3 chains.R_places_of
-- compare: 0:limit 1:one 2:other
def limits.R_compare (s : FL.Env) : Res Fl :=
  (sq (sExpr (calU limits.F_need_limit (rdCons (rdA 0) (rdNil))))
  (sq (sExpr (calU limits.F_need_interval (rdCons (rdA 0) (rdCons (rdA 1) (rdNil)))))
  (sq (sExpr (calU limits.F_need_interval (rdCons (rdA 0) (rdCons (rdA 2) (rdNil)))))
  (sRet (calU limits.F_sign_of (rdCons (rdA 0) (rdCons (calU limits.F_minus (rdCons (rdA 1) (rdCons (rdA 2) (rdNil)))) (rdNil)))))))) s
def limits.F_compare : Sg := fnF 3 3 limits.R_compare
-- height: 0:limit 1:interval 2:above 3:low
def limits.R_height (s : FL.Env) : Res Fl :=
  (sq (sExpr (calU limits.F_need_limit (rdCons (rdA 0) (rdNil))))
  (sq (sExpr (calU limits.F_need_interval (rdCons (rdA 0) (rdCons (rdA 1) (rdNil)))))
  (sq (sAsg (gT (gsCons (gN 2) (gsCons (gN 3) (gsNil)))) (calU limits.F_ratio_of (rdCons (rdA 0) (rdCons (rdA 1) (rdNil)))))
  (sRet (op2 mulO (rdA 2) (rdA 3)))))) s
def limits.F_height : Sg := fnF 4 2 limits.R_height
-- ordered: 0:limit 1:intervals
def limits.R_ordered (s : FL.Env) : Res Fl :=
  (sq (sExpr (calU limits.F_need_limit (rdCons (rdA 0) (rdNil))))
  (sq (sExpr (calU limits.F_need_intervals (rdCons (rdA 0) (rdCons (rdA 1) (rdCons (rdC (.int 0)) (rdNil))))))
  (sRet (calU limits.F_by_size (rdCons (rdA 0) (rdCons (rdA 1) (rdNil))))))) s
def limits.F_ordered : Sg := fnF 2 2 limits.R_ordered
-- ratio: 0:limit 1:interval
def limits.R_ratio (s : FL.Env) : Res Fl :=
  (sq (sExpr (calU limits.F_need_limit (rdCons (rdA 0) (rdNil))))
  (sq (sExpr (calU limits.F_need_interval (rdCons (rdA 0) (rdCons (rdA 1) (rdNil)))))
  (sRet (calU limits.F_ratio_of (rdCons (rdA 0) (rdCons (rdA 1) (rdNil))))))) s
def limits.F_ratio : Sg := fnF 2 2 limits.R_ratio
-- reduced: 0:limit 1:interval
def limits.R_reduced (s : FL.Env) : Res Fl :=
  (sq (sExpr (calU limits.F_need_limit (rdCons (rdA 0) (rdNil))))
  (sq (sExpr (calU limits.F_need_interval (rdCons (rdA 0) (rdCons (rdA 1) (rdNil)))))
  (sRet (calU limits.F_within (rdCons (rdA 0) (rdCons (rdA 1) (rdNil))))))) s
def limits.F_reduced : Sg := fnF 2 2 limits.R_reduced
-- gradus: 0:limit 1:interval 2:prime 3:entry
def neighbors.L_gradus_1 (s : FL.Env) : Res T :=
  (op2 mulO (calF abs1O (rdCons (rdA 3) (rdNil))) (op2 subO (rdA 2) (rdC (.int 1)))) s
def neighbors.R_gradus (s : FL.Env) : Res Fl :=
  (sq (sExpr (calU limits.F_need_limit (rdCons (rdA 0) (rdNil))))
  (sq (sExpr (calU limits.F_need_interval (rdCons (rdA 0) (rdCons (rdA 1) (rdNil)))))
  (sRet (op2 addO (rdC (.int 1)) (calF sum1O (rdCons (frzM (lcM [2, 3] (calI zip2 (rdCons (rdA 0) (rdCons (rdA 1) (rdNil)))) (gT (gsCons (gN 2) (gsCons (gN 3) (gsNil)))) (yes) (neighbors.L_gradus_1))) (rdNil))))))) s
def neighbors.F_gradus : Sg := fnF 4 2 neighbors.R_gradus
-- is_neighbor: 0:limit 1:interval 2:above 3:low
def neighbors.R_is_neighbor (s : FL.Env) : Res Fl :=
  (sq (sExpr (calU limits.F_need_limit (rdCons (rdA 0) (rdNil))))
  (sq (sExpr (calU limits.F_need_interval (rdCons (rdA 0) (rdCons (rdA 1) (rdNil)))))
  (sq (sAsg (gT (gsCons (gN 2) (gsCons (gN 3) (gsNil)))) (calU limits.F_ratio_of (rdCons (rdA 0) (rdCons (rdA 1) (rdNil)))))
  (sRet (op2 eqO (calF abs1O (rdCons (op2 subO (rdA 2) (rdA 3)) (rdNil))) (rdC (.int 1))))))) s
def neighbors.F_is_neighbor : Sg := fnF 4 2 neighbors.R_is_neighbor
-- mediant: 0:limit 1:one 2:other 3:first 4:second 5:above 6:low 7:x 8:y
def neighbors.C_mediant_1 (s : FL.Env) : Res Bool :=
  (tst (op2 neO (rdA 8) (rdC (.int 0)))) s
def neighbors.B_mediant_1 (s : FL.Env) : Res Fl :=
  (sPar 7 8 (xsCons (asT (rdA 8)) (xsCons (asT (op2 modO (rdA 7) (rdA 8))) (xsNil)))) s
def neighbors.R_mediant (s : FL.Env) : Res Fl :=
  (sq (sExpr (calU limits.F_need_limit (rdCons (rdA 0) (rdNil))))
  (sq (sExpr (calU limits.F_need_interval (rdCons (rdA 0) (rdCons (rdA 1) (rdNil)))))
  (sq (sExpr (calU limits.F_need_interval (rdCons (rdA 0) (rdCons (rdA 2) (rdNil)))))
  (sq (sPar 3 4 (xsCons (asT (calU limits.F_ratio_of (rdCons (rdA 0) (rdCons (rdA 1) (rdNil))))) (xsCons (asT (calU limits.F_ratio_of (rdCons (rdA 0) (rdCons (rdA 2) (rdNil))))) (xsNil))))
  (sq (sPar 5 6 (xsCons (asT (op2 addO (ixA 3 (rdC (.int 0))) (ixA 4 (rdC (.int 0))))) (xsCons (asT (op2 addO (ixA 3 (rdC (.int 1))) (ixA 4 (rdC (.int 1))))) (xsNil))))
  (sq (sPar 7 8 (xsCons (asT (rdA 5)) (xsCons (asT (rdA 6)) (xsNil))))
  (sq (whl (neighbors.C_mediant_1) (neighbors.B_mediant_1) 1000000)
  (sRet (calF tupO (rdCons (op2 divO (rdA 5) (rdA 7)) (rdCons (op2 divO (rdA 6) (rdA 7)) (rdNil)))))))))))) s
def neighbors.F_mediant : Sg := fnF 9 3 neighbors.R_mediant
-- compare_tuned: 0:limit 1:one 2:other 3:left 4:right 5:prime
def projections.L_compare_tuned_1 (s : FL.Env) : Res T :=
  (rdC (.int 0)) s
def projections.L_compare_tuned_2 (s : FL.Env) : Res T :=
  (calU ratios.F_add (rdCons (rdA 3) (rdCons (calU ratios.F_lowered (rdCons (op1 negO (ixA 4 (rdC (.int 0)))) (rdCons (ixA 4 (rdC (.int 1))) (rdNil)))) (rdNil)))) s
def projections.R_compare_tuned (s : FL.Env) : Res Fl :=
  (sq (sExpr (calU temper.F_need_tempering (rdCons (rdA 0) (rdCons (calF tupO (rdCons (ifE (andT (truth (op1 (isiO .tup) (rdA 0))) (tst (op2 neO (rdA 0) (calF tupO (rdNil))))) (calF tuple1O (rdCons (frzM (lcM [5] (iSeq (rdA 0)) (gN 5) (yes) (projections.L_compare_tuned_1))) (rdNil))) (calF tupO (rdCons (rdC (.int 0)) (rdNil)))) (rdNil))) (rdNil)))))
  (sq (sIf (orT (notT (truth (calU projections.F_is_parts (rdCons (rdA 0) (rdCons (rdA 1) (rdNil)))))) (notT (truth (calU projections.F_is_parts (rdCons (rdA 0) (rdCons (rdA 2) (rdNil))))))) (bad) (skip))
  (sRet (calU projections.F_sign_of_parts (rdCons (rdA 0) (rdCons (frzM (lcM [3, 4] (calI zip2 (rdCons (rdA 1) (rdCons (rdA 2) (rdNil)))) (gT (gsCons (gN 3) (gsCons (gN 4) (gsNil)))) (yes) (projections.L_compare_tuned_2))) (rdNil))))))) s
def projections.F_compare_tuned : Sg := fnF 6 3 projections.R_compare_tuned
-- need_pump: 0:limit 1:odd 2:interval
def pumps.R_need_pump (s : FL.Env) : Res Fl :=
  (sq (sExpr (calU limits.F_need_limit (rdCons (rdA 0) (rdNil))))
  (sq (sExpr (calU diamonds.F_need_octave (rdCons (rdA 0) (rdNil))))
  (sq (sExpr (calU diamonds.F_need_odd (rdCons (rdA 1) (rdNil))))
  (sExpr (calU limits.F_need_interval (rdCons (rdA 0) (rdCons (rdA 2) (rdNil)))))))) s
def pumps.F_need_pump : Sg := fnF 3 3 pumps.R_need_pump
-- from_steps: 0:limit 1:steps 2:step 3:told
def scales.B_from_steps_1 (s : FL.Env) : Res Fl :=
  (sExpr (calU limits.F_need_interval (rdCons (rdA 0) (rdCons (rdA 2) (rdNil))))) s
def scales.B_from_steps_2 (s : FL.Env) : Res Fl :=
  (sExpr (apnM 3 (calU limits.F_plus (rdCons (ixA 3 (op1 negO (rdC (.int 1)))) (rdCons (rdA 2) (rdNil)))))) s
def scales.R_from_steps (s : FL.Env) : Res Fl :=
  (sq (sExpr (calU limits.F_need_limit (rdCons (rdA 0) (rdNil))))
  (sq (sIf (orT (notT (truth (op1 (isiO .tup) (rdA 1)))) (notT (tst (chn leO leO (rdC (.int 1)) (lenA 1) (rdC (.int (24))))))) (bad) (skip))
  (sq (sFor (iSeq (rdA 1)) (gN 2) (scales.B_from_steps_1))
  (sq (sSet 3 (asO (calO newL (rdCons (op2 mulO (calF tupO (rdCons (rdC (.int 0)) (rdNil))) (lenA 0)) (rdNil)))))
  (sq (sFor (iSeq (rdA 1)) (gN 2) (scales.B_from_steps_2))
  (sq (sIf (tst (op2 neO (ixA 3 (op1 negO (rdC (.int 1)))) (calU scales.F_first_of (rdCons (rdA 0) (rdNil))))) (bad) (skip))
  (sq (sExpr (calU scales.F_need_scale (rdCons (rdA 0) (rdCons (calF tuple1O (rdCons (slM (rdA 3) (poN) (poS (op1 negO (rdC (.int 1))))) (rdNil))) (rdNil)))))
  (sRet (calF tuple1O (rdCons (slM (rdA 3) (poN) (poS (op1 negO (rdC (.int 1))))) (rdNil))))))))))) s
def scales.F_from_steps : Sg := fnF 4 2 scales.R_from_steps
-- mode: 0:limit 1:scale 2:at 3:more
def scales.L_mode_1 (s : FL.Env) : Res T :=
  (calU limits.F_minus (rdCons (calU scales.F_note_at (rdCons (rdA 0) (rdCons (rdA 1) (rdCons (op2 addO (rdA 2) (rdA 3)) (rdNil))))) (rdCons (ixA 1 (rdA 2)) (rdNil)))) s
def scales.R_mode (s : FL.Env) : Res Fl :=
  (sq (sExpr (calU scales.F_need_scale (rdCons (rdA 0) (rdCons (rdA 1) (rdNil)))))
  (sq (sIf (notT (truth (calU limits.F_is_in (rdCons (rdA 2) (rdCons (rdC (.int 0)) (rdCons (op2 subO (lenA 1) (rdC (.int 1))) (rdNil))))))) (bad) (skip))
  (sRet (calF tuple1O (rdCons (frzM (lcM [3] (calI rg1 (rdCons (lenA 1) (rdNil))) (gN 3) (yes) (scales.L_mode_1))) (rdNil)))))) s
def scales.F_mode : Sg := fnF 4 3 scales.R_mode
-- overlap_of: 0:limit 1:scale 2:least 3:size 4:gap
def scales.B_overlap_of_1 (s : FL.Env) : Res Fl :=
  (sq (sSet 4 (asT (calU limits.F_minus (rdCons (calU scales.F_widest (rdCons (rdA 0) (rdCons (calU scales.F_spans_of (rdCons (rdA 0) (rdCons (rdA 1) (rdCons (rdA 3) (rdNil))))) (rdNil)))) (rdCons (calU scales.F_narrowest (rdCons (rdA 0) (rdCons (calU scales.F_spans_of (rdCons (rdA 0) (rdCons (rdA 1) (rdCons (op2 addO (rdA 3) (rdC (.int 1))) (rdNil))))) (rdNil)))) (rdNil))))))
  (sIf (tst (op2 geO (calU limits.F_sign_of (rdCons (rdA 0) (rdCons (rdA 4) (rdNil)))) (rdA 2))) (sRet (rdA 3)) (skip))) s
def scales.R_overlap_of (s : FL.Env) : Res Fl :=
  (sq (sFor (calI rg2 (rdCons (rdC (.int 1)) (rdCons (op2 subO (lenA 1) (rdC (.int 1))) (rdNil)))) (gN 3) (scales.B_overlap_of_1))
  (sRet (rdC .non))) s
def scales.F_overlap_of : Sg := fnF 5 3 scales.R_overlap_of
-- spans: 0:limit 1:scale 2:size
def scales.R_spans (s : FL.Env) : Res Fl :=
  (sq (sExpr (calU scales.F_need_scale (rdCons (rdA 0) (rdCons (rdA 1) (rdNil)))))
  (sq (sIf (notT (truth (calU limits.F_is_in (rdCons (rdA 2) (rdCons (rdC (.int 0)) (rdCons (op2 mulO (rdC (.int 2)) (rdC (.int (24)))) (rdNil))))))) (bad) (skip))
  (sRet (calU scales.F_spans_of (rdCons (rdA 0) (rdCons (rdA 1) (rdCons (rdA 2) (rdNil)))))))) s
def scales.F_spans : Sg := fnF 3 3 scales.R_spans
-- steps_of_scale: 0:limit 1:scale
def scales.R_steps_of_scale (s : FL.Env) : Res Fl :=
  (sq (sExpr (calU scales.F_need_scale (rdCons (rdA 0) (rdCons (rdA 1) (rdNil)))))
  (sRet (calF tuple1O (rdCons (calU scales.F_spans_of (rdCons (rdA 0) (rdCons (rdA 1) (rdCons (rdC (.int 1)) (rdNil))))) (rdNil))))) s
def scales.F_steps_of_scale : Sg := fnF 2 2 scales.R_steps_of_scale
-- are_alike: 0:limit 1:rows 2:one 3:other
def temper.R_are_alike (s : FL.Env) : Res Fl :=
  (sq (sExpr (calU temper.F_need_tempering (rdCons (rdA 0) (rdCons (rdA 1) (rdNil)))))
  (sq (sExpr (calU limits.F_need_interval (rdCons (rdA 0) (rdCons (rdA 2) (rdNil)))))
  (sq (sExpr (calU limits.F_need_interval (rdCons (rdA 0) (rdCons (rdA 3) (rdNil)))))
  (sRet (op2 eqO (calU temper.F_steps_of (rdCons (rdA 1) (rdCons (rdA 2) (rdNil)))) (calU temper.F_steps_of (rdCons (rdA 1) (rdCons (rdA 3) (rdNil))))))))) s
def temper.F_are_alike : Sg := fnF 4 4 temper.R_are_alike
-- need_temperings: 0:limit 1:one 2:other
def temper.R_need_temperings (s : FL.Env) : Res Fl :=
  (sq (sExpr (calU temper.F_need_tempering (rdCons (rdA 0) (rdCons (rdA 1) (rdNil)))))
  (sq (sExpr (calU lattices.F_need_rows (rdCons (rdA 2) (rdNil))))
  (sIf (tst (op2 neO (calF lenO (rdCons (ixA 2 (rdC (.int 0))) (rdNil))) (lenA 0))) (bad) (skip)))) s
def temper.F_need_temperings : Sg := fnF 3 3 temper.R_need_temperings
-- alike_range: 0:size 1:periods 2:notes 3:told 4:places 5:at 6:low 7:high 8:rounds 9:shift 10:edge 11:one 12:other 13:place
def chains.L_alike_range_1 (s : FL.Env) : Res T :=
  (rdA 13) s
def chains.L_alike_range_2 (s : FL.Env) : Res T :=
  (op2 eqO (ixA 4 (rdA 5)) (ixA 4 (op2 subO (rdA 5) (rdC (.int 1))))) s
def chains.B_alike_range_1 (s : FL.Env) : Res Fl :=
  (sq (sSet 8 (asT (calU ratios.F_floor (rdCons (calU ratios.F_multiply (rdCons (calU ratios.F_multiply (rdCons (calF tupO (rdCons (rdA 5) (rdCons (rdC (.int 1)) (rdNil)))) (rdCons (rdA 0) (rdNil)))) (rdCons (calF tupO (rdCons (rdA 1) (rdCons (rdC (.int 1)) (rdNil)))) (rdNil)))) (rdNil)))))
  (sPar 6 7 (xsCons (asT (calU chains.F_wider (rdCons (rdA 6) (rdCons (calU ratios.F_lowered (rdCons (rdA 8) (rdCons (op2 mulO (rdA 1) (rdA 5)) (rdNil)))) (rdNil))))) (xsCons (asT (calU chains.F_narrower (rdCons (rdA 7) (rdCons (calU ratios.F_lowered (rdCons (op2 addO (rdA 8) (rdC (.int 1))) (rdCons (op2 mulO (rdA 1) (rdA 5)) (rdNil)))) (rdNil))))) (xsNil))))) s
def chains.B_alike_range_2 (s : FL.Env) : Res Fl :=
  (sq (sPar 11 12 (xsCons (asT (op2 ixO (ixA 3 (op2 subO (rdA 5) (rdC (.int 1)))) (rdC (.int 1)))) (xsCons (asT (op2 ixO (ixA 3 (rdA 5)) (rdC (.int 1)))) (xsNil))))
  (sq (sSet 9 (asT (calU ratios.F_floor (rdCons (calU ratios.F_multiply (rdCons (calU ratios.F_multiply (rdCons (calF tupO (rdCons (rdA 12) (rdCons (rdC (.int 1)) (rdNil)))) (rdCons (rdA 0) (rdNil)))) (rdCons (calF tupO (rdCons (rdA 1) (rdCons (rdC (.int 1)) (rdNil)))) (rdNil)))) (rdNil)))))
  (sq (sAug 9 (intO fun i j => .int (i - j)) (calU ratios.F_floor (rdCons (calU ratios.F_multiply (rdCons (calU ratios.F_multiply (rdCons (calF tupO (rdCons (rdA 11) (rdCons (rdC (.int 1)) (rdNil)))) (rdCons (rdA 0) (rdNil)))) (rdCons (calF tupO (rdCons (rdA 1) (rdCons (rdC (.int 1)) (rdNil)))) (rdNil)))) (rdNil))))
  (sq (sSet 10 (asT (calU ratios.F_lowered (rdCons (rdA 9) (rdCons (op2 mulO (rdA 1) (op2 subO (rdA 12) (rdA 11))) (rdNil))))))
  (sIf (tst (op2 gtO (rdA 12) (rdA 11))) (sSet 6 (asT (calU chains.F_wider (rdCons (rdA 6) (rdCons (rdA 10) (rdNil)))))) (sSet 7 (asT (calU chains.F_narrower (rdCons (rdA 7) (rdCons (rdA 10) (rdNil))))))))))) s
def chains.R_alike_range (s : FL.Env) : Res Fl :=
  (sq (sExpr (calU chains.F_need_chain (rdCons (rdA 0) (rdCons (rdA 1) (rdCons (rdA 2) (rdNil))))))
  (sq (sSet 3 (asT (calU chains.F_places_of (rdCons (rdA 0) (rdCons (rdA 1) (rdCons (rdA 2) (rdNil)))))))
  (sq (sSet 4 (asT (frzM (lcM [13, 5] (iSeq (rdA 3)) (gT (gsCons (gN 13) (gsCons (gN 5) (gsNil)))) (yes) (chains.L_alike_range_1)))))
  (sq (sIf (truth (calF any1O (rdCons (frzM (lcM [5] (calI rg2 (rdCons (rdC (.int 1)) (rdCons (lenA 4) (rdNil)))) (gN 5) (yes) (chains.L_alike_range_2))) (rdNil)))) (sRet (rdC .non)) (skip))
  (sq (sAsg (gT (gsCons (gN 6) (gsCons (gN 7) (gsNil)))) (calF tupO (rdCons (calF tupO (rdCons (rdC (.int 0)) (rdCons (rdC (.int 1)) (rdNil)))) (rdCons (calF tupO (rdCons (rdC (.int 1)) (rdCons (rdC (.int 1)) (rdNil)))) (rdNil)))))
  (sq (sFor (calI rg2 (rdCons (rdC (.int 1)) (rdCons (rdA 2) (rdNil)))) (gN 5) (chains.B_alike_range_1))
  (sq (sFor (calI rg2 (rdCons (rdC (.int 1)) (rdCons (lenA 3) (rdNil)))) (gN 5) (chains.B_alike_range_2))
  (sRet (calF tupO (rdCons (rdA 6) (rdCons (rdA 7) (rdNil)))))))))))) s
def chains.F_alike_range : Sg := fnF 14 3 chains.R_alike_range
-- chain_places: 0:size 1:periods 2:notes
def chains.R_chain_places (s : FL.Env) : Res Fl :=
  (sq (sExpr (calU chains.F_need_chain (rdCons (rdA 0) (rdCons (rdA 1) (rdCons (rdA 2) (rdNil))))))
  (sRet (calU chains.F_places_of (rdCons (rdA 0) (rdCons (rdA 1) (rdCons (rdA 2) (rdNil))))))) s
def chains.F_chain_places : Sg := fnF 3 3 chains.R_chain_places
-- chain_steps: 0:size 1:periods 2:notes 3:told 4:at 5:place
def chains.L_chain_steps_1 (s : FL.Env) : Res T :=
  (rdA 5) s
def chains.L_chain_steps_2 (s : FL.Env) : Res T :=
  (calU ratios.F_add (rdCons (ixA 3 (op2 addO (rdA 4) (rdC (.int 1)))) (rdCons (calU ratios.F_lowered (rdCons (op1 negO (ixA 5 (rdC (.int 0)))) (rdCons (ixA 5 (rdC (.int 1))) (rdNil)))) (rdNil)))) s
def chains.R_chain_steps (s : FL.Env) : Res Fl :=
  (sq (sExpr (calU chains.F_need_chain (rdCons (rdA 0) (rdCons (rdA 1) (rdCons (rdA 2) (rdNil))))))
  (sq (sSet 3 (asT (op2 addO (frzM (lcM [5, 4] (iSeq (calU chains.F_places_of (rdCons (rdA 0) (rdCons (rdA 1) (rdCons (rdA 2) (rdNil)))))) (gT (gsCons (gN 5) (gsCons (gN 4) (gsNil)))) (yes) (chains.L_chain_steps_1))) (frzM (calO newL (rdCons (calF tupO (rdCons (rdC (.int 1)) (rdCons (rdA 1) (rdNil)))) (rdNil)))))))
  (sRet (frzM (lcM [4, 5] (calI enum1 (rdCons (slM (rdA 3) (poN) (poS (op1 negO (rdC (.int 1))))) (rdNil))) (gT (gsCons (gN 4) (gsCons (gN 5) (gsNil)))) (yes) (chains.L_chain_steps_2)))))) s
def chains.F_chain_steps : Sg := fnF 6 3 chains.R_chain_steps
-- is_alike: 0:size 1:other 2:periods 3:notes 4:one 5:two 6:place 7:at
def chains.L_is_alike_1 (s : FL.Env) : Res T :=
  (rdA 7) s
def chains.L_is_alike_2 (s : FL.Env) : Res T :=
  (rdA 7) s
def chains.R_is_alike (s : FL.Env) : Res Fl :=
  (sq (sExpr (calU chains.F_need_chain (rdCons (rdA 0) (rdCons (rdA 2) (rdCons (rdA 3) (rdNil))))))
  (sq (sExpr (calU chains.F_need_size (rdCons (rdA 1) (rdNil))))
  (sq (sPar 4 5 (xsCons (asT (calU chains.F_places_of (rdCons (rdA 0) (rdCons (rdA 2) (rdCons (rdA 3) (rdNil)))))) (xsCons (asT (calU chains.F_places_of (rdCons (rdA 1) (rdCons (rdA 2) (rdCons (rdA 3) (rdNil)))))) (xsNil))))
  (sRet (op2 eqO (frzM (lcM [6, 7] (iSeq (rdA 4)) (gT (gsCons (gN 6) (gsCons (gN 7) (gsNil)))) (yes) (chains.L_is_alike_1))) (frzM (lcM [6, 7] (iSeq (rdA 5)) (gT (gsCons (gN 6) (gsCons (gN 7) (gsNil)))) (yes) (chains.L_is_alike_2)))))))) s
def chains.F_is_alike : Sg := fnF 8 4 chains.R_is_alike
-- overlap: 0:limit 1:scale 2:is_strict
def scales.R_overlap (s : FL.Env) : Res Fl :=
  (sq (sExpr (calU scales.F_need_scale (rdCons (rdA 0) (rdCons (rdA 1) (rdNil)))))
  (sq (sIf (notT (truth (op1 (isiO .bl) (rdA 2)))) (bad) (skip))
  (sRet (calU scales.F_overlap_of (rdCons (rdA 0) (rdCons (rdA 1) (rdCons (ifE (truth (rdA 2)) (rdC (.int 0)) (rdC (.int 1))) (rdNil)))))))) s
def scales.F_overlap : Sg := fnF 3 3 scales.R_overlap
-- _law_alike: 0:_law_found 1:_law_due 2:_law_k
def lw.Q__law_alike_1 (self : Sg) (s : FL.Env) : Res Bool :=
  (notT (truth (calU self (rdCons (ixA 0 (rdA 2)) (rdCons (ixA 1 (rdA 2)) (rdNil)))))) s
def lw.L__law_alike_1 (self : Sg) (s : FL.Env) : Res T :=
  (rdA 2) s
def lw.R__law_alike (self : Sg) (s : FL.Env) : Res Fl :=
  (sq (sIf (truth (op1 (isi2O .tup .lst) (rdA 1))) (sq (sIf (orT (notT (truth (op1 (isi2O .tup .lst) (rdA 0)))) (tst (op2 neO (op1 (isiO .lst) (rdA 0)) (op1 (isiO .lst) (rdA 1))))) (sRet (rdC (.bl false))) (skip))
  (sq (sIf (tst (op2 neO (lenA 0) (lenA 1))) (sRet (rdC (.bl false))) (skip))
  (sRet (op2 eqO (frzM (lcM [2] (calI rg1 (rdCons (lenA 1) (rdNil))) (gN 2) ((lw.Q__law_alike_1 self)) ((lw.L__law_alike_1 self)))) (frzM (calO newL (rdNil))))))) (skip))
  (sq (sIf (orT (tst (op2 (isNO false) (rdA 1) (rdC .non))) (truth (op1 (isiO .str) (rdA 1)))) (sRet (andV (op2 eqO (rdA 0) (rdA 1)) (op2 eqO (op1 (isiO .str) (rdA 0)) (op1 (isiO .str) (rdA 1))))) (skip))
  (sRet (andV (op1 (isiO .int) (rdA 0)) (andV (op2 eqO (op1 (isiO .bl) (rdA 0)) (op1 (isiO .bl) (rdA 1))) (op2 eqO (rdA 0) (rdA 1))))))) s
def lw.F__law_alike : Nat → Sg
  | 0 => fun _ => .bad
  | k + 1 => fnF 3 2 (lw.R__law_alike (lw.F__law_alike k))
-- _law_det: 0:_law_rows_here 1:_law_total 2:_law_at 3:_law_part 4:_law_line
def lw.L__law_det_1 (self : Sg) (s : FL.Env) : Res T :=
  (op2 addO (frzM (calO list1 (rdCons (slM (rdA 4) (poN) (poS (rdA 2))) (rdNil)))) (frzM (calO list1 (rdCons (slM (rdA 4) (poS (op2 addO (rdA 2) (rdC (.int 1)))) (poN)) (rdNil))))) s
def lw.B__law_det_1 (self : Sg) (s : FL.Env) : Res Fl :=
  (sIf (tst (op2 neO (op2 ixO (ixA 0 (rdC (.int 0))) (rdA 2)) (rdC (.int 0)))) (sq (sSet 3 (asT (op2 mulO (op2 ixO (ixA 0 (rdC (.int 0))) (rdA 2)) (calU self (rdCons (frzM (lcM [4] (iSeq (slM (rdA 0) (poS (rdC (.int 1))) (poN))) (gN 4) (yes) ((lw.L__law_det_1 self)))) (rdNil))))))
  (sSet 1 (asT (op2 addO (rdA 1) (ifE (tst (op2 eqO (op2 modO (rdA 2) (rdC (.int 2))) (rdC (.int 0)))) (rdA 3) (op2 subO (rdC (.int 0)) (rdA 3))))))) (skip)) s
def lw.R__law_det (self : Sg) (s : FL.Env) : Res Fl :=
  (sq (sIf (tst (op2 eqO (lenA 0) (rdC (.int 0)))) (sRet (rdC (.int 1))) (skip))
  (sq (sSet 1 (asT (rdC (.int 0))))
  (sq (sFor (calI rg1 (rdCons (lenA 0) (rdNil))) (gN 2) ((lw.B__law_det_1 self)))
  (sRet (rdA 1))))) s
def lw.F__law_det : Nat → Sg
  | 0 => fun _ => .bad
  | k + 1 => fnF 5 1 (lw.R__law_det (lw.F__law_det k))
-- simplest: 0:low 1:high 2:whole 3:base 4:found 5:left 6:right
def ranges.R_simplest (self : Sg) (s : FL.Env) : Res Fl :=
  (sq (sSet 2 (asT (op1 negO (op2 divO (op1 negO (ixA 0 (rdC (.int 0)))) (ixA 0 (rdC (.int 1)))))))
  (sq (sIf (tst (op2 leO (op2 mulO (rdA 2) (ixA 1 (rdC (.int 1)))) (ixA 1 (rdC (.int 0))))) (sq (sIf (tst (chn leO leO (ixA 0 (rdC (.int 0))) (rdC (.int 0)) (ixA 1 (rdC (.int 0))))) (sRet (calF tupO (rdCons (rdC (.int 0)) (rdCons (rdC (.int 1)) (rdNil))))) (skip))
  (sRet (ifE (tst (op2 gtO (rdA 2) (rdC (.int 0)))) (calF tupO (rdCons (rdA 2) (rdCons (rdC (.int 1)) (rdNil)))) (calF tupO (rdCons (op2 divO (ixA 1 (rdC (.int 0))) (ixA 1 (rdC (.int 1)))) (rdCons (rdC (.int 1)) (rdNil))))))) (skip))
  (sq (sSet 3 (asT (op2 divO (ixA 0 (rdC (.int 0))) (ixA 0 (rdC (.int 1))))))
  (sq (sPar 5 6 (xsCons (asT (calF tupO (rdCons (op2 subO (ixA 0 (rdC (.int 0))) (op2 mulO (rdA 3) (ixA 0 (rdC (.int 1))))) (rdCons (ixA 0 (rdC (.int 1))) (rdNil))))) (xsCons (asT (calF tupO (rdCons (op2 subO (ixA 1 (rdC (.int 0))) (op2 mulO (rdA 3) (ixA 1 (rdC (.int 1))))) (rdCons (ixA 1 (rdC (.int 1))) (rdNil))))) (xsNil))))
  (sq (sSet 4 (asT (calU self (rdCons (calF tupO (rdCons (ixA 6 (rdC (.int 1))) (rdCons (ixA 6 (rdC (.int 0))) (rdNil)))) (rdCons (calF tupO (rdCons (ixA 5 (rdC (.int 1))) (rdCons (ixA 5 (rdC (.int 0))) (rdNil)))) (rdNil))))))
  (sRet (calF tupO (rdCons (op2 addO (op2 mulO (rdA 3) (ixA 4 (rdC (.int 0)))) (ixA 4 (rdC (.int 1)))) (rdCons (ixA 4 (rdC (.int 0))) (rdNil)))))))))) s
def ranges.F_simplest : Nat → Sg
  | 0 => fun _ => .bad
  | k + 1 => fnF 7 2 (ranges.R_simplest (ranges.F_simplest k))
-- _law_commas: 0:_law_row 1:_law_limit 2:_law_most 3:_law_turn 4:_law_rows_here 5:_law_size 6:_law_line 7:_law_at
def lw.L__law_commas_1 (s : FL.Env) : Res T :=
  (slM (rdA 6) (poS (rdC (.int 1))) (poN)) s
def lw.B__law_commas_1 (s : FL.Env) : Res Fl :=
  (sq (sSet 4 (asT (calM lw.F__law_rows 0 (rdCons (op2 subO (lenA 1) (rdC (.int 1))) (rdCons (lenA 1) (rdCons (rdA 2) (rdNil)))))))
  (sq (sSet 5 (asT (calF abs1O (rdCons (calU (lw.F__law_det 8) (rdCons (frzM (lcM [6] (iSeq (rdA 4)) (gN 6) (yes) (lw.L__law_commas_1))) (rdNil))) (rdNil)))))
  (sIf (tst (chn ltO ltO (rdC (.int 0)) (rdA 5) (rdC (.int 40)))) (sRet (rdA 4)) (skip)))) s
def lw.L__law_commas_2 (s : FL.Env) : Res T :=
  (ifE (tst (op2 eqO (rdA 7) (op2 addO (rdA 6) (rdC (.int 1))))) (rdC (.int 1)) (rdC (.int 0))) s
def lw.L__law_commas_3 (s : FL.Env) : Res T :=
  (calF tuple1O (rdCons (frzM (lcM [7] (calI rg1 (rdCons (lenA 1) (rdNil))) (gN 7) (yes) (lw.L__law_commas_2))) (rdNil))) s
def lw.R__law_commas (s : FL.Env) : Res Fl :=
  (sq (sFor (calI rg1 (rdCons (rdC (.int 30)) (rdNil))) (gN 3) (lw.B__law_commas_1))
  (sRet (calF tuple1O (rdCons (frzM (lcM [6] (calI rg1 (rdCons (op2 subO (lenA 1) (rdC (.int 1))) (rdNil))) (gN 6) (yes) (lw.L__law_commas_3))) (rdNil))))) s
def lw.F__law_commas : SgM := fnM 8 3 lw.R__law_commas
-- _law_minors: 0:_law_rows_here 1:_law_many 2:_law_wide 3:_law_found 4:_law_lines 5:_law_places 6:_law_line 7:_law_at
def lw.L__law_minors_1 (s : FL.Env) : Res T :=
  (op2 ixO (ixA 0 (rdA 6)) (rdA 7)) s
def lw.L__law_minors_2 (s : FL.Env) : Res T :=
  (frzM (lcM [7] (iSeq (rdA 5)) (gN 7) (yes) (lw.L__law_minors_1))) s
def lw.B__law_minors_1 (s : FL.Env) : Res Fl :=
  (sExpr (apnM 3 (calU (lw.F__law_det 8) (rdCons (frzM (lcM [6] (iSeq (rdA 4)) (gN 6) (yes) (lw.L__law_minors_2))) (rdNil))))) s
def lw.B__law_minors_2 (s : FL.Env) : Res Fl :=
  (sFor (iSeq (calU lw.F__law_columns (rdCons (rdA 2) (rdCons (rdA 1) (rdNil))))) (gN 5) (lw.B__law_minors_1)) s
def lw.R__law_minors (s : FL.Env) : Res Fl :=
  (sq (sSet 3 (asO (calO newL (rdNil))))
  (sq (sFor (iSeq (calU lw.F__law_columns (rdCons (lenA 0) (rdCons (rdA 1) (rdNil))))) (gN 4) (lw.B__law_minors_2))
  (sRet (rdA 3)))) s
def lw.F__law_minors : Sg := fnF 8 3 lw.R__law_minors
end TW

/-! M1: the laws' common helpers: what they compute. -/
namespace FL
open PySem PySem.Spec TW
/-- the row of drawn numbers -/
def RowOk (o : O) : Prop := ∃ (cs : List Int) (a b c : Int), o = .l [.sl (cs.map T.int), .int a, .int b, .int c] ∧ 0 ≤ a ∧ 0 ≤ b ∧ b < 2147483647
theorem p18 : powO (.int 10) (.int 18) = some (.int 1000000000000000000) := by rfl
theorem pc18 : powC 10 18 = true := by decide
theorem taken {o : O} (h : RowOk o) {m : Int} (h0 : 0 < m) (h1 : m < 18446744073709551616) : ∃ r o', lw.F__law_taken o [.int m] = .ok (.int r, o') [] ∧ 0 ≤ r ∧ r < m ∧ RowOk o' := by
  obtain ⟨cs, a, b, c, rfl, ha, hb, hb2⟩ := h
  have hm : ∀ i : Int, 0 ≤ i % m ∧ i % m < m := fun i => ⟨Int.emod_nonneg _ (by omega), Int.emod_lt_of_pos _ h0⟩
  have hd : ∀ i : Int, divO (.int i) (.int m) = some (.int (i / m)) := fun i => divO_e h0 h1
  have hmo : ∀ i : Int, modO (.int i) (.int m) = some (.int (i % m)) := fun i => modO_e h0
  have h2 : ∀ i : Int, modO (.int i) (.int 2147483647) = some (.int (i % 2147483647)) := fun i => modO_e (by decide)
  have h7 : ∀ i : Int, divO (.int i) (.int 7) = some (.int (i / 7)) := fun i => divO_e (by decide) (by decide)
  have hb3 : ∀ i : Int, 0 ≤ i % 2147483647 ∧ i % 2147483647 < 2147483647 := fun i => ⟨Int.emod_nonneg _ (by omega), Int.emod_lt_of_pos _ (by decide)⟩
  have hmu : mulO (.int b) (.int 48271) = some (.int (b * 48271)) := mulO_64 (by omega) (by omega) (by decide) (by decide)
  have i0 : ∀ {x y z w : T}, atT [x, y, z, w] 0 = some x := rfl
  have i1 : ∀ {x y z w : T}, atT [x, y, z, w] 1 = some y := rfl
  have i2 : ∀ {x y z w : T}, atT [x, y, z, w] 2 = some z := rfl
  have i3 : ∀ {x y z w : T}, atT [x, y, z, w] 3 = some w := rfl
  have d1 : idx 4 1 = some 1 := rfl
  have d2 : idx 4 2 = some 2 := rfl
  have d3 : idx 4 3 = some 3 := rfl
  by_cases hc : 0 < c
  · refine ⟨c % m, .l [.sl (cs.map T.int), .int a, .int b, .int (c / m)], ?_, (hm c).1, (hm c).2, cs, a, b, _, rfl, ha, hb, hb2⟩
    simp [lw.F__law_taken, fnM, lw.R__law_taken, has_e, rdOwn_e, setOwn_e, i0, i1, i2, i3, d3, hc, hmo, hd, rdA_e]
  · by_cases hl : (cs.length : Int) < a + 1
    · refine ⟨((b * 48271 + 11) % 2147483647) / 7 % m, .l [.sl (cs.map T.int), .int (a + 1), .int ((b * 48271 + 11) % 2147483647), .int c], ?_, (hm _).1, (hm _).2, cs, a + 1, _, _, rfl, by omega, (hb3 _).1, (hb3 _).2⟩
      simp [lw.F__law_taken, fnM, lw.R__law_taken, has_e, rdOwn_e, setOwn_e, i0, i1, i2, i3, d1, d2, d3, hc, hmo, hd, rdA_e, hl, h2, h7, hmu]
    · have hx : a.toNat < cs.length := by omega
      have hcell : atT (cs.map T.int) a = some (.int (cs[a.toNat]'hx)) := atT_pos ha (by simp [hx])
      generalize hz : cs[a.toNat]'hx = z at hcell
      by_cases hg : 1000000000000000000 ≤ z
      · refine ⟨z % m, .l [.sl (cs.map T.int), .int (a + 1), .int ((b * 48271 + z + 11) % 2147483647), .int (z / m)], ?_, (hm _).1, (hm _).2, cs, a + 1, _, _, rfl, by omega, (hb3 _).1, (hb3 _).2⟩
        simp [lw.F__law_taken, fnM, lw.R__law_taken, has_e, rdOwn_e, setOwn_e, i0, i1, i2, i3, d1, d2, d3, hc, hmo, hd, rdA_e, hl, h2, h7, hmu, hcell, p18, pc18, hg]
      · refine ⟨z % m, .l [.sl (cs.map T.int), .int (a + 1), .int ((b * 48271 + z + 11) % 2147483647), .int c], ?_, (hm _).1, (hm _).2, cs, a + 1, _, _, rfl, by omega, (hb3 _).1, (hb3 _).2⟩
        simp [lw.F__law_taken, fnM, lw.R__law_taken, has_e, rdOwn_e, setOwn_e, i0, i1, i2, i3, d1, d2, d3, hc, hmo, hd, rdA_e, hl, h2, h7, hmu, hcell, p18, pc18, hg]

theorem pick {o : O} (h : RowOk o) {ts : List T} (h0 : 0 < ts.length) (h1 : ts.length < 1000000) {t : T} (ht : t = .lst ts ∨ t = .tup ts) : ∃ x o', x ∈ ts ∧ lw.F__law_pick o [t] = .ok (x, o') [] ∧ RowOk o' := by
  obtain ⟨r, o', e, r0, r1, h'⟩ := taken h (m := ts.length) (by omega) (by omega)
  have hr : r.toNat < ts.length := by omega
  have ha : atT ts r = some (ts[r.toNat]'hr) := atT_pos r0 (by simp [hr])
  refine ⟨ts[r.toNat]'hr, o', List.getElem_mem hr, ?_, h'⟩
  rcases ht with rfl | rfl <;> simp [lw.F__law_pick, fnM, lw.R__law_pick, has_e, rdOwn_e, setOwn_e, rdA_e, e, ha]
theorem is_int_i {i : Int} : limits.F_is_int [.int i] = .ok (.bl true) [] := rfl
theorem is_in_i {i a b : Int} : limits.F_is_in [.int i, .int a, .int b] = .ok (.bl (decide (a ≤ i) && decide (i ≤ b))) [] := by
  by_cases h : a ≤ i
  · simp [limits.F_is_in, fnF, limits.R_is_in, rdA_e, is_int_i, h]
  · simp [limits.F_is_in, fnF, limits.R_is_in, rdA_e, is_int_i, h]
theorem pow_lt {b : Int} {s : Nat} (h : b.natAbs < 2 ^ s) : (b * b).natAbs < 2 ^ (2 * s) := by
  rw [Int.natAbs_mul, Nat.two_mul, Nat.pow_add]
  exact Nat.mul_lt_mul'' h h
theorem power_loop : ∀ (n : Nat) (b f : Int) (e s t : Nat), e < 2 ^ n → 0 < s → 0 < t → b.natAbs < 2 ^ s → f.natAbs < 2 ^ t → 2 * s * e + t ≤ 1000000 →
    ∃ b' : Int, whl limits.C_power_1 limits.B_power_1 (n + 1) [.fz (.int b), .fz (.int e), .fz (.int f)] = .ok .nx [.fz (.int b'), .fz (.int 0), .fz (.int (f * b ^ e))]
  | 0, b, f, e, s, t, he, _, _, _, _, _ => by
    have : e = 0 := by simpa using he
    subst this
    exact ⟨b, by rw [whl_succ]; simp [limits.C_power_1, limits.B_power_1, rdA_e]⟩
  | n + 1, b, f, e, s, t, he, hs, ht, hb, hf, hl => by
    by_cases h0 : e = 0
    · subst h0
      exact ⟨b, by rw [whl_succ]; simp [limits.C_power_1, limits.B_power_1, rdA_e]⟩
    · have hse : s * 1 ≤ s * e := Nat.mul_le_mul_left _ (by omega)
      have hse' : 2 * s * e = 2 * (s * e) := Nat.mul_assoc ..
      have hm : mulC b b = true := mulC_of hb hb hs hs (by omega)
      have hp : 0 < e := by omega
      have h2q : ∃ q r, e = 2 * q + r ∧ r < 2 := ⟨e / 2, e % 2, by omega, by omega⟩
      obtain ⟨q, r, hee, hr⟩ := h2q
      have hd : divO (.int (e : Int)) (.int 2) = some (.int (q : Int)) := by rw [divO_e (by decide) (by decide)]; congr 2; omega
      have hmo : modO (.int (e : Int)) (.int 2) = some (.int (r : Int)) := by rw [modO_e (by decide)]; congr 2; omega
      have hsq : s * e = 2 * (s * q) + s * r := by rw [hee, Nat.mul_add, Nat.mul_left_comm]
      have h4 : 2 * (2 * s) * q = 2 * (2 * (s * q)) := by simp only [Nat.mul_assoc]
      have hq : q < 2 ^ n := by rw [Nat.pow_succ] at he; omega
      have hr2 : r = 0 ∨ r = 1 := by omega
      rcases hr2 with rfl | rfl
      · obtain ⟨b', hb'⟩ := power_loop n (b * b) f q (2 * s) t hq (by omega) ht (pow_lt hb) hf (by omega)
        refine ⟨b', ?_⟩
        rw [whl_succ]
        simp [limits.C_power_1, limits.B_power_1, rdA_e, hp, hmo, hd, hm, hb']
        rw [hee, Nat.add_zero, Int.pow_mul, Int.pow_succ, Int.pow_succ, Int.pow_zero, Int.one_mul]
      · have hm2 : mulC f b = true := mulC_of hf hb ht hs (by omega)
        have hfb : (f * b).natAbs < 2 ^ (t + s) := by
          rw [Int.natAbs_mul, Nat.pow_add]; exact Nat.mul_lt_mul'' hf hb
        obtain ⟨b', hb'⟩ := power_loop n (b * b) (f * b) q (2 * s) (t + s) hq (by omega) (by omega) (pow_lt hb) hfb (by omega)
        refine ⟨b', ?_⟩
        rw [whl_succ]
        simp [limits.C_power_1, limits.B_power_1, rdA_e, hp, hmo, hd, hm, hm2, hb']
        rw [hee, Int.pow_succ, Int.pow_mul, Int.mul_assoc, Int.mul_comm b]
        rw [show b ^ 2 = b * b by rw [Int.pow_succ, Int.pow_succ, Int.pow_zero, Int.one_mul]]
theorem power_ok {b : Int} {e s : Nat} (hs : 0 < s) (hb : b.natAbs < 2 ^ s) (hl : 2 * s * e + 1 ≤ 1000000) : limits.F_power [.int b, .int e] = .ok (.int (b ^ e)) [] := by
  have he : e < 2 ^ e := Nat.lt_two_pow_self
  obtain ⟨b', h⟩ := power_loop e b 1 e s 1 he hs (by decide) hb (by decide) hl
  have h1 : 1 * e ≤ 2 * s * e := Nat.mul_le_mul_right _ (by omega)
  have h' := whl_to h (show e + 1 ≤ 1000000 by omega)
  simp [limits.F_power, fnF, limits.R_power, h', rdA_e]
theorem rgT_succ {i : Int} {n : Nat} : rgT i (n + 1) = .int i :: rgT (i + 1) n := by
  unfold rgT
  rw [List.range_succ_eq_map, List.map_cons, List.map_map]
  congr 1
  · simp
  · apply List.map_congr_left
    intro j _
    simp only [Function.comp, Nat.succ_eq_add_one]
    congr 1
    omega
theorem lpower_loop : ∀ (n : Nat) (b f i : Int) (x w : SV) (s t : Nat), 0 < s → 0 < t → b.natAbs < 2 ^ s → f.natAbs < 2 ^ t → s * n + t ≤ 1000000 →
    ∃ x', forL (gN 3) lw.B__law_power_1 (rgT i n) [.fz (.int b), w, .fz (.int f), x] = .ok .nx [.fz (.int b), w, .fz (.int (f * b ^ n)), x']
  | 0, b, f, i, x, w, s, t, _, _, _, _, _ => ⟨x, by simp [rgT]⟩
  | n + 1, b, f, i, x, w, s, t, hs, ht, hb, hf, hl => by
    have hm : mulC f b = true := mulC_of hf hb ht hs (by rw [Nat.mul_succ] at hl; omega)
    have hfb : (f * b).natAbs < 2 ^ (t + s) := by
      rw [Int.natAbs_mul, Nat.pow_add]; exact Nat.mul_lt_mul'' hf hb
    obtain ⟨x', h⟩ := lpower_loop n b (f * b) (i + 1) (.fz (.int i)) w s (t + s) hs (by omega) hb hfb (by rw [Nat.mul_succ] at hl; omega)
    refine ⟨x', ?_⟩
    rw [rgT_succ, forL_cons]
    simp [lw.B__law_power_1, rdA_e, hm, h]
    rw [Int.pow_succ, Int.mul_assoc, Int.mul_comm b]
theorem lpower_ok {b e : Int} {s : Nat} (hs : 0 < s) (hb : b.natAbs < 2 ^ s) (hl : s * e.toNat + 1 ≤ 1000000) (he : -1000000 ≤ e) : lw.F__law_power [.int b, .int e] = .ok (.int (b ^ e.toNat)) [] := by
  obtain ⟨x', h⟩ := lpower_loop e.toNat b 1 0 .un (.fz (.int e)) s 1 hs (by decide) hb (by decide) hl
  have h1 : 1 * e.toNat ≤ s * e.toNat := Nat.mul_le_mul_right _ (by omega)
  have h2 : (-4611686018427387904 ≤ e) := by omega
  have h3 : (e < 4611686018427387904) := by omega
  simp [lw.F__law_power, fnF, lw.R__law_power, h, rdA_e, h2, h3]
theorem mem_enumT : ∀ {n : Nat} {ts : List T} {t : T}, t ∈ enumT n ts → ∃ (i : Nat) (u : T), ts[i]? = some u ∧ t = .tup [.int ((n + i : Nat) : Int), u]
  | _, [], _, h => by simp [enumT] at h
  | n, x :: xs, t, h => by
    simp only [enumT, List.mem_cons] at h
    rcases h with rfl | h
    · exact ⟨0, x, rfl, rfl⟩
    · obtain ⟨i, u, e, rfl⟩ := mem_enumT h
      refine ⟨i + 1, u, by simpa using e, ?_⟩
      congr 4
      omega
theorem mem_rgT {lo : Int} {n : Nat} {t : T} (h : t ∈ rgT lo n) : ∃ i : Nat, i < n ∧ t = .int (lo + (i : Nat)) := by
  unfold rgT at h
  obtain ⟨i, hi, rfl⟩ := List.mem_map.mp h
  exact ⟨i, List.mem_range.mp hi, rfl⟩
def nts (L : List Nat) : List T := L.map fun (p : Nat) => T.int (p : Int)
theorem nts_get {L : List Nat} {i : Nat} {u : T} (h : (nts L)[i]? = some u) : ∃ p, L[i]? = some p ∧ u = .int p := by
  unfold nts at h
  rw [List.getElem?_map, Option.map_eq_some_iff] at h
  obtain ⟨p, e, rfl⟩ := h
  exact ⟨p, e, rfl⟩
theorem nts_at {L : List Nat} {i p : Nat} (h : L[i]? = some p) : (nts L)[i]? = some (.int p) := by
  unfold nts
  rw [List.getElem?_map, h]; rfl
theorem nts_its {L : List Nat} : nts L = its (L.map fun (p : Nat) => (p : Int)) := by unfold nts its; rw [List.map_map]; rfl
theorem nts_len {L : List Nat} : (nts L).length = L.length := by simp [nts]
theorem mem_nts {L : List Nat} {t : T} (h : t ∈ nts L) : ∃ p ∈ L, t = .int p := by
  obtain ⟨p, hp, rfl⟩ := List.mem_map.mp h
  exact ⟨p, hp, rfl⟩
/-- all of them ints -/
theorem ints_ok {ts : List T} (h : ∀ t ∈ ts, ∃ i, t = .int i) (hl : ts.length < 16777216) : lw.F__law_ints [.tup ts] = .ok (.bl true) [] := by
  have e := lcL_map (ρ0 := [.fz (.tup ts), .un]) (i := 1) (test := lw.Q__law_ints_1) (elt := lw.L__law_ints_1) (p := fun _ => false) (φ := fun t => t) (by simp) (ts := ts) (acc := []) (fun t ht => by
    obtain ⟨i, rfl⟩ := h t ht
    simp [lw.Q__law_ints_1, rdA_e]) (fun t ht hp => by cases hp) (by simp; omega)
  have hf : freeS [SV.fz (.tup ts), .un] [1] = true := rfl
  have ee : eqO (.lst []) (.lst []) = some (.bl true) := rfl
  simp at e
  have fn : List.filter (fun _ : T => false) ts = [] := by simp
  rw [fn] at e
  simp [lw.F__law_ints, fnF, lw.R__law_ints, rdA_e, hf, e, ee]
end FL

/-! M2: equal steps. -/
namespace FL
open PySem PySem.Spec TW
theorem atI {i : Int} {n : Nat} {ts : List T} {t : T} (h : ts[n]? = some t) (e : i = n) : atT ts i = some t := by subst e; exact atT_nat h
/-- x is the entry of goal g by powers of b -/
def IsNe (b g x : Nat) : Prop := b ^ (2 * x - 1) ≤ g ∧ g < b ^ (2 * x + 1)
theorem natpow_int {a b : Nat} : ((a : Int) ^ b) = ((a ^ b : Nat) : Int) := by
  rw [Int.natCast_pow]
theorem ne_loop {b g x : Nat} {L : List T} {u w : SV} (hb : 2 ≤ b) (hb2 : b < 64) (hx : IsNe b g x) : ∀ (k lo hi : Nat) (z : SV), hi - lo < 2 ^ k → lo ≤ x → x ≤ hi → hi ≤ 2000 →
    ∃ z', whl equal.C_nearest_entry_1 equal.B_nearest_entry_1 (k + 1)
      [.fz (.tup (.int b :: L)), u, w, .fz (.int g), .fz (.int lo), .fz (.int hi), z] = .ok .nx [.fz (.tup (.int b :: L)), u, w, .fz (.int g), .fz (.int x), .fz (.int x), z']
  | 0, lo, hi, z, hk, h1, h2, h3 => by
    have e1 : lo = x := by simp at hk; omega
    have e2 : hi = x := by simp at hk; omega
    subst e1; subst e2
    exact ⟨z, by rw [whl_succ]; simp [equal.C_nearest_entry_1, rdA_e]⟩
  | k + 1, lo, hi, z, hk, h1, h2, h3 => by
    by_cases hl : lo < hi
    · obtain ⟨m, hm⟩ : ∃ m, m = (lo + hi) / 2 := ⟨_, rfl⟩
      have hm1 : lo ≤ m := by omega
      have hm2 : m < hi := by omega
      rw [Nat.pow_succ] at hk
      have hd : divO (.int ((lo : Int) + hi)) (.int 2) = some (.int m) := by rw [divO_e (by decide) (by decide)]; congr 2; omega
      have hmu : mulC 2 (m : Int) = true := mulC_of (m := 2) (n := 11) (by decide) (by show m < _; omega) (by decide) (by decide) (by decide)
      have hp : limits.F_power [.int b, .int (2 * (m : Int) + 1)] = .ok (.int ((b ^ (2 * m + 1) : Nat) : Int)) [] := by
        have := power_ok (b := (b : Int)) (e := 2 * m + 1) (s := 6) (by decide) (by show b < _; omega) (by omega)
        rw [natpow_int] at this
        exact this
      have ha : atT (.int b :: L) 0 = some (.int b) := atI (n := 0) rfl rfl
      have hc : b ^ (2 * m + 1) > g ↔ x ≤ m := by
        constructor
        · intro h
          by_cases hxm : x ≤ m
          · exact hxm
          · have : b ^ (2 * m + 1) ≤ b ^ (2 * x - 1) := Nat.pow_le_pow_right (by omega) (by omega)
            have := hx.1
            omega
        · intro h
          have : b ^ (2 * x + 1) ≤ b ^ (2 * m + 1) := Nat.pow_le_pow_right (by omega) (by omega)
          have := hx.2
          omega
      by_cases hxm : x ≤ m
      · obtain ⟨z', h⟩ := ne_loop (L := L) (u := u) (w := w) hb hb2 hx k lo m (.fz (.int m)) (by omega) h1 hxm (by omega)
        refine ⟨z', ?_⟩
        have hgt : (g : Int) < ((b ^ (2 * m + 1) : Nat) : Int) := Int.ofNat_lt.mpr (hc.mpr hxm)
        rw [whl_succ]
        simp only [equal.C_nearest_entry_1, equal.B_nearest_entry_1, tst_e, op2_e, rdA_e, List.getElem?_cons_succ, List.getElem?_cons_zero, bind_ok, lift_some, ltO_e, toB_bl, Int.ofNat_lt, hl, decide_true, if_true, sq_e, sSet_e, asT_e, addO_int, rdC_e, hd, put_e, List.length_cons, List.length_nil, sv_tr, sIf_e, calU_e, rdCons_e, rdNil_e, ixA_e, has_e, List.set_cons_succ, List.set_cons_zero, isHas_t, ixO_t, ha, mulO_e, hmu, hp, gtO_e, hgt, Nat.reduceLT, Nat.reduceAdd]
        exact h
      · obtain ⟨z', h⟩ := ne_loop (L := L) (u := u) (w := w) hb hb2 hx k (m + 1) hi (.fz (.int m)) (by omega) (by omega) h2 h3
        refine ⟨z', ?_⟩
        have hgt : ¬ (g : Int) < ((b ^ (2 * m + 1) : Nat) : Int) := fun h => hxm (hc.mp (Int.ofNat_lt.mp h))
        rw [whl_succ]
        simp only [equal.C_nearest_entry_1, equal.B_nearest_entry_1, tst_e, op2_e, rdA_e, List.getElem?_cons_succ, List.getElem?_cons_zero, bind_ok, lift_some, ltO_e, toB_bl, Int.ofNat_lt, hl, decide_true, if_true, sq_e, sSet_e, asT_e, addO_int, rdC_e, hd, put_e, List.length_cons, List.length_nil, sv_tr, sIf_e, calU_e, rdCons_e, rdNil_e, ixA_e, has_e, List.set_cons_succ, List.set_cons_zero, isHas_t, ixO_t, ha, mulO_e, hmu, hp, gtO_e, hgt, Nat.reduceLT, Nat.reduceAdd, decide_false, Bool.false_eq_true, if_false]
        exact h
    · have e1 : lo = x := by omega
      have e2 : hi = x := by omega
      subst e1; subst e2
      exact ⟨z, by rw [whl_succ]; simp [equal.C_nearest_entry_1, rdA_e]⟩
theorem nearest_entry_ok {b p n x : Nat} {L : List T} (hb : 2 ≤ b) (hb2 : b < 64) (hp2 : p < 64) (hn : n ≤ 300) (hx : IsNe b (p ^ (2 * n)) x) (hx2 : x ≤ 6 * n + 1) : equal.F_nearest_entry [.tup (.int b :: L), .int n, .int p] = .ok (.int x) [] := by
  have hpw : limits.F_power [.int p, .int (2 * (n : Int))] = .ok (.int ((p ^ (2 * n) : Nat) : Int)) [] := by
    have := power_ok (b := (p : Int)) (e := 2 * n) (s := 6) (by decide) (by show p < _; omega) (by omega)
    rw [natpow_int] at this
    exact this
  have hm1 : mulC 2 (n : Int) = true := mulC_of (m := 2) (n := 11) (by decide) (by show n < _; omega) (by decide) (by decide) (by decide)
  have hm2 : mulC 6 (n : Int) = true := mulC_of (m := 3) (n := 11) (by decide) (by show n < _; omega) (by decide) (by decide) (by decide)
  obtain ⟨z', h⟩ := ne_loop (L := L) (u := .fz (.int n)) (w := .fz (.int p)) hb hb2 hx 11 0 (6 * n + 1) .un (by omega) (by omega) hx2 (by omega)
  have h' := whl_to h (show 12 ≤ 1000000 by omega)
  simp only [Int.natCast_add, Int.natCast_mul] at h'
  have h'' : whl equal.C_nearest_entry_1 equal.B_nearest_entry_1 1000000 [.fz (.tup (.int b :: L)), .fz (.int n), .fz (.int p), .fz (.int ((p ^ (2 * n) : Nat) : Int)), .fz (.int 0), .fz (.int (6 * (n : Int) + 1)), .un] = _ := h'
  simp [equal.F_nearest_entry, fnF, equal.R_nearest_entry, rdA_e, hpw, hm1, hm2, -Int.natCast_pow]
  rw [h'']
  simp
/-- the nearest map of steps n -/
theorem nearest_map_ok {b n : Nat} {L : List Nat} {f : Nat → Nat} (hlim : limits.F_need_limit [.tup (nts (b :: L))] = .ok .non []) (hb : 2 ≤ b) (hp2 : ∀ p ∈ b :: L, p < 64) (hn0 : 1 ≤ n) (hn : n ≤ 300) (hl : L.length < 100) (hx : ∀ p ∈ b :: L, IsNe b (p ^ (2 * n)) (f p) ∧ f p ≤ 6 * n + 1) :
    equal.F_nearest_map [.tup (nts (b :: L)), .int n] = .ok (.tup (nts ((b :: L).map f))) [] := by
  have e := lcL_all (ρ0 := [.fz (.tup (nts (b :: L))), .fz (.int n), .un]) (i := 2) (elt := equal.L_nearest_map_1) (φ := fun t => match t with | .int i => .int (f i.toNat) | t => t) (by simp) (ts := nts (b :: L)) (fun t ht => by
    obtain ⟨p, hp, rfl⟩ := mem_nts ht
    have h := nearest_entry_ok (L := nts L) hb (hp2 b (List.mem_cons_self ..)) (hp2 p hp) hn (hx p hp).1 (hx p hp).2
    have h' : equal.F_nearest_entry [.tup (nts (b :: L)), .int n, .int p] = _ := h
    simp [equal.L_nearest_map_1, rdA_e, h']) (by simp [nts_len]; omega)
  have hf : freeS [SV.fz (.tup (nts (b :: L))), .fz (.int n), .un] [2] = true := rfl
  have hm : (nts (b :: L)).map (fun t => match t with | .int i => T.int (f i.toNat) | t => t) = nts ((b :: L).map f) := by
    unfold nts
    rw [List.map_map, List.map_map]
    apply List.map_congr_left
    intro p _
    simp
  rw [hm] at e
  have c1 : (1 : Int) ≤ n := by omega
  have c2 : (n : Int) ≤ 300 := by omega
  simp only [equal.F_nearest_map, fnF, equal.R_nearest_map, List.length_cons, List.length_nil, List.map_cons, List.map_nil, Nat.zero_add, Nat.reduceAdd, Nat.reduceSub, Nat.reduceLeDiff, and_self, if_true, List.replicate, List.cons_append, List.nil_append, sq_e, sExpr_e, calU_e, rdCons_e, rdA_e, List.getElem?_cons_zero, List.getElem?_cons_succ, bind_ok, rdNil_e, hlim, sIf_e, notT_e, truth_e, rdC_e, is_in_i, lift_some, tru_bl, c1, c2, decide_true, Bool.true_and, Bool.not_true, Bool.false_eq_true, if_false, skip_e, sRet_e, calF_e, frzM_e, lcM_e, iSeq_e, seqT_t, hf, e, frzO_l, tuple1O_l, outF_rt]
theorem is_above_ok {b : T} {p q i j : Nat} (hp : p < 64) (hq : q < 64) (hi : i ≤ 2000) (hj : j ≤ 2000) : equal.F_is_above [b, .int p, .int i, .int q, .int j] = .ok (.bl (decide (1 ≤ i) && decide (p ^ (2 * j + 1) < q ^ (2 * i - 1)))) [] := by
  have hm1 : mulC 2 (i : Int) = true := mulC_of (m := 2) (n := 11) (by decide) (by show i < _; omega) (by decide) (by decide) (by decide)
  have hm2 : mulC 2 (j : Int) = true := mulC_of (m := 2) (n := 11) (by decide) (by show j < _; omega) (by decide) (by decide) (by decide)
  have hp1 : limits.F_power [.int p, .int (2 * (j : Int) + 1)] = .ok (.int ((p ^ (2 * j + 1) : Nat) : Int)) [] := by
    have := power_ok (b := (p : Int)) (e := 2 * j + 1) (s := 6) (by decide) (by show p < _; omega) (by omega)
    rw [natpow_int] at this
    exact this
  by_cases h : 1 ≤ i
  · have hp2 : limits.F_power [.int q, .int (2 * (i : Int) - 1)] = .ok (.int ((q ^ (2 * i - 1) : Nat) : Int)) [] := by
      have := power_ok (b := (q : Int)) (e := 2 * i - 1) (s := 6) (by decide) (by show q < _; omega) (by omega)
      rw [natpow_int] at this
      rw [show (2 * (i : Int) - 1) = ((2 * i - 1 : Nat) : Int) by omega]
      exact this
    have h2 : (0 : Int) < 2 * (i : Int) - 1 := by omega
    simp only [equal.F_is_above, fnF, equal.R_is_above, List.length_cons, List.length_nil, List.map_cons, List.map_nil, Nat.zero_add, Nat.reduceAdd, Nat.reduceSub, Nat.reduceLeDiff, and_self, if_true, List.replicate, List.cons_append, List.nil_append, sRet_e, ifE_e, tst_e, op2_e, rdC_e, rdA_e, List.getElem?_cons_zero, List.getElem?_cons_succ, bind_ok, mulO_e, hm1, hm2, lift_some, subO_e, gtO_e, h2, decide_true, toB_bl, calU_e, rdCons_e, rdNil_e, hp2, addO_int, hp1, Int.ofNat_lt, outF_rt, h, Bool.true_and, List.append_nil]
  · have h2 : ¬ (0 : Int) < 2 * (i : Int) - 1 := by omega
    simp only [equal.F_is_above, fnF, equal.R_is_above, List.length_cons, List.length_nil, List.map_cons, List.map_nil, Nat.zero_add, Nat.reduceAdd, Nat.reduceSub, Nat.reduceLeDiff, and_self, if_true, List.replicate, List.cons_append, List.nil_append, sRet_e, ifE_e, tst_e, op2_e, rdC_e, rdA_e, List.getElem?_cons_zero, List.getElem?_cons_succ, bind_ok, mulO_e, hm1, hm2, lift_some, subO_e, gtO_e, h2, decide_false, toB_bl, Bool.false_eq_true, if_false, outF_rt, h, Bool.false_and, List.append_nil]
theorem need_map_ok {L X : List Nat} (hl : X.length = L.length) (hl2 : L.length < 100) (hx : ∀ x ∈ X, x ≤ 1800) : equal.F_need_map [.tup (nts L), .tup (nts X)] = .ok .non [] := by
  have e := lcL_all (ρ0 := [.fz (.tup (nts L)), .fz (.tup (nts X)), .un]) (i := 2) (elt := equal.L_need_map_1) (φ := fun _ => .bl true) (by simp) (ts := nts X) (fun t ht => by
    obtain ⟨p, hp, rfl⟩ := mem_nts ht
    have h := hx p hp
    have hm : mulC 300 6 = true := by decide
    have c1 : (p : Int) ≤ 1800 := by omega
    simp [equal.L_need_map_1, rdA_e, is_in_i, hm, c1]) (by simp [nts_len]; omega)
  have hf : freeS [SV.fz (.tup (nts L)), .fz (.tup (nts X)), .un] [2] = true := rfl
  have hb : blsT ((nts X).map fun _ => T.bl true) = some ((nts X).map fun _ => true) := blsT_map (fun _ => true) _
  have ha : ((nts X).map fun _ => true).all id = true := by simp
  have hl' : (((nts X).length : Nat) : Int) = (((nts L).length : Nat) : Int) := by rw [nts_len, nts_len, hl]
  simp only [equal.F_need_map, fnF, equal.R_need_map, List.length_cons, List.length_nil, List.map_cons, List.map_nil, Nat.zero_add, Nat.reduceAdd, Nat.reduceSub, Nat.reduceLeDiff, and_self, if_true, List.replicate, List.cons_append, List.nil_append, sq_e, sIf_e, orT_e, notT_e, truth_e, op1_e, rdA_e, List.getElem?_cons_zero, List.getElem?_cons_succ, bind_ok, isiO_e, tyT_tup, Option.map_some, isTy_e, lift_some, tru_bl, tst_e, op2_e, lenA_e, has_e, lenO_t, neO_int, hl', decide_true, Bool.true_or, Bool.not_true, Bool.false_eq_true, if_false, toB_bl, skip_e, calF_e, rdCons_e, frzM_e, lcM_e, iSeq_e, seqT_t, hf, e, frzO_l, rdNil_e, all1O_e, hb, ha, outF_nx]
theorem clash_ok {L X : List Nat} (hl : X.length = L.length) (hp : ∀ p ∈ L, p < 64) (hx : ∀ x ∈ X, x ≤ 1800) (h : ∀ i j p q a c : Nat, i ≠ j → L[i]? = some p → L[j]? = some q → X[i]? = some a → X[j]? = some c → 1 ≤ a → q ^ (2 * a - 1) ≤ p ^ (2 * c + 1)) : equal.F_clash_of [.tup (nts L), .tup (nts X)] = .ok .non [] := by
  have inner : ∀ (i p : Nat), L[i]? = some p → ∀ u v : SV, ∃ ρ', forL (gT (gsCons (gN 4) (gsCons (gN 5) (gsNil)))) equal.B_clash_of_1 (enumT 0 (nts L)) [.fz (.tup (nts L)), .fz (.tup (nts X)), .fz (.int i), .fz (.int p), u, v] = .ok .nx ρ' ∧ ∃ u' v', ρ' = [.fz (.tup (nts L)), .fz (.tup (nts X)), .fz (.int i), .fz (.int p), u', v'] := by
    intro i p hip u v
    refine forL_inv (fun ρ => ∃ u' v', ρ = [.fz (.tup (nts L)), .fz (.tup (nts X)), .fz (.int i), .fz (.int p), u', v']) ⟨u, v, rfl⟩ ?_
    rintro t ht ρ ⟨u1, v1, rfl⟩
    obtain ⟨j, w, hj, rfl⟩ := mem_enumT ht
    obtain ⟨q, hjq, rfl⟩ := nts_get hj
    have li : i < X.length := hl ▸ (List.getElem?_eq_some_iff.mp hip).1
    have lj : j < X.length := hl ▸ (List.getElem?_eq_some_iff.mp hjq).1
    have hia : X[i]? = some X[i] := by simp
    have hjc : X[j]? = some X[j] := by simp
    have ai : atT (nts X) (i : Int) = some (.int (X[i] : Nat)) := atT_nat (nts_at hia)
    have aj : atT (nts X) (j : Int) = some (.int (X[j] : Nat)) := atT_nat (nts_at hjc)
    refine ⟨_, [.fz (.tup (nts L)), .fz (.tup (nts X)), .fz (.int i), .fz (.int p), .fz (.int ((0 + j : Nat) : Int)), .fz (.int q)], rfl, ?_, ⟨_, _, rfl⟩⟩
    rw [Nat.zero_add]
    by_cases hij : i = j
    · have hij' : (i : Int) = j := by rw [hij]
      simp only [equal.B_clash_of_1, sIf_e, andT_e, tst_e, op2_e, rdA_e, List.getElem?_cons_zero, List.getElem?_cons_succ, bind_ok, neO_int, lift_some, toB_bl, hij', decide_true, Bool.not_true, Bool.false_eq_true, if_false, skip_e, List.set_cons_zero, List.set_cons_succ]
    · have hij' : ¬ (i : Int) = j := by omega
      have hab := is_above_ok (b := .tup (nts L)) (hp p (List.mem_of_getElem? hip)) (hp q (List.mem_of_getElem? hjq)) (i := X[i]) (j := X[j]) (by have := hx X[i] (List.getElem_mem li); omega) (by have := hx X[j] (List.getElem_mem lj); omega)
      have hfl : (decide (1 ≤ X[i]) && decide (p ^ (2 * X[j] + 1) < q ^ (2 * X[i] - 1))) = false := by
        by_cases h1 : 1 ≤ X[i]
        · have := h i j p q _ _ hij hip hjq hia hjc h1
          rw [Bool.and_eq_false_iff]; right
          rw [decide_eq_false_iff_not]; omega
        · simp [h1]
      rw [hfl] at hab
      simp only [equal.B_clash_of_1, sIf_e, andT_e, tst_e, op2_e, rdA_e, List.getElem?_cons_zero, List.getElem?_cons_succ, bind_ok, neO_int, lift_some, toB_bl, hij', decide_false, Bool.not_false, if_true, truth_e, calU_e, rdCons_e, rdNil_e, ixA_e, has_e, isHas_t, ixO_t, ai, aj, hab, tru_bl, Bool.false_eq_true, if_false, skip_e, List.set_cons_zero, List.set_cons_succ]
  have outer : ∃ ρ', forL (gT (gsCons (gN 2) (gsCons (gN 3) (gsNil)))) equal.B_clash_of_2 (enumT 0 (nts L)) [.fz (.tup (nts L)), .fz (.tup (nts X)), .un, .un, .un, .un] = .ok .nx ρ' ∧ ∃ x y u' v', ρ' = [.fz (.tup (nts L)), .fz (.tup (nts X)), x, y, u', v'] := by
    refine forL_inv (fun ρ => ∃ x y u' v', ρ = [.fz (.tup (nts L)), .fz (.tup (nts X)), x, y, u', v']) ⟨_, _, _, _, rfl⟩ ?_
    rintro t ht ρ ⟨x1, y1, u1, v1, rfl⟩
    obtain ⟨i, w, hi, rfl⟩ := mem_enumT ht
    obtain ⟨p, hip, rfl⟩ := nts_get hi
    obtain ⟨ρ', e, u', v', rfl⟩ := inner i p hip u1 v1
    refine ⟨_, [.fz (.tup (nts L)), .fz (.tup (nts X)), .fz (.int i), .fz (.int p), u', v'], rfl, ?_, ⟨_, _, _, _, rfl⟩⟩
    rw [Nat.zero_add]
    simp only [equal.B_clash_of_2, sFor_e, calI_e, rdCons_e, rdNil_e, rdA_e, List.set_cons_zero, List.set_cons_succ, List.getElem?_cons_zero, List.getElem?_cons_succ, bind_ok, enum1_e, seqT_t, Option.map_some, lift_some]
    exact e
  obtain ⟨ρ', e, x, y, u, v, rfl⟩ := outer
  simp only [equal.F_clash_of, fnF, equal.R_clash_of, List.length_cons, List.length_nil, List.map_cons, List.map_nil, Nat.zero_add, Nat.reduceAdd, Nat.reduceSub, Nat.reduceLeDiff, and_self, if_true, List.replicate, List.cons_append, List.nil_append, sq_e, sRet_e, bind_ok, rdC_e, outF_rt]
  rw [sFor_e]
  simp only [calI_e, rdCons_e, rdNil_e, rdA_e, List.getElem?_cons_zero, bind_ok, enum1_e, seqT_t, Option.map_some, lift_some]
  rw [e]
  rfl
theorem is_uniform_ok {L X : List Nat} (hlim : limits.F_need_limit [.tup (nts L)] = .ok .non []) (hl : X.length = L.length) (hl2 : L.length < 100) (hp : ∀ p ∈ L, p < 64) (hx : ∀ x ∈ X, x ≤ 1800) (h : ∀ i j p q a c : Nat, i ≠ j → L[i]? = some p → L[j]? = some q → X[i]? = some a → X[j]? = some c → 1 ≤ a → q ^ (2 * a - 1) ≤ p ^ (2 * c + 1)) : equal.F_is_uniform [.tup (nts L), .tup (nts X)] = .ok (.bl true) [] := by
  simp [equal.F_is_uniform, fnF, equal.R_is_uniform, rdA_e, hlim, need_map_ok hl hl2 hx, clash_ok hl hp hx h]
end FL

/-! M3: the drawn limits, nearest entries in a table. -/
namespace FL
open PySem PySem.Spec TW
def neN (b g : Nat) : Nat → Nat → Nat → Nat
  | 0, lo, _ => lo
  | k + 1, lo, hi => if lo < hi then (if g < b ^ (2 * ((lo + hi) / 2) + 1) then neN b g k lo ((lo + hi) / 2) else neN b g k ((lo + hi) / 2 + 1) hi) else lo
def neF (b n p : Nat) : Nat := neN b (p ^ (2 * n)) 11 0 (6 * n + 1)
def okNe (b n p : Nat) : Bool := decide (b ^ (2 * neF b n p - 1) < p ^ (2 * n)) && decide (p ^ (2 * n) < b ^ (2 * neF b n p + 1)) && decide (neF b n p ≤ 6 * n + 1)
def lims : List (List Nat) := [[2, 3, 5], [2, 3], [2, 3, 5, 7], [2, 3, 7], [3, 5, 7], [2, 5], [2, 3, 5, 7, 11], [2, 7, 11, 13]]
def lims9 : List (List Nat) := [2, 3, 5, 7, 11, 43] :: lims
def okAll : Bool := (List.range 120).all fun n => [2, 3, 5, 7, 11, 13, 43].all (okNe 2 (n + 1)) && [3, 5, 7].all (okNe 3 (n + 1)) && decide (neF 2 (n + 1) 2 = n + 1) && decide (neF 3 (n + 1) 3 = n + 1)
theorem okAll_true : okAll = true := by decide +kernel
def LimOk (L : List Nat) : Prop := ∃ b R, L = b :: R ∧ 2 ≤ b ∧ (∀ p ∈ b :: R, 2 ≤ p ∧ p < 64) ∧ R.length < 50 ∧ limits.F_need_limit [.tup (nts (b :: R))] = .ok .non [] ∧ ∀ n, 1 ≤ n → n ≤ 120 → (∀ p ∈ b :: R, okNe b n p = true) ∧ neF b n b = n
theorem lim_ok : ∀ L ∈ lims9, LimOk L := by
  have A : ∀ n, 1 ≤ n → n ≤ 120 → (∀ p ∈ [2, 3, 5, 7, 11, 13, 43], okNe 2 n p = true) ∧ (∀ p ∈ [3, 5, 7], okNe 3 n p = true) ∧ neF 2 n 2 = n ∧ neF 3 n 3 = n := by
    intro n h1 h2
    have h := List.all_eq_true.mp okAll_true (n - 1) (List.mem_range.mpr (by omega))
    rw [show n - 1 + 1 = n by omega] at h
    simp only [Bool.and_eq_true, List.all_eq_true, decide_eq_true_eq] at h
    exact ⟨h.1.1.1, h.1.1.2, h.1.2, h.2⟩
  intro L hL
  simp only [lims9, lims, List.mem_cons, List.not_mem_nil, or_false] at hL
  rcases hL with rfl | rfl | rfl | rfl | rfl | rfl | rfl | rfl | rfl <;>
    refine ⟨_, _, rfl, by decide, by decide, by decide, by kernel_rfl, fun n h1 h2 => ⟨fun p hp => ?_, ?_⟩⟩ <;>
    first
      | exact (A n h1 h2).1 p (by simp at hp ⊢; omega)
      | exact (A n h1 h2).2.1 p (by simp at hp ⊢; omega)
      | exact (A n h1 h2).2.2.1
      | exact (A n h1 h2).2.2.2
theorem limit_ok {o : O} (h : RowOk o) : ∃ L ∈ lims9, ∃ o', lw.F__law_limit o [] = .ok (.tup (nts L), o') [] ∧ RowOk o' := by
  obtain ⟨x, o', hx, e, h'⟩ := pick h (ts := lims.map fun L => .tup (nts L)) (by decide) (by decide) (.inl rfl)
  obtain ⟨L, hL, rfl⟩ := List.mem_map.mp hx
  refine ⟨L, List.mem_cons_of_mem _ hL, o', ?_, h'⟩
  simp [lims, nts] at e
  simp [lw.F__law_limit, fnM, lw.R__law_limit, rdOwn_e, setOwn_e, e, nts]
theorem pow_lt_of {a b n : Nat} (hn : n ≠ 0) (h : a < b) : a ^ n < b ^ n := Nat.pow_lt_pow_left h hn
/-- no clash among nearest entries -/
theorem no_clash {b g1 g2 p q n a c : Nat} (h1 : 1 ≤ a) (hn : 1 ≤ n) (ha : b ^ (2 * a - 1) < p ^ (2 * n)) (hc : q ^ (2 * n) < b ^ (2 * c + 1)) : q ^ (2 * a - 1) ≤ p ^ (2 * c + 1) := by
  by_cases h : q ^ (2 * a - 1) ≤ p ^ (2 * c + 1)
  · exact h
  · have h3 : p ^ (2 * c + 1) < q ^ (2 * a - 1) := by omega
    have e1 := pow_lt_of (n := 2 * n) (by omega) h3
    have e2 := pow_lt_of (n := 2 * c + 1) (by omega) ha
    have e3 := pow_lt_of (n := 2 * a - 1) (by omega) hc
    rw [← Nat.pow_mul, ← Nat.pow_mul] at e1 e2 e3
    rw [Nat.mul_comm (2 * a - 1) (2 * n)] at e1
    rw [Nat.mul_comm (2 * n) (2 * c + 1)] at e2
    rw [Nat.mul_comm (2 * c + 1) (2 * a - 1)] at e3
    omega
theorem ne_at {L : List Nat} {f : Nat → Nat} {i p : Nat} (h : L[i]? = some p) : (L.map f)[i]? = some (f p) := by
  rw [List.getElem?_map, h]; rfl
end FL

/-! M4: alike; clashes in order. -/
namespace FL
open PySem PySem.Spec TW
def pr (i j : Nat) : T := .tup [.int i, .int j]
/-- do i and j clash -/
def cb (L X : List Nat) (i j : Nat) : Bool := decide (i ≠ j) && (decide (1 ≤ X.getD i 0) && decide (L.getD i 0 ^ (2 * X.getD j 0 + 1) < L.getD j 0 ^ (2 * X.getD i 0 - 1)))
def rowTo (L X : List Nat) (i k : Nat) : List T := ((List.range k).filter (cb L X i)).map (pr i)
def pairsTo (L X : List Nat) (n k : Nat) : List T := (List.range k).flatMap fun i => rowTo L X i n
theorem rowTo_succ {L X : List Nat} {i k : Nat} : rowTo L X i (k + 1) = if cb L X i k = true then rowTo L X i k ++ [pr i k] else rowTo L X i k := by
  unfold rowTo
  rw [List.range_succ, List.filter_append, List.map_append]
  by_cases h : cb L X i k = true <;> simp [h]
theorem pairsTo_succ {L X : List Nat} {n k : Nat} : pairsTo L X n (k + 1) = pairsTo L X n k ++ rowTo L X k n := by
  unfold pairsTo
  rw [List.range_succ, List.flatMap_append]
  simp
theorem rowTo_len {L X : List Nat} {i k : Nat} : (rowTo L X i k).length ≤ k := by
  unfold rowTo
  rw [List.length_map]
  exact Nat.le_trans (List.length_filter_le _ _) (by simp)
theorem pairsTo_len {L X : List Nat} {n : Nat} : ∀ {k : Nat}, (pairsTo L X n k).length ≤ k * n
  | 0 => by simp [pairsTo]
  | k + 1 => by
    rw [pairsTo_succ, List.length_append, Nat.succ_mul]
    exact Nat.add_le_add pairsTo_len rowTo_len
theorem getD_of {L : List Nat} {i p : Nat} (h : L[i]? = some p) : L.getD i 0 = p := by rw [List.getD_eq_getElem?_getD, h]; rfl
theorem head_flat {α β : Type} {f : α → List β} : ∀ {xs : List α}, (xs.flatMap f).head? = match xs.find? (fun x => !(f x).isEmpty) with | some x => (f x).head? | none => none
  | [] => rfl
  | x :: xs => by
    rw [List.flatMap_cons]
    cases h : f x with
    | nil => rw [List.nil_append, head_flat, List.find?_cons_of_neg (by simp [h])]
    | cons y ys => rw [List.find?_cons_of_pos (by simp [h])]; simp [h]
theorem enumT_map : ∀ {n : Nat} {L : List Nat}, enumT n (nts L) = (List.range L.length).map fun i => .tup [.int ((n + i : Nat) : Int), .int ((L.getD i 0 : Nat) : Int)]
  | n, [] => rfl
  | n, p :: L => by
    show enumT n (.int p :: nts L) = _
    rw [enumT, enumT_map, List.length_cons, List.range_succ_eq_map, List.map_cons, List.map_map]
    congr 1
    apply List.map_congr_left
    intro i _
    simp only [Function.comp, Nat.succ_eq_add_one, List.getD_cons_succ]
    rw [show n + 1 + i = n + (i + 1) by omega]
/-- the first clash -/
def firstOf (ps : List T) : T := match ps.head? with
  | some t => t
  | none => .non
theorem clash_first {L X : List Nat} (hl : X.length = L.length) (hp : ∀ p ∈ L, p < 64) (hx : ∀ x ∈ X, x ≤ 1800) : equal.F_clash_of [.tup (nts L), .tup (nts X)] = .ok (firstOf (pairsTo L X L.length L.length)) [] := by
  have inner : ∀ (i p : Nat), L[i]? = some p → ∀ u v : SV, ∃ ρ', forL (gT (gsCons (gN 4) (gsCons (gN 5) (gsNil)))) equal.B_clash_of_1 (enumT 0 (nts L)) [.fz (.tup (nts L)), .fz (.tup (nts X)), .fz (.int i), .fz (.int p), u, v] = .ok (match (rowTo L X i L.length).head? with | some t => .rt t | none => .nx) ρ' ∧ ∃ u' v', ρ' = [.fz (.tup (nts L)), .fz (.tup (nts X)), .fz (.int i), .fz (.int p), u', v'] := by
    intro i p hip u v
    obtain ⟨ρ', e, h⟩ := forL_find (g := gT (gsCons (gN 4) (gsCons (gN 5) (gsNil)))) (s := equal.B_clash_of_1) (ts := enumT 0 (nts L)) (fun ρ => ∃ u' v', ρ = [.fz (.tup (nts L)), .fz (.tup (nts X)), .fz (.int i), .fz (.int p), u', v']) (fun t => match t with | .tup [.int j, _] => cb L X i j.toNat | _ => false) (fun t => match t with | .tup [.int j, _] => pr i j.toNat | _ => .non) ⟨u, v, rfl⟩ (by
      rintro t ht ρ ⟨u1, v1, rfl⟩
      obtain ⟨j, w, hj, rfl⟩ := mem_enumT ht
      obtain ⟨q, hjq, rfl⟩ := nts_get hj
      have li : i < X.length := hl ▸ (List.getElem?_eq_some_iff.mp hip).1
      have lj : j < X.length := hl ▸ (List.getElem?_eq_some_iff.mp hjq).1
      have hia : X[i]? = some X[i] := by simp
      have hjc : X[j]? = some X[j] := by simp
      have ai : atT (nts X) (i : Int) = some (.int (X[i] : Nat)) := atT_nat (nts_at hia)
      have aj : atT (nts X) (j : Int) = some (.int (X[j] : Nat)) := atT_nat (nts_at hjc)
      refine ⟨_, [.fz (.tup (nts L)), .fz (.tup (nts X)), .fz (.int i), .fz (.int p), .fz (.int ((0 + j : Nat) : Int)), .fz (.int q)], rfl, ?_, ⟨_, _, rfl⟩⟩
      rw [Nat.zero_add]
      by_cases hij : i = j
      · have hij' : (i : Int) = j := by rw [hij]
        have hc : cb L X i j = false := by simp [cb, hij]
        simp only [Int.toNat_natCast, hc, equal.B_clash_of_1, sIf_e, andT_e, tst_e, op2_e, rdA_e, List.getElem?_cons_zero, List.getElem?_cons_succ, bind_ok, neO_int, lift_some, toB_bl, hij', decide_true, Bool.not_true, Bool.false_eq_true, if_false, skip_e, List.set_cons_zero, List.set_cons_succ]
      · have hij' : ¬ (i : Int) = j := by omega
        have hab := is_above_ok (b := .tup (nts L)) (hp p (List.mem_of_getElem? hip)) (hp q (List.mem_of_getElem? hjq)) (i := X[i]) (j := X[j]) (by have := hx X[i] (List.getElem_mem li); omega) (by have := hx X[j] (List.getElem_mem lj); omega)
        have hc : cb L X i j = (decide (1 ≤ X[i]) && decide (p ^ (2 * X[j] + 1) < q ^ (2 * X[i] - 1))) := by
          unfold cb
          rw [getD_of hia, getD_of hjc, getD_of hip, getD_of hjq, decide_eq_true hij, Bool.true_and]
        rw [← hc] at hab
        cases hcb : cb L X i j <;> rw [hcb] at hab
        · simp only [Int.toNat_natCast, hcb, equal.B_clash_of_1, sIf_e, andT_e, tst_e, op2_e, rdA_e, List.getElem?_cons_zero, List.getElem?_cons_succ, bind_ok, neO_int, lift_some, toB_bl, hij', decide_false, Bool.not_false, if_true, truth_e, calU_e, rdCons_e, rdNil_e, ixA_e, has_e, isHas_t, ixO_t, ai, aj, hab, tru_bl, Bool.false_eq_true, if_false, skip_e, List.set_cons_zero, List.set_cons_succ]
        · simp only [Int.toNat_natCast, hcb, equal.B_clash_of_1, sIf_e, andT_e, tst_e, op2_e, rdA_e, List.getElem?_cons_zero, List.getElem?_cons_succ, bind_ok, neO_int, lift_some, toB_bl, hij', decide_false, Bool.not_false, if_true, truth_e, calU_e, rdCons_e, rdNil_e, ixA_e, has_e, isHas_t, ixO_t, ai, aj, hab, tru_bl, List.set_cons_zero, List.set_cons_succ, sRet_e, calF_e, tupO_e, List.length_cons, List.length_nil, Nat.zero_add, Nat.reduceAdd, Nat.reduceLeDiff, pr])
    refine ⟨ρ', ?_, h⟩
    rw [e]
    congr 1
    rw [enumT_map, List.find?_map, rowTo, List.head?_map, List.head?_filter]
    have hfun : ((fun t : T => match t with | .tup [.int j, _] => cb L X i j.toNat | _ => false) ∘ fun k : Nat => T.tup [.int ((0 + k : Nat) : Int), .int ((L.getD k 0 : Nat) : Int)]) = cb L X i := by
      funext k
      simp
    rw [hfun]
    cases List.find? (cb L X i) (List.range L.length) <;> simp [pr]
  obtain ⟨ρ', e, x, y, u, v, rfl⟩ := forL_find (g := gT (gsCons (gN 2) (gsCons (gN 3) (gsNil)))) (s := equal.B_clash_of_2) (ts := enumT 0 (nts L)) (ρ := [.fz (.tup (nts L)), .fz (.tup (nts X)), .un, .un, .un, .un]) (fun ρ => ∃ x y u' v', ρ = [.fz (.tup (nts L)), .fz (.tup (nts X)), x, y, u', v']) (fun t => match t with | .tup [.int i, _] => !(rowTo L X i.toNat L.length).isEmpty | _ => false) (fun t => match t with | .tup [.int i, _] => firstOf (rowTo L X i.toNat L.length) | _ => .non) ⟨_, _, _, _, rfl⟩ (by
    rintro t ht ρ ⟨x1, y1, u1, v1, rfl⟩
    obtain ⟨i, w, hi, rfl⟩ := mem_enumT ht
    obtain ⟨p, hip, rfl⟩ := nts_get hi
    obtain ⟨ρ', e, u', v', rfl⟩ := inner i p hip u1 v1
    refine ⟨_, [.fz (.tup (nts L)), .fz (.tup (nts X)), .fz (.int i), .fz (.int p), u', v'], rfl, ?_, ⟨_, _, _, _, rfl⟩⟩
    rw [Nat.zero_add]
    simp only [equal.B_clash_of_2, sFor_e, calI_e, rdCons_e, rdNil_e, rdA_e, List.set_cons_zero, List.set_cons_succ, List.getElem?_cons_zero, List.getElem?_cons_succ, bind_ok, enum1_e, seqT_t, Option.map_some, lift_some, Int.toNat_natCast]
    rw [e]
    cases rowTo L X i L.length <;> simp [firstOf])
  have hfun : ((fun t : T => match t with | .tup [.int i, _] => !(rowTo L X i.toNat L.length).isEmpty | _ => false) ∘ fun k : Nat => T.tup [.int ((0 + k : Nat) : Int), .int ((L.getD k 0 : Nat) : Int)]) = fun i => !(rowTo L X i L.length).isEmpty := by
    funext k
    simp
  have hfirst : firstOf (pairsTo L X L.length L.length) = match (List.range L.length).find? (fun i => !(rowTo L X i L.length).isEmpty) with | some i => firstOf (rowTo L X i L.length) | none => .non := by
    unfold firstOf pairsTo
    rw [head_flat]
    cases (List.range L.length).find? (fun i => !(rowTo L X i L.length).isEmpty) <;> rfl
  simp only [equal.F_clash_of, fnF, equal.R_clash_of, List.length_cons, List.length_nil, List.map_cons, List.map_nil, Nat.zero_add, Nat.reduceAdd, Nat.reduceSub, Nat.reduceLeDiff, and_self, if_true, List.replicate, List.cons_append, List.nil_append, sq_e]
  rw [sFor_e]
  simp only [calI_e, rdCons_e, rdNil_e, rdA_e, List.getElem?_cons_zero, bind_ok, enum1_e, seqT_t, Option.map_some, lift_some]
  rw [e, hfirst, enumT_map, List.find?_map, hfun]
  cases List.find? (fun i => !(rowTo L X i L.length).isEmpty) (List.range L.length) <;> simp
end FL

/-! M5: what is alike. -/
namespace FL
open PySem PySem.Spec TW
mutual
/-- numbers, truths, texts, and rows of them, so deep -/
def adat : Nat → T → Bool
  | _, .non => true
  | _, .int _ => true
  | _, .bl _ => true
  | _, .str _ => true
  | k + 1, .tup ts => adats k ts && decide (ts.length ≤ 1000000)
  | k + 1, .lst ts => adats k ts && decide (ts.length ≤ 1000000)
  | _, _ => false
def adats : Nat → List T → Bool
  | _, [] => true
  | k, t :: ts => adat k t && adats k ts
end
theorem adats_get : ∀ {k : Nat} {ts : List T} {i : Nat} {t : T}, adats k ts = true → ts[i]? = some t → adat k t = true
  | k, [], i, t, _, h => by simp at h
  | k, u :: us, 0, t, a, h => by
    simp only [adats, Bool.and_eq_true] at a
    simp only [List.getElem?_cons_zero, Option.some.injEq] at h
    exact h ▸ a.1
  | k, u :: us, i + 1, t, a, h => by
    simp only [adats, Bool.and_eq_true] at a
    exact adats_get a.2 (by simpa using h)
theorem eqO_nil : eqO (.lst []) (.lst []) = some (.bl true) := rfl
theorem alike_comp {F : Sg} {t : T} {ts : List T} (ht : t = .tup ts ∨ t = .lst ts) (hl : ts.length ≤ 1000000) (h : ∀ u ∈ ts, F [u, u] = .ok (.bl true) []) :
    lcL [2] (gN 2) (lw.Q__law_alike_1 F) (lw.L__law_alike_1 F) (rgT 0 ts.length) [] [.fz t, .fz t, .un] = .ok [] [.fz t, .fz t, .un] := by
  have e := lcL_map (ρ0 := [.fz t, .fz t, .un]) (i := 2) (test := lw.Q__law_alike_1 F) (elt := lw.L__law_alike_1 F) (p := fun _ => false) (φ := fun t => t) (by simp) (ts := rgT 0 ts.length) (acc := []) (fun u hu => by
    obtain ⟨i, hi, rfl⟩ := mem_rgT hu
    have hu : ts[i]? = some ts[i] := by simp
    have ha : atT ts (0 + (i : Int)) = some ts[i] := atI hu (by omega)
    have hF := h ts[i] (List.getElem_mem hi)
    rcases ht with rfl | rfl <;> simp only [lw.Q__law_alike_1, notT_e, truth_e, calU_e, rdCons_e, rdNil_e, ixA_e, has_e, rdA_e, List.set_cons_succ, List.set_cons_zero, List.getElem?_cons_zero, List.getElem?_cons_succ, isHas_t, if_true, bind_ok, ixO_t, ixO_l, ha, lift_some, hF, tru_bl, Bool.not_true]) (fun t ht hp => by cases hp) (by simp [rgT]; omega)
  have fn : ∀ xs : List T, List.filter (fun _ : T => false) xs = [] := fun xs => by simp
  rw [fn] at e
  exact e
theorem alike_same : ∀ {k : Nat} {t : T}, adat k t = true → lw.F__law_alike (k + 1) [t, t] = .ok (.bl true) []
  | k, .non, _ => by simp [lw.F__law_alike, fnF, lw.R__law_alike, rdA_e]
  | k, .int i, _ => by
    have h1 : isNO false (.int i) .non = some (.bl false) := rfl
    simp [lw.F__law_alike, fnF, lw.R__law_alike, rdA_e, h1]
  | k, .bl b, _ => by
    have h1 : isNO false (.bl b) .non = some (.bl false) := rfl
    simp [lw.F__law_alike, fnF, lw.R__law_alike, rdA_e, h1]
  | k, .str x, _ => by
    have h1 : isNO false (.str x) .non = some (.bl false) := rfl
    simp [lw.F__law_alike, fnF, lw.R__law_alike, rdA_e, h1]
  | k + 1, .tup ts, h => by
    simp only [adat, Bool.and_eq_true, decide_eq_true_eq] at h
    have e := alike_comp (F := lw.F__law_alike (k + 1)) (t := .tup ts) (.inl rfl) h.2 fun u hu => by
      obtain ⟨i, hi⟩ := List.getElem?_of_mem hu
      exact alike_same (adats_get h.1 hi)
    have hf : freeS [SV.fz (T.tup ts), SV.fz (T.tup ts), SV.un] [2] = true := rfl
    have c1 : (-4611686018427387904 ≤ ((ts.length : Nat) : Int)) := by omega
    have c2 : ((ts.length : Nat) : Int) < 4611686018427387904 := by omega
    show fnF 3 2 (lw.R__law_alike (lw.F__law_alike (k + 1))) _ = _
    generalize lw.F__law_alike (k + 1) = F at *
    simp [fnF, lw.R__law_alike, rdA_e, has_e, hf, c1, c2, e, eqO_nil]
  | k + 1, .lst ts, h => by
    simp only [adat, Bool.and_eq_true, decide_eq_true_eq] at h
    have e := alike_comp (F := lw.F__law_alike (k + 1)) (t := .lst ts) (.inr rfl) h.2 fun u hu => by
      obtain ⟨i, hi⟩ := List.getElem?_of_mem hu
      exact alike_same (adats_get h.1 hi)
    have hf : freeS [SV.fz (T.lst ts), SV.fz (T.lst ts), SV.un] [2] = true := rfl
    have c1 : (-4611686018427387904 ≤ ((ts.length : Nat) : Int)) := by omega
    have c2 : ((ts.length : Nat) : Int) < 4611686018427387904 := by omega
    show fnF 3 2 (lw.R__law_alike (lw.F__law_alike (k + 1))) _ = _
    generalize lw.F__law_alike (k + 1) = F at *
    simp [fnF, lw.R__law_alike, rdA_e, has_e, hf, c1, c2, e, eqO_nil]
  | 0, .tup _, h => by simp [adat] at h
  | 0, .lst _, h => by simp [adat] at h
  | _, .sl _, h => by simp [adat] at h
  | _, .fn _, h => by simp [adat] at h
  | _, .dk _ _, h => by simp [adat] at h
  | _, .dt _ _, h => by simp [adat] at h
termination_by k => k
theorem alike8 {k : Nat} {t : T} (h : adat k t = true) (hk : k = 7 := by rfl) : lw.F__law_alike 8 [t, t] = .ok (.bl true) [] := by
  subst hk
  exact alike_same h
end FL

namespace TW
open PySem FL
-- law: 0:_law_script 1:_law_row 2:_law_turn 3:_law_limit_here 4:_law_base 5:_law_told 6:_law_due 7:_law_one 8:_law_other 9:_law_entry 10:_law_low 11:_law_high 12:_law_prime
def lw.L_law_1 (s : FL.Env) : Res T :=
  (calF max2O (rdCons (rdC (.int 0)) (rdCons (op2 addO (rdA 9) (calM lw.F__law_pick 1 (rdCons (frzM (calO newL (rdCons (rdC (.int 0)) (rdCons (rdC (.int 0)) (rdCons (rdC (.int 0)) (rdCons (rdC (.int 1)) (rdCons (op1 negO (rdC (.int 1))) (rdNil)))))))) (rdNil)))) (rdNil)))) s
def lw.L_law_2 (s : FL.Env) : Res T :=
  (calM lw.F__law_taken 1 (rdCons (rdC (.int 9)) (rdNil))) s
def lw.B_law_1 (s : FL.Env) : Res Fl :=
  (sq (sPar 10 11 (xsCons (asT (op2 subO (op2 mulO (rdC (.int 2)) (ixA 5 (rdA 7))) (rdC (.int 1)))) (xsCons (asT (op2 addO (op2 mulO (rdC (.int 2)) (ixA 5 (rdA 8))) (rdC (.int 1)))) (xsNil))))
  (sIf (andT (tst (op2 neO (rdA 7) (rdA 8))) (andT (tst (op2 gtO (rdA 10) (rdC (.int 0)))) (tst (op2 gtO (calU lw.F__law_power (rdCons (ixA 3 (rdA 8)) (rdCons (rdA 10) (rdNil)))) (calU lw.F__law_power (rdCons (ixA 3 (rdA 7)) (rdCons (rdA 11) (rdNil)))))))) (sExpr (apnM 6 (calF tupO (rdCons (rdA 7) (rdCons (rdA 8) (rdNil)))))) (skip))) s
def lw.B_law_2 (s : FL.Env) : Res Fl :=
  (sFor (calI rg1 (rdCons (lenA 3) (rdNil))) (gN 8) (lw.B_law_1)) s
def lw.S_law_1 (s : FL.Env) : Res Fl :=
  (sSet 3 (asT (calM lw.F__law_limit 1 (rdNil)))) s
def lw.S_law_2 (s : FL.Env) : Res Fl :=
  (sSet 4 (asT (calU equal.F_nearest_map (rdCons (rdA 3) (rdCons (op2 addO (rdC (.int 1)) (calM lw.F__law_taken 1 (rdCons (rdC (.int 40)) (rdNil)))) (rdNil)))))) s
def lw.S_law_3 (s : FL.Env) : Res Fl :=
  (sSet 5 (asT (calF tuple1O (rdCons (frzM (lcM [9] (iSeq (rdA 4)) (gN 9) (yes) (lw.L_law_1))) (rdNil))))) s
def lw.S_law_4 (s : FL.Env) : Res Fl :=
  (sIf (tst (op2 eqO (calM lw.F__law_taken 1 (rdCons (rdC (.int 5)) (rdNil))) (rdC (.int 0)))) (sSet 5 (asT (calF tuple1O (rdCons (frzM (lcM [12] (iSeq (rdA 3)) (gN 12) (yes) (lw.L_law_2))) (rdNil))))) (skip)) s
def lw.S_law_5 (s : FL.Env) : Res Fl :=
  (sSet 6 (asO (calO newL (rdNil)))) s
def lw.S_law_6 (s : FL.Env) : Res Fl :=
  (sFor (calI rg1 (rdCons (lenA 3) (rdNil))) (gN 7) (lw.B_law_2)) s
def lw.S_law_7 (s : FL.Env) : Res Fl :=
  (sIf (notT (truth (calU (lw.F__law_alike 8) (rdCons (calU equal.F_map_clash (rdCons (rdA 3) (rdCons (rdA 5) (rdNil)))) (rdCons (ifE (tst (op2 neO (rdA 6) (frzM (calO newL (rdNil))))) (ixA 6 (rdC (.int 0))) (rdC .non)) (rdNil)))))) (sRet (rdC (.bl false))) (skip)) s
def lw.S_law_8 (s : FL.Env) : Res Fl :=
  (sIf (notT (truth (calU (lw.F__law_alike 8) (rdCons (calU equal.F_is_uniform (rdCons (rdA 3) (rdCons (rdA 5) (rdNil)))) (rdCons (op2 eqO (rdA 6) (frzM (calO newL (rdNil)))) (rdNil)))))) (sRet (rdC (.bl false))) (skip)) s
def lw.B_law_3 (s : FL.Env) : Res Fl :=
  (sq (lw.S_law_1)
  (sq (lw.S_law_2)
  (sq (lw.S_law_3)
  (sq (lw.S_law_4)
  (sq (lw.S_law_5)
  (sq (lw.S_law_6)
  (sq (lw.S_law_7)
  (lw.S_law_8)))))))) s
def lw.S_law_9 (s : FL.Env) : Res Fl :=
  (sSet 1 (asO (calO newL (rdCons (rdA 0) (rdCons (rdC (.int 0)) (rdCons (rdC (.int 4227)) (rdCons (rdC (.int 0)) (rdNil)))))))) s
def lw.S_law_10 (s : FL.Env) : Res Fl :=
  (sFor (calI rg1 (rdCons (rdC (.int 2)) (rdNil))) (gN 2) (lw.B_law_3)) s
def lw.S_law_11 (s : FL.Env) : Res Fl :=
  (sRet (rdC (.bl true))) s
def lw.R_law (s : FL.Env) : Res Fl :=
  (sq (lw.S_law_9)
  (sq (lw.S_law_10)
  (lw.S_law_11))) s
def lw.F_law : Sg := fnF 13 1 lw.R_law
end TW

namespace Law
open PySem PySem.Spec FL TW
theorem rows_nts : ∀ {ys : List T} {m : Nat}, (∀ y ∈ ys, ∃ v : Nat, v ≤ m ∧ y = .int v) → ∃ X : List Nat, ys = nts X ∧ ∀ x ∈ X, x ≤ m
  | [], m, _ => ⟨[], rfl, fun x h => nomatch h⟩
  | y :: ys, m, h => by
    obtain ⟨v, hv, rfl⟩ := h y (List.mem_cons_self ..)
    obtain ⟨X, rfl, hX⟩ := rows_nts (ys := ys) (m := m) fun y hy => h y (List.mem_cons_of_mem _ hy)
    exact ⟨v :: X, rfl, fun x hx => by rcases List.mem_cons.mp hx with rfl | hx; exact hv; exact hX x hx⟩
abbrev En (sc : List T) (o : O) (x2 x3 x4 x5 x6 x7 x8 x10 x11 : SV) : FL.Env := [.fz (.sl sc), .ow o, x2, x3, x4, x5, x6, x7, x8, .un, x10, x11, .un]
def picks : List T := [.int 0, .int 0, .int 0, .int 1, .int (-1)]
theorem picks_ok : ∀ x ∈ picks, ∃ i : Int, -1 ≤ i ∧ i ≤ 1 ∧ x = .int i := by
  intro x hx
  simp only [picks, List.mem_cons, List.not_mem_nil, or_false] at hx
  rcases hx with rfl | rfl | rfl | rfl | rfl <;> exact ⟨_, by decide, by decide, rfl⟩
/-- what was told: a row of numbers -/
theorem told1 {sc : List T} {o : O} {x2 x3 x5 x6 x7 x8 x10 x11 : SV} {Y : List Nat} (h : RowOk o) (hY : ∀ y ∈ Y, y ≤ 999) (hl : Y.length < 100) : ∃ X o', lw.S_law_3 (En sc o x2 x3 (.fz (.tup (nts Y))) x5 x6 x7 x8 x10 x11) = .ok .nx (En sc o' x2 x3 (.fz (.tup (nts Y))) (.fz (.tup (nts X))) x6 x7 x8 x10 x11) ∧ RowOk o' ∧ X.length = Y.length ∧ ∀ x ∈ X, x ≤ 1000 := by
  obtain ⟨ys, ρ', e, l, q, o', ok, rfl⟩ := lcL_some (i := 9) (elt := lw.L_law_1) (ts := nts Y) (acc := []) (ρ := En sc o x2 x3 (.fz (.tup (nts Y))) x5 x6 x7 x8 x10 x11) (fun ρ => ∃ o, RowOk o ∧ ρ = En sc o x2 x3 (.fz (.tup (nts Y))) x5 x6 x7 x8 x10 x11) (fun y => ∃ v : Nat, v ≤ 1000 ∧ y = .int v) ⟨o, h, rfl⟩ (by
    rintro t ht ρ ⟨o, ok, rfl⟩
    obtain ⟨p, hp, rfl⟩ := mem_nts ht
    obtain ⟨x, o', hx, e, ok'⟩ := pick ok (ts := picks) (by decide) (by decide) (.inl rfl)
    obtain ⟨i, i1, i2, rfl⟩ := picks_ok x hx
    have := hY p hp
    refine ⟨by simp, .int (if (p : Int) + i > 0 then (p : Int) + i else 0), En sc o' x2 x3 (.fz (.tup (nts Y))) x5 x6 x7 x8 x10 x11 |>.set 9 (.fz (.int p)), ?_, ⟨(if (p : Int) + i > 0 then (p : Int) + i else 0).toNat, by split <;> omega, by congr 1; split <;> omega⟩, o', ok', rfl⟩
    unfold picks at e
    simp [lw.L_law_1, rdA_e, rdOwn_e, setOwn_e, e]) (by simp [nts_len]; omega)
  obtain ⟨X, rfl, hX⟩ := rows_nts q
  refine ⟨X, o', ?_, ok, by rw [nts_len, nts_len] at l; exact l, hX⟩
  rw [List.nil_append] at e
  have hf : freeS (En sc o x2 x3 (.fz (.tup (nts Y))) x5 x6 x7 x8 x10 x11) [9] = true := rfl
  simp only [lw.S_law_3, sSet_e, asT_e, calF_e, rdCons_e, rdNil_e, frzM_e, lcM_e, iSeq_e, rdA_e, List.getElem?_cons_succ, List.getElem?_cons_zero, bind_ok, seqT_t, lift_some, hf, if_true, e, frzO_l, tuple1O_l, put_e, sv_tr, List.length_cons, List.length_nil, Nat.zero_add, Nat.reduceAdd, Nat.reduceLT, List.set_cons_succ, List.set_cons_zero]
theorem told2 {sc : List T} {o : O} {x2 x4 x6 x7 x8 x10 x11 : SV} {L X : List Nat} (h : RowOk o) (hX : ∀ y ∈ X, y ≤ 1000) (hl : L.length < 100) (hlx : X.length = L.length) : ∃ X' o', lw.S_law_4 (En sc o x2 (.fz (.tup (nts L))) x4 (.fz (.tup (nts X))) x6 x7 x8 x10 x11) = .ok .nx (En sc o' x2 (.fz (.tup (nts L))) x4 (.fz (.tup (nts X'))) x6 x7 x8 x10 x11) ∧ RowOk o' ∧ X'.length = L.length ∧ ∀ x ∈ X', x ≤ 1000 := by
  obtain ⟨r, o1, e1, r0, r1, ok1⟩ := taken h (m := 5) (by decide) (by decide)
  by_cases hr : r = 0
  · subst hr
    obtain ⟨ys, ρ', e, l, q, o', ok, rfl⟩ := lcL_some (i := 12) (elt := lw.L_law_2) (ts := nts L) (acc := []) (ρ := En sc o1 x2 (.fz (.tup (nts L))) x4 (.fz (.tup (nts X))) x6 x7 x8 x10 x11) (fun ρ => ∃ o, RowOk o ∧ ρ = En sc o x2 (.fz (.tup (nts L))) x4 (.fz (.tup (nts X))) x6 x7 x8 x10 x11) (fun y => ∃ v : Nat, v ≤ 1000 ∧ y = .int v) ⟨o1, ok1, rfl⟩ (by
      rintro t ht ρ ⟨o, ok, rfl⟩
      obtain ⟨r, o', e, r0, r1, ok'⟩ := taken ok (m := 9) (by decide) (by decide)
      refine ⟨by simp, .int r, En sc o' x2 (.fz (.tup (nts L))) x4 (.fz (.tup (nts X))) x6 x7 x8 x10 x11 |>.set 12 (.fz t), ?_, ⟨r.toNat, by omega, by congr 1; omega⟩, o', ok', rfl⟩
      simp [lw.L_law_2, rdA_e, rdOwn_e, setOwn_e, e]) (by simp [nts_len]; omega)
    obtain ⟨X', rfl, hX'⟩ := rows_nts q
    refine ⟨X', o', ?_, ok, by rw [nts_len, nts_len] at l; exact l, hX'⟩
    rw [List.nil_append] at e
    have hf : freeS (En sc o1 x2 (.fz (.tup (nts L))) x4 (.fz (.tup (nts X))) x6 x7 x8 x10 x11) [12] = true := rfl
    simp only [lw.S_law_4, sIf_e, tst_e, op2_e, calM_e, withOwn_e, rdOwn_e, setOwn_e, obj_ow, to_ow, Option.bind_some, e1, rdC_e, eqO_int, decide_true, toB_bl, sSet_e, asT_e, calF_e, rdCons_e, rdNil_e, frzM_e, lcM_e, iSeq_e, rdA_e, List.getElem?_cons_succ, List.getElem?_cons_zero, bind_ok, seqT_t, lift_some, hf, if_true, e, frzO_l, tuple1O_l, put_e, sv_tr, List.length_cons, List.length_nil, Nat.zero_add, Nat.reduceAdd, Nat.reduceLT, List.set_cons_succ, List.set_cons_zero]
  · refine ⟨X, o1, ?_, ok1, hlx, hX⟩
    simp only [lw.S_law_4, sIf_e, tst_e, op2_e, calM_e, withOwn_e, rdOwn_e, setOwn_e, obj_ow, to_ow, Option.bind_some, e1, rdC_e, eqO_int, hr, decide_false, toB_bl, rdCons_e, rdNil_e, List.getElem?_cons_succ, List.getElem?_cons_zero, bind_ok, lift_some, Bool.false_eq_true, if_false, skip_e, List.set_cons_succ, List.set_cons_zero]
/-- what is due: all clashes -/
theorem due_ok {sc : List T} {o : O} {x2 x4 : SV} {L X : List Nat} (hL : ∀ p ∈ L, p < 64) (hX : ∀ y ∈ X, y ≤ 1000) (hl : L.length < 100) (hlx : X.length = L.length) {x7 x8 x10 x11 : SV} : ∃ y7 y8 y10 y11, lw.S_law_6 (En sc o x2 (.fz (.tup (nts L))) x4 (.fz (.tup (nts X))) (.ow (.l [])) x7 x8 x10 x11) = .ok .nx (En sc o x2 (.fz (.tup (nts L))) x4 (.fz (.tup (nts X))) (.ow (.l (pairsTo L X L.length L.length))) y7 y8 y10 y11) := by
  have c1 : (-4611686018427387904 ≤ (((nts L).length : Nat) : Int)) := by omega
  have c2 : (((nts L).length : Nat) : Int) < 4611686018427387904 := by rw [nts_len]; omega
  have c3 : (((nts L).length : Nat) : Int).toNat = L.length := by rw [nts_len]; omega
  have inner : ∀ i, i < L.length → ∀ base : List T, base.length ≤ 10000 → ∀ x8 x10 x11, ∃ y8 y10 y11, lw.B_law_2 (En sc o x2 (.fz (.tup (nts L))) x4 (.fz (.tup (nts X))) (.ow (.l base)) (.fz (.int i)) x8 x10 x11) = .ok .nx (En sc o x2 (.fz (.tup (nts L))) x4 (.fz (.tup (nts X))) (.ow (.l (base ++ rowTo L X i L.length))) (.fz (.int i)) y8 y10 y11) := by
    intro i hi base hb x8 x10 x11
    obtain ⟨ρ', e, y8, y10, y11, rfl⟩ := forL_ix (g := gN 8) (s := lw.B_law_1) (ts := rgT 0 L.length) (m := 0) (ρ := En sc o x2 (.fz (.tup (nts L))) x4 (.fz (.tup (nts X))) (.ow (.l base)) (.fz (.int i)) x8 x10 x11) (fun k ρ => ∃ y8 y10 y11, ρ = En sc o x2 (.fz (.tup (nts L))) x4 (.fz (.tup (nts X))) (.ow (.l (base ++ rowTo L X i k))) (.fz (.int i)) y8 y10 y11) ⟨x8, x10, x11, by simp [rowTo]⟩ (by
      rintro k t hk ρ ⟨y8, y10, y11, rfl⟩
      rw [Nat.zero_add]
      have hkl : k < L.length := by
        have := (List.getElem?_eq_some_iff.mp hk).1
        simpa [rgT] using this
      have ht : t = .int k := by
        unfold rgT at hk
        rw [List.getElem?_map, List.getElem?_range hkl] at hk
        simp at hk
        exact hk.symm
      subst ht
      have hp : L[i]? = some L[i] := by simp
      have hq : L[k]? = some L[k] := by simp
      have ha : X[i]? = some X[i] := by simp
      have hc : X[k]? = some X[k] := by simp
      have b1 := hX X[i] (List.getElem_mem _)
      have b2 := hX X[k] (List.getElem_mem _)
      have b3 := hL L[i] (List.getElem_mem _)
      have b4 := hL L[k] (List.getElem_mem _)
      have hcb : cb L X i k = (decide (i ≠ k) && (decide (1 ≤ X[i]) && decide (L[i] ^ (2 * X[k] + 1) < L[k] ^ (2 * X[i] - 1)))) := by
        unfold cb
        rw [getD_of ha, getD_of hc, getD_of hp, getD_of hq]
      have ap := atT_nat (nts_at hp)
      have aq := atT_nat (nts_at hq)
      have aa := atT_nat (nts_at ha)
      have ac := atT_nat (nts_at hc)
      have hrl := rowTo_len (L := L) (X := X) (i := i) (k := k)
      generalize L[i] = p at *
      generalize L[k] = q at *
      generalize X[i] = a at *
      generalize X[k] = c at *
      have m1 : mulC 2 (a : Int) = true := mulC_of (m := 2) (n := 11) (by decide) (by show a < _; omega) (by decide) (by decide) (by decide)
      have m2 : mulC 2 (c : Int) = true := mulC_of (m := 2) (n := 11) (by decide) (by show c < _; omega) (by decide) (by decide) (by decide)
      have hlen : (base ++ rowTo L X i k).length < 16777216 := by rw [List.length_append]; omega
      rw [rowTo_succ]
      by_cases h1 : i = k
      · have hf : cb L X i k = false := by rw [hcb, h1]; simp
        have h1' : (i : Int) = k := by rw [h1]
        refine ⟨_, En sc o x2 (.fz (.tup (nts L))) x4 (.fz (.tup (nts X))) (.ow (.l (base ++ rowTo L X i k))) (.fz (.int i)) (.fz (.int k)) (.fz (.int (2 * (a : Int) - 1))) (.fz (.int (2 * (c : Int) + 1))), rfl, ?_, _, _, _, by rw [hf]; rfl⟩
        generalize base ++ rowTo L X i k = D at *
        generalize nts L = LL at *
        generalize nts X = XX at *
        have hac : a = c := by rw [h1, hc] at ha; exact (Option.some.inj ha).symm
        simp [lw.B_law_1, rdA_e, has_e, ap, aq, aa, ac, m1, m2, h1']
        rw [hac]
      · have h1' : ¬ (i : Int) = k := by omega
        rw [decide_eq_true h1, Bool.true_and] at hcb
        have p1 : ∀ (x y : Nat), x < 64 → y ≤ 4000 → lw.F__law_power [.int x, .int (y : Int)] = .ok (.int ((x ^ y : Nat) : Int)) [] := fun x y hx hy => by
          have := lpower_ok (b := (x : Int)) (e := (y : Int)) (s := 6) (by decide) (by show x < _; omega) (by omega) (by omega)
          rw [Int.toNat_natCast, natpow_int] at this
          exact this
        have hhi : (2 * (c : Int) + 1) = ((2 * c + 1 : Nat) : Int) := by omega
        by_cases h2 : 1 ≤ a
        · have hlo : (2 * (a : Int) - 1) = ((2 * a - 1 : Nat) : Int) := by omega
          have h22 : (1 : Int) < 2 * (a : Int) := by omega
          have q1 := p1 q (2 * a - 1) b4 (by omega)
          have q2 := p1 p (2 * c + 1) b3 (by omega)
          have h2' : (0 : Int) < ((2 * a - 1 : Nat) : Int) := by omega
          rw [decide_eq_true h2, Bool.true_and] at hcb
          rw [← hhi] at q2
          rw [← hlo] at q1 h2'
          generalize p ^ (2 * c + 1) = P at *
          generalize q ^ (2 * a - 1) = Q at *
          by_cases h3 : P < Q
          · have h3' : (P : Int) < Q := Int.ofNat_lt.mpr h3
            refine ⟨_, En sc o x2 (.fz (.tup (nts L))) x4 (.fz (.tup (nts X))) (.ow (.l ((base ++ rowTo L X i k) ++ [pr i k]))) (.fz (.int i)) (.fz (.int k)) (.fz (.int (2 * (a : Int) - 1))) (.fz (.int (2 * (c : Int) + 1))), rfl, ?_, _, _, _, by rw [hcb, if_pos (by simpa using h3), List.append_assoc]⟩
            generalize base ++ rowTo L X i k = D at *
            generalize nts L = LL at *
            generalize nts X = XX at *
            simp [lw.B_law_1, rdA_e, has_e, rdOwn_e, setOwn_e, ap, aq, aa, ac, m1, m2, h1', h2', h22, q1, q2, h3, hlen, pr]
          · have h3' : ¬ (P : Int) < Q := fun h => h3 (Int.ofNat_lt.mp h)
            refine ⟨_, En sc o x2 (.fz (.tup (nts L))) x4 (.fz (.tup (nts X))) (.ow (.l (base ++ rowTo L X i k))) (.fz (.int i)) (.fz (.int k)) (.fz (.int (2 * (a : Int) - 1))) (.fz (.int (2 * (c : Int) + 1))), rfl, ?_, _, _, _, by rw [hcb, if_neg (by simpa using h3)]⟩
            generalize base ++ rowTo L X i k = D at *
            generalize nts L = LL at *
            generalize nts X = XX at *
            simp [lw.B_law_1, rdA_e, has_e, ap, aq, aa, ac, m1, m2, h1', h2', h22, q1, q2, h3]
        · have h2' : ¬ (0 : Int) < 2 * (a : Int) - 1 := by omega
          have h22 : ¬ (1 : Int) < 2 * (a : Int) := by omega
          rw [decide_eq_false h2, Bool.false_and] at hcb
          refine ⟨_, En sc o x2 (.fz (.tup (nts L))) x4 (.fz (.tup (nts X))) (.ow (.l (base ++ rowTo L X i k))) (.fz (.int i)) (.fz (.int k)) (.fz (.int (2 * (a : Int) - 1))) (.fz (.int (2 * (c : Int) + 1))), rfl, ?_, _, _, _, by rw [hcb]; rfl⟩
          generalize base ++ rowTo L X i k = D at *
          generalize nts L = LL at *
          generalize nts X = XX at *
          simp [lw.B_law_1, rdA_e, has_e, ap, aq, aa, ac, m1, m2, h1', h2', h22])
    refine ⟨y8, y10, y11, ?_⟩
    have hr : (rgT 0 L.length).length = L.length := by simp [rgT]
    rw [hr, Nat.zero_add] at e
    rw [← c3] at e
    generalize hD : base ++ rowTo L X i (((nts L).length : Nat) : Int).toNat = D at e
    rw [c3] at hD
    rw [hD]
    generalize nts L = LL at *
    generalize nts X = XX at *
    simp only [lw.B_law_2, sFor_e, calI_e, rdCons_e, rdNil_e, lenA_e, has_e, List.getElem?_cons_succ, List.getElem?_cons_zero, lenO_t, lift_some, bind_ok, rg1_e, c1, c2, decide_true, Bool.true_and, if_true]
    exact e
  obtain ⟨ρ', e, y7, y8, y10, y11, rfl⟩ := forL_ix (g := gN 7) (s := lw.B_law_2) (ts := rgT 0 L.length) (m := 0) (ρ := En sc o x2 (.fz (.tup (nts L))) x4 (.fz (.tup (nts X))) (.ow (.l [])) x7 x8 x10 x11) (fun k ρ => ∃ y7 y8 y10 y11, ρ = En sc o x2 (.fz (.tup (nts L))) x4 (.fz (.tup (nts X))) (.ow (.l (pairsTo L X L.length k))) y7 y8 y10 y11) ⟨x7, x8, x10, x11, rfl⟩ (by
    rintro k t hk ρ ⟨y7, y8, y10, y11, rfl⟩
    rw [Nat.zero_add]
    have hkl : k < L.length := by
      have := (List.getElem?_eq_some_iff.mp hk).1
      simpa [rgT] using this
    have ht : t = .int k := by
      unfold rgT at hk
      rw [List.getElem?_map, List.getElem?_range hkl] at hk
      simp at hk
      exact hk.symm
    subst ht
    have hpl := pairsTo_len (L := L) (X := X) (n := L.length) (k := k)
    have hkn : k * L.length ≤ 100 * 100 := Nat.mul_le_mul (by omega) (by omega)
    obtain ⟨z8, z10, z11, e⟩ := inner k hkl (pairsTo L X L.length k) (by omega) y8 y10 y11
    exact ⟨_, _, rfl, e, _, _, _, _, by rw [pairsTo_succ]⟩)
  refine ⟨y7, y8, y10, y11, ?_⟩
  have hr : (rgT 0 L.length).length = L.length := by simp [rgT]
  rw [hr, Nat.zero_add] at e
  generalize pairsTo L X L.length L.length = D at *
  rw [← c3] at e
  generalize nts L = LL at *
  generalize nts X = XX at *
  simp only [lw.S_law_6, sFor_e, calI_e, rdCons_e, rdNil_e, lenA_e, has_e, List.getElem?_cons_succ, List.getElem?_cons_zero, lenO_t, lift_some, bind_ok, rg1_e, c1, c2, decide_true, Bool.true_and, if_true]
  exact e
end Law

namespace Law
open PySem PySem.Spec FL TW
theorem map_clash_ok {L X : List Nat} (hlim : limits.F_need_limit [.tup (nts L)] = .ok .non []) (hl : X.length = L.length) (hl2 : L.length < 100) (hp : ∀ p ∈ L, p < 64) (hx : ∀ x ∈ X, x ≤ 1000) : equal.F_map_clash [.tup (nts L), .tup (nts X)] = .ok (firstOf (pairsTo L X L.length L.length)) [] := by
  have h1 := need_map_ok hl hl2 (fun x h => Nat.le_trans (hx x h) (by decide))
  have h2 := clash_first hl hp (fun x h => Nat.le_trans (hx x h) (by decide))
  generalize pairsTo L X L.length L.length = D at *
  generalize nts L = LL at *
  generalize nts X = XX at *
  simp [equal.F_map_clash, fnF, equal.R_map_clash, rdA_e, hlim, h1, h2]
theorem pairs_mem {L X : List Nat} {n k : Nat} {t : T} (h : t ∈ pairsTo L X n k) : ∃ i j, t = pr i j := by
  unfold pairsTo at h
  obtain ⟨i, _, h⟩ := List.mem_flatMap.mp h
  unfold rowTo at h
  obtain ⟨j, _, rfl⟩ := List.mem_map.mp h
  exact ⟨i, j, rfl⟩
theorem dats_prs : ∀ {ps : List T}, (∀ t ∈ ps, ∃ i j, t = pr i j) → dats 1 ps = true
  | [], _ => rfl
  | t :: ps, h => by
    obtain ⟨i, j, rfl⟩ := h t (List.mem_cons_self ..)
    simp only [dats, dats_prs fun t ht => h t (List.mem_cons_of_mem _ ht), Bool.and_true]
    rfl
theorem is_uni_ok {L X : List Nat} (hlim : limits.F_need_limit [.tup (nts L)] = .ok .non []) (hl : X.length = L.length) (hl2 : L.length < 100) (hp : ∀ p ∈ L, p < 64) (hx : ∀ x ∈ X, x ≤ 1000) : equal.F_is_uniform [.tup (nts L), .tup (nts X)] = .ok (.bl (pairsTo L X L.length L.length).isEmpty) [] := by
  have h1 := need_map_ok hl hl2 (fun x h => Nat.le_trans (hx x h) (by decide))
  have h2 := clash_first hl hp (fun x h => Nat.le_trans (hx x h) (by decide))
  have h3 : isNO false (firstOf (pairsTo L X L.length L.length)) .non = some (.bl (pairsTo L X L.length L.length).isEmpty) := by
    have := @pairs_mem L X L.length L.length
    generalize pairsTo L X L.length L.length = D at *
    cases D with
    | nil => rfl
    | cons t D =>
      obtain ⟨i, j, rfl⟩ := this (List.mem_cons_self ..)
      rfl
  generalize (pairsTo L X L.length L.length).isEmpty = b at *
  generalize firstOf (pairsTo L X L.length L.length) = D at *
  generalize nts L = LL at *
  generalize nts X = XX at *
  simp [equal.F_is_uniform, fnF, equal.R_is_uniform, rdA_e, hlim, h1, h2, h3]
theorem s78 {sc : List T} {o : O} {x2 x4 x7 x8 x10 x11 : SV} {LL XX ps : List T} (h1 : equal.F_map_clash [.tup LL, .tup XX] = .ok (firstOf ps) []) (h2 : equal.F_is_uniform [.tup LL, .tup XX] = .ok (.bl ps.isEmpty) []) (hm : ∀ t ∈ ps, ∃ i j, t = pr i j) :
    lw.S_law_7 (En sc o x2 (.fz (.tup LL)) x4 (.fz (.tup XX)) (.ow (.l ps)) x7 x8 x10 x11) = .ok .nx (En sc o x2 (.fz (.tup LL)) x4 (.fz (.tup XX)) (.fz (.lst ps)) x7 x8 x10 x11) ∧
    lw.S_law_8 (En sc o x2 (.fz (.tup LL)) x4 (.fz (.tup XX)) (.fz (.lst ps)) x7 x8 x10 x11) = .ok .nx (En sc o x2 (.fz (.tup LL)) x4 (.fz (.tup XX)) (.fz (.lst ps)) x7 x8 x10 x11) := by
  have hn : neO (.lst ps) (.lst []) = some (.bl (!ps.isEmpty)) := by
    have := neO_of (k := 2) (t := .lst ps) (u := .lst []) (c := ps = []) (by simp only [dat]; exact dats_prs hm) rfl (by decide) (by rw [T.lst.injEq])
    rw [this]
    cases ps <;> rfl
  have he : eqO (.lst ps) (.lst []) = some (.bl ps.isEmpty) := by
    have := eqO_of (k := 2) (t := .lst ps) (u := .lst []) (c := ps = []) (by simp only [dat]; exact dats_prs hm) rfl (by decide) (by rw [T.lst.injEq])
    rw [this]
    cases ps <;> rfl
  have hb : ∀ b : Bool, lw.F__law_alike 8 [.bl b, .bl b] = .ok (.bl true) [] := fun b => alike8 (by rfl)
  have hf : lw.F__law_alike 8 [firstOf ps, firstOf ps] = .ok (.bl true) [] := by
    refine alike8 ?_
    cases ps with
    | nil => rfl
    | cons t ps =>
      obtain ⟨i, j, rfl⟩ := hm t (List.mem_cons_self ..)
      rfl
  have hb' := hb ps.isEmpty
  constructor
  · cases ps with
    | nil =>
      have h3 : firstOf [] = T.non := rfl
      rw [h3] at h1 hf
      simp [lw.S_law_7, rdA_e, has_e, h1, hn, hf]
    | cons t ps =>
      have h3 : firstOf (t :: ps) = t := rfl
      rw [h3] at h1 hf
      have ha : atT (t :: ps) 0 = some t := atI (n := 0) rfl rfl
      simp [lw.S_law_7, rdA_e, has_e, h1, hn, hf, ha]
  · generalize ps.isEmpty = b at *
    simp [lw.S_law_8, rdA_e, has_e, h2, he, hb']
theorem turn_ok {sc : List T} {o : O} {x2 x3 x4 x5 x6 x7 x8 x10 x11 : SV} (h : RowOk o) : ∃ o' y3 y4 y5 y6 y7 y8 y10 y11, RowOk o' ∧ lw.B_law_3 (En sc o x2 x3 x4 x5 x6 x7 x8 x10 x11) = .ok .nx (En sc o' x2 y3 y4 y5 y6 y7 y8 y10 y11) := by
  obtain ⟨L, hL, o1, e1, ok1⟩ := limit_ok h
  obtain ⟨b, R, hLe, hb, hp, hR, hlim, tab⟩ := lim_ok L hL
  have s1 : lw.S_law_1 (En sc o x2 x3 x4 x5 x6 x7 x8 x10 x11) = .ok .nx (En sc o1 x2 (.fz (.tup (nts L))) x4 x5 x6 x7 x8 x10 x11) := by
    generalize nts L = LL at *
    simp [lw.S_law_1, rdOwn_e, setOwn_e, e1]
  obtain ⟨r, o2, e2, r0, r1, ok2⟩ := taken ok1 (m := 40) (by decide) (by decide)
  obtain ⟨n, hn⟩ : ∃ n : Nat, n = (1 + r).toNat := ⟨_, rfl⟩
  have hn' : (n : Int) = 1 + r := by omega
  have tb := tab n (by omega) (by omega)
  have ts : ∀ p ∈ b :: R, b ^ (2 * neF b n p - 1) < p ^ (2 * n) ∧ p ^ (2 * n) < b ^ (2 * neF b n p + 1) ∧ neF b n p ≤ 6 * n + 1 := fun p hpm => by
    have := tb.1 p hpm
    simp only [okNe, Bool.and_eq_true, decide_eq_true_eq] at this
    exact ⟨this.1.1, this.1.2, this.2⟩
  have nm := nearest_map_ok (f := neF b n) hlim hb (fun p h => (hp p h).2) (by omega) (by omega) (by omega) (fun p h => ⟨⟨Nat.le_of_lt (ts p h).1, (ts p h).2.1⟩, (ts p h).2.2⟩)
  have hY : ∀ y ∈ (b :: R).map (neF b n), y ≤ 999 := fun y hy => by
    obtain ⟨p, hpm, rfl⟩ := List.mem_map.mp hy
    have := (ts p hpm).2.2
    omega
  have hYl : ((b :: R).map (neF b n)).length = (b :: R).length := by simp
  have hll : L.length < 100 := by rw [hLe, List.length_cons]; omega
  rw [← hLe] at nm hY hYl hp hlim
  generalize hYe : L.map (neF b n) = Y at *
  have s2 : lw.S_law_2 (En sc o1 x2 (.fz (.tup (nts L))) x4 x5 x6 x7 x8 x10 x11) = .ok .nx (En sc o2 x2 (.fz (.tup (nts L))) (.fz (.tup (nts Y))) x5 x6 x7 x8 x10 x11) := by
    rw [hn'] at nm
    generalize nts L = LL at *
    generalize nts Y = YY at *
    simp [lw.S_law_2, rdA_e, rdOwn_e, setOwn_e, e2, nm]
  obtain ⟨X1, o3, s3, ok3, hl3, hX1⟩ := told1 (sc := sc) (x2 := x2) (x3 := .fz (.tup (nts L))) (x5 := x5) (x6 := x6) (x7 := x7) (x8 := x8) (x10 := x10) (x11 := x11) ok2 hY (by omega)
  obtain ⟨X, o4, s4, ok4, hl4, hX⟩ := told2 (sc := sc) (x2 := x2) (x4 := .fz (.tup (nts Y))) (x6 := x6) (x7 := x7) (x8 := x8) (x10 := x10) (x11 := x11) ok3 hX1 hll (by omega)
  have s5 : lw.S_law_5 (En sc o4 x2 (.fz (.tup (nts L))) (.fz (.tup (nts Y))) (.fz (.tup (nts X))) x6 x7 x8 x10 x11) = .ok .nx (En sc o4 x2 (.fz (.tup (nts L))) (.fz (.tup (nts Y))) (.fz (.tup (nts X))) (.ow (.l [])) x7 x8 x10 x11) := by
    simp [lw.S_law_5]
  have hp64 : ∀ p ∈ L, p < 64 := fun p h => (hp p h).2
  obtain ⟨y7, y8, y10, y11, s6⟩ := due_ok (sc := sc) (o := o4) (x2 := x2) (x4 := .fz (.tup (nts Y))) (x7 := x7) (x8 := x8) (x10 := x10) (x11 := x11) hp64 hX hll hl4
  obtain ⟨s7, s8⟩ := s78 (sc := sc) (o := o4) (x2 := x2) (x4 := .fz (.tup (nts Y))) (x7 := y7) (x8 := y8) (x10 := y10) (x11 := y11) (map_clash_ok hlim hl4 hll hp64 hX) (is_uni_ok hlim hl4 hll hp64 hX) (fun t ht => pairs_mem ht)
  have fin : lw.B_law_3 (En sc o x2 x3 x4 x5 x6 x7 x8 x10 x11) = .ok .nx (En sc o4 x2 (.fz (.tup (nts L))) (.fz (.tup (nts Y))) (.fz (.tup (nts X))) (.fz (.lst (pairsTo L X L.length L.length))) y7 y8 y10 y11) := by
    simp only [lw.B_law_3, sq_e, s1, s2, s3, s4, s5, s6, s7, s8, bind_ok]
  exact ⟨o4, _, _, _, _, y7, y8, y10, y11, ok4, fin⟩
theorem law_true (ns : List Int) (hns : ns.length ≤ 63) : lw.F_law [.sl (ns.map T.int)] = .ok (.bl true) [] := by
  have r0 : RowOk (.l [.sl (ns.map T.int), .int 0, .int 4227, .int 0]) := ⟨ns, 0, 4227, 0, rfl, by decide, by decide, by decide⟩
  generalize ho : O.l [.sl (ns.map T.int), .int 0, .int 4227, .int 0] = o0 at r0
  have s1 : lw.S_law_9 [.fz (.sl (ns.map T.int)), .un, .un, .un, .un, .un, .un, .un, .un, .un, .un, .un, .un] = .ok .nx (En (ns.map T.int) o0 .un .un .un .un .un .un .un .un .un) := by
    rw [← ho]; simp [lw.S_law_9, rdA_e]
  clear ho
  generalize ns.map T.int = sc at s1
  obtain ⟨ρ', e, o, x2, x3, x4, x5, x6, x7, x8, x10, x11, ok, rfl⟩ := forL_inv (g := gN 2) (s := lw.B_law_3) (ts := rgT 0 2) (ρ := En sc o0 .un .un .un .un .un .un .un .un .un) (fun ρ => ∃ o x2 x3 x4 x5 x6 x7 x8 x10 x11, RowOk o ∧ ρ = En sc o x2 x3 x4 x5 x6 x7 x8 x10 x11) ⟨_, _, _, _, _, _, _, _, _, _, r0, rfl⟩ (by
    rintro t ht ρ ⟨o, x2, x3, x4, x5, x6, x7, x8, x10, x11, ok, rfl⟩
    obtain ⟨o', y3, y4, y5, y6, y7, y8, y10, y11, ok', e⟩ := turn_ok (sc := sc) (x2 := .fz t) (x3 := x3) (x4 := x4) (x5 := x5) (x6 := x6) (x7 := x7) (x8 := x8) (x10 := x10) (x11 := x11) ok
    exact ⟨_, _, rfl, e, _, _, _, _, _, _, _, _, _, _, ok', rfl⟩)
  have s2 : lw.S_law_10 (En sc o0 .un .un .un .un .un .un .un .un .un) = .ok .nx (En sc o x2 x3 x4 x5 x6 x7 x8 x10 x11) := by
    simp only [lw.S_law_10, sFor_e, calI_e, rdCons_e, rdNil_e, rdC_e, bind_ok, rg1_e]
    exact e
  simp only [lw.F_law, fnF, List.length_cons, List.length_nil, Nat.zero_add, Nat.reduceAdd, Nat.reduceLeDiff, and_self, if_true, List.map_cons, List.map_nil, Nat.reduceSub, List.replicate, List.cons_append, List.nil_append, lw.R_law, sq_e, s1, s2, lw.S_law_11, sRet_e, rdC_e, bind_ok, outF_rt]
end Law

set_option maxHeartbeats 4000000
namespace Law
open PySem PySem.Spec L2 FL TW
def topS (i : Nat) : Stmt := PySem.Challenge.pw_temperworks_k27_whole_uniform_maps_judge.main.body.getD i (.Pass ⟨0, 0, 0, 0⟩)

structure Top (K : PySem.W.Frag) (mg : Str → Option Value) : Prop where
  b_all : mg "all" = none
  b_any : mg "any" = none
  b_bool : mg "bool" = none
  b_enumerate : mg "enumerate" = none
  b_int : mg "int" = none
  b_isinstance : mg "isinstance" = none
  b_len : mg "len" = none
  b_list : mg "list" = none
  b_max : mg "max" = none
  b_range : mg "range" = none
  b_str : mg "str" = none
  b_tuple : mg "tuple" = none
  c_MOST_PRIME : ∃ t, mg "MOST_PRIME" = some (.int (43) t)
  c_MOST_PRIMES : ∃ t, mg "MOST_PRIMES" = some (.int (6) t)
  c_MOST_STEPS : ∃ t, mg "MOST_STEPS" = some (.int (300) t)
  f_is_int : ∃ f fd, Fun K "is_int" "is_int" (topS 8) f fd ∧ mg "is_int" = some (.ref f)
  f_power : ∃ f fd, Fun K "power" "power" (topS 10) f fd ∧ mg "power" = some (.ref f)
  f_is_prime : ∃ f fd, Fun K "is_prime" "is_prime" (topS 11) f fd ∧ mg "is_prime" = some (.ref f)
  f__law_taken : ∃ f fd, Fun K "_law_taken" "_law_taken" (topS 23) f fd ∧ mg "_law_taken" = some (.ref f)
  f__law_power : ∃ f fd, Fun K "_law_power" "_law_power" (topS 27) f fd ∧ mg "_law_power" = some (.ref f)
  f_is_in : ∃ f fd, Fun K "is_in" "is_in" (topS 9) f fd ∧ mg "is_in" = some (.ref f)
  f_is_above : ∃ f fd, Fun K "is_above" "is_above" (topS 15) f fd ∧ mg "is_above" = some (.ref f)
  f_nearest_entry : ∃ f fd, Fun K "nearest_entry" "nearest_entry" (topS 16) f fd ∧ mg "nearest_entry" = some (.ref f)
  f__law_pick : ∃ f fd, Fun K "_law_pick" "_law_pick" (topS 24) f fd ∧ mg "_law_pick" = some (.ref f)
  f_need_limit : ∃ f fd, Fun K "need_limit" "need_limit" (topS 12) f fd ∧ mg "need_limit" = some (.ref f)
  f_need_map : ∃ f fd, Fun K "need_map" "need_map" (topS 18) f fd ∧ mg "need_map" = some (.ref f)
  f_clash_of : ∃ f fd, Fun K "clash_of" "clash_of" (topS 19) f fd ∧ mg "clash_of" = some (.ref f)
  f__law_limit : ∃ f fd, Fun K "_law_limit" "_law_limit" (topS 26) f fd ∧ mg "_law_limit" = some (.ref f)
  f_nearest_map : ∃ f fd, Fun K "nearest_map" "nearest_map" (topS 17) f fd ∧ mg "nearest_map" = some (.ref f)
  f_map_clash : ∃ f fd, Fun K "map_clash" "map_clash" (topS 20) f fd ∧ mg "map_clash" = some (.ref f)
  f_is_uniform : ∃ f fd, Fun K "is_uniform" "is_uniform" (topS 21) f fd ∧ mg "is_uniform" = some (.ref f)
  f__law_alike : ∃ f fd, Fun K "_law_alike" "_law_alike" (topS 25) f fd ∧ mg "_law_alike" = some (.ref f)
  f_law : ∃ f fd, Fun K "law" "law" (topS 28) f fd ∧ mg "law" = some (.ref f)
theorem sc_is_int : FnScope ["value"] ["value"] (defScope (topS 8)) := ⟨rfl, rfl, rfl, by decide +kernel, rfl, by decide +kernel, by decide +kernel⟩
theorem k_is_int {P : Program} {w : World} {K : PySem.W.Frag} {mg : Str → Option Value} {base : Heap} (G : Top K mg) : Known P w K mg base 1 "is_int" limits.F_is_int := by
  obtain ⟨f, fd, F, hm⟩ := G.f_is_int
  have b_bool := G.b_bool
  have b_int := G.b_int
  have b_isinstance := G.b_isinstance
  refine ⟨f, fd, ["value"], hm, F.kp, F.binds (fun _ _ _ _ _ _ us hl => match us, hl with | [_], _ => rfl), fn_ok F sc_is_int fun cdv A outer s H E hr => ?_⟩
  have SC := sc_is_int
  exact fs_one (fs_ret (fe_and (fe_isi .int (by rfl) b_isinstance bt_isinstance (by rfl) b_int bt_int (fe_varA (i := 0))) (fe_one (fe_not (fe_isi .bl (by rfl) b_isinstance bt_isinstance (by rfl) b_bool bt_bool (fe_varA (i := 0)))))))
theorem sc_power : FnScope ["base", "exponent", "found"] ["base", "exponent"] (defScope (topS 10)) := ⟨rfl, rfl, rfl, by decide +kernel, rfl, by decide +kernel, by decide +kernel⟩
theorem k_power {P : Program} {w : World} {K : PySem.W.Frag} {mg : Str → Option Value} {base : Heap} (G : Top K mg) : Known P w K mg base 1 "power" limits.F_power := by
  obtain ⟨f, fd, F, hm⟩ := G.f_power
  refine ⟨f, fd, ["base", "exponent"], hm, F.kp, F.binds (fun _ _ _ _ _ _ us hl => match us, hl with | [_, _], _ => rfl), fn_ok F sc_power fun cdv A outer s H E hr => ?_⟩
  have SC := sc_power
  exact fs_cons (fs_set SC.nd rfl (Or.inl rfl) (fx_t (fe_int)))
    (fs_cons (fs_while 1000000 (passes_of rfl) (ft_cmp op_gt ot_gt (fe_varA (i := 1)) (fe_int)) (fs_cons (fs_if (ft_cmp (op_eqT hr.units) ot_eq (fe_bin op_modN ot_mod (fe_varA (i := 1)) (fe_int)) (fe_int)) (fs_one (fs_set SC.nd rfl (Or.inl rfl) (fx_t (fe_bin op_mulT ot_mul (fe_varA (i := 2)) (fe_varA (i := 0)))))) (fs_nil))
    (fs_one (fs_par rfl SC.nd (i := 0) (j := 1) rfl rfl (by decide) rfl rfl (fxs_cons (fx_t (fe_bin op_mulT ot_mul (fe_varA (i := 0)) (fe_varA (i := 0)))) (fxs_cons (fx_t (fe_bin op_fdivW ot_div (fe_varA (i := 1)) (fe_int))) (fxs_nil))) rfl))))
    (fs_one (fs_ret (fe_varA (i := 2)))))
theorem sc_is_prime : FnScope ["number", "part"] ["number"] (defScope (topS 11)) := ⟨rfl, rfl, rfl, by decide +kernel, rfl, by decide +kernel, by decide +kernel⟩
theorem k_is_prime {P : Program} {w : World} {K : PySem.W.Frag} {mg : Str → Option Value} {base : Heap} (G : Top K mg) : Known P w K mg base 1 "is_prime" limits.F_is_prime := by
  obtain ⟨f, fd, F, hm⟩ := G.f_is_prime
  have b_any := G.b_any
  have b_range := G.b_range
  refine ⟨f, fd, ["number"], hm, F.kp, F.binds (fun _ _ _ _ _ _ us hl => match us, hl with | [_], _ => rfl), fn_ok F sc_is_prime fun cdv A outer s H E hr => ?_⟩
  have SC := sc_is_prime
  exact fs_one (fs_ret (fe_and (fe_cmp op_gt ot_gt (fe_varA (i := 0)) (fe_int)) (fe_one (fe_not (fe_callB (cr_any rfl) ct_any (by rfl) b_any bt_any (fa_cons (fe_new (fo_lc (own := [("part", 1)]) rfl SC.nd (fi_range2 (by rfl) b_range (fa_cons (fe_int) (fa_cons (fe_varA (i := 0)) (fa_nil)))) (blkOk_by (by kernel_rfl)) (fun _ _ _ _ _ => fg_name SC.nd rfl (Or.inl rfl)) (by decide) (fun _ _ _ _ _ => fts_one (ft_cmp op_le ot_le (fe_bin op_mulT ot_mul (fe_varA (i := 1)) (fe_varA (i := 1))) (fe_varA (i := 0)))) (fun _ _ _ _ _ => fe_cmp (op_eqT hr.units) ot_eq (fe_bin op_modN ot_mod (fe_varA (i := 0)) (fe_varA (i := 1))) (fe_int)))) (fa_nil)))))))
theorem sc__law_taken : FnScope ["_law_row", "_law_many", "_law_cell", "_law_found"] ["_law_row", "_law_many"] (defScope (topS 23)) := ⟨rfl, rfl, rfl, by decide +kernel, rfl, by decide +kernel, by decide +kernel⟩
theorem k__law_taken {P : Program} {w : World} {K : PySem.W.Frag} {mg : Str → Option Value} {base : Heap} (G : Top K mg) : KnownM P w K mg base 1 "_law_taken" lw.F__law_taken := by
  obtain ⟨f, fd, F, hm⟩ := G.f__law_taken
  have b_int := G.b_int
  have b_len := G.b_len
  refine ⟨f, fd, ["_law_row", "_law_many"], hm, F.kp, F.binds (fun _ _ _ _ _ _ us hl => match us, hl with | [_, _], _ => rfl), fm_ok F sc__law_taken fun cdv A outer s H E hr => ?_⟩
  have SC := sc__law_taken
  exact fs_cons (fs_if (ft_cmp op_gt ot_gt (fe_ixA (i := 0) rfl (fe_int)) (fe_int)) (fs_cons (fs_set SC.nd rfl (Or.inl rfl) (fx_t (fe_bin op_modN ot_mod (fe_callTy call_int1 ct_int1 (by rfl) b_int bt_int (fa_cons (fe_ixA (i := 0) rfl (fe_int)) (fa_nil))) (fe_varA (i := 1)))))
    (fs_cons (fs_setI (i := 0) rfl (by first | exact Or.inl rfl | exact Or.inr (Or.inl rfl) | exact Or.inr (Or.inr rfl)) (fe_int) (fe_bin op_fdivW ot_div (fe_ixA (i := 0) rfl (fe_int)) (fe_varA (i := 1))))
    (fs_one (fs_ret (fe_varA (i := 3)))))) (fs_nil))
    (fs_cons (fs_setI (i := 0) rfl (by first | exact Or.inl rfl | exact Or.inr (Or.inl rfl) | exact Or.inr (Or.inr rfl)) (fe_int) (fe_bin op_addT ot_add (fe_ixA (i := 0) rfl (fe_int)) (fe_int)))
    (fs_cons (fs_if (ft_cmp op_gt ot_gt (fe_ixA (i := 0) rfl (fe_int)) (fe_callB call_len ct_len (by rfl) b_len bt_len (fa_cons (fe_ixA (i := 0) rfl (fe_int)) (fa_nil)))) (fs_cons (fs_setI (i := 0) rfl (by first | exact Or.inl rfl | exact Or.inr (Or.inl rfl) | exact Or.inr (Or.inr rfl)) (fe_int) (fe_bin op_modN ot_mod (fe_callTy call_int1 ct_int1 (by rfl) b_int bt_int (fa_cons (fe_bin op_addT ot_add (fe_bin op_mulT ot_mul (fe_ixA (i := 0) rfl (fe_int)) (fe_int)) (fe_int)) (fa_nil))) (fe_int)))
    (fs_one (fs_ret (fe_bin op_modN ot_mod (fe_callTy call_int1 ct_int1 (by rfl) b_int bt_int (fa_cons (fe_bin op_fdivW ot_div (fe_ixA (i := 0) rfl (fe_int)) (fe_int)) (fa_nil))) (fe_varA (i := 1)))))) (fs_nil))
    (fs_cons (fs_set SC.nd rfl (Or.inl rfl) (fx_t (fe_ix (fe_ixA (i := 0) rfl (fe_int)) (fe_bin op_sub ot_sub (fe_ixA (i := 0) rfl (fe_int)) (fe_int)))))
    (fs_cons (fs_setI (i := 0) rfl (by first | exact Or.inl rfl | exact Or.inr (Or.inl rfl) | exact Or.inr (Or.inr rfl)) (fe_int) (fe_bin op_modN ot_mod (fe_callTy call_int1 ct_int1 (by rfl) b_int bt_int (fa_cons (fe_bin op_addT ot_add (fe_bin op_addT ot_add (fe_bin op_mulT ot_mul (fe_ixA (i := 0) rfl (fe_int)) (fe_int)) (fe_varA (i := 2))) (fe_int)) (fa_nil))) (fe_int)))
    (fs_cons (fs_if (ft_cmp op_ge ot_ge (fe_varA (i := 2)) (fe_bin op_pow ot_pow (fe_int) (fe_int))) (fs_one (fs_setI (i := 0) rfl (by first | exact Or.inl rfl | exact Or.inr (Or.inl rfl) | exact Or.inr (Or.inr rfl)) (fe_int) (fe_bin op_fdivW ot_div (fe_varA (i := 2)) (fe_varA (i := 1))))) (fs_nil))
    (fs_one (fs_ret (fe_bin op_modN ot_mod (fe_callTy call_int1 ct_int1 (by rfl) b_int bt_int (fa_cons (fe_varA (i := 2)) (fa_nil))) (fe_varA (i := 1))))))))))
theorem sc__law_power : FnScope ["_law_base", "_law_exponent", "_law_found", "_law_turn"] ["_law_base", "_law_exponent"] (defScope (topS 27)) := ⟨rfl, rfl, rfl, by decide +kernel, rfl, by decide +kernel, by decide +kernel⟩
theorem k__law_power {P : Program} {w : World} {K : PySem.W.Frag} {mg : Str → Option Value} {base : Heap} (G : Top K mg) : Known P w K mg base 1 "_law_power" lw.F__law_power := by
  obtain ⟨f, fd, F, hm⟩ := G.f__law_power
  have b_range := G.b_range
  refine ⟨f, fd, ["_law_base", "_law_exponent"], hm, F.kp, F.binds (fun _ _ _ _ _ _ us hl => match us, hl with | [_, _], _ => rfl), fn_ok F sc__law_power fun cdv A outer s H E hr => ?_⟩
  have SC := sc__law_power
  exact fs_cons (fs_set SC.nd rfl (Or.inl rfl) (fx_t (fe_int)))
    (fs_cons (fs_for (passes_of rfl) rfl (fi_range1 (by rfl) b_range (fa_cons (fe_varA (i := 1)) (fa_nil))) (fg_name SC.nd rfl (Or.inl rfl)) (fs_one (fs_set SC.nd rfl (Or.inl rfl) (fx_t (fe_bin op_mulT ot_mul (fe_varA (i := 2)) (fe_varA (i := 0)))))))
    (fs_one (fs_ret (fe_varA (i := 2)))))
theorem sc_is_in : FnScope ["value", "least", "most"] ["value", "least", "most"] (defScope (topS 9)) := ⟨rfl, rfl, rfl, by decide +kernel, rfl, by decide +kernel, by decide +kernel⟩
theorem k_is_in {P : Program} {w : World} {K : PySem.W.Frag} {mg : Str → Option Value} {base : Heap} (G : Top K mg) : Known P w K mg base 2 "is_in" limits.F_is_in := by
  obtain ⟨f, fd, F, hm⟩ := G.f_is_in
  have k_is_int := (k_is_int (P := P) (w := w) (base := base) G).mono (show 1 ≤ 1 by decide)
  refine ⟨f, fd, ["value", "least", "most"], hm, F.kp, F.binds (fun _ _ _ _ _ _ us hl => match us, hl with | [_, _, _], _ => rfl), fn_ok F sc_is_in fun cdv A outer s H E hr => ?_⟩
  have SC := sc_is_in
  exact fs_one (fs_ret (fe_and (fe_call k_is_int hr (by rfl) (passes_call (takes_of rfl rfl rfl rfl) fun _ _ _ _ h => h) (fa_cons (fe_varA (i := 0)) (fa_nil))) (fe_one (fe_chain op_le ot_le op_le ot_le (fe_varA (i := 1)) (fe_varA (i := 0)) (fe_varA (i := 2))))))
theorem sc_is_above : FnScope ["limit", "first", "one", "second", "other"] ["limit", "first", "one", "second", "other"] (defScope (topS 15)) := ⟨rfl, rfl, rfl, by decide +kernel, rfl, by decide +kernel, by decide +kernel⟩
theorem k_is_above {P : Program} {w : World} {K : PySem.W.Frag} {mg : Str → Option Value} {base : Heap} (G : Top K mg) : Known P w K mg base 2 "is_above" equal.F_is_above := by
  obtain ⟨f, fd, F, hm⟩ := G.f_is_above
  have k_power := (k_power (P := P) (w := w) (base := base) G).mono (show 1 ≤ 1 by decide)
  refine ⟨f, fd, ["limit", "first", "one", "second", "other"], hm, F.kp, F.binds (fun _ _ _ _ _ _ us hl => match us, hl with | [_, _, _, _, _], _ => rfl), fn_ok F sc_is_above fun cdv A outer s H E hr => ?_⟩
  have SC := sc_is_above
  exact fs_one (fs_ret (fe_if (ft_cmp op_gt ot_gt (fe_bin op_sub ot_sub (fe_bin op_mulT ot_mul (fe_int) (fe_varA (i := 2))) (fe_int)) (fe_int)) (fe_cmp op_gt ot_gt (fe_call k_power hr (by rfl) (passes_call (takes_of rfl rfl rfl rfl) fun _ _ _ _ h => h) (fa_cons (fe_varA (i := 3)) (fa_cons (fe_bin op_sub ot_sub (fe_bin op_mulT ot_mul (fe_int) (fe_varA (i := 2))) (fe_int)) (fa_nil)))) (fe_call k_power hr (by rfl) (passes_call (takes_of rfl rfl rfl rfl) fun _ _ _ _ h => h) (fa_cons (fe_varA (i := 1)) (fa_cons (fe_bin op_addT ot_add (fe_bin op_mulT ot_mul (fe_int) (fe_varA (i := 4))) (fe_int)) (fa_nil))))) (fe_bl)))
theorem sc_nearest_entry : FnScope ["limit", "steps", "prime", "goal", "low", "high", "middle"] ["limit", "steps", "prime"] (defScope (topS 16)) := ⟨rfl, rfl, rfl, by decide +kernel, rfl, by decide +kernel, by decide +kernel⟩
theorem k_nearest_entry {P : Program} {w : World} {K : PySem.W.Frag} {mg : Str → Option Value} {base : Heap} (G : Top K mg) : Known P w K mg base 2 "nearest_entry" equal.F_nearest_entry := by
  obtain ⟨f, fd, F, hm⟩ := G.f_nearest_entry
  have k_power := (k_power (P := P) (w := w) (base := base) G).mono (show 1 ≤ 1 by decide)
  refine ⟨f, fd, ["limit", "steps", "prime"], hm, F.kp, F.binds (fun _ _ _ _ _ _ us hl => match us, hl with | [_, _, _], _ => rfl), fn_ok F sc_nearest_entry fun cdv A outer s H E hr => ?_⟩
  have SC := sc_nearest_entry
  exact fs_cons (fs_par3 rfl SC.nd (i := 3) (j := 4) (l := 5) rfl rfl rfl (by decide) (by decide) (by decide) rfl rfl rfl (fxs_cons (fx_t (fe_call k_power hr (by rfl) (passes_call (takes_of rfl rfl rfl rfl) fun _ _ _ _ h => h) (fa_cons (fe_varA (i := 2)) (fa_cons (fe_bin op_mulT ot_mul (fe_int) (fe_varA (i := 1))) (fa_nil))))) (fxs_cons (fx_t (fe_int)) (fxs_cons (fx_t (fe_bin op_addT ot_add (fe_bin op_mulT ot_mul (fe_int) (fe_varA (i := 1))) (fe_int))) (fxs_nil)))) rfl)
    (fs_cons (fs_while 1000000 (passes_of rfl) (ft_cmp op_lt ot_lt (fe_varA (i := 4)) (fe_varA (i := 5))) (fs_cons (fs_set SC.nd rfl (Or.inl rfl) (fx_t (fe_bin op_fdivW ot_div (fe_bin op_addT ot_add (fe_varA (i := 4)) (fe_varA (i := 5))) (fe_int))))
    (fs_one (fs_if (ft_cmp op_gt ot_gt (fe_call k_power hr (by rfl) (passes_call (takes_of rfl rfl rfl rfl) fun _ _ _ _ h => h) (fa_cons (fe_ixA (i := 0) rfl (fe_int)) (fa_cons (fe_bin op_addT ot_add (fe_bin op_mulT ot_mul (fe_int) (fe_varA (i := 6))) (fe_int)) (fa_nil)))) (fe_varA (i := 3))) (fs_one (fs_set SC.nd rfl (Or.inl rfl) (fx_t (fe_varA (i := 6))))) (fs_one (fs_set SC.nd rfl (Or.inl rfl) (fx_t (fe_bin op_addT ot_add (fe_varA (i := 6)) (fe_int)))))))))
    (fs_one (fs_ret (fe_varA (i := 4)))))
theorem sc__law_pick : FnScope ["_law_row", "_law_things"] ["_law_row", "_law_things"] (defScope (topS 24)) := ⟨rfl, rfl, rfl, by decide +kernel, rfl, by decide +kernel, by decide +kernel⟩
theorem k__law_pick {P : Program} {w : World} {K : PySem.W.Frag} {mg : Str → Option Value} {base : Heap} (G : Top K mg) : KnownM P w K mg base 2 "_law_pick" lw.F__law_pick := by
  obtain ⟨f, fd, F, hm⟩ := G.f__law_pick
  have b_len := G.b_len
  have k__law_taken := (k__law_taken (P := P) (w := w) (base := base) G).mono (show 1 ≤ 1 by decide)
  refine ⟨f, fd, ["_law_row", "_law_things"], hm, F.kp, F.binds (fun _ _ _ _ _ _ us hl => match us, hl with | [_, _], _ => rfl), fm_ok F sc__law_pick fun cdv A outer s H E hr => ?_⟩
  have SC := sc__law_pick
  exact fs_one (fs_ret (fe_ixA (i := 1) rfl (fe_callM (i := 0) k__law_taken hr (by rfl) passL rfl (fa_cons (fe_lenA (i := 1) (by rfl) b_len bt_len) (fa_nil)))))
theorem sc_need_limit : FnScope ["value", "prime", "at"] ["value"] (defScope (topS 12)) := ⟨rfl, rfl, rfl, by decide +kernel, rfl, by decide +kernel, by decide +kernel⟩
theorem k_need_limit {P : Program} {w : World} {K : PySem.W.Frag} {mg : Str → Option Value} {base : Heap} (G : Top K mg) : Known P w K mg base 3 "need_limit" limits.F_need_limit := by
  obtain ⟨f, fd, F, hm⟩ := G.f_need_limit
  obtain ⟨t_MOST_PRIME, c_MOST_PRIME⟩ := G.c_MOST_PRIME
  obtain ⟨t_MOST_PRIMES, c_MOST_PRIMES⟩ := G.c_MOST_PRIMES
  have b_all := G.b_all
  have b_isinstance := G.b_isinstance
  have b_len := G.b_len
  have b_range := G.b_range
  have b_tuple := G.b_tuple
  have k_is_in := (k_is_in (P := P) (w := w) (base := base) G).mono (show 2 ≤ 2 by decide)
  have k_is_prime := (k_is_prime (P := P) (w := w) (base := base) G).mono (show 1 ≤ 2 by decide)
  refine ⟨f, fd, ["value"], hm, F.kp, F.binds (fun _ _ _ _ _ _ us hl => match us, hl with | [_], _ => rfl), fn_ok F sc_need_limit fun cdv A outer s H E hr => ?_⟩
  have SC := sc_need_limit
  exact fs_cons (fs_if (ft_w (fw_or (ft_not (ft_val (fe_isi .tup (by rfl) b_isinstance bt_isinstance (by rfl) b_tuple bt_tuple (fe_varA (i := 0))))) (fw_or1 (ft_not (ft_chain op_le ot_le op_le ot_le (fe_int) (fe_lenA (i := 0) (by rfl) b_len bt_len) (fe_gint (by rfl) c_MOST_PRIMES)))))) (fss_never) (fs_nil))
    (fs_cons (fs_if (ft_not (ft_val (fe_callB (cr_all rfl) ct_all (by rfl) b_all bt_all (fa_cons (fe_new (fo_lc (own := [("prime", 1)]) rfl SC.nd (fi_seq (fe_varA (i := 0))) (blkOk_by (by kernel_rfl)) (fun _ _ _ _ _ => fg_name SC.nd rfl (Or.inl rfl)) (by decide) (fun _ _ _ _ _ => fts_nil) (fun _ _ _ _ _ => fe_and (fe_call k_is_in hr (by rfl) passL (fa_cons (fe_varA (i := 1)) (fa_cons (fe_int) (fa_cons (fe_gint (by rfl) c_MOST_PRIME) (fa_nil))))) (fe_one (fe_call k_is_prime hr (by rfl) passL (fa_cons (fe_varA (i := 1)) (fa_nil))))))) (fa_nil))))) (fss_never) (fs_nil))
    (fs_one (fs_if (ft_not (ft_val (fe_callB (cr_all rfl) ct_all (by rfl) b_all bt_all (fa_cons (fe_new (fo_lc (own := [("at", 2)]) rfl SC.nd (fi_range2 (by rfl) b_range (fa_cons (fe_int) (fa_cons (fe_lenA (i := 0) (by rfl) b_len bt_len) (fa_nil)))) (blkOk_by (by kernel_rfl)) (fun _ _ _ _ _ => fg_name SC.nd rfl (Or.inl rfl)) (by decide) (fun _ _ _ _ _ => fts_nil) (fun _ _ _ _ _ => fe_cmp op_lt ot_lt (fe_ixA (i := 0) rfl (fe_bin op_sub ot_sub (fe_varA (i := 2)) (fe_int))) (fe_ixA (i := 0) rfl (fe_varA (i := 2)))))) (fa_nil))))) (fss_never) (fs_nil))))
theorem sc_need_map : FnScope ["limit", "value", "entry"] ["limit", "value"] (defScope (topS 18)) := ⟨rfl, rfl, rfl, by decide +kernel, rfl, by decide +kernel, by decide +kernel⟩
theorem k_need_map {P : Program} {w : World} {K : PySem.W.Frag} {mg : Str → Option Value} {base : Heap} (G : Top K mg) : Known P w K mg base 3 "need_map" equal.F_need_map := by
  obtain ⟨f, fd, F, hm⟩ := G.f_need_map
  obtain ⟨t_MOST_STEPS, c_MOST_STEPS⟩ := G.c_MOST_STEPS
  have b_all := G.b_all
  have b_isinstance := G.b_isinstance
  have b_len := G.b_len
  have b_tuple := G.b_tuple
  have k_is_in := (k_is_in (P := P) (w := w) (base := base) G).mono (show 2 ≤ 2 by decide)
  refine ⟨f, fd, ["limit", "value"], hm, F.kp, F.binds (fun _ _ _ _ _ _ us hl => match us, hl with | [_, _], _ => rfl), fn_ok F sc_need_map fun cdv A outer s H E hr => ?_⟩
  have SC := sc_need_map
  exact fs_cons (fs_if (ft_w (fw_or (ft_not (ft_val (fe_isi .tup (by rfl) b_isinstance bt_isinstance (by rfl) b_tuple bt_tuple (fe_varA (i := 1))))) (fw_or1 (ft_cmp (op_neT hr.units) ot_ne (fe_lenA (i := 1) (by rfl) b_len bt_len) (fe_lenA (i := 0) (by rfl) b_len bt_len))))) (fss_never) (fs_nil))
    (fs_one (fs_if (ft_not (ft_val (fe_callB (cr_all rfl) ct_all (by rfl) b_all bt_all (fa_cons (fe_new (fo_lc (own := [("entry", 2)]) rfl SC.nd (fi_seq (fe_varA (i := 1))) (blkOk_by (by kernel_rfl)) (fun _ _ _ _ _ => fg_name SC.nd rfl (Or.inl rfl)) (by decide) (fun _ _ _ _ _ => fts_nil) (fun _ _ _ _ _ => fe_call k_is_in hr (by rfl) passL (fa_cons (fe_varA (i := 2)) (fa_cons (fe_int) (fa_cons (fe_bin op_mulT ot_mul (fe_gint (by rfl) c_MOST_STEPS) (fe_int)) (fa_nil))))))) (fa_nil))))) (fss_never) (fs_nil)))
theorem sc_clash_of : FnScope ["limit", "told", "at", "first", "place", "second"] ["limit", "told"] (defScope (topS 19)) := ⟨rfl, rfl, rfl, by decide +kernel, rfl, by decide +kernel, by decide +kernel⟩
theorem k_clash_of {P : Program} {w : World} {K : PySem.W.Frag} {mg : Str → Option Value} {base : Heap} (G : Top K mg) : Known P w K mg base 3 "clash_of" equal.F_clash_of := by
  obtain ⟨f, fd, F, hm⟩ := G.f_clash_of
  have b_enumerate := G.b_enumerate
  have k_is_above := (k_is_above (P := P) (w := w) (base := base) G).mono (show 2 ≤ 2 by decide)
  refine ⟨f, fd, ["limit", "told"], hm, F.kp, F.binds (fun _ _ _ _ _ _ us hl => match us, hl with | [_, _], _ => rfl), fn_ok F sc_clash_of fun cdv A outer s H E hr => ?_⟩
  have SC := sc_clash_of
  exact fs_cons (fs_for (passes_of rfl) rfl (fi_enum (by rfl) b_enumerate (fa_cons (fe_varA (i := 0)) (fa_nil))) (fg_tup rfl (fgs_cons (fg_name SC.nd rfl (Or.inl rfl)) (fgs_cons (fg_name SC.nd rfl (Or.inl rfl)) (fgs_nil))) rfl rfl (gs_len (gs_len gs_len0))) (fs_one (fs_for (passes_of rfl) rfl (fi_enum (by rfl) b_enumerate (fa_cons (fe_varA (i := 0)) (fa_nil))) (fg_tup rfl (fgs_cons (fg_name SC.nd rfl (Or.inl rfl)) (fgs_cons (fg_name SC.nd rfl (Or.inl rfl)) (fgs_nil))) rfl rfl (gs_len (gs_len gs_len0))) (fs_one (fs_if (ft_w (fw_and (ft_cmp (op_neT hr.units) ot_ne (fe_varA (i := 2)) (fe_varA (i := 4))) (fw_and1 (ft_val (fe_call k_is_above hr (by rfl) (passes_call (takes_of rfl rfl rfl rfl) fun _ _ _ _ h => h) (fa_cons (fe_varA (i := 0)) (fa_cons (fe_varA (i := 3)) (fa_cons (fe_ixA (i := 1) rfl (fe_varA (i := 2))) (fa_cons (fe_varA (i := 5)) (fa_cons (fe_ixA (i := 1) rfl (fe_varA (i := 4))) (fa_nil))))))))))) (fs_one (fs_ret (fe_tup (fa_cons (fe_varA (i := 2)) (fa_cons (fe_varA (i := 4)) (fa_nil)))))) (fs_nil))))))
    (fs_one (fs_ret (fe_non)))
theorem sc__law_limit : FnScope ["_law_row"] ["_law_row"] (defScope (topS 26)) := ⟨rfl, rfl, rfl, by decide +kernel, rfl, by decide +kernel, by decide +kernel⟩
theorem k__law_limit {P : Program} {w : World} {K : PySem.W.Frag} {mg : Str → Option Value} {base : Heap} (G : Top K mg) : KnownM P w K mg base 3 "_law_limit" lw.F__law_limit := by
  obtain ⟨f, fd, F, hm⟩ := G.f__law_limit
  have k__law_pick := (k__law_pick (P := P) (w := w) (base := base) G).mono (show 2 ≤ 2 by decide)
  refine ⟨f, fd, ["_law_row"], hm, F.kp, F.binds (fun _ _ _ _ _ _ us hl => match us, hl with | [_], _ => rfl), fm_ok F sc__law_limit fun cdv A outer s H E hr => ?_⟩
  have SC := sc__law_limit
  exact fs_one (fs_ret (fe_callM (i := 0) k__law_pick hr (by rfl) passL rfl (fa_cons (fe_new (fo_lst (fa_cons (fe_tup (fa_cons (fe_int) (fa_cons (fe_int) (fa_cons (fe_int) (fa_nil))))) (fa_cons (fe_tup (fa_cons (fe_int) (fa_cons (fe_int) (fa_nil)))) (fa_cons (fe_tup (fa_cons (fe_int) (fa_cons (fe_int) (fa_cons (fe_int) (fa_cons (fe_int) (fa_nil)))))) (fa_cons (fe_tup (fa_cons (fe_int) (fa_cons (fe_int) (fa_cons (fe_int) (fa_nil))))) (fa_cons (fe_tup (fa_cons (fe_int) (fa_cons (fe_int) (fa_cons (fe_int) (fa_nil))))) (fa_cons (fe_tup (fa_cons (fe_int) (fa_cons (fe_int) (fa_nil)))) (fa_cons (fe_tup (fa_cons (fe_int) (fa_cons (fe_int) (fa_cons (fe_int) (fa_cons (fe_int) (fa_cons (fe_int) (fa_nil))))))) (fa_cons (fe_tup (fa_cons (fe_int) (fa_cons (fe_int) (fa_cons (fe_int) (fa_cons (fe_int) (fa_nil)))))) (fa_nil))))))))))) (fa_nil))))
theorem sc_nearest_map : FnScope ["limit", "steps", "prime"] ["limit", "steps"] (defScope (topS 17)) := ⟨rfl, rfl, rfl, by decide +kernel, rfl, by decide +kernel, by decide +kernel⟩
theorem k_nearest_map {P : Program} {w : World} {K : PySem.W.Frag} {mg : Str → Option Value} {base : Heap} (G : Top K mg) : Known P w K mg base 4 "nearest_map" equal.F_nearest_map := by
  obtain ⟨f, fd, F, hm⟩ := G.f_nearest_map
  obtain ⟨t_MOST_STEPS, c_MOST_STEPS⟩ := G.c_MOST_STEPS
  have b_tuple := G.b_tuple
  have k_is_in := (k_is_in (P := P) (w := w) (base := base) G).mono (show 2 ≤ 3 by decide)
  have k_nearest_entry := (k_nearest_entry (P := P) (w := w) (base := base) G).mono (show 2 ≤ 3 by decide)
  have k_need_limit := (k_need_limit (P := P) (w := w) (base := base) G).mono (show 3 ≤ 3 by decide)
  refine ⟨f, fd, ["limit", "steps"], hm, F.kp, F.binds (fun _ _ _ _ _ _ us hl => match us, hl with | [_, _], _ => rfl), fn_ok F sc_nearest_map fun cdv A outer s H E hr => ?_⟩
  have SC := sc_nearest_map
  exact fs_cons (fs_expr (fe_call k_need_limit hr (by rfl) (passes_call (takes_of rfl rfl rfl rfl) fun _ _ _ _ h => h) (fa_cons (fe_varA (i := 0)) (fa_nil))))
    (fs_cons (fs_if (ft_not (ft_val (fe_call k_is_in hr (by rfl) (passes_call (takes_of rfl rfl rfl rfl) fun _ _ _ _ h => h) (fa_cons (fe_varA (i := 1)) (fa_cons (fe_int) (fa_cons (fe_gint (by rfl) c_MOST_STEPS) (fa_nil))))))) (fss_never) (fs_nil))
    (fs_one (fs_ret (fe_callTy call_tuple_of ct_tuple (by rfl) b_tuple bt_tuple (fa_cons (fe_new (fo_lc (own := [("prime", 2)]) rfl SC.nd (fi_seq (fe_varA (i := 0))) (blkOk_by (by kernel_rfl)) (fun _ _ _ _ _ => fg_name SC.nd rfl (Or.inl rfl)) (by decide) (fun _ _ _ _ _ => fts_nil) (fun _ _ _ _ _ => fe_call k_nearest_entry hr (by rfl) passL (fa_cons (fe_varA (i := 0)) (fa_cons (fe_varA (i := 1)) (fa_cons (fe_varA (i := 2)) (fa_nil))))))) (fa_nil))))))
theorem sc_map_clash : FnScope ["limit", "told"] ["limit", "told"] (defScope (topS 20)) := ⟨rfl, rfl, rfl, by decide +kernel, rfl, by decide +kernel, by decide +kernel⟩
theorem k_map_clash {P : Program} {w : World} {K : PySem.W.Frag} {mg : Str → Option Value} {base : Heap} (G : Top K mg) : Known P w K mg base 4 "map_clash" equal.F_map_clash := by
  obtain ⟨f, fd, F, hm⟩ := G.f_map_clash
  have k_clash_of := (k_clash_of (P := P) (w := w) (base := base) G).mono (show 3 ≤ 3 by decide)
  have k_need_limit := (k_need_limit (P := P) (w := w) (base := base) G).mono (show 3 ≤ 3 by decide)
  have k_need_map := (k_need_map (P := P) (w := w) (base := base) G).mono (show 3 ≤ 3 by decide)
  refine ⟨f, fd, ["limit", "told"], hm, F.kp, F.binds (fun _ _ _ _ _ _ us hl => match us, hl with | [_, _], _ => rfl), fn_ok F sc_map_clash fun cdv A outer s H E hr => ?_⟩
  have SC := sc_map_clash
  exact fs_cons (fs_expr (fe_call k_need_limit hr (by rfl) (passes_call (takes_of rfl rfl rfl rfl) fun _ _ _ _ h => h) (fa_cons (fe_varA (i := 0)) (fa_nil))))
    (fs_cons (fs_expr (fe_call k_need_map hr (by rfl) (passes_call (takes_of rfl rfl rfl rfl) fun _ _ _ _ h => h) (fa_cons (fe_varA (i := 0)) (fa_cons (fe_varA (i := 1)) (fa_nil)))))
    (fs_one (fs_ret (fe_call k_clash_of hr (by rfl) (passes_call (takes_of rfl rfl rfl rfl) fun _ _ _ _ h => h) (fa_cons (fe_varA (i := 0)) (fa_cons (fe_varA (i := 1)) (fa_nil)))))))
theorem sc_is_uniform : FnScope ["limit", "told"] ["limit", "told"] (defScope (topS 21)) := ⟨rfl, rfl, rfl, by decide +kernel, rfl, by decide +kernel, by decide +kernel⟩
theorem k_is_uniform {P : Program} {w : World} {K : PySem.W.Frag} {mg : Str → Option Value} {base : Heap} (G : Top K mg) : Known P w K mg base 4 "is_uniform" equal.F_is_uniform := by
  obtain ⟨f, fd, F, hm⟩ := G.f_is_uniform
  have k_clash_of := (k_clash_of (P := P) (w := w) (base := base) G).mono (show 3 ≤ 3 by decide)
  have k_need_limit := (k_need_limit (P := P) (w := w) (base := base) G).mono (show 3 ≤ 3 by decide)
  have k_need_map := (k_need_map (P := P) (w := w) (base := base) G).mono (show 3 ≤ 3 by decide)
  refine ⟨f, fd, ["limit", "told"], hm, F.kp, F.binds (fun _ _ _ _ _ _ us hl => match us, hl with | [_, _], _ => rfl), fn_ok F sc_is_uniform fun cdv A outer s H E hr => ?_⟩
  have SC := sc_is_uniform
  exact fs_cons (fs_expr (fe_call k_need_limit hr (by rfl) (passes_call (takes_of rfl rfl rfl rfl) fun _ _ _ _ h => h) (fa_cons (fe_varA (i := 0)) (fa_nil))))
    (fs_cons (fs_expr (fe_call k_need_map hr (by rfl) (passes_call (takes_of rfl rfl rfl rfl) fun _ _ _ _ h => h) (fa_cons (fe_varA (i := 0)) (fa_cons (fe_varA (i := 1)) (fa_nil)))))
    (fs_one (fs_ret (fe_cmp op_isT ot_is (fe_call k_clash_of hr (by rfl) (passes_call (takes_of rfl rfl rfl rfl) fun _ _ _ _ h => h) (fa_cons (fe_varA (i := 0)) (fa_cons (fe_varA (i := 1)) (fa_nil)))) (fe_non)))))
theorem sc__law_alike : FnScope ["_law_found", "_law_due", "_law_k"] ["_law_found", "_law_due"] (defScope (topS 25)) := ⟨rfl, rfl, rfl, by decide +kernel, rfl, by decide +kernel, by decide +kernel⟩
theorem kk__law_alike {P : Program} {w : World} {K : PySem.W.Frag} {mg : Str → Option Value} {base : Heap} (G : Top K mg) : ∀ n : Nat, Known P w K mg base (1 + n) "_law_alike" (lw.F__law_alike n) := by
  obtain ⟨f, fd, F, hm⟩ := G.f__law_alike
  have b_bool := G.b_bool
  have b_int := G.b_int
  have b_isinstance := G.b_isinstance
  have b_len := G.b_len
  have b_list := G.b_list
  have b_range := G.b_range
  have b_str := G.b_str
  have b_tuple := G.b_tuple
  intro n
  induction n with
  | zero => exact ⟨f, fd, ["_law_found", "_law_due"], hm, F.kp, F.binds (fun _ _ _ _ _ _ us hl => match us, hl with | [_, _], _ => rfl), ⟨fun vs H Q E h => (bad_sp h).elim, fun A outer s H args us vs Q E _ _ _ _ h => (bad_sp h).elim⟩⟩
  | succ n ih =>
  have k__law_alike := ih
  refine ⟨f, fd, ["_law_found", "_law_due"], hm, F.kp, F.binds (fun _ _ _ _ _ _ us hl => match us, hl with | [_, _], _ => rfl), fn_ok F sc__law_alike fun cdv A outer s H E hr => ?_⟩
  have SC := sc__law_alike
  exact fs_cons (fs_if (ft_val (fe_isi2 .tup .lst (by rfl) b_isinstance bt_isinstance (by rfl) b_tuple bt_tuple (by rfl) b_list bt_list (fe_varA (i := 1)))) (fs_cons (fs_if (ft_w (fw_or (ft_not (ft_val (fe_isi2 .tup .lst (by rfl) b_isinstance bt_isinstance (by rfl) b_tuple bt_tuple (by rfl) b_list bt_list (fe_varA (i := 0))))) (fw_or1 (ft_cmp (op_neT hr.units) ot_ne (fe_isi .lst (by rfl) b_isinstance bt_isinstance (by rfl) b_list bt_list (fe_varA (i := 0))) (fe_isi .lst (by rfl) b_isinstance bt_isinstance (by rfl) b_list bt_list (fe_varA (i := 1))))))) (fs_one (fs_ret (fe_bl))) (fs_nil))
    (fs_cons (fs_if (ft_cmp (op_neT hr.units) ot_ne (fe_lenA (i := 0) (by rfl) b_len bt_len) (fe_lenA (i := 1) (by rfl) b_len bt_len)) (fs_one (fs_ret (fe_bl))) (fs_nil))
    (fs_one (fs_ret (fe_cmp (op_eqT hr.units) ot_eq (fe_new (fo_lc (own := [("_law_k", 2)]) rfl SC.nd (fi_range1 (by rfl) b_range (fa_cons (fe_lenA (i := 1) (by rfl) b_len bt_len) (fa_nil))) (blkOk_by (by kernel_rfl)) (fun _ _ _ _ _ => fg_name SC.nd rfl (Or.inl rfl)) (by decide) (fun _ _ _ _ _ => fts_one (ft_not (ft_val (fe_call k__law_alike hr (by rfl) passL (fa_cons (fe_ixA (i := 0) rfl (fe_varA (i := 2))) (fa_cons (fe_ixA (i := 1) rfl (fe_varA (i := 2))) (fa_nil))))))) (fun _ _ _ _ _ => fe_varA (i := 2)))) (fe_new (fo_lst (fa_nil)))))))) (fs_nil))
    (fs_cons (fs_if (ft_w (fw_or (ft_cmp op_isT ot_is (fe_varA (i := 1)) (fe_non)) (fw_or1 (ft_val (fe_isi .str (by rfl) b_isinstance bt_isinstance (by rfl) b_str bt_str (fe_varA (i := 1))))))) (fs_one (fs_ret (fe_and (fe_cmp (op_eqT hr.units) ot_eq (fe_varA (i := 0)) (fe_varA (i := 1))) (fe_one (fe_cmp (op_eqT hr.units) ot_eq (fe_isi .str (by rfl) b_isinstance bt_isinstance (by rfl) b_str bt_str (fe_varA (i := 0))) (fe_isi .str (by rfl) b_isinstance bt_isinstance (by rfl) b_str bt_str (fe_varA (i := 1)))))))) (fs_nil))
    (fs_one (fs_ret (fe_and (fe_isi .int (by rfl) b_isinstance bt_isinstance (by rfl) b_int bt_int (fe_varA (i := 0))) (fe_and (fe_cmp (op_eqT hr.units) ot_eq (fe_isi .bl (by rfl) b_isinstance bt_isinstance (by rfl) b_bool bt_bool (fe_varA (i := 0))) (fe_isi .bl (by rfl) b_isinstance bt_isinstance (by rfl) b_bool bt_bool (fe_varA (i := 1)))) (fe_one (fe_cmp (op_eqT hr.units) ot_eq (fe_varA (i := 0)) (fe_varA (i := 1)))))))))
theorem k__law_alike {P : Program} {w : World} {K : PySem.W.Frag} {mg : Str → Option Value} {base : Heap} (G : Top K mg) : Known P w K mg base 9 "_law_alike" (lw.F__law_alike 8) := kk__law_alike G 8
theorem sc_law : FnScope ["_law_script", "_law_row", "_law_turn", "_law_limit_here", "_law_base", "_law_told", "_law_due", "_law_one", "_law_other", "_law_entry", "_law_low", "_law_high", "_law_prime"] ["_law_script"] (defScope (topS 28)) := ⟨rfl, rfl, rfl, by decide +kernel, rfl, by decide +kernel, by decide +kernel⟩
theorem k_law_at {P : Program} {w : World} {K : PySem.W.Frag} {mg : Str → Option Value} {base : Heap} (G : Top K mg) {f : Addr} {fd : FuncData} (F : Fun K "law" "law" (topS 28) f fd) : FnOk P w K mg base (L2.CX P w) 10 f fd ["_law_script"] (spF K mg lw.F_law) := by
  have b_len := G.b_len
  have b_max := G.b_max
  have b_range := G.b_range
  have b_tuple := G.b_tuple
  have k__law_alike := (k__law_alike (P := P) (w := w) (base := base) G).mono (show 9 ≤ 9 by decide)
  have k__law_limit := (k__law_limit (P := P) (w := w) (base := base) G).mono (show 3 ≤ 9 by decide)
  have k__law_pick := (k__law_pick (P := P) (w := w) (base := base) G).mono (show 2 ≤ 9 by decide)
  have k__law_power := (k__law_power (P := P) (w := w) (base := base) G).mono (show 1 ≤ 9 by decide)
  have k__law_taken := (k__law_taken (P := P) (w := w) (base := base) G).mono (show 1 ≤ 9 by decide)
  have k_is_uniform := (k_is_uniform (P := P) (w := w) (base := base) G).mono (show 4 ≤ 9 by decide)
  have k_map_clash := (k_map_clash (P := P) (w := w) (base := base) G).mono (show 4 ≤ 9 by decide)
  have k_nearest_map := (k_nearest_map (P := P) (w := w) (base := base) G).mono (show 4 ≤ 9 by decide)
  refine fn_ok F sc_law fun cdv A outer s H E hr => ?_
  have SC := sc_law
  exact fs_cons (fs_set SC.nd rfl (Or.inr rfl) (fx_o (fo_lst (fa_cons (fe_varA (i := 0)) (fa_cons (fe_int) (fa_cons (fe_int) (fa_cons (fe_int) (fa_nil))))))))
    (fs_cons (fs_for (passes_of rfl) rfl (fi_range1 (by rfl) b_range (fa_cons (fe_int) (fa_nil))) (fg_name SC.nd rfl (Or.inl rfl)) (fs_cons (fs_set SC.nd rfl (Or.inl rfl) (fx_t (fe_callM (i := 1) k__law_limit hr (by rfl) passL rfl (fa_nil))))
    (fs_cons (fs_set SC.nd rfl (Or.inl rfl) (fx_t (fe_call k_nearest_map hr (by rfl) (passes_call (takes_of rfl rfl rfl rfl) fun _ _ _ _ h => h) (fa_cons (fe_varA (i := 3)) (fa_cons (fe_bin op_addT ot_add (fe_int) (fe_callM (i := 1) k__law_taken hr (by rfl) passL rfl (fa_cons (fe_int) (fa_nil)))) (fa_nil))))))
    (fs_cons (fs_set SC.nd rfl (Or.inl rfl) (fx_t (fe_callTy call_tuple_of ct_tuple (by rfl) b_tuple bt_tuple (fa_cons (fe_new (fo_lc (own := [("_law_entry", 9)]) rfl SC.nd (fi_seq (fe_varA (i := 4))) (blkOk_by (by kernel_rfl)) (fun _ _ _ _ _ => fg_name SC.nd rfl (Or.inl rfl)) (by decide) (fun _ _ _ _ _ => fts_nil) (fun _ _ _ _ _ => fe_callB (call_max2 rfl) ct_max2 (by rfl) b_max bt_max (fa_cons (fe_int) (fa_cons (fe_bin op_addT ot_add (fe_varA (i := 9)) (fe_callM (i := 1) k__law_pick hr (by rfl) passL rfl (fa_cons (fe_new (fo_lst (fa_cons (fe_int) (fa_cons (fe_int) (fa_cons (fe_int) (fa_cons (fe_int) (fa_cons (fe_neg (fe_int)) (fa_nil)))))))) (fa_nil)))) (fa_nil)))))) (fa_nil)))))
    (fs_cons (fs_if (ft_cmp (op_eqT hr.units) ot_eq (fe_callM (i := 1) k__law_taken hr (by rfl) passL rfl (fa_cons (fe_int) (fa_nil))) (fe_int)) (fs_one (fs_set SC.nd rfl (Or.inl rfl) (fx_t (fe_callTy call_tuple_of ct_tuple (by rfl) b_tuple bt_tuple (fa_cons (fe_new (fo_lc (own := [("_law_prime", 12)]) rfl SC.nd (fi_seq (fe_varA (i := 3))) (blkOk_by (by kernel_rfl)) (fun _ _ _ _ _ => fg_name SC.nd rfl (Or.inl rfl)) (by decide) (fun _ _ _ _ _ => fts_nil) (fun _ _ _ _ _ => fe_callM (i := 1) k__law_taken hr (by rfl) passL rfl (fa_cons (fe_int) (fa_nil))))) (fa_nil)))))) (fs_nil))
    (fs_cons (fs_set SC.nd rfl (Or.inl rfl) (fx_o (fo_lst (fa_nil))))
    (fs_cons (fs_for (passes_of rfl) rfl (fi_range1 (by rfl) b_range (fa_cons (fe_lenA (i := 3) (by rfl) b_len bt_len) (fa_nil))) (fg_name SC.nd rfl (Or.inl rfl)) (fs_one (fs_for (passes_of rfl) rfl (fi_range1 (by rfl) b_range (fa_cons (fe_lenA (i := 3) (by rfl) b_len bt_len) (fa_nil))) (fg_name SC.nd rfl (Or.inl rfl)) (fs_cons (fs_par rfl SC.nd (i := 10) (j := 11) rfl rfl (by decide) rfl rfl (fxs_cons (fx_t (fe_bin op_sub ot_sub (fe_bin op_mulT ot_mul (fe_int) (fe_ixA (i := 5) rfl (fe_varA (i := 7)))) (fe_int))) (fxs_cons (fx_t (fe_bin op_addT ot_add (fe_bin op_mulT ot_mul (fe_int) (fe_ixA (i := 5) rfl (fe_varA (i := 8)))) (fe_int))) (fxs_nil))) rfl)
    (fs_one (fs_if (ft_w (fw_and (ft_cmp (op_neT hr.units) ot_ne (fe_varA (i := 7)) (fe_varA (i := 8))) (fw_and (ft_cmp op_gt ot_gt (fe_varA (i := 10)) (fe_int)) (fw_and1 (ft_cmp op_gt ot_gt (fe_call k__law_power hr (by rfl) (passes_call (takes_of rfl rfl rfl rfl) fun _ _ _ _ h => h) (fa_cons (fe_ixA (i := 3) rfl (fe_varA (i := 8))) (fa_cons (fe_varA (i := 10)) (fa_nil)))) (fe_call k__law_power hr (by rfl) (passes_call (takes_of rfl rfl rfl rfl) fun _ _ _ _ h => h) (fa_cons (fe_ixA (i := 3) rfl (fe_varA (i := 7))) (fa_cons (fe_varA (i := 11)) (fa_nil))))))))) (fs_one (fs_expr (fe_append (i := 6) rfl (fe_tup (fa_cons (fe_varA (i := 7)) (fa_cons (fe_varA (i := 8)) (fa_nil))))))) (fs_nil)))))))
    (fs_cons (fs_if (ft_not (ft_val (fe_call k__law_alike hr (by rfl) (passes_call (takes_of rfl rfl rfl rfl) fun _ _ _ _ h => h) (fa_cons (fe_call k_map_clash hr (by rfl) (passes_call (takes_of rfl rfl rfl rfl) fun _ _ _ _ h => h) (fa_cons (fe_varA (i := 3)) (fa_cons (fe_varA (i := 5)) (fa_nil)))) (fa_cons (fe_if (ft_cmp (op_neT hr.units) ot_ne (fe_varA (i := 6)) (fe_new (fo_lst (fa_nil)))) (fe_ixA (i := 6) rfl (fe_int)) (fe_non)) (fa_nil)))))) (fs_one (fs_ret (fe_bl))) (fs_nil))
    (fs_one (fs_if (ft_not (ft_val (fe_call k__law_alike hr (by rfl) (passes_call (takes_of rfl rfl rfl rfl) fun _ _ _ _ h => h) (fa_cons (fe_call k_is_uniform hr (by rfl) (passes_call (takes_of rfl rfl rfl rfl) fun _ _ _ _ h => h) (fa_cons (fe_varA (i := 3)) (fa_cons (fe_varA (i := 5)) (fa_nil)))) (fa_cons (fe_cmp (op_eqT hr.units) ot_eq (fe_varA (i := 6)) (fe_new (fo_lst (fa_nil)))) (fa_nil)))))) (fs_one (fs_ret (fe_bl))) (fs_nil)))))))))))
    (fs_one (fs_ret (fe_bl))))
end Law

namespace Law
open PySem PySem.Spec L2 FL TW
theorem all_mk {l : PySem.W.OpenLaw} {w : World} {K : PySem.W.Frag} {h : Heap} {mg : Str → Option Value} {fa : Addr} (X : K.In h) (G : h.Ns mainGlobals mg) (hfa : mg "law" = some (.ref fa))
    (z_all : PySem.W.nsIn K mainGlobals "all" = some none)
    (z_any : PySem.W.nsIn K mainGlobals "any" = some none)
    (z_bool : PySem.W.nsIn K mainGlobals "bool" = some none)
    (z_enumerate : PySem.W.nsIn K mainGlobals "enumerate" = some none)
    (z_int : PySem.W.nsIn K mainGlobals "int" = some none)
    (z_isinstance : PySem.W.nsIn K mainGlobals "isinstance" = some none)
    (z_len : PySem.W.nsIn K mainGlobals "len" = some none)
    (z_list : PySem.W.nsIn K mainGlobals "list" = some none)
    (z_max : PySem.W.nsIn K mainGlobals "max" = some none)
    (z_range : PySem.W.nsIn K mainGlobals "range" = some none)
    (z_str : PySem.W.nsIn K mainGlobals "str" = some none)
    (z_tuple : PySem.W.nsIn K mainGlobals "tuple" = some none)
    {t_MOST_PRIME : Tok} (z_MOST_PRIME : PySem.W.nsIn K mainGlobals "MOST_PRIME" = some (some (.int (43) t_MOST_PRIME)))
    {t_MOST_PRIMES : Tok} (z_MOST_PRIMES : PySem.W.nsIn K mainGlobals "MOST_PRIMES" = some (some (.int (6) t_MOST_PRIMES)))
    {t_MOST_STEPS : Tok} (z_MOST_STEPS : PySem.W.nsIn K mainGlobals "MOST_STEPS" = some (some (.int (300) t_MOST_STEPS)))
    {f0 : Addr} {od0 an0 : Option Addr} {sl0 : Array (Option Value)} {oc0 kV0 dc0 pm0 cd0 ct0 : Value}
    (a0 : PySem.W.nsIn K mainGlobals "is_int" = some (some (.ref f0))) (l0 : K.lookup f0 = some ⟨oc0, od0, .func (PySem.W.fnOf "is_int" "is_int" (defArgs (topS 8)) (defBody (topS 8)) (defScope (topS 8)) .none kV0 dc0 pm0 an0 cd0 ct0), sl0⟩) (c0 : PySem.W.codeIn K cd0 "is_int" = true) (k0 : PySem.W.keepIn K (.ref f0) = true)
    {f1 : Addr} {od1 an1 : Option Addr} {sl1 : Array (Option Value)} {oc1 kV1 dc1 pm1 cd1 ct1 : Value}
    (a1 : PySem.W.nsIn K mainGlobals "power" = some (some (.ref f1))) (l1 : K.lookup f1 = some ⟨oc1, od1, .func (PySem.W.fnOf "power" "power" (defArgs (topS 10)) (defBody (topS 10)) (defScope (topS 10)) .none kV1 dc1 pm1 an1 cd1 ct1), sl1⟩) (c1 : PySem.W.codeIn K cd1 "power" = true) (k1 : PySem.W.keepIn K (.ref f1) = true)
    {f2 : Addr} {od2 an2 : Option Addr} {sl2 : Array (Option Value)} {oc2 kV2 dc2 pm2 cd2 ct2 : Value}
    (a2 : PySem.W.nsIn K mainGlobals "is_prime" = some (some (.ref f2))) (l2 : K.lookup f2 = some ⟨oc2, od2, .func (PySem.W.fnOf "is_prime" "is_prime" (defArgs (topS 11)) (defBody (topS 11)) (defScope (topS 11)) .none kV2 dc2 pm2 an2 cd2 ct2), sl2⟩) (c2 : PySem.W.codeIn K cd2 "is_prime" = true) (k2 : PySem.W.keepIn K (.ref f2) = true)
    {f3 : Addr} {od3 an3 : Option Addr} {sl3 : Array (Option Value)} {oc3 kV3 dc3 pm3 cd3 ct3 : Value}
    (a3 : PySem.W.nsIn K mainGlobals "_law_taken" = some (some (.ref f3))) (l3 : K.lookup f3 = some ⟨oc3, od3, .func (PySem.W.fnOf "_law_taken" "_law_taken" (defArgs (topS 23)) (defBody (topS 23)) (defScope (topS 23)) .none kV3 dc3 pm3 an3 cd3 ct3), sl3⟩) (c3 : PySem.W.codeIn K cd3 "_law_taken" = true) (k3 : PySem.W.keepIn K (.ref f3) = true)
    {f4 : Addr} {od4 an4 : Option Addr} {sl4 : Array (Option Value)} {oc4 kV4 dc4 pm4 cd4 ct4 : Value}
    (a4 : PySem.W.nsIn K mainGlobals "_law_power" = some (some (.ref f4))) (l4 : K.lookup f4 = some ⟨oc4, od4, .func (PySem.W.fnOf "_law_power" "_law_power" (defArgs (topS 27)) (defBody (topS 27)) (defScope (topS 27)) .none kV4 dc4 pm4 an4 cd4 ct4), sl4⟩) (c4 : PySem.W.codeIn K cd4 "_law_power" = true) (k4 : PySem.W.keepIn K (.ref f4) = true)
    {f5 : Addr} {od5 an5 : Option Addr} {sl5 : Array (Option Value)} {oc5 kV5 dc5 pm5 cd5 ct5 : Value}
    (a5 : PySem.W.nsIn K mainGlobals "is_in" = some (some (.ref f5))) (l5 : K.lookup f5 = some ⟨oc5, od5, .func (PySem.W.fnOf "is_in" "is_in" (defArgs (topS 9)) (defBody (topS 9)) (defScope (topS 9)) .none kV5 dc5 pm5 an5 cd5 ct5), sl5⟩) (c5 : PySem.W.codeIn K cd5 "is_in" = true) (k5 : PySem.W.keepIn K (.ref f5) = true)
    {f6 : Addr} {od6 an6 : Option Addr} {sl6 : Array (Option Value)} {oc6 kV6 dc6 pm6 cd6 ct6 : Value}
    (a6 : PySem.W.nsIn K mainGlobals "is_above" = some (some (.ref f6))) (l6 : K.lookup f6 = some ⟨oc6, od6, .func (PySem.W.fnOf "is_above" "is_above" (defArgs (topS 15)) (defBody (topS 15)) (defScope (topS 15)) .none kV6 dc6 pm6 an6 cd6 ct6), sl6⟩) (c6 : PySem.W.codeIn K cd6 "is_above" = true) (k6 : PySem.W.keepIn K (.ref f6) = true)
    {f7 : Addr} {od7 an7 : Option Addr} {sl7 : Array (Option Value)} {oc7 kV7 dc7 pm7 cd7 ct7 : Value}
    (a7 : PySem.W.nsIn K mainGlobals "nearest_entry" = some (some (.ref f7))) (l7 : K.lookup f7 = some ⟨oc7, od7, .func (PySem.W.fnOf "nearest_entry" "nearest_entry" (defArgs (topS 16)) (defBody (topS 16)) (defScope (topS 16)) .none kV7 dc7 pm7 an7 cd7 ct7), sl7⟩) (c7 : PySem.W.codeIn K cd7 "nearest_entry" = true) (k7 : PySem.W.keepIn K (.ref f7) = true)
    {f8 : Addr} {od8 an8 : Option Addr} {sl8 : Array (Option Value)} {oc8 kV8 dc8 pm8 cd8 ct8 : Value}
    (a8 : PySem.W.nsIn K mainGlobals "_law_pick" = some (some (.ref f8))) (l8 : K.lookup f8 = some ⟨oc8, od8, .func (PySem.W.fnOf "_law_pick" "_law_pick" (defArgs (topS 24)) (defBody (topS 24)) (defScope (topS 24)) .none kV8 dc8 pm8 an8 cd8 ct8), sl8⟩) (c8 : PySem.W.codeIn K cd8 "_law_pick" = true) (k8 : PySem.W.keepIn K (.ref f8) = true)
    {f9 : Addr} {od9 an9 : Option Addr} {sl9 : Array (Option Value)} {oc9 kV9 dc9 pm9 cd9 ct9 : Value}
    (a9 : PySem.W.nsIn K mainGlobals "need_limit" = some (some (.ref f9))) (l9 : K.lookup f9 = some ⟨oc9, od9, .func (PySem.W.fnOf "need_limit" "need_limit" (defArgs (topS 12)) (defBody (topS 12)) (defScope (topS 12)) .none kV9 dc9 pm9 an9 cd9 ct9), sl9⟩) (c9 : PySem.W.codeIn K cd9 "need_limit" = true) (k9 : PySem.W.keepIn K (.ref f9) = true)
    {f10 : Addr} {od10 an10 : Option Addr} {sl10 : Array (Option Value)} {oc10 kV10 dc10 pm10 cd10 ct10 : Value}
    (a10 : PySem.W.nsIn K mainGlobals "need_map" = some (some (.ref f10))) (l10 : K.lookup f10 = some ⟨oc10, od10, .func (PySem.W.fnOf "need_map" "need_map" (defArgs (topS 18)) (defBody (topS 18)) (defScope (topS 18)) .none kV10 dc10 pm10 an10 cd10 ct10), sl10⟩) (c10 : PySem.W.codeIn K cd10 "need_map" = true) (k10 : PySem.W.keepIn K (.ref f10) = true)
    {f11 : Addr} {od11 an11 : Option Addr} {sl11 : Array (Option Value)} {oc11 kV11 dc11 pm11 cd11 ct11 : Value}
    (a11 : PySem.W.nsIn K mainGlobals "clash_of" = some (some (.ref f11))) (l11 : K.lookup f11 = some ⟨oc11, od11, .func (PySem.W.fnOf "clash_of" "clash_of" (defArgs (topS 19)) (defBody (topS 19)) (defScope (topS 19)) .none kV11 dc11 pm11 an11 cd11 ct11), sl11⟩) (c11 : PySem.W.codeIn K cd11 "clash_of" = true) (k11 : PySem.W.keepIn K (.ref f11) = true)
    {f12 : Addr} {od12 an12 : Option Addr} {sl12 : Array (Option Value)} {oc12 kV12 dc12 pm12 cd12 ct12 : Value}
    (a12 : PySem.W.nsIn K mainGlobals "_law_limit" = some (some (.ref f12))) (l12 : K.lookup f12 = some ⟨oc12, od12, .func (PySem.W.fnOf "_law_limit" "_law_limit" (defArgs (topS 26)) (defBody (topS 26)) (defScope (topS 26)) .none kV12 dc12 pm12 an12 cd12 ct12), sl12⟩) (c12 : PySem.W.codeIn K cd12 "_law_limit" = true) (k12 : PySem.W.keepIn K (.ref f12) = true)
    {f13 : Addr} {od13 an13 : Option Addr} {sl13 : Array (Option Value)} {oc13 kV13 dc13 pm13 cd13 ct13 : Value}
    (a13 : PySem.W.nsIn K mainGlobals "nearest_map" = some (some (.ref f13))) (l13 : K.lookup f13 = some ⟨oc13, od13, .func (PySem.W.fnOf "nearest_map" "nearest_map" (defArgs (topS 17)) (defBody (topS 17)) (defScope (topS 17)) .none kV13 dc13 pm13 an13 cd13 ct13), sl13⟩) (c13 : PySem.W.codeIn K cd13 "nearest_map" = true) (k13 : PySem.W.keepIn K (.ref f13) = true)
    {f14 : Addr} {od14 an14 : Option Addr} {sl14 : Array (Option Value)} {oc14 kV14 dc14 pm14 cd14 ct14 : Value}
    (a14 : PySem.W.nsIn K mainGlobals "map_clash" = some (some (.ref f14))) (l14 : K.lookup f14 = some ⟨oc14, od14, .func (PySem.W.fnOf "map_clash" "map_clash" (defArgs (topS 20)) (defBody (topS 20)) (defScope (topS 20)) .none kV14 dc14 pm14 an14 cd14 ct14), sl14⟩) (c14 : PySem.W.codeIn K cd14 "map_clash" = true) (k14 : PySem.W.keepIn K (.ref f14) = true)
    {f15 : Addr} {od15 an15 : Option Addr} {sl15 : Array (Option Value)} {oc15 kV15 dc15 pm15 cd15 ct15 : Value}
    (a15 : PySem.W.nsIn K mainGlobals "is_uniform" = some (some (.ref f15))) (l15 : K.lookup f15 = some ⟨oc15, od15, .func (PySem.W.fnOf "is_uniform" "is_uniform" (defArgs (topS 21)) (defBody (topS 21)) (defScope (topS 21)) .none kV15 dc15 pm15 an15 cd15 ct15), sl15⟩) (c15 : PySem.W.codeIn K cd15 "is_uniform" = true) (k15 : PySem.W.keepIn K (.ref f15) = true)
    {f16 : Addr} {od16 an16 : Option Addr} {sl16 : Array (Option Value)} {oc16 kV16 dc16 pm16 cd16 ct16 : Value}
    (a16 : PySem.W.nsIn K mainGlobals "_law_alike" = some (some (.ref f16))) (l16 : K.lookup f16 = some ⟨oc16, od16, .func (PySem.W.fnOf "_law_alike" "_law_alike" (defArgs (topS 25)) (defBody (topS 25)) (defScope (topS 25)) .none kV16 dc16 pm16 an16 cd16 ct16), sl16⟩) (c16 : PySem.W.codeIn K cd16 "_law_alike" = true) (k16 : PySem.W.keepIn K (.ref f16) = true)
    {f17 : Addr} {od17 an17 : Option Addr} {sl17 : Array (Option Value)} {oc17 kV17 dc17 pm17 cd17 ct17 : Value}
    (a17 : PySem.W.nsIn K mainGlobals "law" = some (some (.ref f17))) (l17 : K.lookup f17 = some ⟨oc17, od17, .func (PySem.W.fnOf "law" "law" (defArgs (topS 28)) (defBody (topS 28)) (defScope (topS 28)) .none kV17 dc17 pm17 an17 cd17 ct17), sl17⟩) (c17 : PySem.W.codeIn K cd17 "law" = true) (k17 : PySem.W.keepIn K (.ref f17) = true)
    : ∃ fd : FuncData, (∀ (s : Shared) (v : Value), BindsTo s fd ⟨[v], []⟩ [("_law_script", v)]) ∧ ∀ base : Heap, K.In base → base.Ns mainGlobals mg → FnOk l.prog w K mg base (L2.CX l.prog w) 10 fa fd ["_law_script"] (spLaw K) := by
  have T : Top K mg := ⟨PySem.W.mg_none_of X G z_all, PySem.W.mg_none_of X G z_any, PySem.W.mg_none_of X G z_bool, PySem.W.mg_none_of X G z_enumerate, PySem.W.mg_none_of X G z_int, PySem.W.mg_none_of X G z_isinstance, PySem.W.mg_none_of X G z_len, PySem.W.mg_none_of X G z_list, PySem.W.mg_none_of X G z_max, PySem.W.mg_none_of X G z_range, PySem.W.mg_none_of X G z_str, PySem.W.mg_none_of X G z_tuple, ⟨t_MOST_PRIME, PySem.W.mg_of X G z_MOST_PRIME⟩, ⟨t_MOST_PRIMES, PySem.W.mg_of X G z_MOST_PRIMES⟩, ⟨t_MOST_STEPS, PySem.W.mg_of X G z_MOST_STEPS⟩, ⟨f0, _, fun_mk (st := topS 8) l0 c0 k0, PySem.W.mg_of X G a0⟩, ⟨f1, _, fun_mk (st := topS 10) l1 c1 k1, PySem.W.mg_of X G a1⟩, ⟨f2, _, fun_mk (st := topS 11) l2 c2 k2, PySem.W.mg_of X G a2⟩, ⟨f3, _, fun_mk (st := topS 23) l3 c3 k3, PySem.W.mg_of X G a3⟩, ⟨f4, _, fun_mk (st := topS 27) l4 c4 k4, PySem.W.mg_of X G a4⟩, ⟨f5, _, fun_mk (st := topS 9) l5 c5 k5, PySem.W.mg_of X G a5⟩, ⟨f6, _, fun_mk (st := topS 15) l6 c6 k6, PySem.W.mg_of X G a6⟩, ⟨f7, _, fun_mk (st := topS 16) l7 c7 k7, PySem.W.mg_of X G a7⟩, ⟨f8, _, fun_mk (st := topS 24) l8 c8 k8, PySem.W.mg_of X G a8⟩, ⟨f9, _, fun_mk (st := topS 12) l9 c9 k9, PySem.W.mg_of X G a9⟩, ⟨f10, _, fun_mk (st := topS 18) l10 c10 k10, PySem.W.mg_of X G a10⟩, ⟨f11, _, fun_mk (st := topS 19) l11 c11 k11, PySem.W.mg_of X G a11⟩, ⟨f12, _, fun_mk (st := topS 26) l12 c12 k12, PySem.W.mg_of X G a12⟩, ⟨f13, _, fun_mk (st := topS 17) l13 c13 k13, PySem.W.mg_of X G a13⟩, ⟨f14, _, fun_mk (st := topS 20) l14 c14 k14, PySem.W.mg_of X G a14⟩, ⟨f15, _, fun_mk (st := topS 21) l15 c15 k15, PySem.W.mg_of X G a15⟩, ⟨f16, _, fun_mk (st := topS 25) l16 c16 k16, PySem.W.mg_of X G a16⟩, ⟨f17, _, fun_mk (st := topS 28) l17 c17 k17, PySem.W.mg_of X G a17⟩⟩
  have e := hfa.symm.trans (PySem.W.mg_of X G a17)
  cases e
  exact ⟨PySem.W.fnOf "law" "law" (defArgs (topS 28)) (defBody (topS 28)) (defScope (topS 28)) .none kV17 dc17 pm17 an17 cd17 ct17, fun s v => .of_eq rfl, fun base _ _ => law_imp (k_law_at T (fun_mk (st := topS 28) l17 c17 k17)) law_true⟩
end Law
open PySem PySem.W PyProof.Rows
set_option maxHeartbeats 0 in
theorem PySem.Challenge.cw_temperworks_k27_whole_uniform_maps_judge_holds : PySem.Challenge.rw_temperworks_k27_whole_uniform_maps_judge.Holds := by
  w_on; o_law; k_head; (case hw => w_witness2)
  k_fill
  refine L2.walk_of (l := PySem.Challenge.rw_temperworks_k27_whole_uniform_maps_judge) (n := 63) (k := 10) (x := "_law_script") (CX := fun w => L2.CX (PySem.W.OpenLaw.prog PySem.Challenge.rw_temperworks_k27_whole_uniform_maps_judge) w) (sp := fun w => FL.spLaw _) rfl (by decide) rfl ⟨rfl, by decide, by decide⟩ (fun w h Y => PySem.W.kIn_of Y) ?F (fun _ _ a ns hl _ hS => ⟨a, ns, rfl, hS, hl, fun _ => rfl⟩) (fun _ _ _ _ _ h => FL.noE0 h)
  case F =>
    intro w mg fa h KX G hmg
    refine' Law.all_mk KX G hmg ?z_all ?z_any ?z_bool ?z_enumerate ?z_int ?z_isinstance ?z_len ?z_list ?z_max ?z_range ?z_str ?z_tuple ?z_MOST_PRIME ?z_MOST_PRIMES ?z_MOST_STEPS ?a0 ?l0 ?c0 ?k0 ?a1 ?l1 ?c1 ?k1 ?a2 ?l2 ?c2 ?k2 ?a3 ?l3 ?c3 ?k3 ?a4 ?l4 ?c4 ?k4 ?a5 ?l5 ?c5 ?k5 ?a6 ?l6 ?c6 ?k6 ?a7 ?l7 ?c7 ?k7 ?a8 ?l8 ?c8 ?k8 ?a9 ?l9 ?c9 ?k9 ?a10 ?l10 ?c10 ?k10 ?a11 ?l11 ?c11 ?k11 ?a12 ?l12 ?c12 ?k12 ?a13 ?l13 ?c13 ?k13 ?a14 ?l14 ?c14 ?k14 ?a15 ?l15 ?c15 ?k15 ?a16 ?l16 ?c16 ?k16 ?a17 ?l17 ?c17 ?k17
    (case z_all => k_is); (case z_any => k_is); (case z_bool => k_is); (case z_enumerate => k_is); (case z_int => k_is); (case z_isinstance => k_is); (case z_len => k_is); (case z_list => k_is); (case z_max => k_is); (case z_range => k_is); (case z_str => k_is); (case z_tuple => k_is); (case z_MOST_PRIME => k_is); (case z_MOST_PRIMES => k_is); (case z_MOST_STEPS => k_is); (case a0 => k_is); (case l0 => k_is); (case c0 => k_is); (case k0 => k_is); (case a1 => k_is); (case l1 => k_is); (case c1 => k_is); (case k1 => k_is); (case a2 => k_is); (case l2 => k_is); (case c2 => k_is); (case k2 => k_is); (case a3 => k_is); (case l3 => k_is); (case c3 => k_is); (case k3 => k_is); (case a4 => k_is); (case l4 => k_is); (case c4 => k_is); (case k4 => k_is); (case a5 => k_is); (case l5 => k_is); (case c5 => k_is); (case k5 => k_is); (case a6 => k_is); (case l6 => k_is); (case c6 => k_is); (case k6 => k_is); (case a7 => k_is); (case l7 => k_is); (case c7 => k_is); (case k7 => k_is); (case a8 => k_is); (case l8 => k_is); (case c8 => k_is); (case k8 => k_is); (case a9 => k_is); (case l9 => k_is); (case c9 => k_is); (case k9 => k_is); (case a10 => k_is); (case l10 => k_is); (case c10 => k_is); (case k10 => k_is); (case a11 => k_is); (case l11 => k_is); (case c11 => k_is); (case k11 => k_is); (case a12 => k_is); (case l12 => k_is); (case c12 => k_is); (case k12 => k_is); (case a13 => k_is); (case l13 => k_is); (case c13 => k_is); (case k13 => k_is); (case a14 => k_is); (case l14 => k_is); (case c14 => k_is); (case k14 => k_is); (case a15 => k_is); (case l15 => k_is); (case c15 => k_is); (case k15 => k_is); (case a16 => k_is); (case l16 => k_is); (case c16 => k_is); (case k16 => k_is); (case a17 => k_is); (case l17 => k_is); (case c17 => k_is); (case k17 => k_is)

