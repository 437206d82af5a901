import PyProof.Rows.All
import Wide.All
import OpenK.AllK
import Wide.FinOn
import PyProof.EqAt
import PyProof.EqKinds
import PyProof.TupleCall
import HandS.Base
import HandS.Call
import HandS.List
import HandS.Comp
import HandS.Ends
import HandS.Words
import HandS.WordsList
import HandS.Exc
import HandS.Lambda
import HandS.TupAny
import HandS.TupMul
import HandS.Deep
import HandS.IsInst
import HandS.Wide
import HandS.Style
import KE.SortData
import HandS.Iter
import HandS.Walk
import HandS.WordsExc
import HandS.More
import HandS.Text
import KE.GoesEnum
import KE.GoesZip
import HandS.Steps
import PyProof.StrOps2
import PyProof.Rows.RuleB_bool
import HandS.ExcOwn
import HandS.Small
import HandS.ExcInit
import HandS.TryMany
import HandS.ExcField
import KE.KExcIs
import HandS.ExcIs
import KE.KDflt
import HandS.EndOwn
import HandS.Dict
import HandS.Replace
import HandS.Zip
import HandS.SetFor
import HandS.Conv
import HandS.WordsDict
import HandS.TupLen
import KE.KDictSum
import HandS.DictComp
import HandS.Star
import KE.DataMinMax
import KE.GoesMore
import KE.KDictZip
import KE.KStar
import KE.DataAny
import PyProof.Transfer
import HandS.SetKeys
import KE.KDictKeyed
import HandS.Rev
import KE.KTupSum
import HandS.TupSets
import HandS.Strs
import HandS.ListItems
import KE.DataCmp
import HandS.DictTup
import KE.KDictWalk
import PySem.Challenge.RW_temperworks_k79_known_sets
set_option Elab.async false
set_option linter.all false
set_option maxRecDepth 100000
/-! FL1: trees in place of the heap: what a def computes as a function upon trees. -/
namespace FL
open PySem PySem.Spec PyProof.Rows L2

/-- a value as a tree; sl: a list that is only read; fn: a def or class of the module, by its name -/
inductive T where
  | non | bl (b : Bool) | int (i : Int) | str (x : Str)
  | lst (xs : List T) | tup (xs : List T) | sl (xs : List T) | fn (x : Str)
  | dk (ks : List Key) (vs : List T) | dt (ks : List (List Key)) (vs : List T)
/-- an object that is being changed -/
inductive O where
  | l (xs : List T)
  | dk (ks : List Key) (vs : List T)
  | dt (ks : List (List Key)) (vs : List T)
/-- a slot: unknown, a tree that stays, an object of one's own, the object that the caller lent -/
inductive SV where
  | un | fz (t : T) | ow (o : O) | pa (o : O) | raw (n : Nat)
def SV.owned : SV → Bool
  | .ow _ => true
  | .pa _ => true
  | _ => false
abbrev Env := List SV
/-- an exception: its class's name, its field -/
inductive Ex where
  | mk (cls : Str) (arg : Option (Str × T))
inductive Res (α : Type) where
  | bad | exc (e : Ex) | ok (a : α) (ρ : Env)
def Res.bind {α β : Type} (r : Res α) (k : α → Env → Res β) : Res β := match r with
  | .bad => .bad
  | .exc e => .exc e
  | .ok a ρ => k a ρ
abbrev M (α : Type) := Env → Res α
def Den {α : Type} (r : Res α) (p : α → Env → Prop) (x : Ex → Prop) : Prop := match r with
  | .bad => False
  | .exc e => x e
  | .ok a ρ => p a ρ
theorem Den.bind {α β : Type} {r : Res α} {k : α → Env → Res β} {p : β → Env → Prop} {x : Ex → Prop} (h : Den (r.bind k) p x) : Den r (fun a ρ => Den (k a ρ) p x) x := by
  cases r with
  | bad => exact h
  | exc e => exact h
  | ok a ρ => exact h
theorem Den.imp {α : Type} {r : Res α} {p q : α → Env → Prop} {x : Ex → Prop} (h : Den r p x) (hi : ∀ a ρ, p a ρ → q a ρ) : Den r q x := by
  cases r with
  | bad => exact h
  | exc e => exact h
  | ok a ρ => exact hi a ρ h

/-! ### trees and heaps -/
section
variable (K : PySem.W.Frag) (mg : Str → Option Value)
mutual
def Rep (F : Hp) : T → V → Prop
  | .non, v => v = .non
  | .bl b, v => v = .bl b
  | .int i, v => v = .int i
  | .str x, v => v = .str x
  | .lst ts, v => ∃ a vs, v = .ref a ∧ F a = some (.lst vs) ∧ Reps F ts vs
  | .sl ts, v => ∃ a vs, v = .ref a ∧ SqL K F a vs ∧ Reps F ts vs
  | .tup ts, v => ∃ a vs, v = .ref a ∧ F a = some (.tup vs) ∧ Reps F ts vs
  | .fn x, v => ∃ a, v = .ref a ∧ mg x = some (.ref a)
  | .dk ks ts, v => ∃ a kvs, v = .ref a ∧ F a = some (.dK kvs) ∧ kvs.map (·.1) = ks ∧ Reps F ts (kvs.map (·.2))
  | .dt ks ts, v => ∃ a kvs, v = .ref a ∧ F a = some (.dT kvs) ∧ kvs.map (·.1) = ks ∧ Reps F ts (kvs.map (·.2))
def Reps (F : Hp) : List T → List V → Prop
  | [], vs => vs = []
  | t :: ts, vs => ∃ v r, vs = v :: r ∧ Rep F t v ∧ Reps F ts r
end
def ORep (F : Hp) : O → HO → Prop
  | .l ts, h => ∃ vs, h = .lst vs ∧ Reps K mg F ts vs
  | .dk ks ts, h => ∃ kvs, h = .dK kvs ∧ kvs.map (·.1) = ks ∧ Reps K mg F ts (kvs.map (·.2))
  | .dt ks ts, h => ∃ kvs, h = .dT kvs ∧ kvs.map (·.1) = ks ∧ Reps K mg F ts (kvs.map (·.2))
end
theorem same_SqL {K : PySem.W.Frag} {H H' : Hp} {a : Addr} {xs : List V} (e : Same H H') (h : SqL K H a xs) : SqL K H' a xs := e.seq h
theorem same_Rd {H H' : Hp} {a : Addr} {u : HO} (e : Same H H') (h : Rd H a u) : Rd H' a u := by
  rcases h with h | ⟨o, h⟩
  · exact .inl (e _ _ h)
  · exact .inr ⟨o, e _ _ h⟩
theorem same_SqT0 {K : PySem.W.Frag} {H H' : Hp} {a : Addr} {xs : List V} (e : Same H H') (h : SqT K H a xs) : SqT K H' a xs := by
  rcases h with h | h
  · exact .inl (same_Rd e h)
  · exact .inr h
theorem same_SqT {K : PySem.W.Frag} {H H' : Hp} {a : Addr} {xs : List V} (e : Same H H') (h : H a = some (.tup xs)) : SqT K H' a xs := SqT.of (e _ _ h)
section
variable {K : PySem.W.Frag} {mg : Str → Option Value}
mutual
theorem Rep.mono {F F' : Hp} (e : Same F F') : ∀ (t : T) (v : V), Rep K mg F t v → Rep K mg F' t v
  | .non, _, h => h
  | .bl _, _, h => h
  | .int _, _, h => h
  | .str _, _, h => h
  | .lst ts, _, h => by
    obtain ⟨a, vs, h1, h2, h3⟩ := h
    exact ⟨a, vs, h1, e _ _ h2, Reps.mono e ts vs h3⟩
  | .sl ts, _, h => by
    obtain ⟨a, vs, h1, h2, h3⟩ := h
    exact ⟨a, vs, h1, same_SqL e h2, Reps.mono e ts vs h3⟩
  | .tup ts, _, h => by
    obtain ⟨a, vs, h1, h2, h3⟩ := h
    exact ⟨a, vs, h1, e _ _ h2, Reps.mono e ts vs h3⟩
  | .fn _, _, h => h
  | .dk ks ts, _, h => by
    obtain ⟨a, kvs, h1, h2, h3, h4⟩ := h
    exact ⟨a, kvs, h1, e _ _ h2, h3, Reps.mono e ts _ h4⟩
  | .dt ks ts, _, h => by
    obtain ⟨a, kvs, h1, h2, h3, h4⟩ := h
    exact ⟨a, kvs, h1, e _ _ h2, h3, Reps.mono e ts _ h4⟩
theorem Reps.mono {F F' : Hp} (e : Same F F') : ∀ (ts : List T) (vs : List V), Reps K mg F ts vs → Reps K mg F' ts vs
  | [], _, h => h
  | t :: ts, _, h => by
    obtain ⟨v, r, h1, h2, h3⟩ := h
    exact ⟨v, r, h1, Rep.mono e t v h2, Reps.mono e ts r h3⟩
end
theorem ORep.mono {F F' : Hp} (e : Same F F') {o : O} {h : HO} (r : ORep K mg F o h) : ORep K mg F' o h := by
  cases o with
  | l ts => obtain ⟨vs, h1, h2⟩ := r; exact ⟨vs, h1, h2.mono e⟩
  | dk ks ts => obtain ⟨kvs, h1, h2, h3⟩ := r; exact ⟨kvs, h1, h2, h3.mono e⟩
  | dt ks ts => obtain ⟨kvs, h1, h2, h3⟩ := r; exact ⟨kvs, h1, h2, h3.mono e⟩
theorem Reps.length {F : Hp} : ∀ {ts : List T} {vs : List V}, Reps K mg F ts vs → ts.length = vs.length
  | [], _, h => by
    have e : _ = _ := h
    subst e; rfl
  | t :: ts, _, h => by
    obtain ⟨v, r, rfl, _, h3⟩ := h
    have := Reps.length h3
    simp [this]
theorem Reps.get {F : Hp} : ∀ {ts : List T} {vs : List V} {i : Nat} {t : T}, Reps K mg F ts vs → ts[i]? = some t → ∃ v, vs[i]? = some v ∧ Rep K mg F t v
  | [], _, _, _, _, e => by simp at e
  | t :: ts, _, 0, u, h, e => by
    obtain ⟨v, r, rfl, h2, h3⟩ := h
    simp at e; subst e
    exact ⟨v, rfl, h2⟩
  | t :: ts, _, i + 1, u, h, e => by
    obtain ⟨v, r, rfl, h2, h3⟩ := h
    obtain ⟨w, h4, h5⟩ := Reps.get (i := i) (t := u) h3 (by simpa using e)
    exact ⟨w, by simpa using h4, h5⟩
theorem Reps.nil {F : Hp} : Reps K mg F [] [] := rfl
theorem Reps.cons {F : Hp} {t : T} {ts : List T} {v : V} {vs : List V} (h : Rep K mg F t v) (r : Reps K mg F ts vs) : Reps K mg F (t :: ts) (v :: vs) := ⟨v, vs, rfl, h, r⟩
theorem Reps.append {F : Hp} : ∀ {ts us : List T} {vs ws : List V}, Reps K mg F ts vs → Reps K mg F us ws → Reps K mg F (ts ++ us) (vs ++ ws)
  | [], _, _, _, h, q => by
    have e : _ = _ := h
    subst e; exact q
  | t :: ts, _, _, _, h, q => by
    obtain ⟨v, r, rfl, h2, h3⟩ := h
    exact ⟨v, r ++ _, rfl, h2, h3.append q⟩
theorem Reps.one {F : Hp} {t : T} {v : V} (h : Rep K mg F t v) : Reps K mg F [t] [v] := .cons h .nil
theorem Reps.take {F : Hp} : ∀ {ts : List T} {vs : List V} (n : Nat), Reps K mg F ts vs → Reps K mg F (ts.take n) (vs.take n)
  | _, _, 0, _ => by simp [Reps]
  | [], _, n + 1, h => by
    have e : _ = _ := h
    subst e; exact .nil
  | t :: ts, _, n + 1, h => by
    obtain ⟨v, r, rfl, h2, h3⟩ := h
    exact ⟨v, r.take n, rfl, h2, h3.take n⟩
theorem Reps.drop {F : Hp} : ∀ {ts : List T} {vs : List V} (n : Nat), Reps K mg F ts vs → Reps K mg F (ts.drop n) (vs.drop n)
  | _, _, 0, h => h
  | [], _, n + 1, h => by
    have e : _ = _ := h
    subst e; exact .nil
  | t :: ts, _, n + 1, h => by
    obtain ⟨v, r, rfl, h2, h3⟩ := h
    exact h3.drop n
theorem Reps.set {F : Hp} {t : T} {v : V} (ht : Rep K mg F t v) : ∀ {ts : List T} {vs : List V} (n : Nat), Reps K mg F ts vs → Reps K mg F (ts.set n t) (vs.set n v)
  | [], _, _, h => by
    have e : _ = _ := h
    subst e; exact .nil
  | _ :: ts, _, 0, h => by
    obtain ⟨v, r, rfl, h2, h3⟩ := h
    exact ⟨_, r, rfl, ht, h3⟩
  | _ :: ts, _, n + 1, h => by
    obtain ⟨v, r, rfl, h2, h3⟩ := h
    exact ⟨v, _, rfl, h2, h3.set ht n⟩
theorem Reps.of_ints {F : Hp} : ∀ {ns : List Int}, Reps K mg F (ns.map T.int) (ns.map V.int)
  | [] => rfl
  | n :: ns => ⟨_, _, rfl, rfl, Reps.of_ints⟩
end

/-! ### the law's table of code objects -/
def LawTab (K : PySem.W.Frag) (mg : Str → Option Value) (P : Addr) : Prop := ∃ (fa : Addr) (o : Obj) (fd : FuncData) (c : Addr) (e : Value) (dd : Option Addr) (vs : Array Value) (sl : Array (Option Value)), mg "law" = some (.ref fa) ∧ K.lookup fa = some o ∧ o.data = .func fd ∧ fd.code = .ref c ∧ K.lookup c = some ⟨e, dd, .fields vs, sl⟩ ∧ vs[11]? = some (.ref P)
def qLam : Str := ("law" ++ ".<locals>.") ++ "<lambda>"
def TabX (K : PySem.W.Frag) (mg : Str → Option Value) (H : Hp) : Prop := ∀ P, LawTab K mg P → LamX.TabS H P qLam
structure Tb (K : PySem.W.Frag) (mg : Str → Option Value) (F B H : Hp) : Prop where
  x : TabX K mg H
  f : ∀ P, LawTab K mg P → F P = none
  b : ∀ P, LawTab K mg P → B P = none
/-- an object that is neither a table nor a code object -/
def plainO (h : HO) : Prop := (∀ ps, h ≠ .tbl ps) ∧ ∀ g, h ≠ .ext g
theorem ORep.plain {K : PySem.W.Frag} {mg : Str → Option Value} {F : Hp} {o : O} {h : HO} (r : ORep K mg F o h) : plainO h := by
  cases o with
  | l ts => obtain ⟨vs, rfl, _⟩ := r; exact ⟨fun _ z => (by cases z), fun _ z => (by cases z)⟩
  | dk ks ts => obtain ⟨kvs, rfl, _⟩ := r; exact ⟨fun _ z => (by cases z), fun _ z => (by cases z)⟩
  | dt ks ts => obtain ⟨kvs, rfl, _⟩ := r; exact ⟨fun _ z => (by cases z), fun _ z => (by cases z)⟩
theorem ORep.ntup {K : PySem.W.Frag} {mg : Str → Option Value} {F : Hp} {o : O} {h : HO} (r : ORep K mg F o h) (vs : List V) : h ≠ .tup vs := by
  cases o with
  | l ts => obtain ⟨vs, rfl, _⟩ := r; intro z; cases z
  | dk ks ts => obtain ⟨kvs, rfl, _⟩ := r; intro z; cases z
  | dt ks ts => obtain ⟨kvs, rfl, _⟩ := r; intro z; cases z
section
variable {K : PySem.W.Frag} {mg : Str → Option Value} {F F' B B' H H' : Hp}
theorem TabX.ext (t : TabX K mg H) (e : Same H H') : TabX K mg H' := fun P q => (t P q).ext e
theorem tabS_upd {H : Hp} {P a : Addr} {q : Str} {h h' : HO} (t : LamX.TabS H P q) (ha : H a = some h) (p : plainO h) : LamX.TabS (upd H a h') P q := by
  obtain ⟨ps, h1, h2, h3⟩ := t
  have nP : P ≠ a := fun z => by subst z; rw [ha] at h1; exact p.1 ps (Option.some.inj h1)
  refine ⟨ps, by rw [upd_ne nP]; exact h1, h2, fun pos cv hc => ?_⟩
  obtain ⟨c, e1, e2⟩ := h3 pos cv hc
  have nc : c ≠ a := fun z => by subst z; rw [ha] at e2; exact p.2 _ (Option.some.inj e2)
  exact ⟨c, e1, by rw [upd_ne nc]; exact e2⟩
theorem TabX.upd {a : Addr} {h h' : HO} (t : TabX K mg H) (ha : H a = some h) (p : plainO h) : TabX K mg (upd H a h') := fun P q => tabS_upd (t P q) ha p
theorem TabX.ne {a : Addr} {h : HO} (t : TabX K mg H) (ha : H a = some h) (p : plainO h) {P : Addr} (q : LawTab K mg P) : P ≠ a := fun z => by
  subst z
  obtain ⟨ps, h1, _⟩ := t _ q
  rw [ha] at h1; exact p.1 ps (Option.some.inj h1)
theorem TabX.ne0 {a : Addr} (t : TabX K mg H) (ha : H a = none) {P : Addr} (q : LawTab K mg P) : P ≠ a := fun z => by
  subst z
  obtain ⟨ps, h1, _⟩ := t _ q
  rw [ha] at h1; cases h1
theorem Tb.ext (t : Tb K mg F B H) (e : ∀ b o, H b = some o → H' b = some o) : Tb K mg F B H' := ⟨t.x.ext e, t.f, t.b⟩
theorem Tb.updF {p : Addr} {o : HO} (t : Tb K mg F B H) (n : H p = none) : Tb K mg (L2.upd F p o) B (L2.upd H p o) := ⟨t.x.ext fun b x e => by rw [upd_ne (ne_of_none e n)]; exact e, fun P q => by rw [upd_ne (t.x.ne0 n q)]; exact t.f P q, t.b⟩
theorem Tb.updF2 {p : Addr} {h : HO} (t : Tb K mg F B H) (e : H p = some h) (pl : plainO h) {o : HO} : Tb K mg (L2.upd F p o) B H := ⟨t.x, fun P q => by rw [upd_ne (t.x.ne e pl q)]; exact t.f P q, t.b⟩
theorem Tb.updB {p : Addr} {h : HO} (t : Tb K mg F B H) (e : H p = some h) (pl : plainO h) {o : HO} : Tb K mg F (L2.upd B p o) H := ⟨t.x, t.f, fun P q => by rw [upd_ne (t.x.ne e pl q)]; exact t.b P q⟩
theorem Tb.updH {p : Addr} {h h' : HO} (t : Tb K mg F B H) (e : H p = some h) (pl : plainO h) : Tb K mg F B (L2.upd H p h') := ⟨t.x.upd e pl, t.f, t.b⟩
theorem Tb.lessB (t : Tb K mg F B' H) (s : Same B B') : Tb K mg F B H := ⟨t.x, t.f, fun P q => s.free (t.b P q)⟩
end
/-! ### the state: trees and slots -/
/-- what one slot says -/
def Slot (K : PySem.W.Frag) (mg : Str → Option Value) (B F : Hp) (pm : Option Addr) (rw : List V) (H : Hp) (α : Nat → Addr) (σ : L2.St) (i : Nat) : SV → Prop
  | .un => True
  | .fz t => ∃ v, σ[i]? = some (some v) ∧ Rep K mg F t v
  | .ow o => σ[i]? = some (some (.ref (α i))) ∧ F (α i) = none ∧ B (α i) = none ∧ pm ≠ some (α i) ∧ ∃ h, H (α i) = some h ∧ ORep K mg F o h
  | .pa o => σ[i]? = some (some (.ref (α i))) ∧ F (α i) = none ∧ B (α i) = none ∧ pm = some (α i) ∧ ∃ h, H (α i) = some h ∧ ORep K mg F o h
  | .raw n => ∃ v, σ[i]? = some (some v) ∧ rw[n]? = some v
/-- no object of the ground, or a tuple (that no one changes) -/
def NB (B : Hp) (a : Addr) (o : HO) : Prop := B a = none ∨ ∃ vs, o = .tup vs
structure RS (K : PySem.W.Frag) (mg : Str → Option Value) (B F0 : Hp) (pm : Option Addr) (rw : List V) (F : Hp) (ρ : Env) (σ : L2.St) (H : Hp) : Prop where
  len : ρ.length = σ.length
  fh : Same F H
  bh : Same B H
  f0 : Same F0 F
  fr : ∀ a o, F a = some o → (∃ u, F0 a = some u) ∨ NB B a o
  pt : ∀ a, pm = some a → ∃ o, H a = some o
  tb : Tb K mg F B H
  ex : ∃ α : Nat → Addr, (∀ i x, ρ[i]? = some x → Slot K mg B F pm rw H α σ i x) ∧ ∀ i j x y, ρ[i]? = some x → ρ[j]? = some y → x.owned = true → y.owned = true → i ≠ j → α i ≠ α j
section
variable {K : PySem.W.Frag} {mg : Str → Option Value} {B F0 F F' : Hp} {pm : Option Addr} {rw : List V} {ρ ρ' : Env} {σ σ' : L2.St} {H H' : Hp} {α : Nat → Addr} {i : Nat} {x : SV}
theorem upd_none_of {H : Hp} {p a : Addr} {o : HO} (h : a ≠ p) (e : H a = none) : upd H p o a = none := by rw [upd_ne h]; exact e
theorem same_upd {H : Hp} {p : Addr} {o : HO} (n : H p = none) : Same H (upd H p o) := fun b x e => by
  rw [upd_ne (ne_of_none e n)]
  exact e
theorem same_upd2 {F H : Hp} {p : Addr} {o : HO} (s : Same F H) : Same (L2.upd F p o) (L2.upd H p o) := fun b x e => by
  by_cases hb : b = p
  · subst hb; rw [upd_same] at e ⊢; exact e
  · rw [upd_ne hb] at e ⊢; exact s _ _ e
theorem RS.fnone (R : RS K mg B F0 pm rw F ρ σ H) {p : Addr} (n : H p = none) : F p = none := R.fh.free n
theorem RS.bnone (R : RS K mg B F0 pm rw F ρ σ H) {p : Addr} (n : H p = none) : B p = none := R.bh.free n
/-- the heap has grown (all that was stands); the same trees -/
theorem RS.grow (R : RS K mg B F0 pm rw F ρ σ H) (e : Same H H') : RS K mg B F0 pm rw F ρ σ H' := by
  obtain ⟨α, h1, h2⟩ := R.ex
  refine ⟨R.len, R.fh.trans e, R.bh.trans e, R.f0, R.fr, fun a z => let ⟨o, q⟩ := R.pt a z; ⟨o, e _ _ q⟩, R.tb.ext e, α, fun i x hx => ?_, h2⟩
  have q := h1 i x hx
  cases x with
  | un => trivial
  | fz t => exact q
  | raw n => exact q
  | ow o => obtain ⟨a, b, c, d, h, e1, e2⟩ := q; exact ⟨a, b, c, d, h, e _ _ e1, e2⟩
  | pa o => obtain ⟨a, b, c, d, h, e1, e2⟩ := q; exact ⟨a, b, c, d, h, e _ _ e1, e2⟩
/-- a new object that stays -/
theorem RS.newF {p : Addr} {o : HO} (R : RS K mg B F0 pm rw F ρ σ H) (n : H p = none) : RS K mg B F0 pm rw (upd F p o) ρ σ (upd H p o) := by
  have nF := R.fnone n
  have sF : Same F (upd F p o) := same_upd nF
  have sH : Same H (upd H p o) := same_upd n
  obtain ⟨α, h1, h2⟩ := R.ex
  refine ⟨R.len, same_upd2 R.fh, R.bh.trans sH, R.f0.trans sF, fun a u e => ?_, fun a z => let ⟨o, q⟩ := R.pt a z; ⟨o, sH _ _ q⟩, R.tb.updF n, α, fun i x hx => ?_, h2⟩
  · by_cases ha : a = p
    · subst ha; exact .inr (.inl (R.bnone n))
    · rw [upd_ne ha] at e; exact R.fr a u e
  · have q := h1 i x hx
    cases x with
    | un => trivial
    | fz t => obtain ⟨v, a, b⟩ := q; exact ⟨v, a, b.mono sF⟩
    | raw n => obtain ⟨v, a, b⟩ := q; exact ⟨v, a, b⟩
    | ow o => obtain ⟨a, b, c, d, h, e1, e2⟩ := q; exact ⟨a, upd_none_of (ne_of_none e1 n) b, c, d, h, sH _ _ e1, e2.mono sF⟩
    | pa o => obtain ⟨a, b, c, d, h, e1, e2⟩ := q; exact ⟨a, upd_none_of (ne_of_none e1 n) b, c, d, h, sH _ _ e1, e2.mono sF⟩
theorem RS.slot (R : RS K mg B F0 pm rw F ρ σ H) {t : T} (h : ρ[i]? = some (.fz t)) : ∃ v, σ[i]? = some (some v) ∧ Rep K mg F t v := by
  obtain ⟨α, h1, _⟩ := R.ex
  exact h1 i _ h
/-- a slot is given a tree -/
theorem RS.setF {t : T} {v : V} (R : RS K mg B F0 pm rw F ρ σ H) (i : Nat) (r : Rep K mg F t v) : RS K mg B F0 pm rw F (ρ.set i (.fz t)) (σ.set i (some v)) H := by
  obtain ⟨α, h1, h2⟩ := R.ex
  have hl := R.len
  refine ⟨by simpa using R.len, R.fh, R.bh, R.f0, R.fr, R.pt, R.tb, α, fun j x hx => ?_, fun j k x y hx hy ox oy ne => ?_⟩
  · by_cases hj : j = i
    · subst hj
      have hlt : j < ρ.length := by
        have := (List.getElem?_eq_some_iff.mp hx).1
        simpa using this
      rw [List.getElem?_set_self hlt] at hx
      cases hx
      exact ⟨v, List.getElem?_set_self (by omega), r⟩
    · rw [List.getElem?_set_ne (Ne.symm hj)] at hx
      have q := h1 j x hx
      have es : (σ.set i (some v))[j]? = σ[j]? := List.getElem?_set_ne (Ne.symm hj)
      cases x with
      | un => trivial
      | fz t => obtain ⟨v, a, b⟩ := q; exact ⟨v, es.trans a, b⟩
      | raw n => obtain ⟨v, a, b⟩ := q; exact ⟨v, es.trans a, b⟩
      | ow o => obtain ⟨a, b⟩ := q; exact ⟨es.trans a, b⟩
      | pa o => obtain ⟨a, b⟩ := q; exact ⟨es.trans a, b⟩
  · have g : ∀ m z, (ρ.set i (.fz t))[m]? = some z → z.owned = true → m ≠ i ∧ ρ[m]? = some z := fun m z hz oz => by
      by_cases hm : m = i
      · subst hm
        have hlt : m < ρ.length := by
          have := (List.getElem?_eq_some_iff.mp hz).1
          simpa using this
        rw [List.getElem?_set_self hlt] at hz
        cases hz; cases oz
      · rw [List.getElem?_set_ne (Ne.symm hm)] at hz
        exact ⟨hm, hz⟩
    exact h2 j k x y (g j x hx ox).2 (g k y hy oy).2 ox oy ne
end
/-! ### one slot more -/
section
variable {K : PySem.W.Frag} {mg : Str → Option Value} {B F0 F F' : Hp} {pm : Option Addr} {rw : List V} {ρ ρ' ys : Env} {σ σ' ws : L2.St} {H H' : Hp} {i : Nat} {x : SV}
theorem get_mid {α : Type} {xs ys : List α} {x : α} (j : Nat) : (xs ++ x :: ys)[j]? = if j < xs.length then (xs ++ ys)[j]? else if j = xs.length then some x else (xs ++ ys)[j - 1]? := by
  by_cases h : j < xs.length
  · rw [if_pos h, List.getElem?_append_left h, List.getElem?_append_left h]
  · rw [if_neg h]
    by_cases h2 : j = xs.length
    · rw [if_pos h2]
      subst h2
      rw [List.getElem?_append_right (Nat.le_refl _)]
      simp
    · rw [if_neg h2, List.getElem?_append_right (by omega), List.getElem?_append_right (by omega)]
      have e : j - xs.length = (j - 1 - xs.length) + 1 := by omega
      rw [e, List.getElem?_cons_succ]
/-- a slot put in at the end of ρ -/
theorem RS.ins {B' : Hp} {v : V} {p : Addr} (R : RS K mg B' F0 pm rw F (ρ ++ ys) (σ ++ ws) H) (hl : ρ.length = σ.length) (bb : Same B B')
    (hx : (∃ t, x = .fz t ∧ Rep K mg F t v) ∨ (∃ o h, x = .ow o ∧ v = .ref p ∧ F p = none ∧ B p = none ∧ pm ≠ some p ∧ H p = some h ∧ ORep K mg F o h ∧ ∃ u, B' p = some u)) :
    RS K mg B F0 pm rw F (ρ ++ x :: ys) (σ ++ some v :: ws) H := by
  obtain ⟨α, h1, h2⟩ := R.ex
  have hlen := R.len
  have bn : ∀ a, B' a = none → B a = none := fun a e => bb.free e
  refine ⟨by simp only [List.length_append, List.length_cons] at hlen ⊢; omega, R.fh, bb.trans R.bh, R.f0, fun a o e => (R.fr a o e).imp id (Or.imp (bn a) id), R.pt, R.tb.lessB bb, fun j => if j < ρ.length then α j else if j = ρ.length then p else α (j - 1), fun j y hy => ?_, fun j m y z hy hz oy oz ne => ?_⟩
  · have es : (σ ++ some v :: ws)[j]? = if j < ρ.length then (σ ++ ws)[j]? else if j = ρ.length then some (some v) else (σ ++ ws)[j - 1]? := by rw [get_mid, hl]
    rw [get_mid] at hy
    have step : ∀ m, (ρ ++ ys)[m]? = some y → (σ ++ some v :: ws)[j]? = (σ ++ ws)[m]? → (if j < ρ.length then α j else if j = ρ.length then p else α (j - 1)) = α m → Slot K mg B F pm rw H (fun j => if j < ρ.length then α j else if j = ρ.length then p else α (j - 1)) (σ ++ some v :: ws) j y := fun m hm e1 e2 => by
      have q := h1 m y hm
      cases y with
      | un => trivial
      | fz t => obtain ⟨v', a, b⟩ := q; exact ⟨v', e1.trans a, b⟩
      | raw n => obtain ⟨v', a, b⟩ := q; exact ⟨v', e1.trans a, b⟩
      | ow o => obtain ⟨a, b, c, d⟩ := q; unfold Slot; simp only [e2]; exact ⟨e1.trans a, b, bn _ c, d⟩
      | pa o => obtain ⟨a, b, c, d⟩ := q; unfold Slot; simp only [e2]; exact ⟨e1.trans a, b, bn _ c, d⟩
    by_cases hj : j < ρ.length
    · rw [if_pos hj] at hy es
      exact step j hy es (if_pos hj)
    · rw [if_neg hj] at hy es
      by_cases hj2 : j = ρ.length
      · rw [if_pos hj2] at hy es
        cases hy
        rcases hx with ⟨t, rfl, r⟩ | ⟨o, h, rfl, rfl, e1, e2, e3, e4, e5, _⟩
        · exact ⟨v, es, r⟩
        · unfold Slot
          simp only [if_neg hj, if_pos hj2]
          exact ⟨es, e1, e2, e3, h, e4, e5⟩
      · rw [if_neg hj2] at hy es
        exact step (j - 1) hy es (by rw [if_neg hj, if_neg hj2])
  · -- owned addresses differ
    have cls : ∀ n w, (ρ ++ x :: ys)[n]? = some w → w.owned = true → (∃ m, (ρ ++ ys)[m]? = some w ∧ (if n < ρ.length then α n else if n = ρ.length then p else α (n - 1)) = α m ∧ n = (if m < ρ.length then m else m + 1)) ∨ (n = ρ.length ∧ (if n < ρ.length then α n else if n = ρ.length then p else α (n - 1)) = p ∧ ∃ u, B' p = some u) := fun n w hn ow => by
      rw [get_mid] at hn
      by_cases hj : n < ρ.length
      · rw [if_pos hj] at hn
        exact .inl ⟨n, hn, if_pos hj, (if_pos hj).symm⟩
      · rw [if_neg hj] at hn
        by_cases hj2 : n = ρ.length
        · rw [if_pos hj2] at hn
          cases hn
          rcases hx with ⟨t, rfl, r⟩ | ⟨o, h, rfl, rfl, e1, e2, e3, e4, e5, e6⟩
          · cases ow
          · exact .inr ⟨hj2, by rw [if_neg hj, if_pos hj2], e6⟩
        · rw [if_neg hj2] at hn
          refine .inl ⟨n - 1, hn, by rw [if_neg hj, if_neg hj2], ?_⟩
          rw [if_neg (by omega)]
          omega
    have far : ∀ m w, (ρ ++ ys)[m]? = some w → w.owned = true → B' (α m) = none := fun m w hm ow => by
      have q := h1 m w hm
      cases w with
      | un => cases ow
      | fz t => cases ow
      | raw n => cases ow
      | ow o => exact q.2.2.1
      | pa o => exact q.2.2.1
    show (if j < ρ.length then α j else if j = ρ.length then p else α (j - 1)) ≠ (if m < ρ.length then α m else if m = ρ.length then p else α (m - 1))
    rcases cls j y hy oy with ⟨a, ha, ea, na⟩ | ⟨ea0, ea, u, eu⟩
    · rcases cls m z hz oz with ⟨b, hb, eb, nb⟩ | ⟨eb0, eb, u, eu⟩
      · rw [ea, eb]
        refine h2 a b y z ha hb oy oz fun e => ne ?_
        rw [na, nb, e]
      · rw [ea, eb]
        intro e
        have := far a y ha oy
        rw [e, eu] at this
        cases this
    · rcases cls m z hz oz with ⟨b, hb, eb, nb⟩ | ⟨eb0, eb, _⟩
      · rw [ea, eb]
        intro e
        have := far b z hb oz
        rw [← e, eu] at this
        cases this
      · exact absurd (ea0.trans eb0.symm) ne
/-- a tree put in -/
theorem RS.insF {t : T} {v : V} (R : RS K mg B F0 pm rw F (ρ ++ ys) (σ ++ ws) H) (hl : ρ.length = σ.length) (r : Rep K mg F t v) : RS K mg B F0 pm rw F (ρ ++ .fz t :: ys) (σ ++ some v :: ws) H :=
  R.ins (p := 0) hl (Same.refl _) (.inl ⟨t, rfl, r⟩)
/-- a new object put in at the end -/
theorem RS.newO {o : O} {h : HO} {p : Addr} (R : RS K mg B F0 pm rw F ρ σ H) (r : ORep K mg F o h) (n : H p = none) : RS K mg B F0 pm rw F (ρ ++ [.ow o]) (σ ++ [some (.ref p)]) (upd H p h) := by
  have nF := R.fnone n
  have nB := R.bnone n
  have sH : Same H (upd H p h) := same_upd n
  have npm : pm ≠ some p := fun e => by
    obtain ⟨u, q⟩ := R.pt p e
    rw [n] at q; cases q
  have R1 : RS K mg (upd B p h) F0 pm rw F (ρ ++ []) (σ ++ []) (upd H p h) := by
    rw [List.append_nil, List.append_nil]
    obtain ⟨α, h1, h2⟩ := (R.grow sH).ex
    have nb : ∀ a, a ≠ p → B a = none → upd B p h a = none := fun a ne e => by rw [upd_ne ne]; exact e
    obtain ⟨α0, g1, g2⟩ := R.ex
    refine ⟨R.len, R.fh.trans sH, same_upd2 R.bh, R.f0, fun a u e => ?_, fun a z => let ⟨o, q⟩ := R.pt a z; ⟨o, sH _ _ q⟩, (R.tb.ext sH).updB upd_same r.plain, α0, fun j y hy => ?_, g2⟩
    · rcases R.fr a u e with q | q
      · exact .inl q
      · exact .inr (q.imp (nb a (fun z => by subst z; rw [nF] at e; cases e)) id)
    · have q := g1 j y hy
      cases y with
      | un => trivial
      | fz t => exact q
      | raw n => exact q
      | ow o => obtain ⟨a, b, c, d, u, e1, e2⟩ := q; exact ⟨a, b, nb _ (ne_of_none e1 n) c, d, u, sH _ _ e1, e2⟩
      | pa o => obtain ⟨a, b, c, d, u, e1, e2⟩ := q; exact ⟨a, b, nb _ (ne_of_none e1 n) c, d, u, sH _ _ e1, e2⟩
  exact R1.ins R.len (same_upd nB) (.inr ⟨o, h, rfl, rfl, nF, nB, npm, upd_same, r, h, upd_same⟩)
/-- an object at the end is set aside -/
theorem RS.aside {o : O} {v : V} (R : RS K mg B F0 pm rw F (ρ ++ [.ow o]) (σ ++ [some v]) H) (hl : ρ.length = σ.length) :
    ∃ p h, v = .ref p ∧ F p = none ∧ B p = none ∧ pm ≠ some p ∧ H p = some h ∧ ORep K mg F o h ∧ RS K mg (upd B p h) F0 pm rw F ρ σ H := by
  obtain ⟨α, h1, h2⟩ := R.ex
  have e0 : (ρ ++ [SV.ow o])[ρ.length]? = some (.ow o) := by simp
  obtain ⟨a, b, c, d, u, e1, e2⟩ := h1 ρ.length _ e0
  have ev : v = .ref (α ρ.length) := by
    rw [hl] at a
    simp only [List.getElem?_append_right (Nat.le_refl _), Nat.sub_self, List.getElem?_cons_zero, Option.some.injEq] at a
    rw [hl]; exact a
  have up : ∀ j y, ρ[j]? = some y → j < ρ.length ∧ (ρ ++ [SV.ow o])[j]? = some y := fun j y hy => by
    have hj := (List.getElem?_eq_some_iff.mp hy).1
    exact ⟨hj, by rw [List.getElem?_append_left hj]; exact hy⟩
  refine ⟨α ρ.length, u, ev, b, c, d, e1, e2, ⟨hl, R.fh, fun z w q => ?_, R.f0, fun z w q => ?_, R.pt, R.tb.updB e1 e2.plain, α, fun j y hy => ?_, fun j m y z hy hz oy oz ne => ?_⟩⟩
  · by_cases hz : z = α ρ.length
    · subst hz; rw [upd_same] at q; cases q; exact e1
    · rw [upd_ne hz] at q; exact R.bh _ _ q
  · rcases R.fr z w q with k | k
    · exact .inl k
    · refine .inr (k.imp (fun k => ?_) id)
      rw [upd_ne (fun e => by subst e; rw [b] at q; cases q)]
      exact k
  · obtain ⟨hj, hy'⟩ := up j y hy
    have q := h1 j y hy'
    have es : (σ ++ [some v])[j]? = σ[j]? := List.getElem?_append_left (by omega)
    have ne : y.owned = true → α j ≠ α ρ.length := fun oy => h2 j ρ.length y _ hy' e0 oy rfl (by omega)
    cases y with
    | un => trivial
    | fz t => obtain ⟨v', a, b⟩ := q; exact ⟨v', es ▸ a, b⟩
    | raw n => obtain ⟨v', a, b⟩ := q; exact ⟨v', es ▸ a, b⟩
    | ow o => obtain ⟨a, b, c, d⟩ := q; exact ⟨es ▸ a, b, by rw [upd_ne (ne rfl)]; exact c, d⟩
    | pa o => obtain ⟨a, b, c, d⟩ := q; exact ⟨es ▸ a, b, by rw [upd_ne (ne rfl)]; exact c, d⟩
  · exact h2 j m y z (up j y hy).2 (up m z hz).2 oy oz ne
/-- and taken back -/
theorem RS.back {o : O} {h : HO} {p : Addr} (R : RS K mg (upd B p h) F0 pm rw F' (ρ' ++ ys) (σ ++ ws) H') (hl : ρ'.length = σ.length) (f0 : F0 p = none) (nB : B p = none) (npm : pm ≠ some p) (r : ORep K mg F' o h) :
    RS K mg B F0 pm rw F' (ρ' ++ .ow o :: ys) (σ ++ some (.ref p) :: ws) H' := by
  refine R.ins hl (same_upd nB) (.inr ⟨o, h, rfl, rfl, ?_, nB, npm, R.bh _ _ upd_same, r, h, upd_same⟩)
  cases e : F' p with
  | none => rfl
  | some u =>
    rcases R.fr p u e with ⟨w, q⟩ | q
    · rw [f0] at q; cases q
    · rcases q with q | ⟨vs, rfl⟩
      · rw [upd_same] at q; cases q
      · have e1 := R.fh _ _ e
        rw [R.bh _ _ upd_same] at e1
        exact (r.ntup vs (Option.some.inj e1)).elim
/-- the slot behind ρ goes to the place i -/
theorem RS.pop {x : SV} {v : Option V} (R : RS K mg B F0 pm rw F (ρ ++ x :: ys) (σ ++ v :: ws) H) (hl : ρ.length = σ.length) (i : Nat) (hi : i < ρ.length) : RS K mg B F0 pm rw F (ρ.set i x ++ ys) (σ.set i v ++ ws) H := by
  obtain ⟨α, h1, h2⟩ := R.ex
  have hlen := R.len
  have src : ∀ j y, (ρ.set i x ++ ys)[j]? = some y → ∃ m, (ρ ++ x :: ys)[m]? = some y ∧ (σ.set i v ++ ws)[j]? = (σ ++ v :: ws)[m]? ∧ m = (if j = i then ρ.length else if j < ρ.length then j else j + 1) := fun j y hy => by
    by_cases hj : j < ρ.length
    · have hj2 : j < (ρ.set i x).length := by simpa using hj
      have hj3 : j < (σ.set i v).length := by simp; omega
      rw [List.getElem?_append_left hj2] at hy
      by_cases e : j = i
      · subst e
        rw [List.getElem?_set_self hj] at hy
        cases hy
        refine ⟨ρ.length, by simp, ?_, by simp⟩
        rw [List.getElem?_append_left hj3, List.getElem?_set_self (by omega), hl]
        simp
      · rw [List.getElem?_set_ne (Ne.symm e)] at hy
        refine ⟨j, by rw [List.getElem?_append_left hj]; exact hy, ?_, by rw [if_neg e, if_pos hj]⟩
        rw [List.getElem?_append_left hj3, List.getElem?_set_ne (Ne.symm e), List.getElem?_append_left (by omega)]
    · have hj2 : ¬ j < (ρ.set i x).length := by simpa using hj
      rw [List.getElem?_append_right (by omega)] at hy
      have ei : j ≠ i := by omega
      refine ⟨j + 1, ?_, ?_, by rw [if_neg ei, if_neg hj]⟩
      · rw [List.getElem?_append_right (by omega)]
        have e : j + 1 - ρ.length = (j - ρ.length) + 1 := by omega
        rw [e, List.getElem?_cons_succ]
        simpa using hy
      · rw [List.getElem?_append_right (by simp; omega), List.getElem?_append_right (by omega)]
        have e : j + 1 - σ.length = (j - σ.length) + 1 := by omega
        rw [e, List.getElem?_cons_succ]
        simp
  refine ⟨by simp only [List.length_append, List.length_cons, List.length_set] at hlen ⊢; omega, R.fh, R.bh, R.f0, R.fr, R.pt, R.tb, fun j => α (if j = i then ρ.length else if j < ρ.length then j else j + 1), fun j y hy => ?_, fun j m y z hy hz oy oz ne => ?_⟩
  · obtain ⟨m, hm, es, em⟩ := src j y hy
    have q := h1 m y hm
    cases y with
    | un => trivial
    | fz t => obtain ⟨v', a, b⟩ := q; exact ⟨v', es.trans a, b⟩
    | raw n => obtain ⟨v', a, b⟩ := q; exact ⟨v', es.trans a, b⟩
    | ow o => unfold Slot; simp only [← em]; obtain ⟨a, b⟩ := q; exact ⟨es.trans a, b⟩
    | pa o => unfold Slot; simp only [← em]; obtain ⟨a, b⟩ := q; exact ⟨es.trans a, b⟩
  · obtain ⟨a, ha, _, ea⟩ := src j y hy
    obtain ⟨b, hb, _, eb⟩ := src m z hz
    show α (if j = i then ρ.length else if j < ρ.length then j else j + 1) ≠ α (if m = i then ρ.length else if m < ρ.length then m else m + 1)
    rw [← ea, ← eb]
    refine h2 a b y z ha hb oy oz fun e => ne ?_
    rw [ea, eb] at e
    split at e <;> split at e <;> (try split at e) <;> (try split at e) <;> omega
end
end FL

/-! FL2: readings upon trees; expressions. -/
namespace FL
open PySem PySem.Spec L2

structure Bk where
  B : Hp
  F0 : Hp
  pm : Option Addr
  rw : List V
abbrev RSk (X : Cx) (k : Bk) (F : Hp) (ρ : Env) (σ : L2.St) (H : Hp) : Prop := RS X.K X.mg k.B k.F0 k.pm k.rw F ρ σ H
/-- what is wanted where a tree t has been reckoned -/
abbrev Go (X : Cx) (k : Bk) (F : Hp) (ρ : Env) (σ : L2.St) (t : T) (Q : VK) : Prop := ∀ v F' H', RSk X k F' ρ σ H' → Same F F' → Rep X.K X.mg F' t v → Q v H'
/-- an exception that is let out -/
def Lv (K : PySem.W.Frag) (mg : Str → Option Value) (k : Bk) (H' : Hp) : Prop := Same k.B H' ∧ Same k.F0 H' ∧ (∀ a, k.pm = some a → ∃ o, H' a = some o) ∧ TabX K mg H'
def XOk (K : PySem.W.Frag) (mg : Str → Option Value) (k : Bk) (E : XK) (e : Ex) : Prop := match e with
  | .mk c none => ∀ C H', mg c = some (.ref C) → Lv K mg k H' → E (.ref C) none H'
  | .mk c (some (f, t)) => ∀ C d v F' H', mg c = some (.ref C) → Lv K mg k H' → Same F' H' → Rep K mg F' t v → H' d = some (.xd [(f, v)]) → E (.ref C) (some d) H'
def tE (X : Cx) (E : XK) (f : M T) : TE := fun σ H Q => ∃ k F ρ, RSk X k F ρ σ H ∧ Den (f ρ) (fun t ρ' => Go X k F ρ' σ t Q) (XOk X.K X.mg k E)
def tT (X : Cx) (E : XK) (f : M Bool) : TT := fun σ H Q => ∃ k F ρ, RSk X k F ρ σ H ∧ Den (f ρ) (fun b ρ' => ∀ F' H', RSk X k F' ρ' σ H' → Same F F' → Q b H') (XOk X.K X.mg k E)
def tA (X : Cx) (E : XK) (f : M (List T)) : TA := fun σ H Q => ∃ k F ρ, RSk X k F ρ σ H ∧ Den (f ρ) (fun ts ρ' => ∀ vs F' H', RSk X k F' ρ' σ H' → Same F F' → Reps X.K X.mg F' ts vs → Q vs H') (XOk X.K X.mg k E)
/-- a new object, not yet anyone's: the state with one slot more -/
def tO (X : Cx) (E : XK) (f : M O) : TE := fun σ H Q => ∃ k F ρ, RSk X k F ρ σ H ∧ Den (f ρ) (fun o ρ' => ∀ v F' H', RSk X k F' (ρ' ++ [SV.ow o]) (σ ++ [some v]) H' → Same F F' → ρ'.length = σ.length → Q v H') (XOk X.K X.mg k E)
abbrev FE (X : Cx) (E : XK) (e : Expr) (f : M T) : Prop := PE X e (tE X E f)
abbrev FT (X : Cx) (E : XK) (e : Expr) (f : M Bool) : Prop := PT X e (tT X E f)
abbrev FA (X : Cx) (E : XK) (es : List Expr) (f : M (List T)) : Prop := PA X es (tA X E f)
abbrev FO (X : Cx) (E : XK) (e : Expr) (f : M O) : Prop := PE X e (tO X E f)

theorem pe_imp {X : Cx} {e : Expr} {t t' : TE} (h : PE X e t) (i : ∀ σ H Q, t' σ H Q → t σ H Q) : PE X e t' := ⟨fun pins s σ H Q I q => h.run pins s σ H Q I (i _ _ _ q)⟩
theorem pt_imp {X : Cx} {e : Expr} {t t' : TT} (h : PT X e t) (i : ∀ σ H Q, t' σ H Q → t σ H Q) : PT X e t' := ⟨fun pins s σ H Q I q => h.run pins s σ H Q I (i _ _ _ q)⟩
theorem pw_imp {X : Cx} {e : Expr} {t t' : TT} (h : PW X e t) (i : ∀ σ H Q, t' σ H Q → t σ H Q) : PW X e t' := ⟨fun wh pins s σ H Q I q => h.run wh pins s σ H Q I (i _ _ _ q)⟩
theorem pa_imp {X : Cx} {e : List Expr} {t t' : TA} (h : PA X e t) (i : ∀ σ H Q, t' σ H Q → t σ H Q) : PA X e t' := ⟨fun pos pins s σ H Q I q => h.run pos pins s σ H Q I (i _ _ _ q)⟩
theorem ps_imp {X : Cx} {e : Stmt} {t t' : TS} (h : PS X e t) (i : ∀ D σ H, t' D σ H → t D σ H) : PS X e t' := ⟨fun pins s σ H D I q => h.run pins s σ H D I (i _ _ _ q)⟩

/-- of an option: none is bad -/
def liftO {α : Type} (o : Option α) (ρ : Env) : Res α := match o with
  | some a => .ok a ρ
  | none => .bad
theorem Den.lift {α : Type} {o : Option α} {ρ : Env} {p : α → Env → Prop} {x : Ex → Prop} (h : Den (liftO o ρ) p x) : ∃ a, o = some a ∧ p a ρ := by
  cases o with
  | none => exact h.elim
  | some a => exact ⟨a, rfl, h⟩

section
variable {X : Cx} {E : XK} {a b c e : Expr} {fa fb fc f : M T} {pos : Pos}

/-! ### names and constants -/
/-- a constant tree -/
def rdC (t : T) : M T := fun ρ => .ok t ρ
theorem fe_int {i j pos} : FE X E (.Constant (.int i) j pos) (rdC (.int i)) := pe_imp pe_int fun σ H Q ⟨k, F, ρ, R, h⟩ => h _ F H R (Same.refl _) rfl
theorem fe_bl {b j pos} : FE X E (.Constant (.bool b) j pos) (rdC (.bl b)) := pe_imp pe_bl fun σ H Q ⟨k, F, ρ, R, h⟩ => h _ F H R (Same.refl _) rfl
/-- a module's constant, an int or a text -/
theorem fe_gint {x : Str} {i : Int} {t : Tok} (hg : Gl X x) (hm : X.mg x = some (.int i t)) (hd : (x == ("__debug__" : Str)) = false := by decide) : FE X E (.Name x pos) (rdC (.int i)) :=
  pe_imp (pe_glob (v := .int i) hg hm ⟨_, rfl⟩ hd) fun σ H Q ⟨k, F, ρ, R, h⟩ => h _ F H R (Same.refl _) rfl
/-! ### operators -/
def op2 (o : T → T → Option T) (fa fb : M T) : M T := fun ρ => (fa ρ).bind fun x ρ => (fb ρ).bind fun y ρ => liftO (o x y) ρ
def op1 (o : T → Option T) (fa : M T) : M T := fun ρ => (fa ρ).bind fun x ρ => liftO (o x) ρ
/-- a rule of values serves an operator of trees -/
def OpT (X : Cx) (r : R2) (o : T → T → Option T) : Prop := ∀ (k : Bk) (F : Hp) (ρ : Env) (σ : L2.St) (H : Hp) (Q : VK) (x y t : T) (v u : V), RSk X k F ρ σ H → Rep X.K X.mg F x v → Rep X.K X.mg F y u → o x y = some t → Go X k F ρ σ t Q → r v u H Q
theorem tOp_of {r : R2} {o : T → T → Option T} (hr : OpT X r o) {σ : L2.St} {H : Hp} {Q : VK} (h : tE X E (op2 o fa fb) σ H Q) : tOp r (tE X E fa) (tE X E fb) σ H Q := by
  obtain ⟨k, F, ρ, R, h⟩ := h
  refine ⟨k, F, ρ, R, (Den.bind h).imp fun x ρ1 h1 v F1 H1 R1 s1 r1 => ?_⟩
  refine ⟨k, F1, ρ1, R1, (Den.bind h1).imp fun y ρ2 h2 u F2 H2 R2 s2 r2 => ?_⟩
  obtain ⟨t, e, q⟩ := Den.lift h2
  exact hr k F2 ρ2 σ H2 Q x y t v u R2 (r1.mono s2) r2 e fun v' F' H' R' s' r' => q v' F' H' R' (s1.trans (s2.trans s')) r'
theorem fe_bin {op : Operator} {r : R2} {o : T → T → Option T} (ho : OpR X (binaryOp op) r) (hr : OpT X r o) (ha : FE X E a fa) (hb : FE X E b fb) : FE X E (.BinOp a op b pos) (op2 o fa fb) :=
  pe_imp (pe_op ho ha hb) fun σ H Q h => tOp_of hr h
theorem fe_cmp {op : CmpOp} {r : R2} {o : T → T → Option T} (ho : OpR X (compareOp op) r) (hr : OpT X r o) (ha : FE X E a fa) (hb : FE X E b fb) (hm : behindInMarks op b = false := by rfl) : FE X E (.Compare a [op] [b] pos) (op2 o fa fb) :=
  pe_imp (pe_cmpR ho ha hb hm) fun σ H Q h => tOp_of hr h
def toB (t : T) : Option Bool := match t with
  | .bl b => some b
  | _ => none
def tst (f : M T) : M Bool := fun ρ => (f ρ).bind fun t ρ => liftO (toB t) ρ
theorem toB_some {t : T} {b : Bool} (h : toB t = some b) : t = .bl b := by
  cases t <;> simp [toB] at h
  subst h; rfl
theorem ft_cmp {op : CmpOp} {r : R2} {o : T → T → Option T} (ho : OpR X (compareOp op) r) (hr : OpT X r o) (ha : FE X E a fa) (hb : FE X E b fb) (hm : behindInMarks op b = false := by rfl) : FT X E (.Compare a [op] [b] pos) (tst (op2 o fa fb)) := by
  refine pt_imp (pt_cmpR ho ha hb hm) fun σ H Q h => ?_
  obtain ⟨k, F, ρ, R, h⟩ := h
  refine tOp_of (o := o) (E := E) hr ⟨k, F, ρ, R, (Den.bind h).imp fun t ρ1 h1 v F1 H1 R1 s1 r1 => ?_⟩
  obtain ⟨b, e, q⟩ := Den.lift h1
  have e1 := toB_some e
  subst e1
  exact ⟨b, r1, q F1 H1 R1 s1⟩
end
end FL

/-! FL3: operators upon trees. -/
namespace FL
open PySem PySem.Spec L2
theorem szL : (sizeLine : Nat) = 16777216 := sizeLine_eq
/-! ### data -/
mutual
def toD : T → Option PyData
  | .non => some .none
  | .bl b => some (.bool b)
  | .int i => some (.int i)
  | .str x => some (.str x)
  | .lst ts => (toDs ts).map PyData.list
  | .sl ts => (toDs ts).map PyData.list
  | .tup ts => (toDs ts).map PyData.tuple
  | .fn _ => none
  | .dk _ _ => none
  | .dt _ _ => none
def toDs : List T → Option (List PyData)
  | [] => some []
  | t :: ts => match toD t, toDs ts with
    | some d, some ds => some (d :: ds)
    | _, _ => none
end
section
variable {K : PySem.W.Frag} {mg : Str → Option Value} {F H : Hp}
mutual
theorem dp_of (s : Same F H) : ∀ (t : T) (v : V) (d : PyData), Rep K mg F t v → toD t = some d → Dp K H v d
  | .non, v, d, r, e => by
    have e1 : v = .non := r
    simp only [toD, Option.some.injEq] at e
    subst e1 e; exact .non
  | .bl b, v, d, r, e => by
    have e1 : v = .bl b := r
    simp only [toD, Option.some.injEq] at e
    subst e1 e; exact .bl b
  | .int b, v, d, r, e => by
    have e1 : v = .int b := r
    simp only [toD, Option.some.injEq] at e
    subst e1 e; exact .int b
  | .str b, v, d, r, e => by
    have e1 : v = .str b := r
    simp only [toD, Option.some.injEq] at e
    subst e1 e; exact .str b
  | .lst ts, v, d, r, e => by
    obtain ⟨a, vs, e1, h, rs⟩ := r
    simp only [toD, Option.map_eq_some_iff] at e
    obtain ⟨ds, e2, e3⟩ := e
    subst e1 e3
    exact .lst (SqL.of (s _ _ h)) (dps_of s ts vs ds rs e2)
  | .sl ts, v, d, r, e => by
    obtain ⟨a, vs, e1, h, rs⟩ := r
    simp only [toD, Option.map_eq_some_iff] at e
    obtain ⟨ds, e2, e3⟩ := e
    subst e1 e3
    exact .lst (same_SqL s h) (dps_of s ts vs ds rs e2)
  | .tup ts, v, d, r, e => by
    obtain ⟨a, vs, e1, h, rs⟩ := r
    simp only [toD, Option.map_eq_some_iff] at e
    obtain ⟨ds, e2, e3⟩ := e
    subst e1 e3
    exact .tup (same_SqT s h) (dps_of s ts vs ds rs e2)
  | .fn _, _, _, _, e => by cases e
  | .dk _ _, _, _, _, e => by cases e
  | .dt _ _, _, _, _, e => by cases e
theorem dps_of (s : Same F H) : ∀ (ts : List T) (vs : List V) (ds : List PyData), Reps K mg F ts vs → toDs ts = some ds → DpAll K H vs ds
  | [], vs, ds, r, e => by
    have e1 : vs = [] := r
    simp only [toDs, Option.some.injEq] at e
    subst e1 e; exact .nil
  | t :: ts, vs, ds, r, e => by
    obtain ⟨v, w, e1, r1, r2⟩ := r
    subst e1
    unfold toDs at e
    split at e
    · rename_i d ds' h1 h2
      simp only [Option.some.injEq] at e
      subst e
      exact .cons (dp_of s t v d r1 h1) (dps_of s ts w ds' r2 h2)
    · cases e
end
end
/-- flat values -/
def flatT : T → Option V
  | .non => some .non
  | .bl b => some (.bl b)
  | .int i => some (.int i)
  | .str x => some (.str x)
  | _ => none
theorem flat_rep {K : PySem.W.Frag} {mg : Str → Option Value} {F : Hp} {t : T} {v w : V} (r : Rep K mg F t v) (e : flatT t = some w) : v = w := by
  cases t <;> simp only [flatT, Option.some.injEq, reduceCtorEq] at e <;> subst e <;> exact r
/-- == -/
def eqT (x y : T) : Option Bool := match flatT x, flatT y with
  | some v, some u => if scal v u then some (decide (v = u)) else match toD x, toD y with
    | some d, some e => if SeqAt.shaped d && SeqAt.shaped e then some (PyData.eqv d e) else none
    | _, _ => none
  | _, _ => match toD x, toD y with
    | some d, some e => if SeqAt.shaped d && SeqAt.shaped e then some (PyData.eqv d e) else none
    | _, _ => none
def eqO (x y : T) : Option T := (eqT x y).map T.bl
def neO (x y : T) : Option T := (eqT x y).map fun b => T.bl (!b)
section
variable {X : Cx}
theorem units64 {k : Nat} {A : Around} (hr : Room k A) : A.units + 64 < cLine := hr.units
theorem eqT_cases {k : Bk} {F : Hp} {ρ : Env} {σ : L2.St} {H : Hp} {x y : T} {v u : V} {b : Bool} (R : RSk X k F ρ σ H) (rx : Rep X.K X.mg F x v) (ry : Rep X.K X.mg F y u) (e : eqT x y = some b) :
    (scal v u = true ∧ decide (v = u) = b) ∨ ∃ d e, Dp X.K H v d ∧ Dp X.K H u e ∧ SeqAt.shaped d = true ∧ SeqAt.shaped e = true ∧ PyData.eqv d e = b := by
  have dat : ∀ {b}, (match toD x, toD y with
      | some d, some e => if SeqAt.shaped d && SeqAt.shaped e then some (PyData.eqv d e) else none
      | _, _ => none) = some b → ∃ d e, Dp X.K H v d ∧ Dp X.K H u e ∧ SeqAt.shaped d = true ∧ SeqAt.shaped e = true ∧ PyData.eqv d e = b := fun {b} q => by
    split at q
    · rename_i d e hd he
      split at q
      · rename_i hs
        rw [Bool.and_eq_true] at hs
        exact ⟨d, e, dp_of R.fh x v d rx hd, dp_of R.fh y u e ry he, hs.1, hs.2, Option.some.inj q⟩
      · cases q
    · cases q
  unfold eqT at e
  split at e
  · rename_i v' u' h1 h2
    have e1 := flat_rep rx h1
    have e2 := flat_rep ry h2
    subst e1 e2
    split at e
    · rename_i hs
      exact .inl ⟨hs, Option.some.inj e⟩
    · exact .inr (dat e)
  · exact .inr (dat e)
def rEqT (X : Cx) : R2 := fun x y H Q => rEq x y H Q ∨ rEqD X.K x y H Q
def rNeT (X : Cx) : R2 := fun x y H Q => rNe x y H Q ∨ rNeD X.K x y H Q
theorem op_eqT (hu : X.A.units + 64 < cLine) : OpR X (compareOp .Eq) (rEqT X) := op_eq.or (op_eqD hu)
theorem op_neT (hu : X.A.units + 64 < cLine) : OpR X (compareOp .NotEq) (rNeT X) := op_ne.or (op_neD hu)
theorem ot_eq : OpT X (rEqT X) eqO := fun k F ρ σ H Q x y t v u R rx ry e g => by
  unfold eqO at e
  rw [Option.map_eq_some_iff] at e
  obtain ⟨b, e, rfl⟩ := e
  rcases eqT_cases R rx ry e with ⟨h1, h2⟩ | ⟨d, e', h1, h2, h3, h4, h5⟩
  · exact .inl ⟨h1, by rw [h2]; exact g (.bl b) F H R (Same.refl _) rfl⟩
  · exact .inr ⟨d, e', h1, h2, h3, h4, by rw [h5]; exact g (.bl b) F H R (Same.refl _) rfl⟩
theorem ot_ne : OpT X (rNeT X) neO := fun k F ρ σ H Q x y t v u R rx ry e g => by
  unfold neO at e
  rw [Option.map_eq_some_iff] at e
  obtain ⟨b, e, rfl⟩ := e
  rcases eqT_cases R rx ry e with ⟨h1, h2⟩ | ⟨d, e', h1, h2, h3, h4, h5⟩
  · exact .inl ⟨h1, by rw [h2]; exact g (.bl (!b)) F H R (Same.refl _) rfl⟩
  · exact .inr ⟨d, e', h1, h2, h3, h4, by rw [h5]; exact g (.bl (!b)) F H R (Same.refl _) rfl⟩

/-! ### ints -/
def intO (f : Int → Int → T) (x y : T) : Option T := match x, y with
  | .int i, .int j => some (f i j)
  | _, _ => none
theorem intO_some {f : Int → Int → T} {x y t : T} (h : intO f x y = some t) : ∃ i j, x = .int i ∧ y = .int j ∧ t = f i j := by
  unfold intO at h
  split at h
  · exact ⟨_, _, rfl, rfl, (Option.some.inj h).symm⟩
  · cases h
theorem ot_int {g : Int → Int → V} {f : Int → Int → T} (hf : ∀ i j K mg F, Rep K mg F (f i j) (g i j)) : OpT X (rI0 g) (intO f) := fun k F ρ σ H Q x y t v u R rx ry e q => by
  obtain ⟨i, j, rfl, rfl, rfl⟩ := intO_some e
  exact ⟨i, j, rx, ry, q _ F H R (Same.refl _) (hf i j _ _ _)⟩
abbrev ltO := intO fun i j => .bl (decide (i < j))
abbrev leO := intO fun i j => .bl (decide (i ≤ j))
abbrev gtO := intO fun i j => .bl (decide (j < i))
abbrev geO := intO fun i j => .bl (decide (j ≤ i))
theorem ot_lt : OpT X (rI0 fun i j => .bl (decide (i < j))) ltO := ot_int fun _ _ _ _ _ => rfl
theorem ot_le : OpT X (rI0 fun i j => .bl (decide (i ≤ j))) leO := ot_int fun _ _ _ _ _ => rfl
theorem ot_gt : OpT X (rI0 fun i j => .bl (decide (j < i))) gtO := ot_int fun _ _ _ _ _ => rfl
theorem ot_ge : OpT X (rI0 fun i j => .bl (decide (j ≤ i))) geO := ot_int fun _ _ _ _ _ => rfl
/-- with a condition -/
def intC (c : Int → Int → Bool) (f : Int → Int → Int) (x y : T) : Option T := match x, y with
  | .int i, .int j => if c i j then some (.int (f i j)) else none
  | _, _ => none
theorem intC_some {c : Int → Int → Bool} {f : Int → Int → Int} {x y t : T} (h : intC c f x y = some t) : ∃ i j, x = .int i ∧ y = .int j ∧ c i j = true ∧ t = .int (f i j) := by
  unfold intC at h
  split at h
  · split at h
    · rename_i hc
      exact ⟨_, _, rfl, rfl, hc, (Option.some.inj h).symm⟩
    · cases h
  · cases h
theorem ot_intC {C : Int → Int → Prop} {c : Int → Int → Bool} {f g : Int → Int → Int} (hc : ∀ i j, c i j = true → C i j ∧ f i j = g i j) : OpT X (rI C fun i j => .int (g i j)) (intC c f) := fun k F ρ σ H Q x y t v u R rx ry e q => by
  obtain ⟨i, j, rfl, rfl, h, rfl⟩ := intC_some e
  obtain ⟨h1, h2⟩ := hc i j h
  exact ⟨i, j, rx, ry, h1, q _ F H R (Same.refl _) (by rw [h2]; rfl)⟩
def mulC (i j : Int) : Bool := decide (i.natAbs.log2 + j.natAbs.log2 < 1000000)
abbrev mulI := intC mulC fun i j => i * j
theorem ot_mulI : OpT X (rI CMulW fun i j => .int (i * j)) mulI := ot_intC fun i j h => ⟨(show i.natAbs.log2 + j.natAbs.log2 < 1000000 from of_decide_eq_true h), rfl⟩
abbrev modO := intC (fun _ j => decide (j ≠ 0)) fun i j => i.fmod j
theorem ot_mod : OpT X (rI (fun _ j => j ≠ 0) fun i j => .int (i.fmod j)) modO := ot_intC fun i j h => ⟨of_decide_eq_true h, rfl⟩
def powC (i j : Int) : Bool := decide (0 ≤ j) && decide (j ≤ 1000000) && decide (i.natAbs < 2 ^ 64)
abbrev powO := intC powC fun i j => i ^ j.toNat
theorem ot_pow : OpT X (rI CPow fun i j => .int (i ^ j.toNat)) powO := ot_intC fun i j h => by
  unfold powC at h
  rw [Bool.and_eq_true, Bool.and_eq_true] at h
  exact ⟨⟨of_decide_eq_true h.1.1, of_decide_eq_true h.1.2, of_decide_eq_true h.2⟩, rfl⟩
/-! ### + -/
def addO (x y : T) : Option T := match x, y with
  | .int i, .int j => some (.int (i + j))
  | .str a, .str b => if a.length + b.length ≤ 16777216 then some (.str (a ++ b)) else none
  | .lst a, .lst b => if a.length + b.length ≤ 16777216 then some (.lst (a ++ b)) else none
  | .tup a, .tup b => if a.length + b.length ≤ 16777216 then some (.tup (a ++ b)) else none
  | _, _ => none
def rStrAdd : R2 := fun x y H Q => ∃ i j, x = .str i ∧ y = .str j ∧ i.length + j.length ≤ sizeLine ∧ Q (.str (i ++ j)) H
def rAddT (X : Cx) : R2 := fun x y H Q => (rI0 (fun i j => .int (i + j)) x y H Q) ∨ (rStrAdd x y H Q) ∨ rCat x y H Q ∨ rCatA X.K x y H Q
theorem op_addT : OpR X (binaryOp .Add) (rAddT X) := op_add.or (OpR.or op_add_str (op_cat.or op_catA))
theorem ot_add : OpT X (rAddT X) addO := fun k F ρ σ H Q x y t v u R rx ry e q => by
  unfold addO at e
  split at e
  · rename_i i j
    cases e
    exact .inl ⟨i, j, rx, ry, q _ F H R (Same.refl _) rfl⟩
  · rename_i a b
    split at e
    · rename_i hz
      cases e
      exact .inr (.inl ⟨a, b, rx, ry, by rw [szL]; exact hz, q _ F H R (Same.refl _) rfl⟩)
    · cases e
  · rename_i a b
    split at e
    · rename_i hz
      cases e
      obtain ⟨l, xs, rfl, h1, r1⟩ := rx
      obtain ⟨m, ys, rfl, h2, r2⟩ := ry
      rw [r1.length, r2.length] at hz
      refine .inr (.inr (.inl ⟨l, m, xs, ys, rfl, rfl, R.fh _ _ h1, R.fh _ _ h2, by rw [szL]; exact hz, fun p np => ?_⟩))
      have sF : Same F (upd F p (.lst (xs ++ ys))) := same_upd (R.fnone np)
      exact q _ _ _ (R.newF np) sF ⟨p, xs ++ ys, rfl, upd_same, (r1.append r2).mono sF⟩
    · cases e
  · rename_i a b
    split at e
    · rename_i hz
      cases e
      obtain ⟨l, xs, rfl, h1, r1⟩ := rx
      obtain ⟨m, ys, rfl, h2, r2⟩ := ry
      have la := r1.length
      have lb := r2.length
      rw [la, lb] at hz
      refine .inr (.inr (.inr ⟨l, m, xs, ys, rfl, rfl, same_SqT R.fh h1, same_SqT R.fh h2, by rw [szL]; exact hz, fun z => ?_, fun z1 z2 => ?_, fun z1 z2 p np => ?_⟩))
      · subst z
        have ea : a = [] := List.eq_nil_of_length_eq_zero (by simpa using la)
        subst ea
        exact q _ F H R (Same.refl _) ⟨m, ys, rfl, h2, r2⟩
      · subst z2
        have eb : b = [] := List.eq_nil_of_length_eq_zero (by simpa using lb)
        subst eb
        exact q _ F H R (Same.refl _) ⟨l, xs, rfl, h1, by rw [List.append_nil]; exact r1⟩
      · have sF : Same F (upd F p (.tup (xs ++ ys))) := same_upd (R.fnone np)
        exact q _ _ _ (R.newF np) sF ⟨p, xs ++ ys, rfl, upd_same, (r1.append r2).mono sF⟩
    · cases e
  · cases e
/-! ### list * int -/
def mulO (x y : T) : Option T := match x, y with
  | .lst a, .int k => if k < 16777216 && a.length * k.toNat ≤ 16777216 && decide (-16777216 ≤ k) then some (.lst (List.replicate k.toNat a).flatten) else none
  | x, y => mulI x y
def rMulT (X : Cx) : R2 := fun x y H Q => rI CMulW (fun i j => .int (i * j)) x y H Q ∨ rRep x y H Q
theorem op_mulT : OpR X (binaryOp .Mult) (rMulT X) := op_mulW.or op_rep
theorem Reps.rep {K : PySem.W.Frag} {mg : Str → Option Value} {F : Hp} {ts : List T} {vs : List V} (r : Reps K mg F ts vs) : ∀ n : Nat, Reps K mg F (List.replicate n ts).flatten (List.replicate n vs).flatten
  | 0 => by simp [Reps]
  | n + 1 => by
    rw [List.replicate_succ, List.replicate_succ, List.flatten_cons, List.flatten_cons]
    exact r.append (r.rep n)
theorem ot_mul : OpT X (rMulT X) mulO := fun k F ρ σ H Q x y t v u R rx ry e q => by
  unfold mulO at e
  split at e
  · rename_i a k
    split at e
    · rename_i hc
      cases e
      rw [Bool.and_eq_true, Bool.and_eq_true] at hc
      have h1 := of_decide_eq_true hc.1.1
      have h2 := of_decide_eq_true hc.1.2
      have h3 := of_decide_eq_true hc.2
      obtain ⟨l, xs, rfl, hl, r1⟩ := rx
      rw [r1.length] at h2
      refine .inr ⟨l, k, xs, rfl, ry, R.fh _ _ hl, by omega, by omega, by rw [szL]; exact h2, fun p np => ?_⟩
      have sF : Same F (upd F p (.lst (List.replicate k.toNat xs).flatten)) := same_upd (R.fnone np)
      exact q _ _ _ (R.newF np) sF ⟨p, _, rfl, upd_same, (r1.rep _).mono sF⟩
    · cases e
  · exact .inl (ot_mulI k F ρ σ H Q x y t v u R rx ry e q)
/-! ### is -/
end
end FL

/-! FL4: tests, displays, subscripts, calls of built-ins. -/
namespace FL
open PySem PySem.Spec L2
section
variable {X : Cx} {E : XK} {a b c e : Expr} {fa fb fc f : M T} {pos : Pos} {es rest : List Expr} {g ga gb : M Bool} {fs : M (List T)}

/-! ### truth -/
def tru (t : T) : Option Bool := match t with
  | .non => some false
  | .bl b => some b
  | .int i => some (i != 0)
  | .str x => if x.length ≤ 16777216 then some ((x.length : Int) != 0) else none
  | .lst ts => some (!ts.isEmpty)
  | .sl ts => some (!ts.isEmpty)
  | .tup ts => some (!ts.isEmpty)
  | _ => none
def truth (f : M T) : M Bool := fun ρ => (f ρ).bind fun t ρ => liftO (tru t) ρ
theorem Reps.isEmpty {K : PySem.W.Frag} {mg : Str → Option Value} {F : Hp} : ∀ {ts : List T} {vs : List V}, Reps K mg F ts vs → (!ts.isEmpty) = !vs.isEmpty
  | [], _, h => by
    have e : _ = _ := h
    subst e; rfl
  | t :: ts, _, h => by
    obtain ⟨v, r, rfl, _, _⟩ := h
    rfl
theorem tru_rep {K : PySem.W.Frag} {mg : Str → Option Value} {F H : Hp} {t : T} {v : V} {k : Bool} (s : Same F H) (r : Rep K mg F t v) (e : tru t = some k) : TruV K v H k := by
  cases t <;> simp only [tru, Option.some.injEq, reduceCtorEq] at e
  · have ev : v = .non := r
    subst ev; exact e.symm
  · have ev : v = .bl _ := r
    subst ev; exact e.symm
  · have ev : v = .int _ := r
    subst ev; exact e.symm
  · have ev : v = .str _ := r
    subst ev
    split at e
    · rename_i hz
      exact ⟨by rw [szL]; exact hz, (Option.some.inj e).symm⟩
    · cases e
  · obtain ⟨p, vs, rfl, h1, h2⟩ := r
    exact .inl ⟨vs, SqL.of (s _ _ h1), by rw [← h2.isEmpty]; exact e.symm⟩
  · obtain ⟨p, vs, rfl, h1, h2⟩ := r
    exact .inr (.inl ⟨vs, same_SqT s h1, by rw [← h2.isEmpty]; exact e.symm⟩)
  · obtain ⟨p, vs, rfl, h1, h2⟩ := r
    exact .inl ⟨vs, same_SqL s h1, by rw [← h2.isEmpty]; exact e.symm⟩
/-- an expression that is no comparison, not, and, or: by its truth -/
theorem ft_val (ha : FE X E a f) (he : ∀ whole, isTrue a X.env whole = (do let v ← whole; standAt a.pos; holding [v] (truthy v)) := by intro _; rfl) : FT X E a (truth f) := by
  refine pt_imp (pt_truth ha he) fun σ H Q h => ?_
  obtain ⟨k, F, ρ, R, h⟩ := h
  refine ⟨k, F, ρ, R, (Den.bind h).imp fun t ρ1 h1 v F1 H1 R1 s1 r1 => ?_⟩
  obtain ⟨b, e, q⟩ := Den.lift h1
  exact ⟨b, tru_rep R1.fh r1 e, q F1 H1 R1 s1⟩

/-! ### and, or, not -/
def andV (fa fb : M T) : M T := fun ρ => (fa ρ).bind fun t ρ => match toB t with
  | some true => fb ρ
  | some false => .ok (.bl false) ρ
  | none => .bad
def notV (fa : M T) : M T := fun ρ => (fa ρ).bind fun t ρ => match toB t with
  | some b => .ok (.bl (!b)) ρ
  | none => .bad
theorem fe_one {op} (h : FE X E a f) : FE X E (.BoolOp op [a] pos) f := pe_one h
theorem fe_and (ha : FE X E a fa) (hb : FE X E (.BoolOp .And (b :: rest) pos) fb) : FE X E (.BoolOp .And (a :: b :: rest) pos) (andV fa fb) := by
  refine pe_imp (pe_and ha hb) fun σ H Q h => ?_
  obtain ⟨k, F, ρ, R, h⟩ := h
  refine ⟨k, F, ρ, R, (Den.bind h).imp fun t ρ1 h1 v F1 H1 R1 s1 r1 => ?_⟩
  split at h1
  · rename_i e
    have e1 := toB_some e
    subst e1
    exact ⟨true, r1, k, F1, ρ1, R1, h1.imp fun t ρ' q v F' H' R' s' r' => q v F' H' R' (s1.trans s') r'⟩
  · rename_i e
    have e1 := toB_some e
    subst e1
    exact ⟨false, r1, h1 _ F1 H1 R1 s1 rfl⟩
  · exact h1.elim
theorem fe_not (ha : FE X E a fa) : FE X E (.UnaryOp .Not a pos) (notV fa) := by
  refine pe_imp (pe_not ha) fun σ H Q h => ?_
  obtain ⟨k, F, ρ, R, h⟩ := h
  refine ⟨k, F, ρ, R, (Den.bind h).imp fun t ρ1 h1 v F1 H1 R1 s1 r1 => ?_⟩
  split at h1
  · rename_i b e
    have e1 := toB_some e
    subst e1
    exact ⟨b, r1, h1 _ F1 H1 R1 s1 rfl⟩
  · exact h1.elim
abbrev FW (X : Cx) (E : XK) (e : Expr) (f : M Bool) : Prop := PW X e (tT X E f)
def andT (ga gb : M Bool) : M Bool := fun ρ => (ga ρ).bind fun b ρ => if b = true then gb ρ else .ok false ρ
def orT (ga gb : M Bool) : M Bool := fun ρ => (ga ρ).bind fun b ρ => if b = true then .ok true ρ else gb ρ
def notT (ga : M Bool) : M Bool := fun ρ => (ga ρ).bind fun b ρ => .ok (!b) ρ
theorem fw_and1 (ha : FT X E a g) : FW X E (.BoolOp .And [a] pos) g := pw_and1 ha
theorem fw_or1 (ha : FT X E a g) : FW X E (.BoolOp .Or [a] pos) g := pw_or1 ha
theorem fw_and (ha : FT X E a ga) (hb : FW X E (.BoolOp .And (b :: rest) pos) gb) : FW X E (.BoolOp .And (a :: b :: rest) pos) (andT ga gb) := by
  refine pw_imp (pw_and ha hb) fun σ H Q h => ?_
  obtain ⟨k, F, ρ, R, h⟩ := h
  refine ⟨k, F, ρ, R, (Den.bind h).imp fun t ρ1 h1 F1 H1 R1 s1 => ?_⟩
  split at h1
  · rename_i e
    rw [if_pos e]
    exact ⟨k, F1, ρ1, R1, h1.imp fun t ρ' q F' H' R' s' => q F' H' R' (s1.trans s')⟩
  · rename_i e
    rw [if_neg e]
    exact h1 F1 H1 R1 s1
theorem fw_or (ha : FT X E a ga) (hb : FW X E (.BoolOp .Or (b :: rest) pos) gb) : FW X E (.BoolOp .Or (a :: b :: rest) pos) (orT ga gb) := by
  refine pw_imp (pw_or ha hb) fun σ H Q h => ?_
  obtain ⟨k, F, ρ, R, h⟩ := h
  refine ⟨k, F, ρ, R, (Den.bind h).imp fun t ρ1 h1 F1 H1 R1 s1 => ?_⟩
  split at h1
  · rename_i e
    rw [if_pos e]
    exact h1 F1 H1 R1 s1
  · rename_i e
    rw [if_neg e]
    exact ⟨k, F1, ρ1, R1, h1.imp fun t ρ' q F' H' R' s' => q F' H' R' (s1.trans s')⟩
theorem ft_w (h : FW X E a g) : FT X E a g := h.pt
theorem ft_not (ha : FT X E a ga) : FT X E (.UnaryOp .Not a pos) (notT ga) := by
  refine pt_imp (pt_not ha) fun σ H Q h => ?_
  obtain ⟨k, F, ρ, R, h⟩ := h
  exact ⟨k, F, ρ, R, (Den.bind h).imp fun t ρ1 h1 F1 H1 R1 s1 => h1 F1 H1 R1 s1⟩
/-- a op1 b op2 c -/
def chn (o o' : T → T → Option T) (fa fb fc : M T) : M T := fun ρ => (fa ρ).bind fun x ρ => (fb ρ).bind fun y ρ => match (o x y).bind toB with
  | some true => (fc ρ).bind fun z ρ => liftO (o' y z) ρ
  | some false => .ok (.bl false) ρ
  | none => .bad
theorem tChain_of {r r' : R2} {o o' : T → T → Option T} (hr : OpT X r o) (hr' : OpT X r' o') {σ : L2.St} {H : Hp} {Q : VK} (h : tE X E (chn o o' fa fb fc) σ H Q) : tChain r r' (tE X E fa) (tE X E fb) (tE X E fc) σ H Q := by
  obtain ⟨k, F, ρ, R, h⟩ := h
  refine ⟨k, F, ρ, R, (Den.bind h).imp fun x ρ1 h1 v F1 H1 R1 s1 r1 => ?_⟩
  refine ⟨k, F1, ρ1, R1, (Den.bind h1).imp fun y ρ2 h2 u F2 H2 R2 s2 r2 => ?_⟩
  split at h2
  · rename_i e
    rw [Option.bind_eq_some_iff] at e
    obtain ⟨t, e1, e2⟩ := e
    have e3 := toB_some e2
    subst e3
    refine hr k F2 ρ2 σ H2 _ x y _ v u R2 (r1.mono s2) r2 e1 fun z F3 H3 R3 s3 r3 => ⟨true, r3, ?_⟩
    rw [if_pos rfl]
    refine ⟨k, F3, ρ2, R3, (Den.bind h2).imp fun z' ρ4 h4 w F4 H4 R4 s4 r4 => ?_⟩
    obtain ⟨t', e', q⟩ := Den.lift h4
    exact hr' k F4 ρ4 σ H4 Q y z' t' u w R4 (r2.mono (s3.trans s4)) r4 e' fun v' F' H' R' s' r' => q v' F' H' R' (s1.trans (s2.trans (s3.trans (s4.trans s')))) r'
  · rename_i e
    rw [Option.bind_eq_some_iff] at e
    obtain ⟨t, e1, e2⟩ := e
    have e3 := toB_some e2
    subst e3
    refine hr k F2 ρ2 σ H2 _ x y _ v u R2 (r1.mono s2) r2 e1 fun z F3 H3 R3 s3 r3 => ⟨false, r3, ?_⟩
    rw [if_neg Bool.false_ne_true]
    exact h2 _ F3 H3 R3 (s1.trans (s2.trans s3)) rfl
  · exact h2.elim
theorem fe_chain {op op' : CmpOp} {r r' : R2} {o o' : T → T → Option T} (ho : OpR X (compareOp op) r) (hr : OpT X r o) (ho' : OpR X (compareOp op') r') (hr' : OpT X r' o') (ha : FE X E a fa) (hb : FE X E b fb) (hc : FE X E c fc)
    (hm : lastMarks [op, op'] [b, c] = false := by with_unfolding_all rfl) : FE X E (.Compare a [op, op'] [b, c] pos) (chn o o' fa fb fc) := pe_imp (pe_chain ho ho' ha hb hc hm) fun σ H Q h => tChain_of hr hr' h
/-! ### - of ints -/
def negO (x : T) : Option T := match x with
  | .int i => some (.int (-i))
  | _ => none
theorem fe_neg (ha : FE X E a fa) : FE X E (.UnaryOp .USub a pos) (op1 negO fa) := by
  refine pe_imp (pe_un un_neg ha) fun σ H Q h => ?_
  obtain ⟨k, F, ρ, R, h⟩ := h
  refine ⟨k, F, ρ, R, (Den.bind h).imp fun x ρ1 h1 v F1 H1 R1 s1 r1 => ?_⟩
  obtain ⟨t, e, q⟩ := Den.lift h1
  unfold negO at e
  split at e
  · rename_i i
    cases e
    exact ⟨i, r1, q _ F1 H1 R1 s1 rfl⟩
  · cases e

/-! ### lists of expressions; displays -/
def rdNil : M (List T) := fun ρ => .ok [] ρ
def rdCons (f : M T) (fs : M (List T)) : M (List T) := fun ρ => (f ρ).bind fun x ρ => (fs ρ).bind fun xs ρ => .ok (x :: xs) ρ
theorem fa_nil : FA X E [] rdNil := pa_imp pa_nil fun σ H Q ⟨k, F, ρ, R, h⟩ => h _ F H R (Same.refl _) rfl
theorem fa_cons (ha : FE X E e f) (hr : FA X E es fs) (hs : starEach (e :: es) X.env = (false, eval e X.env) :: starEach es X.env := by rfl) : FA X E (e :: es) (rdCons f fs) := by
  refine pa_imp (pa_cons ha hr hs) fun σ H Q h => ?_
  obtain ⟨k, F, ρ, R, h⟩ := h
  refine ⟨k, F, ρ, R, (Den.bind h).imp fun x ρ1 h1 v F1 H1 R1 s1 r1 => ?_⟩
  refine ⟨k, F1, ρ1, R1, (Den.bind h1).imp fun xs ρ2 h2 vs F2 H2 R2 s2 r2 => ?_⟩
  exact h2 _ F2 H2 R2 (s1.trans s2) (.cons (r1.mono s2) r2)
def calF (o : List T → Option T) (fs : M (List T)) : M T := fun ρ => (fs ρ).bind fun ts ρ => liftO (o ts) ρ
def calO (o : List T → Option O) (fs : M (List T)) : M O := fun ρ => (fs ρ).bind fun ts ρ => liftO (o ts) ρ
def tupO (ts : List T) : Option T := if ts.length ≤ 16777216 then some (.tup ts) else none
def newL (ts : List T) : Option O := if ts.length ≤ 16777216 then some (.l ts) else none
theorem fe_tup {x1} (h : FA X E es fs) : FE X E (.Tuple es x1 pos) (calF tupO fs) := by
  refine pe_imp (pe_tup h) fun σ H Q h => ?_
  obtain ⟨k, F, ρ, R, h⟩ := h
  refine ⟨k, F, ρ, R, (Den.bind h).imp fun ts ρ1 h1 vs F1 H1 R1 s1 r1 => ?_⟩
  obtain ⟨t, e, q⟩ := Den.lift h1
  unfold tupO at e
  split at e
  · rename_i hz
    cases e
    rw [r1.length] at hz
    refine ⟨by rw [szL]; exact hz, fun p np => ?_⟩
    have sF : Same F1 (upd F1 p (.tup vs)) := same_upd (R1.fnone np)
    exact q _ _ _ (R1.newF np) (s1.trans sF) ⟨p, vs, rfl, upd_same, r1.mono sF⟩
  · cases e
theorem fo_lst (h : FA X E es fs) : FO X E (.List es pos) (calO newL fs) := by
  refine pe_imp (pe_lst h) fun σ H Q h => ?_
  obtain ⟨k, F, ρ, R, h⟩ := h
  refine ⟨k, F, ρ, R, (Den.bind h).imp fun ts ρ1 h1 vs F1 H1 R1 s1 r1 => ?_⟩
  obtain ⟨t, e, q⟩ := Den.lift h1
  unfold newL at e
  split at e
  · rename_i hz
    cases e
    rw [r1.length] at hz
    exact ⟨by rw [szL]; exact hz, fun p np => q _ F1 _ (R1.newO (o := .l ts) ⟨vs, rfl, r1⟩ np) s1 R1.len⟩
  · cases e
/-- a new object becomes a tree -/
def frzO (o : O) : T := match o with
  | .l ts => .lst ts
  | .dk ks vs => .dk ks vs
  | .dt ks vs => .dt ks vs
def frzM (f : M O) : M T := fun ρ => (f ρ).bind fun o ρ => .ok (frzO o) ρ
theorem rep_frz {K : PySem.W.Frag} {mg : Str → Option Value} {F : Hp} {o : O} {h : HO} {p : Addr} (n : F p = none) (r : ORep K mg F o h) : Rep K mg (upd F p h) (frzO o) (.ref p) := by
  have sF : Same F (upd F p h) := same_upd n
  cases o with
  | l ts => obtain ⟨vs, rfl, r⟩ := r; exact ⟨p, vs, rfl, upd_same, r.mono sF⟩
  | dk ks ts => obtain ⟨kvs, rfl, e, r⟩ := r; exact ⟨p, kvs, rfl, upd_same, e, r.mono sF⟩
  | dt ks ts => obtain ⟨kvs, rfl, e, r⟩ := r; exact ⟨p, kvs, rfl, upd_same, e, r.mono sF⟩
theorem fe_new {fo : M O} (h : FO X E e fo) : FE X E e (frzM fo) := by
  refine pe_imp h fun σ H Q h => ?_
  obtain ⟨k, F, ρ, R, h⟩ := h
  refine ⟨k, F, ρ, R, (Den.bind h).imp fun o ρ1 h1 v F1 H1 R1 s1 l1 => ?_⟩
  obtain ⟨p, ho, rfl, fp, bp, npm, hp, ro, R0⟩ := RS.aside R1 l1
  refine h1 _ _ _ ?_ (s1.trans (same_upd fp)) (rep_frz fp ro)
  have sF : Same F1 (upd F1 p ho) := same_upd fp
  obtain ⟨α, g1, g2⟩ := R0.ex
  refine ⟨R0.len, fun a u e => ?_, (same_upd bp).trans R0.bh, R0.f0.trans sF, fun a u e => ?_, R0.pt, (R0.tb.lessB (same_upd bp)).updF2 hp ro.plain, α, fun j y hy => ?_, g2⟩
  · by_cases ha : a = p
    · subst ha; rw [upd_same] at e; cases e; exact hp
    · rw [upd_ne ha] at e; exact R0.fh _ _ e
  · by_cases ha : a = p
    · subst ha; exact .inr (.inl bp)
    · rw [upd_ne ha] at e
      rcases R0.fr a u e with q | q
      · exact .inl q
      · exact .inr (q.imp (fun q => by rw [upd_ne ha] at q; exact q) id)
  · have q := g1 j y hy
    have far : ∀ a, upd k.B p ho a = none → a ≠ p ∧ k.B a = none := fun a e => by
      have ne : a ≠ p := fun z => by subst z; rw [upd_same] at e; cases e
      rw [upd_ne ne] at e
      exact ⟨ne, e⟩
    cases y with
    | un => trivial
    | fz t => obtain ⟨v', a, b⟩ := q; exact ⟨v', a, b.mono sF⟩
    | raw n => obtain ⟨v', a, b⟩ := q; exact ⟨v', a, b⟩
    | ow o' => obtain ⟨a, b, c, d, u, e1, e2⟩ := q; exact ⟨a, by rw [upd_ne (far _ c).1]; exact b, (far _ c).2, d, u, e1, e2.mono sF⟩
    | pa o' => obtain ⟨a, b, c, d, u, e1, e2⟩ := q; exact ⟨a, by rw [upd_ne (far _ c).1]; exact b, (far _ c).2, d, u, e1, e2.mono sF⟩

/-! ### a[i] -/
def idx (n : Nat) (i : Int) : Option Nat := if 0 ≤ i then (if i < n then some i.toNat else none) else if -(n : Int) ≤ i then some (i + n).toNat else none
theorem idx_eq (n : Nat) (i : Int) : idx n i = ixN n i := rfl
def atT (xs : List T) (i : Int) : Option T := (idx xs.length i).bind fun j => xs[j]?
def ixO (x y : T) : Option T := match x, y with
  | .lst a, .int i => atT a i
  | .sl a, .int i => atT a i
  | .tup a, .int i => atT a i
  | .str z, .int i => if z.length ≤ 16777216 then (L2.atI z.cps.toList i).map fun c => .str ⟨#[c]⟩ else none
  | _, _ => none
theorem atT_rep {K : PySem.W.Frag} {mg : Str → Option Value} {F : Hp} {ts : List T} {vs : List V} {i : Int} {t : T} (r : Reps K mg F ts vs) (e : atT ts i = some t) : ∃ v, atI vs i = some v ∧ Rep K mg F t v := by
  unfold atT at e
  rw [Option.bind_eq_some_iff] at e
  obtain ⟨j, h1, h2⟩ := e
  obtain ⟨v, h3, h4⟩ := r.get h2
  refine ⟨v, ?_, h4⟩
  unfold atI
  rw [← r.length, ← idx_eq, h1]
  exact h3
theorem ot_ix : OpT X (rIx X.K) ixO := fun k F ρ σ H Q x y t v u R rx ry e q => by
  unfold ixO at e
  split at e
  · rename_i ts i
    obtain ⟨p, vs, rfl, h1, r⟩ := rx
    obtain ⟨w, h2, h3⟩ := atT_rep r e
    exact .inl ⟨p, vs, i, w, rfl, ry, SqL.of (R.fh _ _ h1), h2, q _ F H R (Same.refl _) h3⟩
  · rename_i ts i
    obtain ⟨p, vs, rfl, h1, r⟩ := rx
    obtain ⟨w, h2, h3⟩ := atT_rep r e
    exact .inl ⟨p, vs, i, w, rfl, ry, same_SqL R.fh h1, h2, q _ F H R (Same.refl _) h3⟩
  · rename_i ts i
    obtain ⟨p, vs, rfl, h1, r⟩ := rx
    obtain ⟨w, h2, h3⟩ := atT_rep r e
    exact .inr (.inl ⟨p, vs, i, w, rfl, ry, same_SqT R.fh h1, h2, q _ F H R (Same.refl _) h3⟩)
  · rename_i z i
    split at e
    · rename_i hz
      rw [Option.map_eq_some_iff] at e
      obtain ⟨c, h1, rfl⟩ := e
      exact .inr (.inr ⟨z, i, c, rx, ry, by rw [szL]; exact hz, h1, q _ F H R (Same.refl _) rfl⟩)
    · cases e
  · cases e
theorem fe_ix (ha : FE X E a fa) (hb : FE X E b fb) (hs : PlainIx b := by intro _ _; rfl) : FE X E (.Subscript a b pos) (op2 ixO fa fb) := pe_imp (pe_ix ix_seq ha hb hs) fun σ H Q h => tOp_of ot_ix h
/-! ### calls of built-ins -/
def CalT (X : Cx) (r : List V → Hp → VK → Prop) (o : List T → Option T) : Prop := ∀ (k : Bk) (F : Hp) (ρ : Env) (σ : L2.St) (H : Hp) (Q : VK) (ts : List T) (t : T) (vs : List V), RSk X k F ρ σ H → Reps X.K X.mg F ts vs → o ts = some t → Go X k F ρ σ t Q → r vs H Q
theorem tCB_of {r : List V → Hp → VK → Prop} {o : List T → Option T} (hr : CalT X r o) {σ : L2.St} {H : Hp} {Q : VK} (h : tE X E (calF o fs) σ H Q) : tCB r (tA X E fs) σ H Q := by
  obtain ⟨k, F, ρ, R, h⟩ := h
  refine ⟨k, F, ρ, R, (Den.bind h).imp fun ts ρ1 h1 vs F1 H1 R1 s1 r1 => ?_⟩
  obtain ⟨t, e, q⟩ := Den.lift h1
  exact hr k F1 ρ1 σ H1 Q ts t vs R1 r1 e fun v' F' H' R' s' r' => q v' F' H' R' (s1.trans s') r'
theorem fe_callB {x : Str} {id : String} {p : Pos} {r : List V → Hp → VK → Prop} {o : List T → Option T} (hc : CallR X (.builtin id) r) (hr : CalT X r o) (hg : Gl X x) (hm : X.mg x = none) (hv : bootBuiltins x = some (.builtin id)) (ha : FA X E (e :: es) fs) (hn : x ≠ "__name__" := by decide) (hdb : (x == ("__debug__" : Str)) = false := by decide)
    (he : starEach (e :: es) X.env = (false, eval e X.env) :: starEach es X.env := by rfl) (hpl : (backTo pos (starEach es X.env)).any (·.1) = false := by rfl) : FE X E (.Call (.Name x p) (e :: es) [] pos) (calF o fs) :=
  pe_imp (pe_callB hc hg hm hv ha hn hdb he hpl) fun σ H Q h => tCB_of hr h
theorem fe_callTy {x : Str} {id : String} {p : Pos} {r : List V → Hp → VK → Prop} {o : List T → Option T} (hc : CallR X (.type id) r) (hr : CalT X r o) (hg : Gl X x) (hm : X.mg x = none) (hv : bootBuiltins x = some (.type id)) (ha : FA X E (e :: es) fs) (hn : x ≠ "__name__" := by decide) (hdb : (x == ("__debug__" : Str)) = false := by decide)
    (he : starEach (e :: es) X.env = (false, eval e X.env) :: starEach es X.env := by rfl) (hpl : (backTo pos (starEach es X.env)).any (·.1) = false := by rfl) : FE X E (.Call (.Name x p) (e :: es) [] pos) (calF o fs) :=
  pe_imp (pe_callTy hc hg hm hv ha hn hdb he hpl) fun σ H Q h => tCB_of hr h
theorem Reps.one_of {K : PySem.W.Frag} {mg : Str → Option Value} {F : Hp} {t : T} {vs : List V} (r : Reps K mg F [t] vs) : ∃ v, vs = [v] ∧ Rep K mg F t v := by
  obtain ⟨v, w, rfl, h, h2⟩ := r
  have e : w = [] := h2
  subst e
  exact ⟨v, rfl, h⟩
theorem Reps.two_of {K : PySem.W.Frag} {mg : Str → Option Value} {F : Hp} {t u : T} {vs : List V} (r : Reps K mg F [t, u] vs) : ∃ v w, vs = [v, w] ∧ Rep K mg F t v ∧ Rep K mg F u w := by
  obtain ⟨v, w, rfl, h, h2⟩ := r
  obtain ⟨w', e, h3⟩ := h2.one_of
  subst e
  exact ⟨v, w', rfl, h, h3⟩
/-- len -/
def lenO (ts : List T) : Option T := match ts with
  | [.lst a] => some (.int a.length)
  | [.sl a] => some (.int a.length)
  | [.tup a] => some (.int a.length)
  | [.str z] => if z.length ≤ 16777216 then some (.int z.length) else none
  | _ => none
def rLenT (X : Cx) : List V → Hp → VK → Prop := fun xs H Q => ∃ x n, xs = [x] ∧ LenV X.K x H n ∧ Q (.int n) H
theorem ct_len : CalT X (rLenT X) lenO := fun k F ρ σ H Q ts t vs R rs e q => by
  unfold lenO at e
  split at e
  · cases e
    obtain ⟨v, rfl, p, ws, rfl, h1, h2⟩ := rs.one_of
    exact ⟨.ref p, ws.length, rfl, .inl ⟨ws, SqL.of (R.fh _ _ h1), rfl⟩, q _ F H R (Same.refl _) (by rw [h2.length]; rfl)⟩
  · cases e
    obtain ⟨v, rfl, p, ws, rfl, h1, h2⟩ := rs.one_of
    exact ⟨.ref p, ws.length, rfl, .inl ⟨ws, same_SqL R.fh h1, rfl⟩, q _ F H R (Same.refl _) (by rw [h2.length]; rfl)⟩
  · cases e
    obtain ⟨v, rfl, p, ws, rfl, h1, h2⟩ := rs.one_of
    exact ⟨.ref p, ws.length, rfl, .inr ⟨ws, same_SqT R.fh h1, rfl⟩, q _ F H R (Same.refl _) (by rw [h2.length]; rfl)⟩
  · rename_i z
    split at e
    · rename_i hz
      cases e
      obtain ⟨v, rfl, h⟩ := rs.one_of
      have ev : v = .str z := h
      subst ev
      exact ⟨.str z, z.length, rfl, ⟨by rw [szL]; exact hz, rfl⟩, q _ F H R (Same.refl _) rfl⟩
    · cases e
  · cases e
def abs1O (ts : List T) : Option T := match ts with
  | [.int i] => some (.int (if i < 0 then -i else i))
  | _ => none
theorem ct_abs : CalT X (fun xs H Q => ∃ i, xs = [.int i] ∧ Q (.int (if i < 0 then -i else i)) H) abs1O := fun k F ρ σ H Q ts t vs R rs e q => by
  unfold abs1O at e
  split at e
  · rename_i i
    cases e
    obtain ⟨v, rfl, h⟩ := rs.one_of
    have ev : v = .int i := h
    subst ev
    exact ⟨i, rfl, q _ F H R (Same.refl _) rfl⟩
  · cases e
def min2O (ts : List T) : Option T := match ts with
  | [.int i, .int j] => some (.int (if j < i then j else i))
  | _ => none
theorem ct_min2 : CalT X (fun xs H Q => ∃ i j, xs = [.int i, .int j] ∧ Q (.int (if j < i then j else i)) H) min2O := fun k F ρ σ H Q ts t vs R rs e q => by
  unfold min2O at e
  split at e
  · rename_i i j
    cases e
    obtain ⟨v, w, rfl, h, h'⟩ := rs.two_of
    have ev : v = .int i := h
    have ew : w = .int j := h'
    subst ev ew
    exact ⟨i, j, rfl, q _ F H R (Same.refl _) rfl⟩
  · cases e
/-- tuple(x), list(x) -/
def tuple1O (ts : List T) : Option T := match ts with
  | [.lst a] => some (.tup a)
  | [.sl a] => some (.tup a)
  | [.tup a] => some (.tup a)
  | _ => none
theorem ct_tuple : CalT X (fun xs H Q => ∃ p ys, xs = [.ref p] ∧ ((SqL X.K H p ys ∧ ∀ l, H l = none → Q (.ref l) (upd H l (.tup ys))) ∨ (SqT X.K H p ys ∧ Q (.ref p) H))) tuple1O := fun k F ρ σ H Q ts t vs R rs e q => by
  unfold tuple1O at e
  have fin : ∀ (a : List T) (ws : List V), t = .tup a → Reps X.K X.mg F a ws → ∀ l, H l = none → Q (.ref l) (upd H l (.tup ws)) := fun a ws et r l nl => by
    subst et
    have sF : Same F (upd F l (.tup ws)) := same_upd (R.fnone nl)
    exact q _ _ _ (R.newF nl) sF ⟨l, ws, rfl, upd_same, r.mono sF⟩
  split at e
  · cases e
    obtain ⟨v, rfl, p, ws, rfl, h1, h2⟩ := rs.one_of
    exact ⟨p, ws, rfl, .inl ⟨SqL.of (R.fh _ _ h1), fin _ ws rfl h2⟩⟩
  · cases e
    obtain ⟨v, rfl, p, ws, rfl, h1, h2⟩ := rs.one_of
    exact ⟨p, ws, rfl, .inl ⟨same_SqL R.fh h1, fin _ ws rfl h2⟩⟩
  · cases e
    obtain ⟨v, rfl, p, ws, rfl, h1, h2⟩ := rs.one_of
    exact ⟨p, ws, rfl, .inr ⟨same_SqT R.fh h1, q _ F H R (Same.refl _) ⟨p, ws, rfl, h1, h2⟩⟩⟩
  · cases e
def seqT (t : T) : Option (List T) := match t with
  | .lst a => some a
  | .sl a => some a
  | .tup a => some a
  | _ => none
theorem seqT_rep {K : PySem.W.Frag} {mg : Str → Option Value} {F H : Hp} {t : T} {a : List T} {v : V} (s : Same F H) (r : Rep K mg F t v) (e : seqT t = some a) : ∃ p ws, v = .ref p ∧ (SqL K H p ws ∨ SqT K H p ws) ∧ Reps K mg F a ws := by
  cases t <;> simp only [seqT, Option.some.injEq, reduceCtorEq] at e
  · subst e; obtain ⟨p, ws, rfl, h1, h2⟩ := r; exact ⟨p, ws, rfl, .inl (SqL.of (s _ _ h1)), h2⟩
  · subst e; obtain ⟨p, ws, rfl, h1, h2⟩ := r; exact ⟨p, ws, rfl, .inr (same_SqT s h1), h2⟩
  · subst e; obtain ⟨p, ws, rfl, h1, h2⟩ := r; exact ⟨p, ws, rfl, .inl (same_SqL s h1), h2⟩
/-- all, any of a list of truth values -/
def blsT : List T → Option (List Bool)
  | [] => some []
  | .bl b :: ts => (blsT ts).map (b :: ·)
  | _ :: _ => none
theorem blsT_rep {K : PySem.W.Frag} {mg : Str → Option Value} {F : Hp} : ∀ {ts : List T} {bs : List Bool} {vs : List V}, Reps K mg F ts vs → blsT ts = some bs → vs = bs.map V.bl
  | [], bs, vs, r, e => by
    have ev : vs = [] := r
    simp only [blsT, Option.some.injEq] at e
    subst ev e; rfl
  | t :: ts, bs, vs, r, e => by
    obtain ⟨v, w, rfl, h1, h2⟩ := r
    cases t <;> simp only [blsT, reduceCtorEq] at e
    rw [Option.map_eq_some_iff] at e
    obtain ⟨bs', e, rfl⟩ := e
    have ev : v = .bl _ := h1
    subst ev
    rw [blsT_rep h2 e]; rfl
def all1O (ts : List T) : Option T := match ts with
  | [.lst a] => (blsT a).map fun bs => .bl (bs.all id)
  | _ => none
theorem ct_all : CalT X (rAll X.K) all1O := fun k F ρ σ H Q ts t vs R rs e q => by
  unfold all1O at e
  split at e
  · rw [Option.map_eq_some_iff] at e
    obtain ⟨bs, e, rfl⟩ := e
    obtain ⟨v, rfl, p, ws, rfl, h1, h2⟩ := rs.one_of
    have ew := blsT_rep h2 e
    subst ew
    exact ⟨p, bs, rfl, SqL.of (R.fh _ _ h1), q _ F H R (Same.refl _) rfl⟩
  · cases e
/-- sum, max, min of a list of ints -/
def intsT : List T → Option (List Int)
  | [] => some []
  | .int b :: ts => (intsT ts).map (b :: ·)
  | _ :: _ => none
theorem intsT_rep {K : PySem.W.Frag} {mg : Str → Option Value} {F : Hp} : ∀ {ts : List T} {bs : List Int} {vs : List V}, Reps K mg F ts vs → intsT ts = some bs → vs = bs.map V.int
  | [], bs, vs, r, e => by
    have ev : vs = [] := r
    simp only [intsT, Option.some.injEq] at e
    subst ev e; rfl
  | t :: ts, bs, vs, r, e => by
    obtain ⟨v, w, rfl, h1, h2⟩ := r
    cases t <;> simp only [intsT, reduceCtorEq] at e
    rw [Option.map_eq_some_iff] at e
    obtain ⟨bs', e, rfl⟩ := e
    have ev : v = .int _ := h1
    subst ev
    rw [intsT_rep h2 e]; rfl
end
end FL

/-! FL5: statements, loops, comprehensions, calls of defs. -/
namespace FL
open PySem PySem.Spec L2

/-! ### a tree or a new object -/
inductive VO where
  | tr (t : T) | ob (o : O)
def VO.sv : VO → SV
  | .tr t => .fz t
  | .ob o => .ow o
def tX (X : Cx) (E : XK) (f : M VO) : TE := fun σ H Q => ∃ k F ρ, RSk X k F ρ σ H ∧ Den (f ρ) (fun x ρ' => ∀ v F' H', RSk X k F' (ρ' ++ [x.sv]) (σ ++ [some v]) H' → Same F F' → ρ'.length = σ.length → Q v H') (XOk X.K X.mg k E)
def tXs (X : Cx) (E : XK) (f : M (List VO)) : TA := fun σ H Q => ∃ k F ρ, RSk X k F ρ σ H ∧ Den (f ρ) (fun xs ρ' => ∀ vs F' H', RSk X k F' (ρ' ++ xs.map VO.sv) (σ ++ vs.map some) H' → Same F F' → ρ'.length = σ.length → vs.length = xs.length → Q vs H') (XOk X.K X.mg k E)
abbrev FX (X : Cx) (E : XK) (e : Expr) (f : M VO) : Prop := PE X e (tX X E f)
abbrev FXs (X : Cx) (E : XK) (es : List Expr) (f : M (List VO)) : Prop := PA X es (tXs X E f)
def asT (f : M T) : M VO := fun ρ => (f ρ).bind fun t ρ => .ok (.tr t) ρ
def asO (f : M O) : M VO := fun ρ => (f ρ).bind fun o ρ => .ok (.ob o) ρ
section
variable {X : Cx} {E : XK} {e : Expr} {es : List Expr} {pos : Pos} {f : M T} {fo : M O} {fx : M VO} {fs : M (List VO)}
theorem fx_t (h : FE X E e f) : FX X E e (asT f) := by
  refine pe_imp h fun σ H Q h => ?_
  obtain ⟨k, F, ρ, R, h⟩ := h
  refine ⟨k, F, ρ, R, (Den.bind h).imp fun t ρ1 h1 v F1 H1 R1 s1 r1 => h1 v F1 H1 ?_ s1 R1.len⟩
  have R2 : RSk X k F1 (ρ1 ++ []) (σ ++ []) H1 := by rw [List.append_nil, List.append_nil]; exact R1
  exact R2.insF R1.len r1
theorem fx_o (h : FO X E e fo) : FX X E e (asO fo) := by
  refine pe_imp h fun σ H Q h => ?_
  obtain ⟨k, F, ρ, R, h⟩ := h
  exact ⟨k, F, ρ, R, (Den.bind h).imp fun o ρ1 h1 v F1 H1 R1 s1 l1 => h1 v F1 H1 R1 s1 l1⟩
def xsNil : M (List VO) := fun ρ => .ok [] ρ
def xsCons (f : M VO) (fs : M (List VO)) : M (List VO) := fun ρ => (f ρ).bind fun x ρ => (fs ρ).bind fun xs ρ => .ok (x :: xs) ρ
theorem fxs_nil : FXs X E [] xsNil := pa_imp pa_nil fun σ H Q ⟨k, F, ρ, R, h⟩ => h [] F H (by simpa using R) (Same.refl _) R.len rfl
theorem fxs_cons (ha : FX X E e fx) (hr : FXs X E es fs) (hs : starEach (e :: es) X.env = (false, eval e X.env) :: starEach es X.env := by rfl) : FXs X E (e :: es) (xsCons fx fs) := by
  refine pa_imp (pa_cons ha hr hs) fun σ H Q h => ?_
  obtain ⟨k, F, ρ, R, h⟩ := h
  refine ⟨k, F, ρ, R, (Den.bind h).imp fun x ρ1 h1 v F1 H1 R1 s1 l1 => ?_⟩
  cases x with
  | tr t =>
    have R1' : RSk X k F1 (ρ1 ++ [SV.fz t]) (σ ++ [some v]) H1 := R1
    -- the tree at the end, and the state without it
    obtain ⟨α, g1, g2⟩ := R1'.ex
    have e0 : (ρ1 ++ [SV.fz t])[ρ1.length]? = some (.fz t) := by simp
    obtain ⟨v', ev, rv⟩ := g1 ρ1.length _ e0
    have ev' : v' = v := by
      rw [l1] at ev
      simpa using ev.symm
    subst ev'
    have up : ∀ j y, ρ1[j]? = some y → (ρ1 ++ [SV.fz t])[j]? = some y ∧ j < ρ1.length := fun j y hy => by
      have hj := (List.getElem?_eq_some_iff.mp hy).1
      exact ⟨by rw [List.getElem?_append_left hj]; exact hy, hj⟩
    have R0 : RSk X k F1 ρ1 σ H1 := by
      refine ⟨l1, R1.fh, R1.bh, R1.f0, R1.fr, R1.pt, R1.tb, α, fun j y hy => ?_, fun j m y z hy hz => g2 j m y z (up j y hy).1 (up m z hz).1⟩
      have q := g1 j y (up j y hy).1
      have es : (σ ++ [some v'])[j]? = σ[j]? := List.getElem?_append_left (by have := (up j y hy).2; omega)
      cases y with
      | un => trivial
      | fz t => obtain ⟨w, a, b⟩ := q; exact ⟨w, es ▸ a, b⟩
      | raw n => obtain ⟨w, a, b⟩ := q; exact ⟨w, es ▸ a, b⟩
      | ow o => obtain ⟨a, b⟩ := q; exact ⟨es ▸ a, b⟩
      | pa o => obtain ⟨a, b⟩ := q; exact ⟨es ▸ a, b⟩
    refine ⟨k, F1, ρ1, R0, (Den.bind h1).imp fun xs ρ2 h2 vs F2 H2 R2 s2 l2 lx => ?_⟩
    exact h2 (v' :: vs) F2 H2 (R2.insF l2 (rv.mono s2)) (s1.trans s2) l2 (by simp [lx])
  | ob o =>
    obtain ⟨p, ho, rfl, fp, bp, npm, hp, ro, R0⟩ := RS.aside R1 l1
    have f0 : k.F0 p = none := R1.f0.free fp
    refine ⟨⟨upd k.B p ho, k.F0, k.pm, k.rw⟩, F1, ρ1, R0, ?_⟩
    have go : Den (fs ρ1) (fun xs ρ2 => ∀ vs F2 H2, RS X.K X.mg (upd k.B p ho) k.F0 k.pm k.rw F2 (ρ2 ++ xs.map VO.sv) (σ ++ vs.map some) H2 → Same F1 F2 → ρ2.length = σ.length → vs.length = xs.length → Q (.ref p :: vs) H2) (XOk X.K X.mg ⟨upd k.B p ho, k.F0, k.pm, k.rw⟩ E) := by
      have h2 := Den.bind h1
      cases e : fs ρ1 with
      | bad => rw [e] at h2; exact h2
      | exc x =>
        rw [e] at h2
        have h3 : XOk X.K X.mg k E x := h2
        have sB : Same k.B (upd k.B p ho) := same_upd bp
        obtain ⟨c, a⟩ := x
        cases a with
        | none => exact fun C H' m s => h3 C H' m ⟨sB.trans s.1, s.2⟩
        | some a => exact fun C d v F' H' m s s' => h3 C d v F' H' m ⟨sB.trans s.1, s.2⟩ s'
      | ok xs ρ2 =>
        rw [e] at h2
        intro vs F2 H2 R2 s2 l2 lx
        exact h2 (.ref p :: vs) F2 H2 (RS.back R2 l2 f0 bp npm (ro.mono s2)) (s1.trans s2) l2 (by simp [lx])
    exact go
end

/-! ### statements -/
inductive Fl where
  | nx | rt (t : T) | bk | ct
abbrev MS := M Fl
def Post (X : Cx) (k : Bk) (F : Hp) (D : Ends) (fl : Fl) (ρ' : Env) : Prop := match fl with
  | .nx => ∀ σ' F' H', RSk X k F' ρ' σ' H' → Same F F' → D.nx σ' H'
  | .bk => ∀ σ' F' H', RSk X k F' ρ' σ' H' → Same F F' → D.bk σ' H'
  | .ct => ∀ σ' F' H', RSk X k F' ρ' σ' H' → Same F F' → D.ct σ' H'
  | .rt t => ∀ v σ' F' H', RSk X k F' ρ' σ' H' → Same F F' → Rep X.K X.mg F' t v → D.rt v H'
theorem Post.mono {X : Cx} {k : Bk} {F F1 : Hp} {D : Ends} {fl : Fl} {ρ : Env} (s : Same F F1) (h : Post X k F D fl ρ) : Post X k F1 D fl ρ := by
  cases fl with
  | nx => exact fun σ' F' H' R s' => h σ' F' H' R (s.trans s')
  | bk => exact fun σ' F' H' R s' => h σ' F' H' R (s.trans s')
  | ct => exact fun σ' F' H' R s' => h σ' F' H' R (s.trans s')
  | rt t => exact fun v σ' F' H' R s' => h v σ' F' H' R (s.trans s')
def tS (X : Cx) (E : XK) (f : MS) : TS := fun D σ H => ∃ k F ρ, RSk X k F ρ σ H ∧ Den (f ρ) (Post X k F D) (XOk X.K X.mg k E)
abbrev FS (X : Cx) (E : XK) (st : Stmt) (f : MS) : Prop := PS X st (tS X E f)
abbrev FSs (X : Cx) (E : XK) (st : List Stmt) (f : MS) : Prop := PSs X st (tS X E f)
theorem pss_imp {X : Cx} {e : List Stmt} {t t' : TS} (h : PSs X e t) (i : ∀ D σ H, t' D σ H → t D σ H) : PSs X e t' := ⟨fun pins s σ H D I q => h.run pins s σ H D I (i _ _ _ q)⟩
def skip : MS := fun ρ => .ok .nx ρ
def sq (f g : MS) : MS := fun ρ => (f ρ).bind fun fl ρ => match fl with
  | .nx => g ρ
  | .rt t => .ok (.rt t) ρ
  | .bk => .ok .bk ρ
  | .ct => .ok .ct ρ
section
variable {X : Cx} {E : XK} {e : Expr} {es : List Expr} {pos : Pos} {f : M T} {fo : M O} {fx : M VO} {fs : M (List VO)} {st : Stmt} {sts a b : List Stmt} {s1 s2 s3 : MS} {g : M Bool} {c : Expr}
theorem fs_nil : FSs X E [] skip := pss_imp pss_nil fun D σ H ⟨k, F, ρ, R, h⟩ => h σ F H R (Same.refl _)
theorem fs_cons (h1 : FS X E st s1) (h2 : FSs X E sts s2) : FSs X E (st :: sts) (sq s1 s2) := by
  refine pss_imp (pss_cons h1 h2) fun D σ H h => ?_
  obtain ⟨k, F, ρ, R, h⟩ := h
  refine ⟨k, F, ρ, R, (Den.bind h).imp fun fl ρ1 h1 => ?_⟩
  cases fl with
  | nx => exact fun σ' F' H' R' s' => ⟨k, F', ρ1, R', (show Den (s2 ρ1) (Post X k F D) (XOk X.K X.mg k E) from h1).imp fun fl ρ2 q => q.mono s'⟩
  | bk => exact h1
  | ct => exact h1
  | rt t => exact h1
theorem fs_one (h1 : FS X E st s1) : FSs X E [st] s1 := pss_one h1
def bad : MS := fun _ => .bad
theorem fss_never : FSs X E sts bad := pss_imp pss_never fun D σ H ⟨k, F, ρ, R, h⟩ => h
def sRet (f : M T) : MS := fun ρ => (f ρ).bind fun t ρ => .ok (.rt t) ρ
theorem fs_ret (h : FE X E e f) : FS X E (.Return (some e) pos) (sRet f) := by
  refine ps_imp (ps_ret h) fun D σ H h => ?_
  obtain ⟨k, F, ρ, R, h⟩ := h
  exact ⟨k, F, ρ, R, (Den.bind h).imp fun t ρ1 h1 v F1 H1 R1 s1 r1 => h1 v σ F1 H1 R1 s1 r1⟩
def sIf (g : M Bool) (s1 s2 : MS) : MS := fun ρ => (g ρ).bind fun b ρ => if b = true then s1 ρ else s2 ρ
theorem fs_if (hc : FT X E c g) (ha : FSs X E a s1) (hb : FSs X E b s2) : FS X E (.If c a b pos) (sIf g s1 s2) := by
  refine ps_imp (ps_if hc ha hb) fun D σ H h => ?_
  obtain ⟨k, F, ρ, R, h⟩ := h
  refine ⟨k, F, ρ, R, (Den.bind h).imp fun t ρ1 h1 F1 H1 R1 s1 => ?_⟩
  split at h1
  · rename_i e
    rw [if_pos e]
    exact ⟨k, F1, ρ1, R1, h1.imp fun _ _ q => q.mono s1⟩
  · rename_i e
    rw [if_neg e]
    exact ⟨k, F1, ρ1, R1, h1.imp fun _ _ q => q.mono s1⟩
/-- an expression for its effect -/
def sExpr (f : M T) : MS := fun ρ => (f ρ).bind fun _ ρ => .ok .nx ρ
theorem fs_expr (h : FE X E e f) (hs : swapsWith e none pos.line X.env = pure false := by rfl) : FS X E (.Expr e pos) (sExpr f) := by
  refine ps_imp (ps_expr h hs) fun D σ H h => ?_
  obtain ⟨k, F, ρ, R, h⟩ := h
  exact ⟨k, F, ρ, R, (Den.bind h).imp fun t ρ1 h1 v F1 H1 R1 s1 r1 => h1 σ F1 H1 R1 s1⟩
/-- name = e -/
def put (i : Nat) (x : SV) (ρ : Env) : Res Fl := if i < ρ.length then .ok .nx (ρ.set i x) else .bad
def sSet (i : Nat) (f : M VO) : MS := fun ρ => (f ρ).bind fun x ρ => put i x.sv ρ
theorem fs_set {i : Nat} {x : Str} {pos' : Pos} (hN : X.N.Nodup) (hi : X.N[i]? = some x) (hx : Loc X.env.scope x) (he : FX X E e fx) (hs : swapsWith e (some (.Name x pos')) pos.line X.env = pure false := by rfl) (hf : X.fn x = true ∨ X.env.scope.names.lookup x = some .local := by first | exact .inl rfl | exact .inr rfl | assumption) :
    FS X E (.Assign [.Name x pos'] e pos) (sSet i fx) := by
  refine ps_imp (ps_set hN hi hx he hs hf) fun D σ H h => ?_
  obtain ⟨k, F, ρ, R, h⟩ := h
  refine ⟨k, F, ρ, R, (Den.bind h).imp fun x ρ1 h1 v F1 H1 R1 s1 l1 => ?_⟩
  unfold put at h1
  split at h1
  · rename_i hlt
    have R2 := RS.pop (ys := []) (ws := []) R1 l1 i hlt
    rw [List.append_nil, List.append_nil] at R2
    exact h1 _ F1 H1 R2 s1
  · exact h1.elim
/-- a, b = x, y -/
def put2 (i j : Nat) (xs : List VO) (ρ : Env) : Res Fl := match xs with
  | [x, y] => if i < ρ.length ∧ j < ρ.length then .ok .nx ((ρ.set i x.sv).set j y.sv) else .bad
  | _ => .bad
def sPar (i j : Nat) (fs : M (List VO)) : MS := fun ρ => (fs ρ).bind (put2 i j)
theorem two_slots {k : Bk} {F : Hp} {ρ : Env} {σ : L2.St} {H : Hp} {i j : Nat} {x y : SV} {v w : V} (R : RSk X k F (ρ ++ [x, y]) (σ ++ [some v, some w]) H) (l : ρ.length = σ.length) (hi : i < ρ.length) (hj : j < ρ.length) :
    RSk X k F ((ρ.set i x).set j y) ((σ.set i (some v)).set j (some w)) H := by
  have R1 := RS.pop (ys := [y]) (ws := [some w]) R l i hi
  have R2 := RS.pop (ys := []) (ws := []) R1 (by simpa using l) j (by simpa using hj)
  rw [List.append_nil, List.append_nil] at R2
  exact R2
theorem fs_par {i j : Nat} {x y : Str} {e1 e2 : Expr} {px py pt : Pos} {kt k2 pt2} (hc : X.calm = true) (hN : X.N.Nodup) (hi : X.N[i]? = some x) (hj : X.N[j]? = some y) (hij : i ≠ j)
    (hx : X.env.scope.names.lookup x = some .local) (hy : X.env.scope.names.lookup y = some .local) (ha : FXs X E [e1, e2] fs)
    (hw : swappedStores [.Tuple [.Name x px, .Name y py] kt pt] (.Tuple [e1, e2] k2 pt2) X.env = pure (some [x, y]))
    (hs : swapsWithSole [.Tuple [.Name x px, .Name y py] kt pt] (.Tuple [e1, e2] k2 pt2) pos.line X.env = pure false := by rfl) :
    FS X E (.Assign [.Tuple [.Name x px, .Name y py] kt pt] (.Tuple [e1, e2] k2 pt2) pos) (sPar i j fs) := by
  refine ps_imp (ps_par hc hN hi hj hij hx hy ha hw hs) fun D σ H h => ?_
  obtain ⟨k, F, ρ, R, h⟩ := h
  refine ⟨k, F, ρ, R, (Den.bind h).imp fun xs ρ1 h1 vs F1 H1 R1 s1 l1 lx => ?_⟩
  unfold put2 at h1
  split at h1
  · rename_i x y
    split at h1
    · rename_i hlt
      match vs, lx with
      | [v, w], _ => exact ⟨v, w, rfl, h1 _ F1 H1 (two_slots R1 l1 hlt.1 hlt.2) s1⟩
    · exact h1.elim
  · exact h1.elim
/-! ### targets -/
/-- what a tree given to a target makes of the state; is: the slots that it changes -/
abbrev MG := T → Env → Option Env
def tG (X : Cx) (is : List Nat) (g : MG) : TG := fun v σ H Q => ∃ k F ρ t, RSk X k F ρ σ H ∧ Rep X.K X.mg F t v ∧ ∃ ρ', g t ρ = some ρ' ∧ ∀ σ' F' H', RSk X k F' ρ' σ' H' → Same F F' → σ'.length = σ.length → (∀ j, j ∉ is → σ'[j]? = σ[j]?) → Q σ' H'
abbrev FG (X : Cx) (is : List Nat) (e : Expr) (g : MG) : Prop := PG X e (tG X is g)
theorem pg_imp {X : Cx} {e : Expr} {t t' : TG} (h : PG X e t) (i : ∀ v σ H Q, t' v σ H Q → t v σ H Q) : PG X e t' := ⟨fun pins s σ H v u Q I r q => h.run pins s σ H v u Q I r (i _ _ _ _ q)⟩
def gN (i : Nat) : MG := fun t ρ => if i < ρ.length then some (ρ.set i (.fz t)) else none
theorem fg_name {i : Nat} {x : Str} (hN : X.N.Nodup) (hi : X.N[i]? = some x) (hx : Loc X.env.scope x) (hf : X.fn x = true ∨ X.env.scope.names.lookup x = some .local := by first | exact .inl rfl | exact .inr rfl | assumption) : FG X [i] (.Name x pos) (gN i) := by
  refine pg_imp (pg_name hN hi hx hf) fun v σ H Q h => ?_
  obtain ⟨k, F, ρ, t, R, r, ρ', e, q⟩ := h
  unfold gN at e
  split at e
  · rename_i hlt
    cases e
    refine q _ F H (R.setF i r) (Same.refl _) (by simp) fun j hj => ?_
    rw [List.getElem?_set_ne (by simpa [eq_comm] using hj)]
  · cases e
/-- several targets by their trees -/
abbrev MGs := List T → Env → Option Env
def tGs (X : Cx) (is : List Nat) (g : MGs) : TGs := fun vs σ H Q => ∃ k F ρ ts, RSk X k F ρ σ H ∧ Reps X.K X.mg F ts vs ∧ ∃ ρ', g ts ρ = some ρ' ∧ ∀ σ' F' H', RSk X k F' ρ' σ' H' → Same F F' → σ'.length = σ.length → (∀ j, j ∉ is → σ'[j]? = σ[j]?) → Q σ' H'
abbrev FGs (X : Cx) (is : List Nat) (e : List Expr) (g : MGs) : Prop := PGs X e (tGs X is g)
theorem pgs_imp {X : Cx} {e : List Expr} {t t' : TGs} (h : PGs X e t) (i : ∀ v σ H Q, t' v σ H Q → t v σ H Q) : PGs X e t' := ⟨fun pins s σ H v u Q I r q => h.run pins s σ H v u Q I r (i _ _ _ _ q)⟩
def gsNil : MGs := fun ts ρ => match ts with
  | [] => some ρ
  | _ => none
def gsCons (g : MG) (gs : MGs) : MGs := fun ts ρ => match ts with
  | t :: ts => (g t ρ).bind fun ρ => gs ts ρ
  | [] => none
theorem fgs_nil : FGs X [] [] gsNil := pgs_imp pgs_nil fun vs σ H Q h => by
  obtain ⟨k, F, ρ, ts, R, r, ρ', e, q⟩ := h
  unfold gsNil at e
  split at e
  · cases e
    exact ⟨r, q σ F H R (Same.refl _) rfl fun _ _ => rfl⟩
  · cases e
theorem fgs_cons {is js : List Nat} {g : MG} {gs : MGs} (h1 : FG X is e g) (h2 : FGs X js es gs) (hs : (assignEach (e :: es) X.env).map (·.2) = assign e X.env :: (assignEach es X.env).map (·.2) := by rfl) : FGs X (is ++ js) (e :: es) (gsCons g gs) :=
  pgs_imp (pgs_cons h1 h2 hs) fun vs σ H Q h => by
  obtain ⟨k, F, ρ, ts, R, r, ρ', e, q⟩ := h
  unfold gsCons at e
  split at e
  · rename_i t ts
    rw [Option.bind_eq_some_iff] at e
    obtain ⟨ρ1, e1, e2⟩ := e
    obtain ⟨v, w, rfl, r1, r2⟩ := r
    refine ⟨v, w, rfl, k, F, ρ, t, R, r1, ρ1, e1, fun σ1 F1 H1 R1 s1 l1 d1 => ⟨k, F1, ρ1, ts, R1, r2.mono s1, ρ', e2, fun σ2 F2 H2 R2 s2 l2 d2 => ?_⟩⟩
    refine q σ2 F2 H2 R2 (s1.trans s2) (l2.trans l1) fun j hj => ?_
    rw [List.mem_append, not_or] at hj
    rw [d2 j hj.2, d1 j hj.1]
  · cases e
def gT (gs : MGs) : MG := fun t ρ => match t with
  | .tup ts => gs ts ρ
  | _ => none
theorem fg_tup {is : List Nat} {gs : MGs} {kk : Nat} {n : Nat} (hc : X.calm = true) (h : FGs X is es gs) (hn : (assignEach es X.env).length = n := by rfl) (hst : (assignEach es X.env).findIdx? (·.1) = none := by rfl)
    (hl : ∀ ts ρ ρ', gs ts ρ = some ρ' → ts.length = n) : FG X is (.Tuple es kk pos) (gT gs) := by
  refine pg_imp (pg_tup hc h hn hst) fun v σ H Q h => ?_
  obtain ⟨k, F, ρ, t, R, r, ρ', e, q⟩ := h
  unfold gT at e
  split at e
  · rename_i ts
    obtain ⟨p, vs, rfl, h1, h2⟩ := r
    exact ⟨p, vs, rfl, same_SqT R.fh h1, by rw [← h2.length]; exact hl _ _ _ e, k, F, ρ, ts, R, h2, ρ', e, q⟩
  · cases e
theorem gs_len0 : ∀ ts ρ ρ', gsNil ts ρ = some ρ' → ts.length = 0 := fun ts ρ ρ' h => by
  unfold gsNil at h
  split at h
  · rfl
  · cases h
theorem gs_len {g : MG} {gs : MGs} {n : Nat} (hl : ∀ ts ρ ρ', gs ts ρ = some ρ' → ts.length = n) : ∀ ts ρ ρ', gsCons g gs ts ρ = some ρ' → ts.length = n + 1 := fun ts ρ ρ' h => by
  unfold gsCons at h
  split at h
  · rw [Option.bind_eq_some_iff] at h
    obtain ⟨ρ1, _, h⟩ := h
    simp [hl _ _ _ h]
  · cases h
/-- target = e, a target of any form, e's tree -/
def sAsg (g : MG) (f : M T) : MS := fun ρ => (f ρ).bind fun t ρ => match g t ρ with
  | some ρ => .ok .nx ρ
  | none => .bad
theorem fs_asg {tg : Expr} {is : List Nat} {g : MG} (he : FE X E e f) (hg : FG X is tg g) (hs : swapsWithSole [tg] e pos.line X.env = pure false := by rfl) (hw : swappedStores [tg] e X.env = pure none := by rfl)
    (h1 : (assignEach [tg] X.env).map (·.2) = [assign tg X.env] := by rfl) : FS X E (.Assign [tg] e pos) (sAsg g f) := by
  refine ps_imp (ps_asg he hg hs hw h1) fun D σ H h => ?_
  obtain ⟨k, F, ρ, R, h⟩ := h
  refine ⟨k, F, ρ, R, (Den.bind h).imp fun t ρ1 h1 v F1 H1 R1 s1 r1 => ?_⟩
  split at h1
  · rename_i ρ2 e
    exact ⟨k, F1, ρ1, t, R1, r1, ρ2, e, fun σ' F' H' R' s' _ _ => h1 σ' F' H' R' (s1.trans s')⟩
  · exact h1.elim
/-! ### what is walked -/
/-- at each turn: the tree, as it lies or in a new tuple -/
def Yt (X : Cx) (F : Hp) (ts : List T) : Nat → Hp → V → Hp → Prop := fun i H v H' => ∃ t, ts[i]? = some t ∧ ((H' = H ∧ Rep X.K X.mg F t v) ∨ ∃ p us vs, t = .tup us ∧ v = .ref p ∧ H p = none ∧ H' = upd H p (.tup vs) ∧ Reps X.K X.mg F us vs)
def Wk (X : Cx) (F : Hp) (J : It) (ts : List T) : Prop := L2.Walk J ts.length (fun H => Same F H) (Yt X F ts)
def tI (X : Cx) (E : XK) (f : M (List T)) : TI := fun σ H R => ∃ k F ρ, RSk X k F ρ σ H ∧ Den (f ρ) (fun ts ρ' => ∀ J F' H', RSk X k F' ρ' σ H' → Same F F' → Wk X F' J ts → R J H') (XOk X.K X.mg k E)
abbrev FI (X : Cx) (E : XK) (tg e : Expr) (f : M (List T)) : Prop := PI X tg e (tI X E f)
theorem pi_imp {X : Cx} {tg e : Expr} {t t' : TI} (h : PI X tg e t) (i : ∀ σ H R, t' σ H R → t σ H R) : PI X tg e t' := ⟨fun pins s σ H R I q => h.run pins s σ H R I (i _ _ _ q)⟩
theorem Yt.grow {F F1 : Hp} {ts : List T} (s : Same F F1) {i : Nat} {H : Hp} {v : V} {H' : Hp} (h : Yt X F ts i H v H') : Yt X F1 ts i H v H' := by
  obtain ⟨t, e, h⟩ := h
  refine ⟨t, e, ?_⟩
  rcases h with ⟨h1, h2⟩ | ⟨p, us, vs, h1, h2, h3, h4, h5⟩
  · exact .inl ⟨h1, h2.mono s⟩
  · exact .inr ⟨p, us, vs, h1, h2, h3, h4, h5.mono s⟩
/-- what is given at a turn, in the state -/
theorem Yt.take {k : Bk} {F : Hp} {ρ : Env} {σ : L2.St} {H H' : Hp} {ts : List T} {i : Nat} {v : V} (R : RSk X k F ρ σ H) (h : Yt X F ts i H v H') : ∃ t F', ts[i]? = some t ∧ RSk X k F' ρ σ H' ∧ Same F F' ∧ Rep X.K X.mg F' t v := by
  obtain ⟨t, e, h⟩ := h
  rcases h with ⟨rfl, h2⟩ | ⟨p, us, vs, rfl, rfl, h3, rfl, h5⟩
  · exact ⟨t, F, e, R, Same.refl _, h2⟩
  · have sF : Same F (upd F p (.tup vs)) := same_upd (R.fnone h3)
    exact ⟨.tup us, upd F p (.tup vs), e, R.newF h3, sF, p, vs, rfl, upd_same, h5.mono sF⟩
theorem yat {F : Hp} {ts : List T} {vs : List V} (r : Reps X.K X.mg F ts vs) {i : Nat} {H : Hp} {v : V} {H' : Hp} (h : YAt vs i H v H') : Yt X F ts i H v H' := by
  obtain ⟨rfl, h⟩ := h
  have hi : i < ts.length := by
    rw [r.length]
    exact (List.getElem?_eq_some_iff.mp h).1
  obtain ⟨w, h1, h2⟩ := r.get (List.getElem?_eq_getElem hi)
  rw [h] at h1
  cases h1
  exact ⟨_, List.getElem?_eq_getElem hi, .inl ⟨rfl, h2⟩⟩
/-- range -/
def rgT (lo : Int) (n : Nat) : List T := (List.range n).map fun i => .int (lo + (i : Nat))
def rg1 (ts : List T) : Option (List T) := match ts with
  | [.int j] => if decide (-4611686018427387904 ≤ j) && decide (j < 4611686018427387904) then some (rgT 0 j.toNat) else none
  | _ => none
def rg2 (ts : List T) : Option (List T) := match ts with
  | [.int i, .int j] => if decide (-4611686018427387904 ≤ i) && decide (i < 4611686018427387904) && decide (-4611686018427387904 ≤ j) && decide (j < 4611686018427387904) then some (rgT i (j - i).toNat) else none
  | _ => none
def calI (o : List T → Option (List T)) (fs : M (List T)) : M (List T) := fun ρ => (fs ρ).bind fun ts ρ => liftO (o ts) ρ
theorem wk_range {F : Hp} {lo : Int} {n : Nat} : Wk X F (Itr lo n) (rgT lo n) := by
  have w := walk_range (lo := lo) (n := n)
  have e : (rgT lo n).length = n := by simp [rgT]
  unfold Wk
  rw [e]
  refine w.mono (fun _ _ => trivial) fun i H v H' hi _ y => ?_
  obtain ⟨rfl, rfl⟩ := y
  exact ⟨.int (lo + (i : Nat)), by simp [rgT, hi], .inl ⟨rfl, rfl⟩⟩
theorem fi_range1 {tg a : Expr} {fs : M (List T)} {p : Pos} (hg : Gl X "range") (hm : X.mg "range" = none) (ha : FA X E [a] fs) (hs : starEach [a] X.env = [(false, eval a X.env)] := by rfl) : FI X E tg (.Call (.Name "range" p) [a] [] pos) (calI rg1 fs) := by
  refine pi_imp (pi_range1 hg hm ha hs) fun σ H Q h => ?_
  obtain ⟨k, F, ρ, R, h⟩ := h
  refine ⟨k, F, ρ, R, (Den.bind h).imp fun ts ρ1 h1 vs F1 H1 R1 s1 r1 => ?_⟩
  obtain ⟨us, e, q⟩ := Den.lift h1
  unfold rg1 at e
  split at e
  · rename_i j
    split at e
    · rename_i hb
      cases e
      rw [Bool.and_eq_true] at hb
      have b1 := of_decide_eq_true hb.1
      have b2 := of_decide_eq_true hb.2
      obtain ⟨v, rfl, h2⟩ := r1.one_of
      have ev : v = .int j := h2
      subst ev
      exact ⟨j, rfl, by omega, by omega, q _ F1 H1 R1 s1 wk_range⟩
    · cases e
  · cases e
theorem fi_range2 {tg a b : Expr} {fs : M (List T)} {p : Pos} (hg : Gl X "range") (hm : X.mg "range" = none) (ha : FA X E [a, b] fs) (hs : starEach [a, b] X.env = [(false, eval a X.env), (false, eval b X.env)] := by rfl) (hs2 : starEach [b] X.env = [(false, eval b X.env)] := by rfl) : FI X E tg (.Call (.Name "range" p) [a, b] [] pos) (calI rg2 fs) := by
  refine pi_imp (pi_range2 hg hm ha hs hs2) fun σ H Q h => ?_
  obtain ⟨k, F, ρ, R, h⟩ := h
  refine ⟨k, F, ρ, R, (Den.bind h).imp fun ts ρ1 h1 vs F1 H1 R1 s1 r1 => ?_⟩
  obtain ⟨us, e, q⟩ := Den.lift h1
  unfold rg2 at e
  split at e
  · rename_i i j
    split at e
    · rename_i hb
      cases e
      rw [Bool.and_eq_true, Bool.and_eq_true, Bool.and_eq_true] at hb
      have b1 := of_decide_eq_true hb.1.1.1
      have b2 := of_decide_eq_true hb.1.1.2
      have b3 := of_decide_eq_true hb.1.2
      have b4 := of_decide_eq_true hb.2
      obtain ⟨v, w, rfl, h2, h3⟩ := r1.two_of
      have ev : v = .int i := h2
      have ew : w = .int j := h3
      subst ev ew
      exact ⟨i, j, rfl, ⟨by omega, by omega, by omega, by omega⟩, q _ F1 H1 R1 s1 wk_range⟩
    · cases e
  · cases e
/-! ### for -/
def forL (g : MG) (body : MS) : List T → MS
  | [], ρ => .ok .nx ρ
  | t :: ts, ρ => match g t ρ with
    | none => .bad
    | some ρ => (body ρ).bind fun fl ρ => match fl with
      | .nx => forL g body ts ρ
      | .ct => forL g body ts ρ
      | .bk => .ok .nx ρ
      | .rt t => .ok (.rt t) ρ
def sFor (src : M (List T)) (g : MG) (body : MS) : MS := fun ρ => (src ρ).bind fun ts ρ => forL g body ts ρ
theorem fs_for {tg iter : Expr} {body : List Stmt} {src : M (List T)} {g : MG} {is : List Nat} {sb : MS} (hp : PassesOwn (model X.prog X.w) X.A X.env X.xe) (hc : X.calm = true) (hi : FI X E tg iter src) (hg : FG X is tg g) (hb : FSs X E body sb)
    (hs : ∀ x, foldedSetIterable iter X.env x = pure x := by intro _; rfl) : FS X E (.For tg iter body [] pos) (sFor src g sb) := by
  refine ps_imp (ps_for hp hc hi hg hb hs) fun D σ H h => ?_
  obtain ⟨k, F, ρ, R, h⟩ := h
  refine ⟨k, F, ρ, R, (Den.bind h).imp fun ts ρ1 h1 J F1 H1 R1 s1 w1 => ?_⟩
  refine for_it w1 (fun i σ' H' => ∃ F' ρ', RSk X k F' ρ' σ' H' ∧ Same F1 F' ∧ Den (forL g sb (ts.drop i) ρ') (Post X k F D) (XOk X.K X.mg k E)) ⟨F1, ρ1, R1, Same.refl _, h1⟩ (fun i σ' H' _ q => ?_) (fun i x σ' H' H'' hlt q y => ?_) (fun σ' H' q => ?_)
  · obtain ⟨F', ρ', R', s', _⟩ := q
    exact s'.trans R'.fh
  · obtain ⟨F', ρ', R', s', d⟩ := q
    obtain ⟨t, F2, et, R2, s2, r2⟩ := (y.grow s').take R'
    have ed : ts.drop i = t :: ts.drop (i + 1) := by
      rw [List.drop_eq_getElem_cons hlt]
      rw [List.getElem?_eq_getElem hlt] at et
      rw [Option.some.inj et]
    rw [ed] at d
    unfold forL at d
    split at d
    · exact d.elim
    · rename_i ρ2 e2
      refine ⟨k, F2, ρ', t, R2, r2, ρ2, e2, fun σ3 F3 H3 R3 s3 _ _ => ⟨k, F3, ρ2, R3, (Den.bind d).imp fun fl ρ4 q4 => ?_⟩⟩
      have sAll : Same F F3 := s1.trans (s'.trans (s2.trans s3))
      cases fl with
      | nx => exact fun σ5 F5 H5 R5 s5 => ⟨F5, ρ4, R5, s'.trans (s2.trans (s3.trans s5)), q4⟩
      | ct => exact fun σ5 F5 H5 R5 s5 => ⟨F5, ρ4, R5, s'.trans (s2.trans (s3.trans s5)), q4⟩
      | bk => exact fun σ5 F5 H5 R5 s5 => q4 σ5 F5 H5 R5 (sAll.trans s5)
      | rt t => exact fun v σ5 F5 H5 R5 s5 r5 => q4 v σ5 F5 H5 R5 (sAll.trans s5) r5
  · obtain ⟨F', ρ', R', s', d⟩ := q
    rw [List.drop_length] at d
    exact d σ' F' H' R' (s1.trans s')
/-! ### while -/
def whl (g : M Bool) (body : MS) : Nat → MS
  | 0, _ => .bad
  | n + 1, ρ => (g ρ).bind fun b ρ => if b = true then (body ρ).bind fun fl ρ => match fl with
      | .nx => whl g body n ρ
      | .ct => whl g body n ρ
      | .bk => .ok .nx ρ
      | .rt t => .ok (.rt t) ρ
    else .ok .nx ρ
theorem fs_while {body : List Stmt} {sb : MS} (n : Nat) (hp : PassesOwn (model X.prog X.w) X.A X.env X.xe) (hc : FT X E c g) (hb : FSs X E body sb) : FS X E (.While c body [] pos) (whl g sb n) := by
  refine ps_imp (ps_while hp hc hb) fun D σ H h => ?_
  obtain ⟨k, F, ρ, R, h⟩ := h
  refine ⟨fun m σ' H' => ∃ F' ρ', RSk X k F' ρ' σ' H' ∧ Same F F' ∧ Den (whl g sb m ρ') (Post X k F D) (XOk X.K X.mg k E), ⟨n, F, ρ, R, Same.refl _, h⟩, fun m σ' H' q => ?_⟩
  obtain ⟨F', ρ', R', s', d⟩ := q
  cases m with
  | zero => exact d.elim
  | succ m =>
    unfold whl at d
    refine ⟨k, F', ρ', R', (Den.bind d).imp fun b ρ1 d1 F1 H1 R1 s1 => ?_⟩
    split at d1
    · rename_i eb
      rw [if_pos eb]
      refine ⟨fun σ2 H2 => ∃ F2 ρ2, RSk X k F2 ρ2 σ2 H2 ∧ Same F F2 ∧ Den (whl g sb m ρ2) (Post X k F D) (XOk X.K X.mg k E), fun σ2 H2 q2 => ⟨m, Nat.lt_succ_self m, q2⟩, k, F1, ρ1, R1, (Den.bind d1).imp fun fl ρ4 q4 => ?_⟩
      have sAll : Same F F1 := s'.trans s1
      cases fl with
      | nx => exact fun σ5 F5 H5 R5 s5 => ⟨F5, ρ4, R5, sAll.trans s5, q4⟩
      | ct => exact fun σ5 F5 H5 R5 s5 => ⟨F5, ρ4, R5, sAll.trans s5, q4⟩
      | bk => exact fun σ5 F5 H5 R5 s5 => q4 σ5 F5 H5 R5 (sAll.trans s5)
      | rt t => exact fun v σ5 F5 H5 R5 s5 r5 => q4 v σ5 F5 H5 R5 (sAll.trans s5) r5
    · rename_i eb
      rw [if_neg eb]
      exact d1 σ' F1 H1 R1 (s'.trans s1)
end
end FL

/-! FL6: comprehensions; objects changed; calls of defs. -/
namespace FL
open PySem PySem.Spec L2

/-! ### another view of the slots -/
section
variable {K : PySem.W.Frag} {mg : Str → Option Value} {B F0 F F' : Hp} {pm : Option Addr} {ρ ρ' ys : Env} {σ σ' ws : L2.St} {H H' : Hp} {i : Nat} {x : SV}
theorem RS.re (R : RS K mg B F0 pm rw F ρ σ H) (hl : ρ'.length = σ'.length) (h : ∀ (i : Nat) (x : SV), ρ'[i]? = some x → x = SV.un ∨ (∃ t v, x = .fz t ∧ σ'[i]? = some (some v) ∧ Rep K mg F t v) ∨ (ρ[i]? = some x ∧ σ'[i]? = σ[i]?)) : RS K mg B F0 pm rw F ρ' σ' H := by
  obtain ⟨α, h1, h2⟩ := R.ex
  have own : ∀ (i : Nat) (x : SV), ρ'[i]? = some x → x.owned = true → ρ[i]? = some x := fun i x hx ox => by
    rcases h i x hx with e | ⟨t, v, e, _⟩ | ⟨e, _⟩
    · subst e; cases ox
    · subst e; cases ox
    · exact e
  refine ⟨hl, R.fh, R.bh, R.f0, R.fr, R.pt, R.tb, α, fun i x hx => ?_, fun j k x y hx hy ox oy ne => h2 j k x y (own j x hx ox) (own k y hy oy) ox oy ne⟩
  rcases h i x hx with e | ⟨t, v, e, e1, e2⟩ | ⟨e, e1⟩
  · subst e; trivial
  · subst e; exact ⟨v, e1, e2⟩
  · have q := h1 i x e
    cases x with
    | un => trivial
    | fz t => obtain ⟨v, a, b⟩ := q; exact ⟨v, e1.trans a, b⟩
    | raw n => obtain ⟨v, a, b⟩ := q; exact ⟨v, e1.trans a, b⟩
    | ow o => obtain ⟨a, b⟩ := q; exact ⟨e1.trans a, b⟩
    | pa o => obtain ⟨a, b⟩ := q; exact ⟨e1.trans a, b⟩
/-- the slot x with another object -/
def SV.to (x : SV) (o' : O) : SV := match x with
  | .pa _ => .pa o'
  | _ => .ow o'
theorem RS.chg {o o' : O} (R : RS K mg B F0 pm rw F ρ σ H) (hi : ρ[i]? = some x) (hx : x = .ow o ∨ x = .pa o) : ∃ a h, σ[i]? = some (some (.ref a)) ∧ F a = none ∧ H a = some h ∧ ORep K mg F o h ∧
    ∀ {h'}, ORep K mg F o' h' → RS K mg B F0 pm rw F (ρ.set i (x.to o')) σ (upd H a h') := by
  obtain ⟨α, h1, h2⟩ := R.ex
  have q : σ[i]? = some (some (.ref (α i))) ∧ F (α i) = none ∧ B (α i) = none ∧ ∃ h, H (α i) = some h ∧ ORep K mg F o h := by
    have q := h1 i x hi
    rcases hx with e | e
    · subst e; obtain ⟨a, b, c, d, e⟩ := q; exact ⟨a, b, c, e⟩
    · subst e; obtain ⟨a, b, c, d, e⟩ := q; exact ⟨a, b, c, e⟩
  obtain ⟨es, fn, bn, h, hh, ro⟩ := q
  refine ⟨α i, h, es, fn, hh, ro, fun {h'} r' => ?_⟩
  have ox : x.owned = true := by rcases hx with e | e <;> subst e <;> rfl
  have hlt : i < ρ.length := (List.getElem?_eq_some_iff.mp hi).1
  have keep : ∀ (G : Hp), Same G H → G (α i) = none → Same G (upd H (α i) h') := fun G s n b u e => by
    rw [upd_ne (ne_of_none e n)]; exact s _ _ e
  have src : ∀ (j : Nat) (y : SV), (ρ.set i (x.to o'))[j]? = some y → (j = i ∧ y = (x.to o')) ∨ (j ≠ i ∧ ρ[j]? = some y) := fun j y hy => by
    by_cases e : j = i
    · subst e
      rw [List.getElem?_set_self hlt] at hy
      exact .inl ⟨rfl, (Option.some.inj hy).symm⟩
    · rw [List.getElem?_set_ne (Ne.symm e)] at hy
      exact .inr ⟨e, hy⟩
  have was : ∀ (j : Nat) (y : SV), (ρ.set i (x.to o'))[j]? = some y → y.owned = true → ∃ z : SV, ρ[j]? = some z ∧ z.owned = true := fun j y hy oy => by
    rcases src j y hy with ⟨e, _⟩ | ⟨_, e⟩
    · subst e; exact ⟨x, hi, ox⟩
    · exact ⟨y, e, oy⟩
  refine ⟨by simpa using R.len, keep F R.fh fn, keep B R.bh bn, R.f0, R.fr, fun a z => ?_, R.tb.updH hh ro.plain, α, fun j y hy => ?_, fun j m y z hy hz oy oz ne => ?_⟩
  · obtain ⟨u, q⟩ := R.pt a z
    by_cases ha : a = α i
    · exact ⟨h', by rw [ha, upd_same]⟩
    · exact ⟨u, by rw [upd_ne ha]; exact q⟩
  · rcases src j y hy with ⟨e, ey⟩ | ⟨ne, e⟩
    · subst e
      have q := h1 j x hi
      rcases hx with e | e
      · subst e
        have ey' : y = .ow o' := ey
        subst ey'
        obtain ⟨a, b, c, d, _⟩ := q
        exact ⟨a, b, c, d, h', upd_same, r'⟩
      · subst e
        have ey' : y = .pa o' := ey
        subst ey'
        obtain ⟨a, b, c, d, _⟩ := q
        exact ⟨a, b, c, d, h', upd_same, r'⟩
    · have q := h1 j y e
      cases y with
      | un => trivial
      | fz t => exact q
      | raw n => exact q
      | ow o1 =>
        obtain ⟨a, b, c, d, u, e1, e2⟩ := q
        exact ⟨a, b, c, d, u, by rw [upd_ne (h2 j i _ x e hi rfl ox ne)]; exact e1, e2⟩
      | pa o1 =>
        obtain ⟨a, b, c, d, u, e1, e2⟩ := q
        exact ⟨a, b, c, d, u, by rw [upd_ne (h2 j i _ x e hi rfl ox ne)]; exact e1, e2⟩
  · obtain ⟨y', hy', oy'⟩ := was j y hy oy
    obtain ⟨z', hz', oz'⟩ := was m z hz oz
    exact h2 j m y' z' hy' hz' oy' oz' ne
end

/-! ### a block's own slots -/
def wipeE (ρ : Env) : List Nat → Env
  | [] => ρ
  | v :: vs => (wipeE ρ vs).set v .un
def bring (ρ0 ρ : Env) : List Nat → Env
  | [] => ρ
  | v :: vs => (bring ρ0 ρ vs).set v (ρ0.getD v .un)
def freeS (ρ : Env) (vs : List Nat) : Bool := vs.all fun v => match ρ[v]? with
  | some (.ow _) => false
  | some (.pa _) => false
  | some (.raw _) => false
  | _ => true
theorem wipeE_length (ρ : Env) : ∀ vs : List Nat, (wipeE ρ vs).length = ρ.length
  | [] => rfl
  | v :: vs => by unfold wipeE; rw [List.length_set, wipeE_length ρ vs]
theorem bring_length (ρ0 ρ : Env) : ∀ vs : List Nat, (bring ρ0 ρ vs).length = ρ.length
  | [] => rfl
  | v :: vs => by unfold bring; rw [List.length_set, bring_length ρ0 ρ vs]
theorem wipeE_get {ρ : Env} {i : Nat} {x : SV} : ∀ {vs : List Nat}, (wipeE ρ vs)[i]? = some x → x = .un ∨ (ρ[i]? = some x ∧ i ∉ vs)
  | [], h => .inr ⟨h, by simp⟩
  | v :: vs, h => by
    unfold wipeE at h
    by_cases e : v = i
    · subst e
      have hl := (List.getElem?_eq_some_iff.mp h).1
      rw [List.length_set] at hl
      rw [List.getElem?_set_self hl] at h
      exact .inl (Option.some.inj h).symm
    · rw [List.getElem?_set_ne e] at h
      rcases wipeE_get h with q | ⟨q, n⟩
      · exact .inl q
      · exact .inr ⟨q, by simp only [List.mem_cons, not_or]; exact ⟨fun z => e z.symm, n⟩⟩
theorem wipe_get {σ : L2.St} {i : Nat} : ∀ {vs : List Nat}, i ∉ vs → (wipe σ vs)[i]? = σ[i]?
  | [], _ => rfl
  | v :: vs, h => by
    simp only [List.mem_cons, not_or] at h
    unfold wipe
    rw [List.getElem?_set_ne (fun z => h.1 z.symm)]
    exact wipe_get h.2
theorem wipe_un {σ : L2.St} {i : Nat} : ∀ {vs : List Nat}, i ∈ vs → i < σ.length → (wipe σ vs)[i]? = some none
  | v :: vs, h, hl => by
    unfold wipe
    by_cases e : v = i
    · subst e
      rw [List.getElem?_set_self (by rw [wipe_length]; exact hl)]
    · rw [List.getElem?_set_ne e]
      exact wipe_un ((List.mem_cons.mp h).resolve_left fun z => e z.symm) hl
theorem wipe_eq {σ σ' : L2.St} {vs : List Nat} (hl : σ'.length = σ.length) (h : ∀ j, j ∉ vs → σ'[j]? = σ[j]?) : wipe σ' vs = wipe σ vs := by
  apply List.ext_getElem?
  intro i
  by_cases hi : i ∈ vs
  · by_cases hlt : i < σ.length
    · rw [wipe_un hi (by omega), wipe_un hi hlt]
    · rw [List.getElem?_eq_none (by rw [wipe_length]; omega), List.getElem?_eq_none (by rw [wipe_length]; omega)]
  · rw [wipe_get hi, wipe_get hi, h i hi]
theorem bring_get {ρ0 ρ : Env} {i : Nat} : ∀ {vs : List Nat}, (i ∉ vs → (bring ρ0 ρ vs)[i]? = ρ[i]?) ∧ (i ∈ vs → i < ρ.length → (bring ρ0 ρ vs)[i]? = some (ρ0.getD i .un))
  | [] => ⟨fun _ => rfl, fun h => by cases h⟩
  | v :: vs => by
    refine ⟨fun h => ?_, fun h hl => ?_⟩
    · simp only [List.mem_cons, not_or] at h
      unfold bring
      rw [List.getElem?_set_ne (fun z => h.1 z.symm)]
      exact bring_get.1 h.2
    · unfold bring
      by_cases e : v = i
      · subst e
        rw [List.getElem?_set_self (by rw [bring_length]; exact hl)]
      · rw [List.getElem?_set_ne e]
        exact bring_get.2 ((List.mem_cons.mp h).resolve_left fun z => e z.symm) hl
theorem freeS_bring {ρ0 ρ : Env} {vs : List Nat} (h : freeS ρ0 vs = true) (hl : ρ.length = ρ0.length) : freeS (bring ρ0 ρ vs) vs = true := by
  unfold freeS at h ⊢
  rw [List.all_eq_true] at h ⊢
  intro v hv
  have q := h v hv
  by_cases hlt : v < ρ.length
  · rw [bring_get.2 hv hlt]
    have e : ρ0[v]? = some (ρ0.getD v .un) := by
      rw [List.getD_eq_getElem?_getD, List.getElem?_eq_getElem (by omega)]
      rfl
    rw [e] at q
    exact q
  · rw [List.getElem?_eq_none (by rw [bring_length]; omega)]
section
variable {K : PySem.W.Frag} {mg : Str → Option Value} {B F0 F F' : Hp} {pm : Option Addr} {ρ ρ' ρ0 : Env} {σ σ' : L2.St} {H H' H0 : Hp} {vs : List Nat}
theorem RS.wiped (R : RS K mg B F0 pm rw F ρ σ H) (vs : List Nat) : RS K mg B F0 pm rw F (wipeE ρ vs) (wipe σ vs) H := by
  refine R.re (by rw [wipeE_length, wipe_length]; exact R.len) fun i x hx => ?_
  rcases wipeE_get hx with e | ⟨e, n⟩
  · exact .inl e
  · exact .inr (.inr ⟨e, wipe_get n⟩)
theorem RS.brought {B0 : Hp} {F1 : Hp} {p0 : Option Addr} (R : RS K mg B F0 pm rw F' ρ' σ' H') (R0 : RS K mg B0 F1 p0 rw F ρ0 σ H0) (s : Same F F') (hl : σ'.length = σ.length) (h : ∀ j, j ∉ vs → σ'[j]? = σ[j]?) (hf : freeS ρ0 vs = true) :
    RS K mg B F0 pm rw F' (bring ρ0 ρ' vs) σ H' := by
  have l0 := R0.len
  have l1 := R.len
  refine R.re (by rw [bring_length, l1, hl]) fun i x hx => ?_
  have hi : i < ρ'.length := by
    have := (List.getElem?_eq_some_iff.mp hx).1
    rwa [bring_length] at this
  by_cases hv : i ∈ vs
  · rw [bring_get.2 hv hi] at hx
    have e : ρ0[i]? = some (ρ0.getD i .un) := by
      rw [List.getD_eq_getElem?_getD, List.getElem?_eq_getElem (by omega)]
      rfl
    have ex := Option.some.inj hx
    rw [ex] at e
    unfold freeS at hf
    rw [List.all_eq_true] at hf
    have q := hf i hv
    rw [e] at q
    cases x with
    | un => exact .inl rfl
    | fz t =>
      obtain ⟨v, a, b⟩ := R0.slot e
      exact .inr (.inl ⟨t, v, rfl, a, b.mono s⟩)
    | ow o => cases q
    | pa o => cases q
    | raw n => cases q
  · rw [bring_get.1 hv] at hx
    exact .inr (.inr ⟨hx, (h i hv).symm⟩)
end
def noX {α : Type} (r : Res α) : Res α := match r with
  | .exc _ => .bad
  | r => r
theorem Den.noX {α : Type} {r : Res α} {p : α → Env → Prop} {x y : Ex → Prop} (h : Den (noX r) p x) : Den r p y := by
  cases r with
  | bad => exact h
  | exc e => exact (show False from h).elim
  | ok a ρ => exact h
/-! ### [e for x in xs if t] -/
def lcL (vs : List Nat) (g : MG) (test : M Bool) (elt : M T) : List T → List T → Env → Res (List T)
  | [], acc, ρ => .ok acc ρ
  | t :: ts, acc, ρ0 => match g t (wipeE ρ0 vs) with
    | none => .bad
    | some ρ1 => (noX (test ρ1)).bind fun b ρ2 => if b = true then (noX (elt ρ2)).bind fun y ρ3 => if acc.length < 16777216 then lcL vs g test elt ts (acc ++ [y]) (bring ρ0 ρ3 vs) else .bad
      else lcL vs g test elt ts acc (bring ρ0 ρ2 vs)
def lcM (vs : List Nat) (src : M (List T)) (g : MG) (test : M Bool) (elt : M T) : M O := fun ρ => (src ρ).bind fun ts ρ => if freeS ρ vs = true then (lcL vs g test elt ts [] ρ).bind fun l ρ => .ok (.l l) ρ else .bad
abbrev FTs (X : Cx) (E : XK) (ifs : List Expr) (f : M Bool) : Prop := PTs X ifs (tT X E f)
def yes : M Bool := fun ρ => .ok true ρ
section
variable {X : Cx} {E : XK} {e c : Expr} {es : List Expr} {pos : Pos} {f : M T} {fo : M O} {fs : M (List T)} {g : M Bool}
theorem fts_nil : FTs X E [] yes := ⟨fun pins s σ H Q I ⟨k, F, ρ, R, h⟩ => pts_nil.run pins s σ H Q I (h F H R (Same.refl _))⟩
theorem fts_one (h : FT X E c g) : FTs X E [c] g := pts_one h
/-- the lent slot at the end of the state -/
theorem end_slot {ρ : Env} {o : O} : (ρ ++ [SV.ow o])[ρ.length]? = some (.ow o) := by simp
theorem end_set {ρ : Env} {o : O} {x : SV} : (ρ ++ [SV.ow o]).set ρ.length x = ρ ++ [x] := by simp
theorem lc_of {own : List (Str × Nat)} {src : M (List T)} {gt : MG} {is : List Nat} {test : M Bool} (his : ∀ i ∈ is, i ∈ own.map (·.2)) {σ : L2.St} {H : Hp} {Q : VK} (h : tO X E (lcM (own.map (·.2)) src gt test f) σ H Q) :
    tLc (tI X E src) (tG X is gt) (tT X E0 test) (tE X E0 f) (own.map (·.2)) σ H Q := by
  obtain ⟨k, F, ρ, R, h⟩ := h
  refine ⟨k, F, ρ, R, (Den.bind h).imp fun ts ρ1 h1 J F1 H1 R1 s1 w1 => fun D nD => ?_⟩
  have hfree : freeS ρ1 (own.map (·.2)) = true := by
    cases e : freeS ρ1 (own.map (·.2)) with
    | true => rfl
    | false => rw [e] at h1; exact (show False from h1).elim
  rw [if_pos hfree] at h1
  have h2 := Den.bind h1
  refine lc_it w1 (fun i H' => ∃ F' ρ' acc, RSk X k F' (ρ' ++ [SV.ow (.l acc)]) (σ ++ [some (.ref D)]) H' ∧ ρ'.length = σ.length ∧ Same F1 F' ∧ freeS ρ' (own.map (·.2)) = true ∧
    Den (lcL (own.map (·.2)) gt test f (ts.drop i) acc ρ') (fun l ρ'' => Den (Res.ok (O.l l) ρ'') (fun o ρ' => ∀ v F' H', RSk X k F' (ρ' ++ [SV.ow o]) (σ ++ [some v]) H' → Same F F' → ρ'.length = σ.length → Q v H') (XOk X.K X.mg k E)) (XOk X.K X.mg k E)) ?_ (fun i H' _ q => ?_) (fun i x H' H'' hlt q y => ?_) (fun H' q => ?_)
  · exact ⟨F1, ρ1, [], R1.newO (o := .l []) ⟨[], rfl, .nil⟩ nD, R1.len, Same.refl _, hfree, h2⟩
  · obtain ⟨F', ρ', acc, R', _, s', _⟩ := q
    exact s'.trans R'.fh
  · obtain ⟨F', ρ', acc, R', l', s', fr', d⟩ := q
    obtain ⟨t, F2, et, R2, s2, r2⟩ := (y.grow s').take R'
    have ed : ts.drop i = t :: ts.drop (i + 1) := by
      rw [List.drop_eq_getElem_cons hlt]
      rw [List.getElem?_eq_getElem hlt] at et
      rw [Option.some.inj et]
    rw [ed] at d
    unfold lcL at d
    obtain ⟨p, ho, ep, fp, bp, npm, hp, ro, R0⟩ := RS.aside R2 l'
    cases ep
    have f0 : k.F0 D = none := R2.f0.free fp
    split at d
    · exact d.elim
    · rename_i ρ2 e2
      let k' : Bk := ⟨upd k.B D ho, k.F0, k.pm, k.rw⟩
      refine ⟨k', F2, _, t, R0.wiped (own.map (·.2)), r2, ρ2, e2, fun σ3 F3 H3 R3 s3 l3 d3 => ⟨?_, ?_⟩⟩
      · rw [wipe_eq l3 fun j hj => d3 j fun z => hj (his j z)]
        exact wipe_eq (by rw [wipe_length]) fun j hj => wipe_get hj
      · have dk : ∀ {σ' : L2.St}, σ' = σ3 → σ'.length = σ.length ∧ ∀ j, j ∉ own.map (·.2) → σ'[j]? = σ[j]? := fun {σ'} e => by
          subst e
          refine ⟨by rw [l3, wipe_length], fun j hj => ?_⟩
          rw [d3 j fun z => hj (his j z), wipe_get hj]
        refine ⟨k', F3, ρ2, R3, Den.noX (y := XOk X.K X.mg k' E0) ((Den.bind d).imp fun b ρ4 d4 => fun F4 H4 R4 s4 => ?_)⟩
        split at d4
        · rename_i eb
          rw [if_pos eb]
          refine ⟨k', F4, ρ4, R4, Den.noX (y := XOk X.K X.mg k' E0) ((Den.bind d4).imp fun z ρ5 d5 => fun v F5 H5 R5 s5 r5 => ?_)⟩
          split at d5
          · rename_i hz
            have sx : Same F2 F5 := s3.trans (s4.trans s5)
            have R6 := RS.brought R5 R0 sx (dk rfl).1 (dk rfl).2 fr'
            have l6 : (bring ρ' ρ5 (own.map (·.2))).length = σ.length := R6.len
            have R7 := RS.back (ys := []) (ws := []) (by rw [List.append_nil, List.append_nil]; exact R6) l6 f0 bp npm (ro.mono sx)
            obtain ⟨a, h, ea, _, hh, roh, mk⟩ := RS.chg (o := .l acc) (o' := .l (acc ++ [z])) R7 end_slot (.inl rfl)
            have eD : a = D := by
              rw [l6] at ea
              simpa using ea.symm
            subst eD
            obtain ⟨accV, rfl, rv⟩ := roh
            refine ⟨accV, hh, by rw [← rv.length, szL]; exact hz, F5, bring ρ' ρ5 (own.map (·.2)), acc ++ [z], ?_, l6, s'.trans (s2.trans sx), freeS_bring fr' (by rw [R5.len, (dk rfl).1, l']), d5⟩
            have q := mk (h' := .lst (accV ++ [v])) ⟨_, rfl, rv.append (.one r5)⟩
            rw [end_set] at q
            exact q
          · exact d5.elim
        · rename_i eb
          rw [if_neg eb]
          have sx : Same F2 F4 := s3.trans s4
          have R6 := RS.brought R4 R0 sx (dk rfl).1 (dk rfl).2 fr'
          have l6 : (bring ρ' ρ4 (own.map (·.2))).length = σ.length := R6.len
          have R7 := RS.back (ys := []) (ws := []) (by rw [List.append_nil, List.append_nil]; exact R6) l6 f0 bp npm (ro.mono sx)
          exact ⟨F4, bring ρ' ρ4 (own.map (·.2)), acc, R7, l6, s'.trans (s2.trans sx), freeS_bring fr' (by rw [R4.len, (dk rfl).1, l']), d4⟩
  · obtain ⟨F', ρ', acc, R', l', s', _, d⟩ := q
    rw [List.drop_length] at d
    exact d _ F' H' R' (s1.trans s') l'
theorem fo_lc {elt tg iter : Expr} {ifs : List Expr} {scope : Scope} {own : List (Str × Nat)} {src : M (List T)} {gt : MG} {is : List Nat} {test : M Bool} (hc : X.calm = true) (hN : X.N.Nodup) (hi : FI X E tg iter src) (ok : BlkOk X.N X.env.scope scope own)
    (hg : ∀ (s : Shared) (H : Hp) (C : Addr) (cl : List (Str × Addr)) (fp : List Addr), PG (X.blk s H scope (compEnvC scope cl C X.env) fp) tg (tG X is gt)) (his : ∀ i ∈ is, i ∈ own.map (·.2))
    (ht : ∀ (s : Shared) (H : Hp) (C : Addr) (cl : List (Str × Addr)) (fp : List Addr), PTs (X.blk s H scope (compEnvC scope cl C X.env) fp) ifs (tT X E0 test))
    (he : ∀ (s : Shared) (H : Hp) (C : Addr) (cl : List (Str × Addr)) (fp : List Addr), PE (X.blk s H scope (compEnvC scope cl C X.env) fp) elt (tE X E0 f)) (hs : ∀ x, foldedSetIterable iter X.env x = pure x := by intro _; rfl) :
    FO X E (.ListComp elt [⟨tg, iter, ifs, 0⟩] scope pos) (lcM (own.map (·.2)) src gt test f) := pe_imp (pe_lc hc hN hi ok hg ht he hs) fun σ H Q h => lc_of his h
end
end FL

/-! FL7: objects of one's own; isinstance; slices; what a def is worth. -/
namespace FL
open PySem PySem.Spec L2

/-! ### objects of one's own -/
def SV.obj (x : SV) : Option O := match x with
  | .ow o => some o
  | .pa o => some o
  | _ => none
def rdOwn (i : Nat) (ρ : Env) : Option O := ρ[i]?.bind SV.obj
def setOwn (i : Nat) (o : O) (ρ : Env) : Env := match ρ[i]? with
  | some x => ρ.set i (x.to o)
  | none => ρ
theorem obj_cases {x : SV} {o : O} (h : x.obj = some o) : x = .ow o ∨ x = .pa o := by
  cases x <;> simp only [SV.obj, Option.some.injEq, reduceCtorEq] at h
  · subst h; exact .inl rfl
  · subst h; exact .inr rfl
section
variable {K : PySem.W.Frag} {mg : Str → Option Value} {B F0 F F' : Hp} {pm : Option Addr} {ρ ρ' : Env} {σ σ' : L2.St} {H H' : Hp} {i : Nat}
theorem RS.own {o : O} (R : RS K mg B F0 pm rw F ρ σ H) (h : rdOwn i ρ = some o) : ∃ a h, σ[i]? = some (some (.ref a)) ∧ F a = none ∧ H a = some h ∧ ORep K mg F o h ∧
    ∀ {o' : O} {h' : HO}, ORep K mg F o' h' → RS K mg B F0 pm rw F (setOwn i o' ρ) σ (upd H a h') := by
  unfold rdOwn at h
  rw [Option.bind_eq_some_iff] at h
  obtain ⟨x, hx, ho⟩ := h
  obtain ⟨a, h, e1, e2, e3, e4, _⟩ := R.chg (o := o) (o' := o) hx (obj_cases ho)
  refine ⟨a, h, e1, e2, e3, e4, fun {o' h'} r => ?_⟩
  obtain ⟨a', h2, e1', _, _, _, mk⟩ := R.chg (o := o) (o' := o') hx (obj_cases ho)
  rw [e1] at e1'
  cases e1'
  unfold setOwn
  rw [hx]
  exact mk r
end
section
variable {X : Cx} {E : XK} {e b : Expr} {es : List Expr} {pos p : Pos} {f fb fv : M T} {fs : M (List T)} {i : Nat} {x : Str}
/-- the object in slot i, behind an evaluation -/
theorem own_two {k k' : Bk} {F F1 : Hp} {ρ ρ1 : Env} {σ : L2.St} {H H1 : Hp} {o : O} {a : Addr} {h : HO} (R1 : RSk X k F1 ρ1 σ H1) (es : σ[i]? = some (some (.ref a))) (h : rdOwn i ρ1 = some o) : ∃ h, F1 a = none ∧ H1 a = some h ∧ ORep X.K X.mg F1 o h ∧
    ∀ {o' : O} {h' : HO}, ORep X.K X.mg F1 o' h' → RSk X k F1 (setOwn i o' ρ1) σ (upd H1 a h') := by
  obtain ⟨a1, h1, e1, e2, e3, e4, mk⟩ := R1.own h
  rw [es] at e1
  cases e1
  exact ⟨h1, e2, e3, e4, mk⟩
def withOwn {α : Type} (i : Nat) (f : M α) : M α := fun ρ => match rdOwn i ρ with
  | some _ => f ρ
  | none => .bad
theorem Den.own {α : Type} {f : M α} {ρ : Env} {p : α → Env → Prop} {x : Ex → Prop} (h : Den (withOwn i f ρ) p x) : (∃ o, rdOwn i ρ = some o) ∧ Den (f ρ) p x := by
  unfold withOwn at h
  split at h
  · rename_i o e
    exact ⟨⟨o, e⟩, h⟩
  · exact h.elim
/-- x[e] = v -/
def sSetI (i : Nat) (fi fv : M T) : MS := fun ρ => (fv ρ).bind fun t ρ => withOwn i (fun ρ => (fi ρ).bind fun y ρ => match rdOwn i ρ, y with
  | some (.l ts), .int j => match idx ts.length j with
    | some m => .ok .nx (setOwn i (.l (ts.set m t)) ρ)
    | none => .bad
  | _, _ => .bad) ρ
theorem fs_setI {p2 : Pos} {fi : M T} (hN : X.N[i]? = some x := by rfl) (hv : Vis X.env.scope x := by first | exact Or.inl rfl | exact Or.inr (Or.inl rfl) | exact Or.inr (Or.inr rfl)) (hb : FE X E b fi) (he : FE X E e fv)
    (ha : ∀ v, assign (.Subscript (.Name x p) b p2) X.env v = (do
      let ov ← holding [v] (eval (.Name x p) X.env)
      let iv ← holding [v, ov] (eval b X.env)
      standAt p2
      holding [v, ov, iv] (setItem ov iv v)
      release [v, ov, iv] []) := by intro _; rfl) (hs : swapsWithSole [Expr.Subscript (.Name x p) b p2] e pos.line X.env = pure false := by rfl) (hw : swappedStores [Expr.Subscript (.Name x p) b p2] e X.env = pure none := by rfl)
    (h1 : (assignEach [Expr.Subscript (.Name x p) b p2] X.env).map (·.2) = [assign (Expr.Subscript (.Name x p) b p2) X.env] := by rfl) (hd : (x == ("__debug__" : Str)) = false := by decide) (hcd : (x == ("__classdict__" : Str)) = false := by decide) :
    FS X E (.Assign [.Subscript (.Name x p) b p2] e pos) (sSetI i fi fv) := by
  refine ps_imp (ps_asg he (pg_sub (pe_var hN hv hd hcd) hb set_list ha) hs hw h1) fun D σ H h => ?_
  obtain ⟨k, F, ρ, R, h⟩ := h
  refine ⟨k, F, ρ, R, (Den.bind h).imp fun t ρ1 h1 v F1 H1 R1 s1 r1 => ?_⟩
  obtain ⟨⟨o, ho⟩, h1⟩ := Den.own h1
  obtain ⟨a, h0, es, _⟩ := R1.own ho
  refine ⟨.ref a, es, k, F1, ρ1, R1, (Den.bind h1).imp fun y ρ2 h2 w F2 H2 R2 s2 r2 => ?_⟩
  split at h2
  · rename_i ts j e1
    split at h2
    · rename_i m em
      obtain ⟨h3, e2, e3, e4, mk⟩ := own_two (k' := k) (F := F) (ρ := ρ) (H := H) (h := h0) R2 es e1
      obtain ⟨vs, rfl, rv⟩ := e4
      refine ⟨a, vs, j, m, rfl, r2, e3, by rw [← rv.length]; exact em, ?_⟩
      exact h2 _ F2 _ (mk (o' := .l (ts.set m t)) ⟨_, rfl, rv.set (r1.mono s2) m⟩) (s1.trans s2)
    · exact h2.elim
  · exact h2.elim
theorem RS.freeze {K : PySem.W.Frag} {mg : Str → Option Value} {B F0 F : Hp} {pm : Option Addr} {ρ : Env} {σ : L2.St} {H : Hp} {o : O} (R : RS K mg B F0 pm rw F ρ σ H) (hi : ρ[i]? = some (.ow o)) :
    ∃ a F', σ[i]? = some (some (.ref a)) ∧ Same F F' ∧ Rep K mg F' (frzO o) (.ref a) ∧ RS K mg B F0 pm rw F' (ρ.set i (.fz (frzO o))) σ H := by
  obtain ⟨α, h1, h2⟩ := R.ex
  obtain ⟨es, fn, bn, npm, h, hh, ro⟩ := h1 i _ hi
  have hlt : i < ρ.length := (List.getElem?_eq_some_iff.mp hi).1
  have sF : Same F (upd F (α i) h) := same_upd fn
  have src : ∀ (j : Nat) (y : SV), (ρ.set i (.fz (frzO o)))[j]? = some y → (j = i ∧ y = .fz (frzO o)) ∨ (j ≠ i ∧ ρ[j]? = some y) := fun j y hy => by
    by_cases e : j = i
    · subst e
      rw [List.getElem?_set_self hlt] at hy
      exact .inl ⟨rfl, (Option.some.inj hy).symm⟩
    · rw [List.getElem?_set_ne (Ne.symm e)] at hy
      exact .inr ⟨e, hy⟩
  refine ⟨α i, upd F (α i) h, es, sF, rep_frz fn ro, ⟨by simpa using R.len, fun a u e => ?_, R.bh, R.f0.trans sF, fun a u e => ?_, R.pt, R.tb.updF2 hh ro.plain, α, fun j y hy => ?_, fun j m y z hy hz oy oz ne => ?_⟩⟩
  · by_cases ha : a = α i
    · subst ha; rw [upd_same] at e; cases e; exact hh
    · rw [upd_ne ha] at e; exact R.fh _ _ e
  · by_cases ha : a = α i
    · subst ha; exact .inr (.inl bn)
    · rw [upd_ne ha] at e; exact R.fr _ _ e
  · rcases src j y hy with ⟨e, ey⟩ | ⟨ne, e⟩
    · subst e ey
      exact ⟨_, es, rep_frz fn ro⟩
    · have q := h1 j y e
      cases y with
      | un => trivial
      | fz t => obtain ⟨v, a, b⟩ := q; exact ⟨v, a, b.mono sF⟩
      | raw n => obtain ⟨v, a, b⟩ := q; exact ⟨v, a, b⟩
      | ow o1 => obtain ⟨a, b, c, d, u, e1, e2⟩ := q; exact ⟨a, by rw [upd_ne (h2 j i _ _ e hi rfl rfl ne)]; exact b, c, d, u, e1, e2.mono sF⟩
      | pa o1 => obtain ⟨a, b, c, d, u, e1, e2⟩ := q; exact ⟨a, by rw [upd_ne (h2 j i _ _ e hi rfl rfl ne)]; exact b, c, d, u, e1, e2.mono sF⟩
  · have back : ∀ (n : Nat) (w : SV), (ρ.set i (.fz (frzO o)))[n]? = some w → w.owned = true → ρ[n]? = some w := fun n w hn ow => by
      rcases src n w hn with ⟨_, e⟩ | ⟨_, e⟩
      · subst e; cases ow
      · exact e
    exact h2 j m y z (back j y hy oy) (back m z hz oz) oy oz ne
/-! ### isinstance -/
inductive Ty where
  | non | bl | int | str | lst | tup | dct
  deriving DecidableEq
def Ty.nm : Ty → String
  | .non => "NoneType" | .bl => "bool" | .int => "int" | .str => "str" | .lst => "list" | .tup => "tuple" | .dct => "dict"
def tyT : T → Option Ty
  | .non => some .non
  | .bl _ => some .bl
  | .int _ => some .int
  | .str _ => some .str
  | .lst _ => some .lst
  | .sl _ => some .lst
  | .tup _ => some .tup
  | .dk _ _ => some .dct
  | _ => none
/-- of a type, a class's name (a builtin one) -/
def isTy (a b : Ty) : Bool := decide (a = b) || (decide (a = .bl) && decide (b = .int))
theorem isTy_ok (a b : Ty) : kitB a.nm b.nm = some (isTy a b) := by
  cases a <;> cases b <;> decide +kernel
theorem tyx_of {K : PySem.W.Frag} {mg : Str → Option Value} {F H : Hp} {t : T} {v : V} {y : Ty} (s : Same F H) (r : Rep K mg F t v) (e : tyT t = some y) : TyX K H v (.type y.nm) := by
  have sq : ∀ {a : Addr} {xs : List V}, SqL K H a xs → TyX K H (.ref a) (.type "list") := fun h => by
    rcases h with (h | ⟨o, h⟩) | ⟨o, its, n, h, c, _⟩
    · exact .base (.lst h)
    · exact .base (.frz h)
    · exact .kList h c
  have sqt : ∀ {a : Addr} {xs : List V}, SqT K H a xs → TyX K H (.ref a) (.type "tuple") := fun h => by
    rcases h with (h | ⟨o, h⟩) | ⟨o, its, n, h, c, _⟩
    · exact .base (.tup h)
    · exact .fTuple h
    · exact .kTuple h c
  cases t <;> simp only [tyT, Option.some.injEq, reduceCtorEq] at e <;> subst e
  · have ev : v = .non := r
    subst ev; exact .base .non
  · have ev : v = .bl _ := r
    subst ev; exact .base (.bl _)
  · have ev : v = .int _ := r
    subst ev; exact .base (.int _)
  · have ev : v = .str _ := r
    subst ev; exact .base (.str _)
  · obtain ⟨p, vs, rfl, h1, _⟩ := r; exact sq (SqL.of (s _ _ h1))
  · obtain ⟨p, vs, rfl, h1, _⟩ := r; exact sqt (same_SqT s h1)
  · obtain ⟨p, vs, rfl, h1, _⟩ := r; exact sq (same_SqL s h1)
  · obtain ⟨p, kvs, rfl, h1, _⟩ := r
    exact .base (.dK (s _ _ h1))
def isiO (b : Ty) (t : T) : Option T := (tyT t).map fun a => .bl (isTy a b)
theorem fe_isi (b : Ty) {ty : Str} {a : Expr} {p1 p2 : Pos} {fa : M T} (hg : Gl X "isinstance") (hm : X.mg "isinstance" = none) (hbt : bootBuiltins "isinstance" = some (.builtin "isinstance")) (hgt : Gl X ty) (hmt : X.mg ty = none) (hbty : bootBuiltins ty = some (.type b.nm)) (ha : FE X E a fa)
    (hn : ty ≠ "__name__" := by decide) (hdb : (ty == ("__debug__" : Str)) = false := by decide) (h1 : starEach [a, Expr.Name ty p2] X.env = (false, eval a X.env) :: starEach [Expr.Name ty p2] X.env := by rfl) (h2 : starEach [Expr.Name ty p2] X.env = (false, eval (Expr.Name ty p2) X.env) :: starEach [] X.env := by rfl)
    (hpl : (backTo pos (starEach [Expr.Name ty p2] X.env)).any (·.1) = false := by rfl) : FE X E (.Call (.Name "isinstance" p1) [a, .Name ty p2] [] pos) (op1 (isiO b) fa) := by
  refine pe_imp (pe_callB call_isi hg hm hbt (pa_cons ha (pa_cons (pe_bltn (v := .ty b.nm) hgt hmt hbty rfl hn hdb) pa_nil h2) h1) (by decide) (by decide) h1 hpl) fun σ H Q h => ?_
  obtain ⟨k, F, ρ, R, h⟩ := h
  refine ⟨k, F, ρ, R, (Den.bind h).imp fun t ρ1 h1 v F1 H1 R1 s1 r1 => ?_⟩
  obtain ⟨u, e, q⟩ := Den.lift h1
  unfold isiO at e
  rw [Option.map_eq_some_iff] at e
  obtain ⟨y, e, rfl⟩ := e
  exact ⟨v, .ty b.nm, .type y.nm, .type b.nm, isTy y b, rfl, .ty _, tyx_of R1.fh r1 e, kit_ty (isTy_ok y b), q _ F1 H1 R1 s1 rfl⟩
/-! ### slices -/
abbrev MO := M (Option Int)
def tPO (X : Cx) (E : XK) (f : MO) : TO := fun σ H Q => ∃ k F ρ, RSk X k F ρ σ H ∧ Den (f ρ) (fun i ρ' => ∀ F' H', RSk X k F' ρ' σ H' → Same F F' → Q i H') (XOk X.K X.mg k E)
abbrev FPO (X : Cx) (E : XK) (e : Option Expr) (f : MO) : Prop := PO X e (tPO X E f)
def poN : MO := fun ρ => .ok none ρ
def poS (f : M T) : MO := fun ρ => (f ρ).bind fun t ρ => match t with
  | .int i => .ok (some i) ρ
  | _ => .bad
theorem fpo_none : FPO X E none poN := ⟨fun pins s σ H Q I ⟨k, F, ρ, R, h⟩ => po_none.run pins s σ H Q I (h F H R (Same.refl _))⟩
theorem fpo_some (h : FE X E e f) : FPO X E (some e) (poS f) := ⟨fun pins s σ H Q I hw => by
  obtain ⟨k, F, ρ, R, hw⟩ := hw
  refine (po_some h).run pins s σ H Q I ⟨k, F, ρ, R, (Den.bind hw).imp fun t ρ1 h1 v F1 H1 R1 s1 r1 => ?_⟩
  split at h1
  · rename_i j
    exact ⟨j, r1, h1 F1 H1 R1 s1⟩
  · exact h1.elim⟩
def cutT (xs : List T) (lo hi : Option Int) : List T := (xs.drop (HT.sIx xs.length 0 lo)).take (HT.sIx xs.length xs.length hi - HT.sIx xs.length 0 lo)
theorem Reps.cut {K : PySem.W.Frag} {mg : Str → Option Value} {F : Hp} {ts : List T} {vs : List V} (r : Reps K mg F ts vs) (lo hi : Option Int) : Reps K mg F (cutT ts lo hi) (cutV vs lo hi) := by
  unfold cutT cutV
  rw [r.length]
  exact (r.drop _).take _
def slO (t : T) (lo hi : Option Int) : Option T := match t with
  | .lst ts => some (.lst (cutT ts lo hi))
  | .tup ts => some (.tup (cutT ts lo hi))
  | .str z => if z.length ≤ 16777216 then some (.str (cutS z lo hi)) else none
  | _ => none
def slM (fa : M T) (fl fh : MO) : M T := fun ρ => (fa ρ).bind fun t ρ => (fl ρ).bind fun lo ρ => (fh ρ).bind fun hi ρ => liftO (slO t lo hi) ρ
def rSlice (X : Cx) : V → Option Int → Option Int → Hp → VK → Prop := fun x lo hi H Q => rSlL X.K x lo hi H Q ∨ rSlA X.K x lo hi H Q ∨ rSlS x lo hi H Q
theorem sl_all : SlR X (rSlice X) := SlR.or sl_list (SlR.or sl_tupA sl_str)
theorem fe_slice {lo hi : Option Expr} {fa : M T} {fl fh : MO} {p2 : Pos} (ha : FE X E e fa) (hl : FPO X E lo fl) (hh : FPO X E hi fh) : FE X E (.Subscript e (.Slice lo hi none p2) pos) (slM fa fl fh) := by
  refine pe_imp (pe_slice sl_all ha hl hh) fun σ H Q h => ?_
  obtain ⟨k, F, ρ, R, h⟩ := h
  refine ⟨k, F, ρ, R, (Den.bind h).imp fun t ρ1 h1 v F1 H1 R1 s1 r1 => ?_⟩
  refine ⟨k, F1, ρ1, R1, (Den.bind h1).imp fun l ρ2 h2 F2 H2 R2 s2 => ?_⟩
  refine ⟨k, F2, ρ2, R2, (Den.bind h2).imp fun u ρ3 h3 F3 H3 R3 s3 => ?_⟩
  obtain ⟨t', e, q⟩ := Den.lift h3
  have r3 := r1.mono (s2.trans s3)
  have sA : Same F F3 := s1.trans (s2.trans s3)
  unfold slO at e
  split at e
  · cases e
    obtain ⟨p, vs, rfl, g1, g2⟩ := r3
    refine .inl ⟨p, vs, rfl, SqL.of (R3.fh _ _ g1), fun p' np => ?_⟩
    have sF : Same F3 (upd F3 p' (.lst (cutV vs l u))) := same_upd (R3.fnone np)
    exact q _ _ _ (R3.newF np) (sA.trans sF) ⟨p', _, rfl, upd_same, (g2.cut l u).mono sF⟩
  · cases e
    obtain ⟨p, vs, rfl, g1, g2⟩ := r3
    refine .inr (.inl ⟨p, vs, rfl, same_SqT R3.fh g1, fun hw => ?_, fun _ p' np => ?_⟩)
    · refine q _ _ _ R3 sA ⟨p, vs, rfl, g1, ?_⟩
      have := g2.cut l u
      unfold cutV at this
      rw [hw.1, hw.2, List.drop_zero, Nat.sub_zero, List.take_length] at this
      exact this
    · have sF : Same F3 (upd F3 p' (.tup (cutV vs l u))) := same_upd (R3.fnone np)
      exact q _ _ _ (R3.newF np) (sA.trans sF) ⟨p', _, rfl, upd_same, (g2.cut l u).mono sF⟩
  · rename_i z
    split at e
    · rename_i hz
      cases e
      exact .inr (.inr ⟨z, r3, by rw [szL]; exact hz, q _ _ _ R3 sA rfl⟩)
    · cases e
  · cases e
end

/-! ### what a def is worth -/
/-- a def as a function upon trees (of a result the state means nothing) -/
abbrev Sg := List T → Res T
def spF (K : PySem.W.Frag) (mg : Str → Option Value) (g : Sg) : Sp := fun vs H Q E => ∃ B F ts, Same F H ∧ Same B H ∧ Tb K mg F B H ∧ Reps K mg F ts vs ∧
  Den (g ts) (fun t _ => ∀ v F' H', Same F' H' → Same B H' → Tb K mg F' B H' → Same F F' → (∀ a o, F' a = some o → (∃ u, F a = some u) ∨ NB B a o) → Rep K mg F' t v → Q v H') (XOk K mg ⟨B, F, none, []⟩ E)
def outF (r : Res Fl) : Res T := match r with
  | .bad => .bad
  | .exc e => .exc e
  | .ok (.rt t) _ => .ok t []
  | .ok .nx _ => .ok .non []
  | .ok _ _ => .bad
/-- of a body: n names, m parameters -/
def fnF (n m : Nat) (fb : MS) : Sg := fun ts => if ts.length = m ∧ m ≤ n then outF (fb (ts.map SV.fz ++ List.replicate (n - m) SV.un)) else .bad
structure Known (P : Program) (w : World) (K : PySem.W.Frag) (mg : Str → Option Value) (base : Heap) (k : Nat) (nm : Str) (g : Sg) : Prop where
  ok : ∃ (f : Addr) (fd : FuncData) (ps : List Str), mg nm = some (.ref f) ∧ PySem.W.keepIn K (.ref f) = true ∧ Binds K fd ps [] ∧ FnOk P w K mg base (L2.CX P w) k f fd ps (spF K mg g)
theorem Known.mono {P : Program} {w : World} {K : PySem.W.Frag} {mg : Str → Option Value} {base : Heap} {j k : Nat} {nm : Str} {g : Sg} (h : Known P w K mg base j nm g) (l : j ≤ k) : Known P w K mg base k nm g := by
  obtain ⟨f, fd, ps, a, b, c, d⟩ := h.ok
  exact ⟨f, fd, ps, a, b, c, d.mono l⟩
section
variable {P : Program} {w : World} {K : PySem.W.Frag} {mg : Str → Option Value} {base : Heap}
theorem Den.ne {α : Type} {r : Res α} {p : α → Env → Prop} {x : Ex → Prop} (h : Den r p x) : r ≠ .bad := fun e => by rw [e] at h; exact h
theorem start_slots {B F : Hp} {H : Hp} {N : List Str} {ts : List T} {vs : List V} (s : Same F H) (b : Same B H) (tb : Tb K mg F B H) (r : Reps K mg F ts vs) (hl : ts.length ≤ N.length) : RS K mg B F none rw F (ts.map SV.fz ++ List.replicate (N.length - ts.length) SV.un) (L2.start N vs) H := by
  have lv := r.length
  refine ⟨?_, s, b, Same.refl _, fun a o e => .inl ⟨o, e⟩, (fun a e => nomatch e), tb, fun _ => 0, fun i x hx => ?_, fun i j x y hx _ ox _ _ => ?_⟩
  · unfold L2.start
    simp only [List.length_append, List.length_map, List.length_replicate]
    omega
  · by_cases hi : i < ts.length
    · rw [List.getElem?_append_left (by simpa using hi), List.getElem?_map, List.getElem?_eq_getElem hi] at hx
      cases hx
      obtain ⟨v, h1, h2⟩ := r.get (List.getElem?_eq_getElem hi)
      refine ⟨v, ?_, h2⟩
      unfold L2.start
      rw [List.getElem?_append_left (by simp; omega), List.getElem?_map, h1]
      rfl
    · rw [List.getElem?_append_right (by simpa using hi), List.getElem?_replicate] at hx
      split at hx
      · cases hx; trivial
      · cases hx
  · exfalso
    by_cases hi : i < ts.length
    · rw [List.getElem?_append_left (by simpa using hi), List.getElem?_map, List.getElem?_eq_getElem hi] at hx
      cases hx; cases ox
    · rw [List.getElem?_append_right (by simpa using hi), List.getElem?_replicate] at hx
      split at hx
      · cases hx; cases ox
      · cases hx
/-- a def by its body -/
theorem fn_ok {x qual : Str} {st : Stmt} {f : Addr} {fd : FuncData} {N ps : List Str} {k : Nat} {fb : MS} (F : Fun K x qual st f fd) (S : FnScope N ps (defScope st))
    (hb : ∀ (cdv : Value) (A : Around) (outer : List PySem.Env) (s : Shared) (H : Hp) (E : XK), Room k (A.deeper (PyProof.Rows.envOfC qual (defScope st) s.heap.objs.size f cdv)) → FSs (cxOf (L2.CX P w) P w K mg base N qual (defScope st) f cdv A outer s H E) E (defBody st) fb) :
    FnOk P w K mg base (L2.CX P w) (k + 1) f fd ps (spF K mg (fnF N.length ps.length fb)) := by
  refine F.okX S (fun vs H Q E h => ?_) (fun cdv A outer s H vs Q E hr h => ?_)
  · obtain ⟨B, F, ts, _, _, _, r, d⟩ := h
    unfold fnF at d
    split at d
    · rename_i hl
      rw [← r.length]; exact hl.1
    · exact d.elim
  · obtain ⟨B, F', ts, sF, sB, tb, r, d⟩ := h
    refine ⟨_, hb cdv A outer s H E hr, ⟨B, F', none, []⟩, F', ts.map SV.fz ++ List.replicate (N.length - ps.length) SV.un, ?_, ?_⟩
    · unfold fnF at d
      split at d
      · rename_i hl
        have q := start_slots (rw := []) (N := N) sF sB tb r (by omega)
        rw [hl.1] at q
        exact q
      · exact d.elim
    · unfold fnF at d
      split at d
      · cases e : fb (ts.map SV.fz ++ List.replicate (N.length - ps.length) SV.un) with
        | bad => rw [e] at d; exact d
        | exc x => rw [e] at d; exact d
        | ok fl ρ =>
          rw [e] at d
          cases fl with
          | nx => exact fun σ' F2 H' R s' => d .non F2 H' R.fh R.bh R.tb s' (fun a o q => R.fr a o q) rfl
          | bk => exact d.elim
          | ct => exact d.elim
          | rt t => exact fun v σ' F2 H' R s' rv => d v F2 H' R.fh R.bh R.tb s' (fun a o q => R.fr a o q) rv
      · exact d.elim
end
/-- a call of a def -/
def calU (g : Sg) (fs : M (List T)) : M T := fun ρ => (fs ρ).bind fun ts ρ => match g ts with
  | .bad => .bad
  | .exc e => .exc e
  | .ok t _ => .ok t ρ
section
variable {X : Cx} {E : XK} {e : Expr} {es : List Expr} {pos p : Pos} {fs : M (List T)} {x : Str} {g : Sg}
theorem XOk.mono {K : PySem.W.Frag} {mg : Str → Option Value} {k k' : Bk} {x : Ex} (s : ∀ H, Lv K mg k' H → Lv K mg k H) (h : XOk K mg k E x) : XOk K mg k' E x := by
  obtain ⟨c, a⟩ := x
  cases a with
  | none => exact fun C H' m s' => h C H' m (s _ s')
  | some a => exact fun C d v F' H' m s' => h C d v F' H' m (s _ s')
/-- a heap without the law's tables -/
noncomputable def hideTab (K : PySem.W.Frag) (mg : Str → Option Value) (H : Hp) : Hp := fun b => by classical exact if LawTab K mg b then none else H b
section
variable {K : PySem.W.Frag} {mg : Str → Option Value} {F B H H' : Hp} {b : Addr} {u : HO}
theorem hideTab_tab (h : LawTab K mg b) : hideTab K mg H b = none := by unfold hideTab; exact if_pos h
theorem hideTab_ne (h : ¬ LawTab K mg b) : hideTab K mg H b = H b := by unfold hideTab; exact if_neg h
theorem hideTab_same : Same (hideTab K mg H) H := fun b u e => by
  by_cases h : LawTab K mg b
  · rw [hideTab_tab h] at e; cases e
  · rwa [hideTab_ne h] at e
theorem hideTab_none (h : hideTab K mg H b = none) : H b = none ∨ LawTab K mg b := by
  by_cases q : LawTab K mg b
  · exact .inr q
  · rw [hideTab_ne q] at h; exact .inl h
theorem hideTab_keep (s : Same (hideTab K mg H) H') (n : ¬ LawTab K mg b) (e : H b = some u) : H' b = some u := s _ _ (by rw [hideTab_ne n]; exact e)
theorem Tb.not (t : Tb K mg F B H) (e : B b = some u) : ¬ LawTab K mg b := fun q => by rw [t.b b q] at e; cases e
theorem Tb.notH {h : HO} (t : Tb K mg F B H) (e : H b = some h) (p : plainO h) : ¬ LawTab K mg b := fun q => t.x.ne e p q rfl
theorem Tb.hidden (t : Tb K mg F B H) : Tb K mg F (hideTab K mg H) H := ⟨t.x, t.f, fun P q => hideTab_tab q⟩
end
/-- behind a call of a def that changes nothing -/
theorem RS.called {K : PySem.W.Frag} {mg : Str → Option Value} {B F0 F F' : Hp} {pm : Option Addr} {ρ : Env} {σ : L2.St} {H H' : Hp} (R : RS K mg B F0 pm rw F ρ σ H) (s1 : Same F' H') (s2 : Same (hideTab K mg H) H') (tb : Tb K mg F' (hideTab K mg H) H') (s3 : Same F F') (fr : ∀ a o, F' a = some o → (∃ u, F a = some u) ∨ NB (hideTab K mg H) a o) : RS K mg B F0 pm rw F' ρ σ H' := by
  obtain ⟨α, h1, h2⟩ := R.ex
  have far : ∀ a h, (∀ vs, h ≠ .tup vs) → H a = some h → F a = none → F' a = none := fun a h nt e n => by
    cases q : F' a with
    | none => rfl
    | some u =>
      rcases fr a u q with ⟨w, e'⟩ | e'
      · rw [n] at e'; cases e'
      · rcases e' with e' | ⟨vs, rfl⟩
        · rcases hideTab_none e' with z | z
          · rw [e] at z; cases z
          · rw [tb.f a z] at q; cases q
        · exact (nt vs (Option.some.inj ((hideTab_keep s2 (fun z => by rw [tb.f a z] at q; cases q) e).symm.trans (s1 _ _ q)))).elim
  refine ⟨R.len, s1, fun a u e => hideTab_keep s2 (R.tb.not e) (R.bh _ _ e), R.f0.trans s3, fun a o e => ?_, fun a e => ?_, ⟨tb.x, tb.f, R.tb.b⟩, α, fun j y hy => ?_, h2⟩
  · rcases fr a o e with ⟨u, q⟩ | q
    · rcases R.fr a u q with z | z | ⟨vs, rfl⟩
      · exact .inl z
      · exact .inr (.inl z)
      · exact .inr (.inr ⟨vs, Option.some.inj ((s1 _ _ e).symm.trans (s1 _ _ (s3 _ _ q)))⟩)
    · rcases q with q | q
      · rcases hideTab_none q with z | z
        · exact .inr (.inl (R.bnone z))
        · rw [tb.f a z] at e; cases e
      · exact .inr (.inr q)
  · obtain ⟨o, q⟩ := R.pt a e
    by_cases z : LawTab K mg a
    · obtain ⟨ps, z1, _⟩ := tb.x a z
      exact ⟨_, z1⟩
    · exact ⟨o, hideTab_keep s2 z q⟩
  · have q := h1 j y hy
    cases y with
    | un => trivial
    | fz t => obtain ⟨v, a, b⟩ := q; exact ⟨v, a, b.mono s3⟩
    | raw n => obtain ⟨v, a, b⟩ := q; exact ⟨v, a, b⟩
    | ow o => obtain ⟨a, b, c, d, u, e1, e2⟩ := q; exact ⟨a, far _ _ e2.ntup e1 b, c, d, u, hideTab_keep s2 (R.tb.notH e1 e2.plain) e1, e2.mono s3⟩
    | pa o => obtain ⟨a, b, c, d, u, e1, e2⟩ := q; exact ⟨a, far _ _ e2.ntup e1 b, c, d, u, hideTab_keep s2 (R.tb.notH e1 e2.plain) e1, e2.mono s3⟩
/-- the exceptions that a callee lets out are let out by the caller -/
theorem RS.lv {K : PySem.W.Frag} {mg : Str → Option Value} {k : Bk} {F : Hp} {ρ : Env} {σ : L2.St} {H : Hp} (R : RS K mg k.B k.F0 k.pm k.rw F ρ σ H) (H' : Hp) (l : Lv K mg ⟨hideTab K mg H, F, none, []⟩ H') : Lv K mg k H' := by
  refine ⟨fun a u e => hideTab_keep l.1 (R.tb.not e) (R.bh _ _ e), R.f0.trans l.2.1, fun a e => ?_, l.2.2.2⟩
  obtain ⟨o, q⟩ := R.pt a e
  by_cases z : LawTab K mg a
  · obtain ⟨ps, z1, _⟩ := l.2.2.2 a z
    exact ⟨_, z1⟩
  · exact ⟨o, hideTab_keep l.1 z q⟩
theorem fe_call {k : Nat} (Kn : Known X.prog X.w X.K X.mg X.base k x g) (hr : Room k X.A) (hg : Gl X x) (hx : Passes (L2.CX X.prog X.w) X E) (ha : FA X E (e :: es) fs) (hdb : (x == ("__debug__" : Str)) = false := by decide)
    (he : starEach (e :: es) X.env = (false, eval e X.env) :: starEach es X.env := by rfl) (hpl : (backTo pos (starEach es X.env)).any (·.1) = false := by rfl) : FE X E (.Call (.Name x p) (e :: es) [] pos) (calU g fs) := by
  obtain ⟨f, fd, ps, hm, hk, hb, F⟩ := Kn.ok
  refine pe_imp (pe_call F hr hg hm hk hb .nil hx ha hdb he hpl) fun σ H Q h => ?_
  obtain ⟨kk, F, ρ, R, h⟩ := h
  refine ⟨kk, F, ρ, R, (Den.bind h).imp fun ts ρ1 h1 vs F1 H1 R1 s1 r1 => ?_⟩
  show spF X.K X.mg g (vs ++ []) H1 Q E
  rw [List.append_nil]
  refine ⟨hideTab X.K X.mg H1, F1, ts, R1.fh, hideTab_same, R1.tb.hidden, r1, ?_⟩
  cases eg : g ts with
  | bad => rw [eg] at h1; exact h1
  | exc x => rw [eg] at h1; exact XOk.mono (fun H' l => R1.lv H' l) h1
  | ok t ρx =>
    rw [eg] at h1
    exact fun v F' H' a b t c d r => h1 v F' H' (R1.called a b t c d) (s1.trans c) r
end
end FL

/-! FL8: defs that change an object that the caller lends; the law's end. -/
namespace FL
open PySem PySem.Spec L2

abbrev SgM := O → List T → Res (T × O)
def spM (K : PySem.W.Frag) (mg : Str → Option Value) (g : SgM) : Sp := fun vs H Q E => ∃ B F a h o ws ts, vs = .ref a :: ws ∧ Same F H ∧ Same B H ∧ Tb K mg F B H ∧ F a = none ∧ B a = none ∧ H a = some h ∧ ORep K mg F o h ∧ Reps K mg F ts ws ∧
  Den (g o ts) (fun r _ => ∀ v F' H' h', Same F' H' → Same B H' → Tb K mg F' B H' → Same F F' → (∀ b u, F' b = some u → (∃ u, F b = some u) ∨ NB B b u) → F' a = none → H' a = some h' → ORep K mg F' r.2 h' → Rep K mg F' r.1 v → Q v H') (fun _ => False)
def lent (ρ : Env) : Option O := match ρ with
  | .pa o :: _ => some o
  | _ => none
theorem lent_some {ρ : Env} {o : O} (h : lent ρ = some o) : ρ[0]? = some (.pa o) := by
  unfold lent at h
  split at h
  · cases h; rfl
  · cases h
def outV (t : T) (ρ : Env) : Res (T × O) := match lent ρ with
  | some o => .ok (t, o) []
  | none => .bad
def outM (r : Res Fl) : Res (T × O) := match r with
  | .ok (.rt t) ρ => outV t ρ
  | .ok .nx ρ => outV .non ρ
  | _ => .bad
def fnM (n m : Nat) (fb : MS) : SgM := fun o ts => if ts.length + 1 = m ∧ m ≤ n then outM (fb (SV.pa o :: (ts.map SV.fz ++ List.replicate (n - m) SV.un))) else .bad
structure KnownM (P : Program) (w : World) (K : PySem.W.Frag) (mg : Str → Option Value) (base : Heap) (k : Nat) (nm : Str) (g : SgM) : Prop where
  ok : ∃ (f : Addr) (fd : FuncData) (ps : List Str), mg nm = some (.ref f) ∧ PySem.W.keepIn K (.ref f) = true ∧ Binds K fd ps [] ∧ FnOk P w K mg base (L2.CX P w) k f fd ps (spM K mg g)
theorem KnownM.mono {P : Program} {w : World} {K : PySem.W.Frag} {mg : Str → Option Value} {base : Heap} {j k : Nat} {nm : Str} {g : SgM} (h : KnownM P w K mg base j nm g) (l : j ≤ k) : KnownM P w K mg base k nm g := by
  obtain ⟨f, fd, ps, a, b, c, d⟩ := h.ok
  exact ⟨f, fd, ps, a, b, c, d.mono l⟩
section
variable {P : Program} {w : World} {K : PySem.W.Frag} {mg : Str → Option Value} {base : Heap}
theorem start_slotsM {B F : Hp} {H : Hp} {N : List Str} {ts : List T} {vs : List V} {a : Addr} {o : O} {h : HO} (s : Same F H) (b : Same B H) (tb : Tb K mg F B H) (fa : F a = none) (ba : B a = none) (ha : H a = some h) (ro : ORep K mg F o h) (r : Reps K mg F ts vs) (hl : ts.length + 1 ≤ N.length) :
    RS K mg B F (some a) rw F (SV.pa o :: (ts.map SV.fz ++ List.replicate (N.length - (ts.length + 1)) SV.un)) (L2.start N (.ref a :: vs)) H := by
  have lv := r.length
  have src : ∀ (i : Nat) (x : SV), (SV.pa o :: (ts.map SV.fz ++ List.replicate (N.length - (ts.length + 1)) SV.un))[i]? = some x → (i = 0 ∧ x = .pa o) ∨ x = .un ∨ ∃ t j, x = .fz t ∧ i = j + 1 ∧ ts[j]? = some t := fun i x hx => by
    cases i with
    | zero => exact .inl ⟨rfl, (Option.some.inj hx).symm⟩
    | succ i =>
      rw [List.getElem?_cons_succ] at hx
      by_cases hi : i < ts.length
      · rw [List.getElem?_append_left (by simpa using hi), List.getElem?_map, List.getElem?_eq_getElem hi] at hx
        cases hx
        exact .inr (.inr ⟨_, i, rfl, rfl, List.getElem?_eq_getElem hi⟩)
      · rw [List.getElem?_append_right (by simpa using hi), List.getElem?_replicate] at hx
        split at hx
        · cases hx; exact .inr (.inl rfl)
        · cases hx
  refine ⟨?_, s, b, Same.refl _, fun a o e => .inl ⟨o, e⟩, fun a' e => by cases e; exact ⟨h, ha⟩, tb, fun _ => a, fun i x hx => ?_, fun i j x y hx hy ox oy ne => ?_⟩
  · unfold L2.start
    simp only [List.length_append, List.length_map, List.length_replicate, List.length_cons]
    omega
  · rcases src i x hx with ⟨e, e'⟩ | e | ⟨t, j, e, e1, e2⟩
    · subst e e'
      exact ⟨rfl, fa, ba, rfl, h, ha, ro⟩
    · subst e; trivial
    · subst e e1
      obtain ⟨v, h1, h2⟩ := r.get e2
      refine ⟨v, ?_, h2⟩
      unfold L2.start
      have hj := (List.getElem?_eq_some_iff.mp e2).1
      rw [List.getElem?_append_left (by simp; omega), List.map_cons, List.getElem?_cons_succ, List.getElem?_map, h1]
      rfl
  · exfalso
    rcases src i x hx with ⟨e, e'⟩ | e | ⟨t, _, e, _⟩
    · rcases src j y hy with ⟨e2, _⟩ | e2 | ⟨t, _, e2, _⟩
      · exact ne (e.trans e2.symm)
      · subst e2; cases oy
      · subst e2; cases oy
    · subst e; cases ox
    · subst e; cases ox
/-- a def that changes its first argument, by its body -/
theorem fm_ok {x qual : Str} {st : Stmt} {f : Addr} {fd : FuncData} {N ps : List Str} {k : Nat} {fb : MS} (F : Fun K x qual st f fd) (S : FnScope N ps (defScope st))
    (hb : ∀ (cdv : Value) (A : Around) (outer : List PySem.Env) (s : Shared) (H : Hp) (E : XK), Room k (A.deeper (PyProof.Rows.envOfC qual (defScope st) s.heap.objs.size f cdv)) → FSs (cxOf (L2.CX P w) P w K mg base N qual (defScope st) f cdv A outer s H E) E0 (defBody st) fb) :
    FnOk P w K mg base (L2.CX P w) (k + 1) f fd ps (spM K mg (fnM N.length ps.length fb)) := by
  refine F.okX S (fun vs H Q E h => ?_) (fun cdv A outer s H vs Q E hr h => ?_)
  · obtain ⟨B, F, a, h, o, ws, ts, rfl, _, _, _, _, _, _, _, r, d⟩ := h
    unfold fnM at d
    split at d
    · rename_i hl
      rw [List.length_cons, ← r.length]; exact hl.1
    · exact d.elim
  · obtain ⟨B, F', a, h, o, ws, ts, rfl, sF, sB, tb, fa, ba, ha, ro, r, d⟩ := h
    unfold fnM at d
    split at d
    · rename_i hl
      refine ⟨_, hb cdv A outer s H E hr, ⟨B, F', some a, []⟩, F', _, start_slotsM (N := N) sF sB tb fa ba ha ro r (by omega), ?_⟩
      rw [hl.1]
      cases e : fb (SV.pa o :: (ts.map SV.fz ++ List.replicate (N.length - ps.length) SV.un)) with
      | bad => rw [e] at d; exact d
      | exc x => rw [e] at d; exact (show False from d).elim
      | ok fl ρ =>
        rw [e] at d
        have fin : ∀ {σ' : L2.St} {F2 H' : Hp} {o' : O}, RS K mg B F' (some a) [] F2 ρ σ' H' → ρ[0]? = some (.pa o') → ∃ h', F2 a = none ∧ H' a = some h' ∧ ORep K mg F2 o' h' := fun {σ' F2 H' o'} R e0 => by
          obtain ⟨α, h1, _⟩ := R.ex
          obtain ⟨_, b, _, d, u, e1, e2⟩ := h1 0 _ e0
          have ea : a = α 0 := Option.some.inj d
          rw [← ea] at b e1
          exact ⟨u, b, e1, e2⟩
        cases fl with
        | nx =>
          have d' : Den (outV .non ρ) _ _ := d
          unfold outV at d'
          split at d'
          · rename_i o' e0
            intro σ' F2 H' R s'
            obtain ⟨h', g1, g2, g3⟩ := fin R (lent_some e0)
            exact d' .non F2 H' h' R.fh R.bh R.tb s' (fun a o q => R.fr a o q) g1 g2 g3 rfl
          · exact d'.elim
        | bk => exact (show False from d).elim
        | ct => exact (show False from d).elim
        | rt t =>
          have d' : Den (outV t ρ) _ _ := d
          unfold outV at d'
          split at d'
          · rename_i o' e0
            intro v σ' F2 H' R s' rv
            obtain ⟨h', g1, g2, g3⟩ := fin R (lent_some e0)
            exact d' v F2 H' h' R.fh R.bh R.tb s' (fun a o q => R.fr a o q) g1 g2 g3 rv
          · exact d'.elim
    · exact d.elim
end
/-- a call f(x, ..) of a def that changes what x holds -/
def calM (g : SgM) (i : Nat) (fs : M (List T)) : M T := withOwn i fun ρ => (fs ρ).bind fun ts ρ => match rdOwn i ρ with
  | some o => match g o ts with
    | .ok (t, o') _ => .ok t (setOwn i o' ρ)
    | _ => .bad
  | none => .bad
section
variable {X : Cx} {E : XK} {e : Expr} {es : List Expr} {pos p p2 : Pos} {fs : M (List T)} {x y : Str} {g : SgM} {i : Nat}
theorem RS.calledM {K : PySem.W.Frag} {mg : Str → Option Value} {B F0 F F' : Hp} {pm : Option Addr} {ρ : Env} {σ : L2.St} {H H' : Hp} {a : Addr} {o o' : O} {h' : HO} (R : RS K mg B F0 pm rw F ρ σ H) (ho : rdOwn i ρ = some o) (es : σ[i]? = some (some (.ref a)))
    (s1 : Same F' H') (s2' : ∀ b u, b ≠ a → hideTab K mg H b = some u → H' b = some u) (tx : TabX K mg H') (tf : ∀ P, LawTab K mg P → F' P = none) (s3 : Same F F') (fr' : ∀ b u, F' b = some u → (∃ u, F b = some u) ∨ NB (hideTab K mg H) b u ∨ b = a) (fa : F' a = none) (ha : H' a = some h') (ro : ORep K mg F' o' h') : RS K mg B F0 pm rw F' (setOwn i o' ρ) σ H' := by
  have fr : ∀ b u, F' b = some u → (∃ u, F b = some u) ∨ NB H b u ∨ b = a := fun b u e => by
    rcases fr' b u e with q | q | q
    · exact .inl q
    · rcases q with q | q
      · rcases hideTab_none q with z | z
        · exact .inr (.inl (.inl z))
        · rw [tf b z] at e; cases e
      · exact .inr (.inl (.inr q))
    · exact .inr (.inr q)
  have s2 : ∀ b u, b ≠ a → ¬ LawTab K mg b → H b = some u → H' b = some u := fun b u n z e => s2' b u n (by rw [hideTab_ne z]; exact e)
  obtain ⟨α, h1, h2⟩ := R.ex
  unfold rdOwn at ho
  rw [Option.bind_eq_some_iff] at ho
  obtain ⟨x, hx, hox⟩ := ho
  have ox : x.owned = true := by rcases obj_cases hox with e | e <;> subst e <;> rfl
  have q : σ[i]? = some (some (.ref (α i))) ∧ F (α i) = none ∧ B (α i) = none ∧ ∃ h, H (α i) = some h := by
    have q := h1 i x hx
    rcases obj_cases hox with e | e
    · subst e; obtain ⟨a, b, c, d, h, e, _⟩ := q; exact ⟨a, b, c, h, e⟩
    · subst e; obtain ⟨a, b, c, d, h, e, _⟩ := q; exact ⟨a, b, c, h, e⟩
  have ea : a = α i := by
    rw [q.1] at es
    cases es; rfl
  subst ea
  have hlt : i < ρ.length := (List.getElem?_eq_some_iff.mp hx).1
  unfold setOwn
  rw [hx]
  have far : ∀ b h, (∀ vs, h ≠ .tup vs) → b ≠ α i → H b = some h → F b = none → F' b = none := fun b h nt ne e n => by
    cases q : F' b with
    | none => rfl
    | some u =>
      rcases fr b u q with ⟨w, e'⟩ | e' | e'
      · rw [n] at e'; cases e'
      · rcases e' with e' | ⟨vs, rfl⟩
        · rw [e] at e'; cases e'
        · exact (nt vs (Option.some.inj ((s2 b h ne (fun z => by rw [tf b z] at q; cases q) e).symm.trans (s1 _ _ q)))).elim
      · exact absurd e' ne
  have src : ∀ (j : Nat) (y : SV), (ρ.set i (x.to o'))[j]? = some y → (j = i ∧ y = x.to o') ∨ (j ≠ i ∧ ρ[j]? = some y) := fun j y hy => by
    by_cases e : j = i
    · subst e
      rw [List.getElem?_set_self hlt] at hy
      exact .inl ⟨rfl, (Option.some.inj hy).symm⟩
    · rw [List.getElem?_set_ne (Ne.symm e)] at hy
      exact .inr ⟨e, hy⟩
  refine ⟨by simpa using R.len, s1, fun b u e => s2 b u (ne_of_none e q.2.2.1) (R.tb.not e) (R.bh _ _ e), R.f0.trans s3, fun b u e => ?_, fun b e => ?_, ⟨tx, tf, R.tb.b⟩, α, fun j y hy => ?_, fun j m y z hy hz oy oz ne => ?_⟩
  · rcases fr b u e with ⟨w, q'⟩ | q' | q'
    · rcases R.fr b w q' with z | z | ⟨vs, rfl⟩
      · exact .inl z
      · exact .inr (.inl z)
      · exact .inr (.inr ⟨vs, Option.some.inj ((s1 _ _ e).symm.trans (s1 _ _ (s3 _ _ q')))⟩)
    · exact .inr (q'.imp R.bnone id)
    · subst q'; rw [fa] at e; cases e
  · obtain ⟨u, e'⟩ := R.pt b e
    by_cases hb : b = α i
    · subst hb; exact ⟨h', ha⟩
    · by_cases z : LawTab K mg b
      · obtain ⟨ps, z1, _⟩ := tx b z
        exact ⟨_, z1⟩
      · exact ⟨u, s2 b u hb z e'⟩
  · rcases src j y hy with ⟨e, ey⟩ | ⟨ne, e⟩
    · subst e
      have q' := h1 j x hx
      rcases obj_cases hox with e | e
      · subst e
        have ey' : y = .ow o' := ey
        subst ey'
        obtain ⟨a, b, c, d, _⟩ := q'
        exact ⟨a, fa, c, d, h', ha, ro⟩
      · subst e
        have ey' : y = .pa o' := ey
        subst ey'
        obtain ⟨a, b, c, d, _⟩ := q'
        exact ⟨a, fa, c, d, h', ha, ro⟩
    · have q' := h1 j y e
      cases y with
      | un => trivial
      | fz t => obtain ⟨v, a, b⟩ := q'; exact ⟨v, a, b.mono s3⟩
      | raw n => obtain ⟨v, a, b⟩ := q'; exact ⟨v, a, b⟩
      | ow o1 =>
        obtain ⟨a, b, c, d, u, e1, e2⟩ := q'
        have na := h2 j i _ x e hx rfl ox ne
        exact ⟨a, far _ _ e2.ntup na e1 b, c, d, u, s2 _ _ na (R.tb.notH e1 e2.plain) e1, e2.mono s3⟩
      | pa o1 =>
        obtain ⟨a, b, c, d, u, e1, e2⟩ := q'
        have na := h2 j i _ x e hx rfl ox ne
        exact ⟨a, far _ _ e2.ntup na e1 b, c, d, u, s2 _ _ na (R.tb.notH e1 e2.plain) e1, e2.mono s3⟩
  · have back : ∀ (n : Nat) (w : SV), (ρ.set i (x.to o'))[n]? = some w → w.owned = true → ∃ z : SV, ρ[n]? = some z ∧ z.owned = true := fun n w hn ow => by
      rcases src n w hn with ⟨e, _⟩ | ⟨_, e⟩
      · subst e; exact ⟨x, hx, ox⟩
      · exact ⟨w, e, ow⟩
    obtain ⟨y', hy', oy'⟩ := back j y hy oy
    obtain ⟨z', hz', oz'⟩ := back m z hz oz
    exact h2 j m y' z' hy' hz' oy' oz' ne
theorem fe_callM {k : Nat} (Kn : KnownM X.prog X.w X.K X.mg X.base k y g) (hr : Room k X.A) (hg : Gl X y) (hxx : Passes (L2.CX X.prog X.w) X E0) (hN : X.N[i]? = some x := by rfl) (ha : FA X E es fs)
    (hv : Vis X.env.scope x := by first | exact Or.inl rfl | exact Or.inr (Or.inl rfl) | exact Or.inr (Or.inr rfl)) (hd : (x == ("__debug__" : Str)) = false := by decide) (hcd : (x == ("__classdict__" : Str)) = false := by decide) (hdb : (y == ("__debug__" : Str)) = false := by decide)
    (he : starEach (.Name x p2 :: es) X.env = (false, eval (.Name x p2) X.env) :: starEach es X.env := by rfl) (hpl : (backTo pos (starEach es X.env)).any (·.1) = false := by rfl) : FE X E (.Call (.Name y p) (.Name x p2 :: es) [] pos) (calM g i fs) := by
  obtain ⟨f, fd, ps, hm, hk, hb, F⟩ := Kn.ok
  refine pe_imp (pe_call F hr hg hm hk hb .nil hxx (pa_cons (pe_var hN hv hd hcd) ha he) hdb he hpl) fun σ H Q h => ?_
  obtain ⟨kk, F, ρ, R, h⟩ := h
  obtain ⟨⟨o0, ho0⟩, h⟩ := Den.own h
  obtain ⟨a, h0, es', _⟩ := R.own ho0
  refine ⟨.ref a, es', kk, F, ρ, R, (Den.bind h).imp fun ts ρ1 h1 vs F1 H1 R1 s1 r1 => ?_⟩
  show spM X.K X.mg g ((.ref a :: vs) ++ []) H1 Q E0
  rw [List.append_nil]
  split at h1
  · rename_i o ho
    obtain ⟨a1, h2, e1, e2, e3, e4, _⟩ := R1.own ho
    rw [es'] at e1
    cases e1
    refine ⟨fun b => if b = a then none else hideTab X.K X.mg H1 b, F1, a, h2, o, vs, ts, rfl, R1.fh, fun b u e => ?_, ⟨R1.tb.x, R1.tb.f, fun P z => ?_⟩, e2, by simp, e3, e4, r1, ?_⟩
    · dsimp only at e
      split at e
      · cases e
      · exact hideTab_same _ _ e
    · show (if P = a then none else hideTab X.K X.mg H1 P) = none
      split
      · rfl
      · exact hideTab_tab z
    · split at h1
      · rename_i t o' ρx eg
        rw [eg]
        exact fun v F' H' h' c1 c2 ct c3 c4 c5 c6 c7 c8 => h1 v F' H' (R1.calledM ho es' c1 (fun b u ne e => c2 b u (by show (if b = a then none else hideTab X.K X.mg H1 b) = some u; rw [if_neg ne]; exact e)) ct.x ct.f c3 (fun b u e => by
          rcases c4 b u e with q | q
          · exact .inl q
          · rcases q with q | q
            · have q' : (if b = a then none else hideTab X.K X.mg H1 b) = none := q
              split at q'
              · rename_i eb; exact .inr (.inr eb)
              · exact .inr (.inl (.inl q'))
            · exact .inr (.inl (.inr q))) c5 c6 c7) (s1.trans c3) c8
      · exact h1.elim
  · exact h1.elim
end
/-! ### the law's end -/
def spLaw (K : PySem.W.Frag) (mg : Str → Option Value) : Sp := fun vs H Q _ => ∃ (a : Addr) (ns : List Int), vs = [.ref a] ∧ SqL K H a (ns.map V.int) ∧ ns.length ≤ 63 ∧ TabX K mg H ∧ ∀ H', Q (.bl true) H'
theorem sq_hide {K : PySem.W.Frag} {mg : Str → Option Value} {H : Hp} {a : Addr} {xs : List V} (t : TabX K mg H) (h : SqL K H a xs) : SqL K (hideTab K mg H) a xs := by
  rcases h with (h | ⟨o, h⟩) | h
  · have n : ¬ LawTab K mg a := fun q => by
      obtain ⟨ps, z, _⟩ := t a q
      rw [h] at z; cases z
    exact .inl (.inl (by rw [hideTab_ne n]; exact h))
  · have n : ¬ LawTab K mg a := fun q => by
      obtain ⟨ps, z, _⟩ := t a q
      rw [h] at z; cases z
    exact .inl (.inr ⟨o, by rw [hideTab_ne n]; exact h⟩)
  · exact .inr h
theorem law_imp {P : Program} {w : World} {K : PySem.W.Frag} {mg : Str → Option Value} {base : Heap} {k : Nat} {f : Addr} {fd : FuncData} {x : Str} {g : Sg} (F : FnOk P w K mg base (L2.CX P w) k f fd [x] (spF K mg g)) (hg : ∀ ns : List Int, ns.length ≤ 63 → g [.sl (ns.map T.int)] = .ok (.bl true) []) :
    FnOk P w K mg base (L2.CX P w) k f fd [x] (spLaw K mg) := F.imp fun vs H Q E h => by
  obtain ⟨a, ns, rfl, hS, hl, tx, q⟩ := h
  refine ⟨fun _ => none, hideTab K mg H, [.sl (ns.map T.int)], hideTab_same, fun _ _ e => (nomatch e), ⟨tx, fun P z => hideTab_tab z, fun _ _ => rfl⟩, .cons ⟨a, ns.map V.int, rfl, sq_hide tx hS, Reps.of_ints⟩ .nil, ?_⟩
  rw [hg ns hl]
  intro v F' H' _ _ _ _ _ r
  have ev : v = .bl true := r
  subst ev
  exact q H'
theorem noE0 {P : Program} {w : World} {H : Hp} {s : Shared} {e : Value} {s' : Shared} (h : L2.CX P w [] H s (fun _ _ _ => False) e s') : False := by
  obtain ⟨_, _, _, _, _, _, _, _, _, _, _, _, z⟩ := h
  exact z.elim
end FL

/-! FL9: enumerate and zip over lists and tuples. -/
namespace FL
open PySem PySem.Spec L2 PyProof.Rows

/-- a list or a tuple that is read -/
def Sq (K : PySem.W.Frag) (H : Hp) (c : Bool) (a : Addr) (xs : List V) : Prop := if c = true then SqL K H a xs else SqT K H a xs
def ItAt (c : Bool) (h : Heap) (it a : Addr) (i : Nat) : Prop := if c = true then h.IsListIter it a i else h.IsTupleIter it a i
def SqAt (c : Bool) (h : Heap) (a : Addr) (items : Array Value) : Prop := if c = true then h.IsList a items else h.IsTuple a items
theorem ItAt.obj {c : Bool} {h : Heap} {it a : Addr} {i : Nat} (x : ItAt c h it a i) : ∃ o, h.get? it = some o ∧ ∀ v, o.data ≠ .cell v := by
  cases c with
  | true => obtain ⟨o, e, _, d⟩ : h.IsListIter it a i := x; exact ⟨o, e, fun v q => by rw [d] at q; cases q⟩
  | false => obtain ⟨o, e, _, d⟩ : h.IsTupleIter it a i := x; exact ⟨o, e, fun v q => by rw [d] at q; cases q⟩
theorem ItAt.keep {c : Bool} {h h' : Heap} {it a : Addr} {i : Nat} (x : ItAt c h it a i) (k : ∀ o, h.get? it = some o → h'.get? it = some o) : ItAt c h' it a i := by
  cases c with
  | true => exact (show h.IsListIter it a i from x).at k
  | false => exact (show h.IsTupleIter it a i from x).at k
theorem sq_at {X : Cx} {pins : List (Addr × Obj)} {σ : L2.St} {H : Hp} {s : Shared} {c : Bool} {a : Addr} {xs : List V} (I : Inv X pins σ H s) (h : Sq X.K H c a xs) : ∃ its : List Value, Vals xs its ∧ SqAt c s.heap a its.toArray := by
  cases c with
  | true => obtain ⟨its, r, p, _⟩ := I.list (show SqL X.K H a xs from h); exact ⟨its, r, p.isList⟩
  | false => obtain ⟨its, r, p, _⟩ := I.tuple (show SqT X.K H a xs from h); exact ⟨its, r, p⟩
theorem sq_inj {X : Cx} {pins : List (Addr × Obj)} {σ : L2.St} {H : Hp} {s : Shared} {c : Bool} {a : Addr} {xs ys : List V} (I : Inv X pins σ H s) (h : Sq X.K H c a xs) (h' : Sq X.K H c a ys) : xs = ys := by
  cases c with
  | true => exact I.list_inj (show SqL X.K H a xs from h) h'
  | false => exact I.tuple_inj (show SqT X.K H a xs from h) h'
theorem sq_lt {c : Bool} {h : Heap} {a : Addr} {items : Array Value} (x : SqAt c h a items) : a < h.objs.size := by
  cases c with
  | true => obtain ⟨o, e, _⟩ : h.IsList a items := x; exact Heap.lt_size e
  | false => obtain ⟨o, e, _⟩ : h.IsTuple a items := x; exact Heap.lt_size e
def itObj (c : Bool) (a : Addr) : Obj := if c = true then { cls := .type "list_iterator", data := .fields #[.ref a, .int 0 0] } else { cls := .type "tuple_iterator", data := .fields #[.ref a, .int 0 0] }
theorem begins_sq (c : Bool) (a : Addr) (items : Array Value) : PySem.Begins (.ref a) (itObj c a) (fun h => SqAt c h a items) := by
  cases c with
  | true => exact begins_list a items
  | false => exact begins_tuple a items
theorem itAt0 {c : Bool} {h : Heap} {it a : Addr} (e : h.get? it = some (itObj c a)) : ItAt c h it a 0 := by
  cases c with
  | true => exact ⟨_, e, rfl, rfl⟩
  | false => exact ⟨_, e, rfl, rfl⟩
theorem draws_sq {prog : Program} {w : World} {A : Around} (hh : A.handled = none) (c : Bool) (it a : Addr) (hne : a ≠ it) (items : Array Value) :
    PySem.Draws prog w A it [it, a] items.size (fun i v => items[i]? = some v) (fun i h => ItAt c h it a i ∧ SqAt c h a items) := by
  cases c with
  | true => exact PySem.Draws.list hh it a hne items
  | false => exact PySem.Draws.tuple hh it a hne items

/-! ### enumerate(x) -/
def Itq (K : PySem.W.Frag) (c : Bool) (a : Addr) : It :=
  ⟨fun i H => ∃ (xs : List V) (x : V), Sq K H c a xs ∧ xs[i]? = some x, fun i H v H' => ∃ T x, v = .ref T ∧ H T = none ∧ H' = upd H T (.tup [.int (i : Nat), x]) ∧ ∀ xs, Sq K H c a xs → xs[i]? = some x, fun i H => ∃ xs : List V, Sq K H c a xs ∧ xs.length = i⟩
theorem turn_enumS {P : Program} {w : World} {K : PySem.W.Frag} {elts : List Expr} {kk : Nat} {tpos : Pos} (c : Bool) (a e it : Addr) :
    Turn P w K (.Tuple elts kk tpos) (Itq K c a) [e, it] e (fun i h => (∃ old, IsEnum h e it ((i : Nat) : Int) old) ∧ ItAt c h it a i ∧ e ≠ it ∧ a ≠ it ∧ a ≠ e) where
  mem := by simp
  obj := fun i h st b hb => by
    obtain ⟨⟨old, he⟩, hi, _⟩ := st
    have e' : b = e ∨ b = it := by simpa using hb
    rcases e' with z | z
    · rw [z]; exact ⟨_, he, fun v q => nomatch q⟩
    · rw [z]; exact hi.obj
  keep := fun i h h' st k => let ⟨⟨old, he⟩, hi, hne⟩ := st; ⟨⟨old, k e (by simp) _ he⟩, hi.keep fun o q => k it (by simp) o q, hne⟩
  item := by
    intro X hP hw hK hc i pins s σ H E I hf st hg
    subst hP hw hK
    obtain ⟨⟨old, he⟩, hit, hne, hai, hae⟩ := st
    obtain ⟨xs, x, hq, hx⟩ := hg
    obtain ⟨its, rv, p⟩ := sq_at I hq
    obtain ⟨u, hu, ru⟩ := rv.get hx
    have hel : e < s.heap.objs.size := Heap.lt_size he
    have hil : it < s.heap.objs.size := by obtain ⟨o, q, _⟩ := hit.obj; exact Heap.lt_size q
    have hlt : i < its.toArray.size := by
      have := (List.getElem?_eq_some_iff.mp hu).1
      simpa using this
    refine PySem.wpAny_pyNext_enum_itemD (draws_sq (prog := X.prog) (w := X.w) (A := X.A.in1) (I.ok.hd hc) c it a hai its.toArray) he ⟨hit, p⟩ hlt hne (by simp only [List.mem_cons, List.not_mem_nil, or_false, not_or]; exact ⟨hne, Ne.symm hae⟩) fun v h' tk hv ho hit' hT hsz hk => ?_
    have ev : v = u := by
      have h1 : its.toArray[i]? = some v := hv
      rw [List.getElem?_toArray, hu] at h1
      exact (Option.some.inj h1).symm
    subst ev
    refine ⟨_, rfl, PySem.wpAny_letOwnedTupleGo_enum (s := { s with heap := h', toks := tk + 1 }) ho fun h'' he' sb => ?_⟩
    have hT2 : h''.get? s.heap.objs.size = some { cls := .type "tuple", data := .seq #[.int i tk, v] } := (sb.2 _ (Nat.ne_of_gt hel)).trans hT
    have new : ObjOk X.prog X.w (upd H s.heap.objs.size (.tup [.int (i : Nat), x])) h'' s.heap.objs.size (.tup [.int (i : Nat), x]) :=
      ⟨by show 2 ≤ sizeLine; decide, [.int i tk, v], .cons ⟨_, rfl⟩ (.cons ru .nil), ⟨_, hT2, rfl, _, rfl⟩⟩
    have I1 : Inv X pins σ (upd H s.heap.objs.size (.tup [.int (i : Nat), x])) { s with heap := h'', toks := tk + 1 } :=
      I.turnedNew (ch := [e, it]) (fun b ob hb q => (sb.2 b (fun z => hb (by simp [z]))).trans (hk b ob (fun z => hb (by simp [z])) (fun z => hb (by simp [z])) q)) hf (Nat.le_refl _) new
    refine ⟨.ref s.heap.objs.size, _, I1, rfl, ⟨_, x, rfl, I.hok.fresh (Nat.le_refl _), rfl, fun ys hy => by rw [sq_inj I hy hq]; exact hx⟩, ⟨⟨v, ?_⟩, hit'.1.keep fun o q => (sb.2 it (Ne.symm hne)).trans q, hne, hai, hae⟩, fun b hb => ?_⟩
    · have e1 : ((i + 1 : Nat) : Int) = (i : Int) + 1 := by omega
      rw [e1]; exact he'
    · have hb' : b < s.heap.objs.size := by
        have e' : b = e ∨ b = it := by simpa using hb
        rcases e' with z | z
        · rw [z]; exact hel
        · rw [z]; exact hil
      rw [upd_ne (Nat.ne_of_lt hb')]
      exact (hf b hb).1
  done := by
    intro X hP hw hK hc i pins s σ H E I hf st hg
    subst hP hw hK
    obtain ⟨⟨old, he⟩, hit, hne, hai, hae⟩ := st
    obtain ⟨xs, hq, hx⟩ := hg
    obtain ⟨its, rv, p⟩ := sq_at I hq
    obtain ⟨f0, f1, f2, f3, f4, f5⟩ := hf it (by simp)
    have hl := rv.length
    have es : its.toArray.size = i := by rw [List.size_toArray]; omega
    subst es
    exact PySem.wpAny_pyNext_enum_endD (draws_sq (prog := X.prog) (w := X.w) (A := X.A.in1) (I.ok.hd hc) c it a hai its.toArray) he ⟨hit, p⟩ fun h' eb => ⟨rfl, I.turned (t' := s.toks) (fun b o hb q => eb b o hb q) f0 f1 f3 f4 f5⟩
  self := fun A i s Q E st h => let ⟨⟨_, he⟩, _⟩ := st; PySem.wpAny_pyIter_enum he h
section
open PySem (IsEnum)
open AutoSeq1 (wpAny_loadPart')
set_option maxHeartbeats 1000000 in
theorem meets_enum1 {v : Value} {o : Obj} {H : Heap → Prop} (B : PySem.Begins v o H) :
    Meets (Builtin.«enumerate.__new__» ⟨[.type "enumerate", v], []⟩) (fun _ R s => H s.heap ∧
      R (.ok (.ret (.ref (s.heap.push o).objs.size))) { s with heap := (s.heap.push o).push { cls := .type "enumerate", data := .fields #[.none, .bool false, .ref s.heap.objs.size, rawInt 0, .none, .none] } }) :=
  .of_wp fun prog w A R s h => by
    obtain ⟨hp, g, d, tk, os⟩ := s; obtain ⟨h1, h⟩ := h
    have hsub := sub_enumerate
    have q1 : ∀ {A' : Around} {E : Value → Shared → Prop} {Q : Value → Shared → Prop}, Q (.ref hp.objs.size) ⟨hp.push o, g, d, tk, os⟩ → wpAny (model prog w) A' (pyIter v) Q E ⟨hp, g, d, tk, os⟩ :=
      fun q => B.iter prog w _ _ ⟨hp, g, d, tk, os⟩ _ h1 q
    wp_walk using q1
    refine wpAny_stack_any fun st => wpAny_pure ?_
    split
    · rename_i c _ _ _ _ _
      cases (c == Value.type "enumerate")
      · wp_walk using q1
        exact ⟨_, rfl, h⟩
      · wp_walk using q1
        exact ⟨_, rfl, h⟩
    · wp_walk using q1
      exact ⟨_, rfl, h⟩
theorem enum_begins1 {prog : Program} {w : World} {A : Around} {E : Value → Shared → Prop} {s : Shared} {v : Value} {o : Obj} {H : Heap → Prop} {Q : Value → Shared → Prop} (B : PySem.Begins v o H) (h1 : H s.heap)
    (h : ∀ h', IsEnum h' (s.heap.objs.size + 1) s.heap.objs.size 0 .none → h'.get? s.heap.objs.size = some o → h'.objs.size = s.heap.objs.size + 2 →
      (∀ b o, s.heap.get? b = some o → h'.get? b = some o) → Q (.ref (s.heap.objs.size + 1)) { s with heap := h' }) :
    wpAny (model prog w) A (call (.type "enumerate") [v]) Q E s := by
  refine callType_new F.called_enumerate (by decide) (F.typeCall_enumerate_1 _) (F.newCall_enumerate_1 _) (fun obj => F.args_object_init_2 obj _) F.entry_enumerate_new
    (meets_enum1 B) ⟨h1, ?_⟩
  have hz : (s.heap.push o).objs.size = s.heap.objs.size + 1 := Heap.size_push ..
  show _ ∧ _
  rw [hz]
  have he : IsEnum ((s.heap.push o).push { cls := .type "enumerate", data := .fields #[.none, .bool false, .ref s.heap.objs.size, rawInt 0, .none, .none] }) (s.heap.objs.size + 1) s.heap.objs.size 0 .none := by
    have := Heap.get?_push_size (s.heap.push o) (o := { cls := .type "enumerate", data := .fields #[.none, .bool false, .ref s.heap.objs.size, rawInt 0, .none, .none] }) rfl
    rw [hz] at this; exact this
  refine ⟨⟨_, he, rfl⟩, h _ he (Heap.get?_push_of_some _ (Heap.get?_push_size _ B.free)) (by rw [Heap.size_push, hz]) fun b o x => Heap.get?_push_of_some _ (Heap.get?_push_of_some _ x)⟩
end
def iEnumS (K : PySem.W.Frag) (ta : TA) : TI := fun σ H R => ta σ H fun vs H1 => ∃ a xs c, vs = [.ref a] ∧ Sq K H1 c a xs ∧ R (Itq K c a) H1
theorem pi_enumS {X : Cx} {e : Expr} {ta : TA} {p pos tpos : Pos} {elts : List Expr} {kk : Nat} (hg : Gl X "enumerate") (hm : X.mg "enumerate" = none) (ha : PA X [e] ta) (hs : starEach [e] X.env = [(false, eval e X.env)] := by rfl) :
    PI X (.Tuple elts kk tpos) (.Call (.Name "enumerate" p) [e] [] pos) (iEnumS X.K ta) := by
  refine ⟨fun pins s σ H R I h => ?_⟩
  refine Call_ (ld_blt I hg hm PyProof.Rows.boot_enumerate (PyProof.Rows.callWith_type1 (thn (ha.run pos pins s σ H _ I h) fun us s1 ⟨vs, H1, I1, r1, q1⟩ => ?_) hs rfl))
  obtain ⟨a, xs, c, ex, hq, q⟩ := q1
  subst ex
  cases r1 with
  | cons r rr =>
    cases rr
    cases r
    obtain ⟨its, rv, p'⟩ := sq_at I1 hq
    have hlt := sq_lt p'
    refine enum_begins1 (begins_sq c a its.toArray) p' fun h' he hit hsz hk => PySem.wpAny_pyIter_enum he ?_
    have I2 : Inv X pins σ H1 { s1 with heap := h' } := I1.kept (t' := s1.toks) hk
    refine ⟨s1.heap.objs.size + 1, [s1.heap.objs.size + 1, s1.heap.objs.size], _, _, H1, rfl, I2, turn_enumS c a (s1.heap.objs.size + 1) s1.heap.objs.size, ⟨⟨.none, he⟩, itAt0 hit, Nat.succ_ne_self _, Nat.ne_of_lt hlt, Nat.ne_of_lt (Nat.lt_succ_of_lt hlt)⟩, fun b hb => ?_, q⟩
    have e' : b = s1.heap.objs.size + 1 ∨ b = s1.heap.objs.size := by simpa using hb
    have hle : s1.heap.objs.size ≤ b := by
      rcases e' with z | z
      · rw [z]; exact Nat.le_add_right _ _
      · rw [z]; exact Nat.le_refl _
    exact I1.fpOk hle (I1.hok.fresh hle)
/-! ### zip(x, y) -/
end FL

/-! FL10: names read whatever they hold; what is walked, of either kind; op=; two clauses. -/
namespace FL
open PySem PySem.Spec L2
section
variable {X : Cx} {E : XK} {e b c : Expr} {es : List Expr} {pos p : Pos} {f fb fv : M T} {fs : M (List T)} {i : Nat} {x : Str} {g : M Bool}

/-! ### a name, whatever it holds -/
def rdA (i : Nat) : M T := fun ρ => match ρ[i]? with
  | some (.fz t) => .ok t ρ
  | some (.ow o) => .ok (frzO o) (ρ.set i (.fz (frzO o)))
  | _ => .bad
theorem fe_varA (hN : X.N[i]? = some x := by rfl) (hv : Vis X.env.scope x := by first | exact Or.inl rfl | exact Or.inr (Or.inl rfl) | exact Or.inr (Or.inr rfl)) (hd : (x == ("__debug__" : Str)) = false := by decide) (hcd : (x == ("__classdict__" : Str)) = false := by decide) : FE X E (.Name x pos) (rdA i) := by
  refine pe_imp (pe_var hN hv hd hcd) fun σ H Q h => ?_
  obtain ⟨k, F, ρ, R, h⟩ := h
  unfold rdA at h
  split at h
  · rename_i t e
    obtain ⟨v, e1, r⟩ := R.slot e
    exact ⟨v, e1, h v F H R (Same.refl _) r⟩
  · rename_i o e
    obtain ⟨a, F', es, s, r, R'⟩ := R.freeze e
    exact ⟨.ref a, es, h _ F' H R' s r⟩
  · exact h.elim
/-- what a slot holds: a tree, or an object -/
inductive Has where
  | t (x : T) | o (x : O) | no
def has (i : Nat) (ρ : Env) : Has := match ρ[i]? with
  | some (.fz t) => .t t
  | some (.ow o) => .o o
  | some (.pa o) => .o o
  | _ => .no
theorem has_t {i : Nat} {ρ : Env} {t : T} (h : has i ρ = .t t) : ρ[i]? = some (.fz t) := by
  unfold has at h
  split at h
  · rename_i t' e; cases h; exact e
  · cases h
  · cases h
  · cases h
theorem has_o {i : Nat} {ρ : Env} {o : O} (h : has i ρ = .o o) : rdOwn i ρ = some o := by
  unfold has at h
  split at h
  · cases h
  · rename_i o' e; cases h; unfold rdOwn; rw [e]; rfl
  · rename_i o' e; cases h; unfold rdOwn; rw [e]; rfl
  · cases h
def isHas (h : Has) : Bool := match h with
  | .no => false
  | _ => true
theorem has_slot {k : Bk} {F : Hp} {ρ : Env} {σ : L2.St} {H : Hp} (R : RSk X k F ρ σ H) (h : isHas (has i ρ) = true) : ∃ v, σ[i]? = some (some v) := by
  cases e : has i ρ with
  | t t => obtain ⟨v, q, _⟩ := R.slot (has_t e); exact ⟨v, q⟩
  | o o => obtain ⟨a, h, q, _⟩ := R.own (has_o e); exact ⟨_, q⟩
  | no => rw [e] at h; cases h
/-- x[e] -/
def ixA (i : Nat) (f : M T) : M T := fun ρ => if isHas (has i ρ) = true then (f ρ).bind fun y ρ => match has i ρ with
  | .t t => liftO (ixO t y) ρ
  | .o (.l ts) => match y with
    | .int j => liftO (atT ts j) ρ
    | _ => .bad
  | _ => .bad else .bad
theorem fe_ixA (hN : X.N[i]? = some x := by rfl) (hb : FE X E b fb) (hv : Vis X.env.scope x := by first | exact Or.inl rfl | exact Or.inr (Or.inl rfl) | exact Or.inr (Or.inr rfl)) (hs : PlainIx b := by intro _ _; rfl) (hd : (x == ("__debug__" : Str)) = false := by decide) (hcd : (x == ("__classdict__" : Str)) = false := by decide) :
    FE X E (.Subscript (.Name x p) b pos) (ixA i fb) := by
  refine pe_imp (pe_ix ix_seq (pe_var hN hv hd hcd) hb hs) fun σ H Q h => ?_
  obtain ⟨k, F, ρ, R, h⟩ := h
  unfold ixA at h
  split at h
  · rename_i hh
    obtain ⟨v, ev⟩ := has_slot R hh
    refine ⟨v, ev, k, F, ρ, R, (Den.bind h).imp fun y ρ1 h1 w F1 H1 R1 s1 r1 => ?_⟩
    split at h1
    · rename_i t e
      obtain ⟨t', e', q⟩ := Den.lift h1
      obtain ⟨v', ev', rv⟩ := R1.slot (has_t e)
      rw [ev] at ev'
      cases ev'
      exact ot_ix k F1 ρ1 σ H1 Q t y t' v w R1 rv r1 e' fun v' F' H' R' s' r' => q v' F' H' R' (s1.trans s') r'
    · rename_i ts e
      split at h1
      · rename_i j
        obtain ⟨t', e', q⟩ := Den.lift h1
        obtain ⟨a, h2, ea, e2, e3, e4, _⟩ := R1.own (has_o e)
        rw [ev] at ea
        cases ea
        obtain ⟨vs, rfl, rv⟩ := e4
        obtain ⟨w', g1, g2⟩ := atT_rep rv e'
        exact .inl ⟨a, vs, j, w', rfl, r1, SqL.of e3, g1, q _ F1 H1 R1 s1 g2⟩
      · exact h1.elim
    · exact h1.elim
  · exact h.elim
/-- len(x) -/
def lenA (i : Nat) : M T := fun ρ => match has i ρ with
  | .t t => liftO (lenO [t]) ρ
  | .o (.l ts) => .ok (.int ts.length) ρ
  | _ => .bad
theorem fe_lenA {p2 : Pos} (hg : Gl X "len") (hm : X.mg "len" = none) (hbt : bootBuiltins "len" = some (.builtin "len")) (hN : X.N[i]? = some x := by rfl) (hv : Vis X.env.scope x := by first | exact Or.inl rfl | exact Or.inr (Or.inl rfl) | exact Or.inr (Or.inr rfl)) (hd : (x == ("__debug__" : Str)) = false := by decide) (hcd : (x == ("__classdict__" : Str)) = false := by decide)
    (hst : starEach [Expr.Name x p] X.env = (false, eval (Expr.Name x p) X.env) :: starEach [] X.env := by rfl) (hpl : (backTo pos (starEach [] X.env)).any (·.1) = false := by rfl) :
    FE X E (.Call (.Name "len" p2) [.Name x p] [] pos) (lenA i) := by
  refine pe_imp (pe_callB call_len hg hm hbt (pa_cons (pe_var hN hv hd hcd) pa_nil hst) (by decide) (by decide) hst hpl) fun σ H Q h => ?_
  obtain ⟨k, F, ρ, R, h⟩ := h
  unfold lenA at h
  split at h
  · rename_i t e
    obtain ⟨t', e', q⟩ := Den.lift h
    obtain ⟨v, ev, rv⟩ := R.slot (has_t e)
    exact ⟨v, ev, ct_len k F ρ σ H Q [t] t' [v] R (.one rv) e' q⟩
  · rename_i ts e
    obtain ⟨a, h0, es, e2, e3, e4, _⟩ := R.own (has_o e)
    obtain ⟨vs, rfl, rv⟩ := e4
    exact ⟨.ref a, es, .ref a, vs.length, rfl, .inl ⟨vs, SqL.of e3, rfl⟩, h _ F H R (Same.refl _) (by rw [rv.length]; rfl)⟩
  · exact h.elim
/-! ### what is walked, a list or a tuple -/
/-! ### enumerate, zip -/
theorem sq_of {F H : Hp} {t : T} {ts : List T} {v : V} (s : Same F H) (r : Rep X.K X.mg F t v) (e : seqT t = some ts) : ∃ p vs d, v = .ref p ∧ Sq X.K F d p vs ∧ (∀ G, Same F G → Sq X.K G d p vs) ∧ Reps X.K X.mg F ts vs := by
  obtain ⟨p, vs, rfl, hs, r⟩ := seqT_rep (Same.refl F) r e
  rcases hs with hs | hs
  · exact ⟨p, vs, true, rfl, hs, fun G g => same_SqL g hs, r⟩
  · exact ⟨p, vs, false, rfl, hs, fun G g => same_SqT0 g hs, r⟩
def enumT : Nat → List T → List T
  | _, [] => []
  | n, t :: ts => .tup [.int n, t] :: enumT (n + 1) ts
theorem enumT_len : ∀ (n : Nat) (ts : List T), (enumT n ts).length = ts.length
  | _, [] => rfl
  | n, t :: ts => by simp [enumT, enumT_len (n + 1) ts]
theorem enumT_get : ∀ (n : Nat) (ts : List T) (i : Nat) (t : T), ts[i]? = some t → (enumT n ts)[i]? = some (.tup [.int ((n + i : Nat) : Int), t])
  | _, [], _, _, h => by simp at h
  | n, t :: ts, 0, u, h => by
    simp at h; subst h; rfl
  | n, t :: ts, i + 1, u, h => by
    have := enumT_get (n + 1) ts i u (by simpa using h)
    show (enumT (n + 1) ts)[i]? = _
    rw [this]
    congr 4
    omega
def enum1 (ts : List T) : Option (List T) := match ts with
  | [t] => (seqT t).map (enumT 0)
  | _ => none
theorem fi_enum {a : Expr} {fa : M (List T)} {p tpos : Pos} {elts : List Expr} {kk : Nat} (hg : Gl X "enumerate") (hm : X.mg "enumerate" = none) (ha : FA X E [a] fa) (hs : starEach [a] X.env = [(false, eval a X.env)] := by rfl) :
    FI X E (.Tuple elts kk tpos) (.Call (.Name "enumerate" p) [a] [] pos) (calI enum1 fa) := by
  refine pi_imp (pi_enumS hg hm ha hs) fun σ H Q h => ?_
  obtain ⟨k, F, ρ, R, h⟩ := h
  refine ⟨k, F, ρ, R, (Den.bind h).imp fun ts ρ1 h1 vs F1 H1 R1 s1 r1 => ?_⟩
  obtain ⟨us, e, q⟩ := Den.lift h1
  unfold enum1 at e
  split at e
  · rename_i t
    rw [Option.map_eq_some_iff] at e
    obtain ⟨ts', e, rfl⟩ := e
    obtain ⟨v, rfl, r⟩ := r1.one_of
    obtain ⟨p, ws, d, rfl, hq, hG, rw'⟩ := sq_of R1.fh r e
    refine ⟨p, ws, d, rfl, hG _ R1.fh, q _ F1 H1 R1 s1 ?_⟩
    have ll := rw'.length
    refine ⟨fun i G hi g => ?_, fun G g => ?_, fun i G v G' hi g y => ?_⟩
    · rw [enumT_len] at hi
      exact ⟨ws, ws[i]'(by omega), hG G g, by simp [show i < ws.length by omega]⟩
    · exact ⟨ws, hG G g, by rw [enumT_len]; exact ll.symm⟩
    · rw [enumT_len] at hi
      obtain ⟨T', x, rfl, nT, rfl, hx⟩ := y
      have hx' := hx ws (hG G g)
      obtain ⟨w, g1, g2⟩ := rw'.get (List.getElem?_eq_getElem hi)
      rw [hx'] at g1
      cases g1
      have eg := enumT_get 0 ts' i _ (List.getElem?_eq_getElem hi)
      rw [Nat.zero_add] at eg
      exact ⟨_, eg, .inr ⟨T', _, _, rfl, rfl, nT, rfl, .cons rfl (.one g2)⟩⟩
  · cases e
/-! ### name op= e -/
def IpT (X : Cx) (r : TIp) (o : T → T → Option T) : Prop := ∀ (k : Bk) (F : Hp) (ρ : Env) (σ : L2.St) (H : Hp) (Q : VK) (x y t : T) (v u : V), RSk X k F ρ σ H → Rep X.K X.mg F x v → Rep X.K X.mg F y u → o x y = some t → Go X k F ρ σ t Q → r v u H Q
theorem it_add : IpT X (ipI fun i j => i + j) (intO fun i j => .int (i + j)) := fun k F ρ σ H Q x y t v u R rx ry e q => by
  obtain ⟨i, j, rfl, rfl, rfl⟩ := intO_some e
  exact ⟨i, j, rx, ry, q _ F H R (Same.refl _) rfl⟩
/-! ### [..] given to a name of one line, as a tree -/
end
end FL

/-! FL11: the built-ins' names. -/
namespace FL
open PySem
theorem bt_len : bootBuiltins "len" = some (.builtin "len") := by decide +kernel
theorem bt_abs : bootBuiltins "abs" = some (.builtin "abs") := by decide +kernel
theorem bt_min : bootBuiltins "min" = some (.builtin "min") := by decide +kernel
theorem bt_all : bootBuiltins "all" = some (.builtin "all") := by decide +kernel
theorem bt_sorted : bootBuiltins "sorted" = some (.builtin "sorted") := by decide +kernel
theorem bt_isinstance : bootBuiltins "isinstance" = some (.builtin "isinstance") := by decide +kernel
theorem bt_int : bootBuiltins "int" = some (.type "int") := by decide +kernel
theorem bt_bool : bootBuiltins "bool" = some (.type "bool") := by decide +kernel
theorem bt_tuple : bootBuiltins "tuple" = some (.type "tuple") := by decide +kernel
end FL

/-! FL12: how readings are reckoned (for simp). -/
namespace FL
open PySem
section
variable {α β : Type} {a : α} {ρ ρ' : Env} {k : α → Env → Res β} {e : Ex} {f fa fb fc g : M T} {ga gb : M Bool} {fs : M (List T)} {i j l : Nat} {s s1 s2 : MS} {o : T → T → Option T}
@[simp] theorem bind_ok : (Res.ok a ρ).bind k = k a ρ := Eq.trans rfl rfl
@[simp] theorem bind_bad : (Res.bad : Res α).bind k = .bad := Eq.trans rfl rfl
@[simp] theorem bind_exc : (Res.exc e : Res α).bind k = .exc e := Eq.trans rfl rfl
@[simp] theorem lift_some : liftO (some a) ρ = .ok a ρ := Eq.trans rfl rfl
@[simp] theorem lift_none : liftO (none : Option α) ρ = .bad := Eq.trans rfl rfl
@[simp] theorem noX_ok : noX (Res.ok a ρ) = .ok a ρ := Eq.trans rfl rfl
@[simp] theorem noX_bad : noX (Res.bad : Res α) = .bad := Eq.trans rfl rfl
@[simp] theorem rdC_e {t : T} : rdC t ρ = .ok t ρ := Eq.trans rfl rfl
@[simp] theorem op2_e : op2 o fa fb ρ = (fa ρ).bind fun x ρ => (fb ρ).bind fun y ρ => liftO (o x y) ρ := Eq.trans rfl rfl
@[simp] theorem op1_e {o : T → Option T} : op1 o fa ρ = (fa ρ).bind fun x ρ => liftO (o x) ρ := Eq.trans rfl rfl
@[simp] theorem toB_bl {b : Bool} : toB (.bl b) = some b := Eq.trans rfl rfl
@[simp] theorem tst_e : tst f ρ = (f ρ).bind fun t ρ => liftO (toB t) ρ := Eq.trans rfl rfl
@[simp] theorem truth_e : truth f ρ = (f ρ).bind fun t ρ => liftO (tru t) ρ := Eq.trans rfl rfl
@[simp] theorem tru_bl {b : Bool} : tru (.bl b) = some b := Eq.trans rfl rfl
@[simp] theorem tru_int {n : Int} : tru (.int n) = some (n != 0) := Eq.trans rfl rfl
@[simp] theorem tru_non : tru .non = some false := Eq.trans rfl rfl
@[simp] theorem tru_lst {ts : List T} : tru (.lst ts) = some (!ts.isEmpty) := Eq.trans rfl rfl
@[simp] theorem tru_tup {ts : List T} : tru (.tup ts) = some (!ts.isEmpty) := Eq.trans rfl rfl
@[simp] theorem andV_e : andV fa fb ρ = (fa ρ).bind fun t ρ => match toB t with
  | some true => fb ρ
  | some false => .ok (.bl false) ρ
  | none => .bad := Eq.trans rfl rfl
@[simp] theorem notV_e : notV fa ρ = (fa ρ).bind fun t ρ => match toB t with
  | some b => .ok (.bl (!b)) ρ
  | none => .bad := Eq.trans rfl rfl
@[simp] theorem andT_e : andT ga gb ρ = (ga ρ).bind fun b ρ => if b = true then gb ρ else .ok false ρ := Eq.trans rfl rfl
@[simp] theorem orT_e : orT ga gb ρ = (ga ρ).bind fun b ρ => if b = true then .ok true ρ else gb ρ := Eq.trans rfl rfl
@[simp] theorem notT_e : notT ga ρ = (ga ρ).bind fun b ρ => .ok (!b) ρ := Eq.trans rfl rfl
@[simp] theorem chn_e {o o' : T → T → Option T} : chn o o' fa fb fc ρ = (fa ρ).bind fun x ρ => (fb ρ).bind fun y ρ => match (o x y).bind toB with
  | some true => (fc ρ).bind fun z ρ => liftO (o' y z) ρ
  | some false => .ok (.bl false) ρ
  | none => .bad := Eq.trans rfl rfl
@[simp] theorem rdNil_e : rdNil ρ = .ok [] ρ := Eq.trans rfl rfl
@[simp] theorem rdCons_e : rdCons f fs ρ = (f ρ).bind fun x ρ => (fs ρ).bind fun xs ρ => .ok (x :: xs) ρ := Eq.trans rfl rfl
@[simp] theorem calF_e {o : List T → Option T} : calF o fs ρ = (fs ρ).bind fun ts ρ => liftO (o ts) ρ := Eq.trans rfl rfl
@[simp] theorem calO_e {o : List T → Option O} : calO o fs ρ = (fs ρ).bind fun ts ρ => liftO (o ts) ρ := Eq.trans rfl rfl
@[simp] theorem calI_e {o : List T → Option (List T)} : calI o fs ρ = (fs ρ).bind fun ts ρ => liftO (o ts) ρ := Eq.trans rfl rfl
@[simp] theorem frzM_e {fo : M O} : frzM fo ρ = (fo ρ).bind fun o ρ => .ok (frzO o) ρ := Eq.trans rfl rfl
@[simp] theorem frzO_l {ts : List T} : frzO (.l ts) = .lst ts := Eq.trans rfl rfl
@[simp] theorem frzO_dk {ks : List L2.Key} {ts : List T} : frzO (.dk ks ts) = .dk ks ts := Eq.trans rfl rfl
@[simp] theorem asT_e : asT f ρ = (f ρ).bind fun t ρ => .ok (.tr t) ρ := Eq.trans rfl rfl
@[simp] theorem asO_e {fo : M O} : asO fo ρ = (fo ρ).bind fun o ρ => .ok (.ob o) ρ := Eq.trans rfl rfl
@[simp] theorem sv_tr {t : T} : (VO.tr t).sv = .fz t := Eq.trans rfl rfl
@[simp] theorem sv_ob {o : O} : (VO.ob o).sv = .ow o := Eq.trans rfl rfl
@[simp] theorem xsNil_e : xsNil ρ = .ok [] ρ := Eq.trans rfl rfl
@[simp] theorem xsCons_e {fx : M VO} {fxs : M (List VO)} : xsCons fx fxs ρ = (fx ρ).bind fun x ρ => (fxs ρ).bind fun xs ρ => .ok (x :: xs) ρ := Eq.trans rfl rfl
@[simp] theorem put_e {x : SV} : put i x ρ = if i < ρ.length then .ok .nx (ρ.set i x) else .bad := Eq.trans rfl rfl
@[simp] theorem sSet_e {fx : M VO} : sSet i fx ρ = (fx ρ).bind fun x ρ => put i x.sv ρ := Eq.trans rfl rfl
@[simp] theorem put2_e {x y : VO} : put2 i j [x, y] ρ = if i < ρ.length ∧ j < ρ.length then .ok .nx ((ρ.set i x.sv).set j y.sv) else .bad := Eq.trans rfl rfl
@[simp] theorem sPar_e {fxs : M (List VO)} : sPar i j fxs ρ = (fxs ρ).bind (put2 i j) := Eq.trans rfl rfl
@[simp] theorem skip_e : skip ρ = .ok .nx ρ := Eq.trans rfl rfl
@[simp] theorem bad_e : bad ρ = .bad := Eq.trans rfl rfl
@[simp] theorem sq_e {s s' : MS} : sq s s' ρ = (s ρ).bind fun fl ρ => match fl with
  | .nx => s' ρ
  | .rt t => .ok (.rt t) ρ
  | .bk => .ok .bk ρ
  | .ct => .ok .ct ρ := Eq.trans rfl rfl
@[simp] theorem sRet_e : sRet f ρ = (f ρ).bind fun t ρ => .ok (.rt t) ρ := Eq.trans rfl rfl
@[simp] theorem sIf_e : sIf ga s1 s2 ρ = (ga ρ).bind fun b ρ => if b = true then s1 ρ else s2 ρ := Eq.trans rfl rfl
@[simp] theorem sExpr_e : sExpr f ρ = (f ρ).bind fun _ ρ => .ok .nx ρ := Eq.trans rfl rfl
@[simp] theorem sFor_e {src : M (List T)} {gt : MG} : sFor src gt s ρ = (src ρ).bind fun ts ρ => forL gt s ts ρ := Eq.trans rfl rfl
@[simp] theorem sAsg_e {gt : MG} : sAsg gt f ρ = (f ρ).bind fun t ρ => match gt t ρ with
  | some ρ => .ok .nx ρ
  | none => .bad := Eq.trans rfl rfl
@[simp] theorem gN_e {t : T} : gN i t ρ = if i < ρ.length then some (ρ.set i (.fz t)) else none := Eq.trans rfl rfl
@[simp] theorem gT_e {gs : MGs} {ts : List T} : gT gs (.tup ts) ρ = gs ts ρ := Eq.trans rfl rfl
@[simp] theorem gsNil_e : gsNil [] ρ = some ρ := Eq.trans rfl rfl
@[simp] theorem gsCons_e {gt : MG} {gs : MGs} {t : T} {ts : List T} : gsCons gt gs (t :: ts) ρ = (gt t ρ).bind fun ρ => gs ts ρ := Eq.trans rfl rfl
@[simp] theorem seqT_l {ts : List T} : seqT (.lst ts) = some ts := Eq.trans rfl rfl
@[simp] theorem seqT_s {ts : List T} : seqT (.sl ts) = some ts := Eq.trans rfl rfl
@[simp] theorem seqT_t {ts : List T} : seqT (.tup ts) = some ts := Eq.trans rfl rfl
@[simp] theorem yes_e : yes ρ = .ok true ρ := Eq.trans rfl rfl
@[simp] theorem calU_e {G : Sg} : calU G fs ρ = (fs ρ).bind fun ts ρ => match G ts with
  | .bad => .bad
  | .exc e => .exc e
  | .ok t _ => .ok t ρ := Eq.trans rfl rfl
@[simp] theorem rdA_0 {x : SV} {r : Env} {t : T} : rdA 0 (.fz t :: r) = .ok t (.fz t :: r) := Eq.trans rfl rfl
theorem rdA_e : rdA i ρ = match ρ[i]? with
  | some (.fz t) => .ok t ρ
  | some (.ow o) => .ok (frzO o) (ρ.set i (.fz (frzO o)))
  | _ => .bad := Eq.trans rfl rfl
theorem has_e : has i ρ = match ρ[i]? with
  | some (.fz t) => .t t
  | some (.ow o) => .o o
  | some (.pa o) => .o o
  | _ => .no := Eq.trans rfl rfl
@[simp] theorem isHas_t {t : T} : isHas (.t t) = true := Eq.trans rfl rfl
@[simp] theorem isHas_o {o : O} : isHas (.o o) = true := Eq.trans rfl rfl
@[simp] theorem ixA_e : ixA i f ρ = if isHas (has i ρ) = true then (f ρ).bind fun y ρ => match has i ρ with
  | .t t => liftO (ixO t y) ρ
  | .o (.l ts) => match y with
    | .int j => liftO (atT ts j) ρ
    | _ => .bad
  | _ => .bad else .bad := Eq.trans rfl rfl
@[simp] theorem lenA_e : lenA i ρ = match has i ρ with
  | .t t => liftO (lenO [t]) ρ
  | .o (.l ts) => .ok (.int ts.length) ρ
  | _ => .bad := Eq.trans rfl rfl
theorem rdOwn_e : rdOwn i ρ = ρ[i]?.bind SV.obj := Eq.trans rfl rfl
@[simp] theorem obj_ow {o : O} : SV.obj (.ow o) = some o := Eq.trans rfl rfl
@[simp] theorem obj_pa {o : O} : SV.obj (.pa o) = some o := Eq.trans rfl rfl
@[simp] theorem obj_fz {t : T} : SV.obj (.fz t) = none := Eq.trans rfl rfl
theorem setOwn_e {o : O} : setOwn i o ρ = match ρ[i]? with
  | some x => ρ.set i (x.to o)
  | none => ρ := Eq.trans rfl rfl
@[simp] theorem to_ow {o o' : O} : (SV.ow o).to o' = .ow o' := Eq.trans rfl rfl
@[simp] theorem to_pa {o o' : O} : (SV.pa o).to o' = .pa o' := Eq.trans rfl rfl
@[simp] theorem withOwn_e {f : M α} : withOwn i f ρ = match rdOwn i ρ with
  | some _ => f ρ
  | none => .bad := Eq.trans rfl rfl
@[simp] theorem sSetI_e {fi fv : M T} : sSetI i fi fv ρ = (fv ρ).bind fun t ρ => withOwn i (fun ρ => (fi ρ).bind fun y ρ => match rdOwn i ρ, y with
  | some (.l ts), .int j => match idx ts.length j with
    | some m => .ok .nx (setOwn i (.l (ts.set m t)) ρ)
    | none => .bad
  | _, _ => .bad) ρ := Eq.trans rfl rfl
@[simp] theorem calM_e {G : SgM} : calM G i fs ρ = withOwn i (fun ρ => (fs ρ).bind fun ts ρ => match rdOwn i ρ with
  | some o => match G o ts with
    | .ok (t, o') _ => .ok t (setOwn i o' ρ)
    | _ => .bad
  | none => .bad) ρ := Eq.trans rfl rfl
@[simp] theorem lcM_e {vs : List Nat} {src : M (List T)} {gt : MG} {test : M Bool} {elt : M T} : lcM vs src gt test elt ρ = (src ρ).bind fun ts ρ => if freeS ρ vs = true then (lcL vs gt test elt ts [] ρ).bind fun l ρ => .ok (.l l) ρ else .bad := Eq.trans rfl rfl
@[simp] theorem poN_e : poN ρ = .ok none ρ := Eq.trans rfl rfl
@[simp] theorem slM_e {fl fh : MO} : slM fa fl fh ρ = (fa ρ).bind fun t ρ => (fl ρ).bind fun lo ρ => (fh ρ).bind fun hi ρ => liftO (slO t lo hi) ρ := Eq.trans rfl rfl
@[simp] theorem poS_e : poS f ρ = (f ρ).bind fun t ρ => match t with
  | .int i => .ok (some i) ρ
  | _ => .bad := Eq.trans rfl rfl
@[simp] theorem outF_rt {t : T} : outF (.ok (.rt t) ρ) = .ok t [] := Eq.trans rfl rfl
@[simp] theorem outF_nx : outF (.ok .nx ρ) = .ok .non [] := Eq.trans rfl rfl
@[simp] theorem outF_bad : outF .bad = .bad := Eq.trans rfl rfl
@[simp] theorem lent_e {o : O} {r : Env} : lent (.pa o :: r) = some o := Eq.trans rfl rfl
@[simp] theorem outM_rt {t : T} : outM (.ok (.rt t) ρ) = outV t ρ := Eq.trans rfl rfl
@[simp] theorem outM_nx : outM (.ok .nx ρ) = outV .non ρ := Eq.trans rfl rfl
@[simp] theorem outM_bad : outM .bad = .bad := Eq.trans rfl rfl
@[simp] theorem outV_e {t : T} {o : O} {r : Env} : outV t (.pa o :: r) = .ok (t, o) [] := Eq.trans rfl rfl
end
/-! ### operators on given kinds -/
section
variable {i j : Int} {a b : Bool} {x y : T} {xs ys : List T} {z w : Str}
@[simp] theorem intO_e {f : Int → Int → T} : intO f (.int i) (.int j) = some (f i j) := Eq.trans rfl rfl
@[simp] theorem intC_e {c : Int → Int → Bool} {f : Int → Int → Int} : intC c f (.int i) (.int j) = if c i j then some (.int (f i j)) else none := Eq.trans rfl rfl
@[simp] theorem mulO_e : mulO (.int i) (.int j) = if mulC i j then some (.int (i * j)) else none := Eq.trans rfl rfl
@[simp] theorem addO_int : addO (.int i) (.int j) = some (.int (i + j)) := Eq.trans rfl rfl
@[simp] theorem addO_lst : addO (.lst xs) (.lst ys) = if xs.length + ys.length ≤ 16777216 then some (.lst (xs ++ ys)) else none := Eq.trans rfl rfl
@[simp] theorem addO_tup : addO (.tup xs) (.tup ys) = if xs.length + ys.length ≤ 16777216 then some (.tup (xs ++ ys)) else none := Eq.trans rfl rfl
@[simp] theorem addO_str : addO (.str z) (.str w) = if z.length + w.length ≤ 16777216 then some (.str (z ++ w)) else none := Eq.trans rfl rfl
@[simp] theorem negO_e : negO (.int i) = some (.int (-i)) := Eq.trans rfl rfl
theorem modO_e (h : 0 < j) : modO (.int i) (.int j) = some (.int (i % j)) := by
  show (if decide (j ≠ 0) = true then some (T.int (i.fmod j)) else none) = _
  rw [if_pos (decide_eq_true (by omega)), Int.fmod_eq_emod_of_nonneg _ (by omega)]
theorem mulC_of {m n : Nat} (hi : i.natAbs < 2 ^ m) (hj : j.natAbs < 2 ^ n) (hm : 0 < m) (hn : 0 < n) (h : m + n ≤ 1000000) : mulC i j = true := by
  unfold mulC
  rw [decide_eq_true_eq]
  have h1 := PySem.Flt.log2_lt_of hm hi
  have h2 := PySem.Flt.log2_lt_of hn hj
  omega
@[simp] theorem eqO_int : eqO (.int i) (.int j) = some (.bl (decide (i = j))) := by
  simp [eqO, eqT, flatT, L2.scal]
@[simp] theorem neO_int : neO (.int i) (.int j) = some (.bl (!decide (i = j))) := by
  simp [neO, eqT, flatT, L2.scal]
@[simp] theorem eqO_bl : eqO (.bl a) (.bl b) = some (.bl (decide (a = b))) := by
  simp [eqO, eqT, flatT, L2.scal]
@[simp] theorem neO_bl : neO (.bl a) (.bl b) = some (.bl (!decide (a = b))) := by
  simp [neO, eqT, flatT, L2.scal]
@[simp] theorem eqO_str : eqO (.str z) (.str w) = some (.bl (decide (z = w))) := by
  simp [eqO, eqT, flatT, L2.scal]
@[simp] theorem neO_str : neO (.str z) (.str w) = some (.bl (!decide (z = w))) := by
  simp [neO, eqT, flatT, L2.scal]
@[simp] theorem eqO_nn : eqO .non .non = some (.bl true) := by
  simp [eqO, eqT, flatT, L2.scal]
@[simp] theorem tyT_non : tyT .non = some .non := Eq.trans rfl rfl
@[simp] theorem tyT_bl : tyT (.bl a) = some .bl := Eq.trans rfl rfl
@[simp] theorem tyT_int : tyT (.int i) = some .int := Eq.trans rfl rfl
@[simp] theorem tyT_str : tyT (.str z) = some .str := Eq.trans rfl rfl
@[simp] theorem tyT_lst : tyT (.lst xs) = some .lst := Eq.trans rfl rfl
@[simp] theorem tyT_sl : tyT (.sl xs) = some .lst := Eq.trans rfl rfl
@[simp] theorem tyT_tup : tyT (.tup xs) = some .tup := Eq.trans rfl rfl
@[simp] theorem tyT_dk {ks : List L2.Key} {vs : List T} : tyT (.dk ks vs) = some .dct := Eq.trans rfl rfl
@[simp] theorem isiO_e {b : Ty} : isiO b x = (tyT x).map fun a => .bl (isTy a b) := Eq.trans rfl rfl
@[simp] theorem isTy_e {a b : Ty} : isTy a b = (decide (a = b) || (decide (a = .bl) && decide (b = .int))) := Eq.trans rfl rfl
@[simp] theorem tupO_e : tupO xs = if xs.length ≤ 16777216 then some (.tup xs) else none := Eq.trans rfl rfl
@[simp] theorem newL_e : newL xs = if xs.length ≤ 16777216 then some (.l xs) else none := Eq.trans rfl rfl
@[simp] theorem abs1O_e : abs1O [.int i] = some (.int (if i < 0 then -i else i)) := Eq.trans rfl rfl
@[simp] theorem min2O_e : min2O [.int i, .int j] = some (.int (if j < i then j else i)) := Eq.trans rfl rfl
@[simp] theorem tuple1O_l : tuple1O [.lst xs] = some (.tup xs) := Eq.trans rfl rfl
@[simp] theorem tuple1O_t : tuple1O [.tup xs] = some (.tup xs) := Eq.trans rfl rfl
@[simp] theorem lenO_l : lenO [.lst xs] = some (.int xs.length) := Eq.trans rfl rfl
@[simp] theorem lenO_s : lenO [.sl xs] = some (.int xs.length) := Eq.trans rfl rfl
@[simp] theorem lenO_t : lenO [.tup xs] = some (.int xs.length) := Eq.trans rfl rfl
@[simp] theorem lenO_str : lenO [.str z] = if z.length ≤ 16777216 then some (.int z.length) else none := Eq.trans rfl rfl
@[simp] theorem ixO_l : ixO (.lst xs) (.int i) = atT xs i := Eq.trans rfl rfl
@[simp] theorem ixO_s : ixO (.sl xs) (.int i) = atT xs i := Eq.trans rfl rfl
@[simp] theorem ixO_t : ixO (.tup xs) (.int i) = atT xs i := Eq.trans rfl rfl
@[simp] theorem all1O_e : all1O [.lst xs] = (blsT xs).map fun bs => .bl (bs.all id) := Eq.trans rfl rfl
@[simp] theorem rg1_e : rg1 [.int j] = if decide (-4611686018427387904 ≤ j) && decide (j < 4611686018427387904) then some (rgT 0 j.toNat) else none := Eq.trans rfl rfl
@[simp] theorem rg2_e : rg2 [.int i, .int j] = if decide (-4611686018427387904 ≤ i) && decide (i < 4611686018427387904) && decide (-4611686018427387904 ≤ j) && decide (j < 4611686018427387904) then some (rgT i (j - i).toNat) else none := Eq.trans rfl rfl
@[simp] theorem enum1_e : enum1 [x] = (seqT x).map (enumT 0) := Eq.trans rfl rfl
theorem atT_nat {n : Nat} {t : T} (h : xs[n]? = some t) : atT xs (n : Int) = some t := by
  have hl := (List.getElem?_eq_some_iff.mp h).1
  unfold atT idx
  rw [if_pos (by omega), if_pos (by omega)]
  simpa using h
theorem atT_pos {t : T} (h0 : 0 ≤ i) (h : xs[i.toNat]? = some t) : atT xs i = some t := by
  have := atT_nat h
  rwa [Int.toNat_of_nonneg h0] at this
end
/-! ### loops -/
@[simp] theorem forL_nil {g : MG} {s : MS} {ρ : Env} : forL g s [] ρ = .ok .nx ρ := Eq.trans rfl rfl
theorem whl_succ {g : M Bool} {s : MS} {n : Nat} {ρ : Env} : whl g s (n + 1) ρ = (g ρ).bind fun b ρ => if b = true then (s ρ).bind fun fl ρ => match fl with
      | .nx => whl g s n ρ
      | .ct => whl g s n ρ
      | .bk => .ok .nx ρ
      | .rt t => .ok (.rt t) ρ
    else .ok .nx ρ := Eq.trans rfl rfl
end FL

/-! FL13: small things. -/
namespace FL
open PySem PySem.Spec L2
section
variable {i j : Int}
@[simp] theorem gtO_e : gtO (.int i) (.int j) = some (.bl (decide (j < i))) := Eq.trans rfl rfl
@[simp] theorem ltO_e : ltO (.int i) (.int j) = some (.bl (decide (i < j))) := Eq.trans rfl rfl
@[simp] theorem geO_e : geO (.int i) (.int j) = some (.bl (decide (j ≤ i))) := Eq.trans rfl rfl
@[simp] theorem leO_e : leO (.int i) (.int j) = some (.bl (decide (i ≤ j))) := Eq.trans rfl rfl
end
end FL

/-! FL14: == on data. -/
namespace FL
open PySem PySem.Spec L2
mutual
/-- numbers, texts, and rows of them, so deep -/
def dat : Nat → T → Bool
  | _, .non => true
  | _, .int _ => true
  | _, .str x => PyData.strOk x
  | k + 1, .tup ts => dats k ts
  | k + 1, .lst ts => dats k ts
  | _, _ => false
def dats : Nat → List T → Bool
  | _, [] => true
  | k, t :: ts => dat k t && dats k ts
end
mutual
theorem dat_toD : ∀ {k : Nat} {t : T}, dat k t = true → ∃ d, toD t = some d ∧ d.canLay0 = true ∧ d.depth ≤ k
  | k, .non, _ => ⟨.none, by simp only [toD], by simp only [PyData.canLay0], by simp [PyData.depth]⟩
  | k, .int i, _ => ⟨.int i, by simp only [toD], by simp only [PyData.canLay0], by simp [PyData.depth]⟩
  | k, .str x, h => ⟨.str x, by simp only [toD], by simpa only [PyData.canLay0, dat] using h, by simp [PyData.depth]⟩
  | k + 1, .tup ts, h => by
    obtain ⟨ds, e, c, l⟩ := dats_toD (k := k) (ts := ts) (by simpa only [dat] using h)
    exact ⟨.tuple ds, by simp only [toD, e, Option.map_some], by simpa only [PyData.canLay0] using c, by simp only [PyData.depth]; omega⟩
  | k + 1, .lst ts, h => by
    obtain ⟨ds, e, c, l⟩ := dats_toD (k := k) (ts := ts) (by simpa only [dat] using h)
    exact ⟨.list ds, by simp only [toD, e, Option.map_some], by simpa only [PyData.canLay0] using c, by simp only [PyData.depth]; omega⟩
  | 0, .tup ts, h => by simp [dat] at h
  | 0, .lst ts, h => by simp [dat] at h
  | _, .bl _, h => by simp [dat] at h
  | _, .sl _, h => by simp [dat] at h
  | _, .fn _, h => by simp [dat] at h
  | _, .dk _ _, h => by simp [dat] at h
  | _, .dt _ _, h => by simp [dat] at h
theorem dats_toD : ∀ {k : Nat} {ts : List T}, dats k ts = true → ∃ ds, toDs ts = some ds ∧ PyData.canLayAll0 ds = true ∧ PyData.depthAll ds ≤ k
  | k, [], _ => ⟨[], by simp only [toDs], by simp only [PyData.canLayAll0], by simp [PyData.depthAll]⟩
  | k, t :: ts, h => by
    simp only [dats, Bool.and_eq_true] at h
    obtain ⟨d, e1, c1, l1⟩ := dat_toD h.1
    obtain ⟨ds, e2, c2, l2⟩ := dats_toD h.2
    exact ⟨d :: ds, by simp only [toDs, e1, e2], by simp only [PyData.canLayAll0, c1, c2, Bool.and_self], by simp only [PyData.depthAll]; omega⟩
end
mutual
theorem eqv_dat : ∀ {k m : Nat} {t u : T} {d e : PyData}, dat k t = true → dat m u = true → toD t = some d → toD u = some e → (PyData.eqv d e = true ↔ t = u)
  | k, m, t, u, d, e, ht, hu, hd, he => by
    cases t <;> first
      | (simp [dat] at ht; done)
      | skip
    all_goals cases u <;> first
      | (simp [dat] at hu; done)
      | skip
    all_goals simp only [toD, Option.some.injEq, Option.map_eq_some_iff] at hd he
    all_goals first
      | (obtain ⟨ds, h1, rfl⟩ := hd; obtain ⟨es, h2, rfl⟩ := he
         cases k with
         | zero => simp [dat] at ht
         | succ k => cases m with
           | zero => simp [dat] at hu
           | succ m =>
             simp only [dat] at ht hu
             have := eqvs_dat ht hu h1 h2
             simp [PyData.eqv, this]
             done)
      | (obtain ⟨ds, h1, rfl⟩ := hd; subst he; simp [PyData.eqv]; done)
      | (obtain ⟨ds, h1, rfl⟩ := he; subst hd; simp [PyData.eqv]; done)
      | (subst hd; subst he; simp [PyData.eqv]; done)
theorem eqvs_dat : ∀ {k m : Nat} {ts us : List T} {ds es : List PyData}, dats k ts = true → dats m us = true → toDs ts = some ds → toDs us = some es → (PyData.eqvAll ds es = true ↔ ts = us)
  | k, m, [], [], ds, es, _, _, hd, he => by
    simp only [toDs, Option.some.injEq] at hd he
    subst hd he; simp [PyData.eqvAll]
  | k, m, t :: ts, [], ds, es, ht, _, hd, he => by
    simp only [dats, Bool.and_eq_true] at ht
    obtain ⟨d, e1, _, _⟩ := dat_toD ht.1
    obtain ⟨ds', e2, _, _⟩ := dats_toD ht.2
    simp only [toDs, e1, e2, Option.some.injEq] at hd he
    subst hd he; simp [PyData.eqvAll]
  | k, m, [], u :: us, ds, es, _, hu, hd, he => by
    simp only [dats, Bool.and_eq_true] at hu
    obtain ⟨d, e1, _, _⟩ := dat_toD hu.1
    obtain ⟨ds', e2, _, _⟩ := dats_toD hu.2
    simp only [toDs, e1, e2, Option.some.injEq] at hd he
    subst hd he; simp [PyData.eqvAll]
  | k, m, t :: ts, u :: us, ds, es, ht, hu, hd, he => by
    simp only [dats, Bool.and_eq_true] at ht hu
    obtain ⟨d, e1, _, _⟩ := dat_toD ht.1
    obtain ⟨ds', e2, _, _⟩ := dats_toD ht.2
    obtain ⟨f, e3, _, _⟩ := dat_toD hu.1
    obtain ⟨fs', e4, _, _⟩ := dats_toD hu.2
    simp only [toDs, e1, e2, e3, e4, Option.some.injEq] at hd he
    subst hd he
    simp only [PyData.eqvAll, Bool.and_eq_true, eqv_dat ht.1 hu.1 e1 e3, eqvs_dat ht.2 hu.2 e2 e4, List.cons.injEq]
end
theorem eqT_dat {k m : Nat} {t u : T} (ht : dat k t = true) (hu : dat m u = true) (hk : k ≤ 64) (hm : m ≤ 64) : ∃ b : Bool, eqT t u = some b ∧ (b = true ↔ t = u) := by
  obtain ⟨d, e1, c1, l1⟩ := dat_toD ht
  obtain ⟨e, e2, c2, l2⟩ := dat_toD hu
  have s1 : SeqAt.shaped d = true := by unfold SeqAt.shaped; rw [c1, Bool.true_and, decide_eq_true_eq]; omega
  have s2 : SeqAt.shaped e = true := by unfold SeqAt.shaped; rw [c2, Bool.true_and, decide_eq_true_eq]; omega
  have g : (match toD t, toD u with
    | some d, some e => if SeqAt.shaped d && SeqAt.shaped e then some (PyData.eqv d e) else none
    | _, _ => none) = some (PyData.eqv d e) := by rw [e1, e2]; simp [s1, s2]
  have hv := eqv_dat ht hu e1 e2
  unfold eqT
  split
  · rename_i v w h1 h2
    split
    · refine ⟨_, rfl, ?_⟩
      rw [decide_eq_true_eq]
      cases t <;> simp only [flatT, Option.some.injEq, reduceCtorEq] at h1 <;> cases u <;> simp only [flatT, Option.some.injEq, reduceCtorEq] at h2 <;> subst h1 <;> subst h2 <;> simp [dat] at ht hu ⊢
    · exact ⟨_, g, hv⟩
  · exact ⟨_, g, hv⟩
/-- rows of ints -/
def its (L : List Int) : List T := L.map T.int
end FL

/-! FL15: loops: an accumulator; the first that stops; comprehensions that draw. -/
namespace FL
open PySem PySem.Spec L2
end FL

/-! FL16: x in y. -/
namespace FL
open PySem PySem.Spec PyProof.Rows L2
section
variable {X : Cx}
end
end FL

/-! FL17: x[i] += e; [c] * n. -/
namespace FL
open PySem PySem.Spec PyProof.Rows L2
section
variable {X : Cx}
theorem get_list : PGet X (fun o i H Q => rIxL X.K o i H Q) := by
  intro pins s σ H o i ov iv Q I ro ri h
  obtain ⟨p, xs, i, z, rfl, rfl, hq, he, q⟩ := h
  cases ro
  obtain ⟨t, rfl⟩ := ri
  obtain ⟨its, r, pl, hz⟩ := I.list hq
  obtain ⟨j, h1, h2, h3, h4, h5⟩ := atI_get he
  obtain ⟨w, ew, rw'⟩ := r.get h2
  have hl := r.length
  have hn := line63
  have fin : EP X pins σ Q w s := ⟨z, H, I, rw', q⟩
  by_cases h0 : 0 ≤ i
  · have hj : i.toNat = j := by
      rw [seqIndex_of h0 h5] at h1
      exact Option.some.inj h1
    exact wpAny_getItem_list pl.isList h0 (by omega) (by rw [hj]; simpa using ew) fin
  · have hj : (i + (its.toArray.size : Int)).toNat = j := by
      rw [seqIndex_neg (by omega) h4] at h1
      rw [List.size_toArray, ← hl]
      exact Option.some.inj h1
    exact wpAny_getItem_list_neg pl.isList (by omega) (by rw [List.size_toArray] <;> omega) (by omega) (by rw [hj]; simpa using ew) fin
end
/-- x[j] += e -/
def sAugI (i : Nat) (fi : M T) (o : T → T → Option T) (f : M T) : MS := withOwn i fun ρ => (fi ρ).bind fun y ρ => match rdOwn i ρ, y with
  | some (.l ts), .int j => match atT ts j with
    | some t => (f ρ).bind fun u ρ => match o t u, rdOwn i ρ with
      | some t', some (.l ts') => match idx ts'.length j with
        | some m => .ok .nx (setOwn i (.l (ts'.set m t')) ρ)
        | none => .bad
      | _, _ => .bad
    | none => .bad
  | _, _ => .bad
section
variable {X : Cx} {E : XK} {b e : Expr} {pos p p2 : Pos} {fi f : M T} {x : Str} {i : Nat}
theorem fs_augI {op : Operator} {r : TIp} {o : T → T → Option T} (ho : PIp X op r) (hr : IpT X r o) (hN : X.N[i]? = some x := by rfl) (hv : Vis X.env.scope x := by first | exact Or.inl rfl | exact Or.inr (Or.inl rfl) | exact Or.inr (Or.inr rfl)) (hb : FE X E b fi) (he : FE X E e f)
    (ha : ∀ ov iv new, augStore b ov iv new = (do holding [new, ov, iv] (setItem ov iv new); release [new, ov, iv] []; pure .next) := by intros; rfl) (hd : (x == ("__debug__" : Str)) = false := by decide) (hcd : (x == ("__classdict__" : Str)) = false := by decide) :
    FS X E (.AugAssign (.Subscript (.Name x p) b p2) op e pos) (sAugI i fi o f) := by
  refine ps_imp (ps_augS (pe_var hN hv hd hcd) hb get_list he ho set_list ha) fun D σ H h => ?_
  obtain ⟨k, F, ρ, R, h⟩ := h
  obtain ⟨⟨o0, ho0⟩, h⟩ := Den.own h
  obtain ⟨a, h0, es, _⟩ := R.own ho0
  refine ⟨.ref a, es, k, F, ρ, R, (Den.bind h).imp fun y ρ2 h2 w F2 H2 R2 s2 r2 => ?_⟩
  split at h2
  · rename_i ts j e1
    split at h2
    · rename_i t et
      obtain ⟨_, e2, e3, e4, _⟩ := own_two (k' := k) (F := F) (ρ := ρ) (H := H) (h := h0) R2 es e1
      obtain ⟨vs, rfl, rv⟩ := e4
      obtain ⟨v, g1, g2⟩ := atT_rep rv et
      refine ⟨a, vs, j, v, rfl, r2, SqL.of e3, g1, k, F2, ρ2, R2, (Den.bind h2).imp fun u ρ3 h3 v3 F3 H3 R3 s3 r3 => ?_⟩
      split at h3
      · rename_i t' ts' eo er
        split at h3
        · rename_i m em
          refine hr k F3 ρ3 σ H3 _ t u t' v v3 R3 (g2.mono s3) r3 eo fun v' F' H' R' s' r' => ?_
          obtain ⟨_, e2', e3', e4', mk⟩ := own_two (k' := k) (F := F) (ρ := ρ) (H := H) (h := h0) R' es er
          obtain ⟨vs', rfl, rv'⟩ := e4'
          refine ⟨a, vs', j, m, rfl, r2, e3', by rw [← rv'.length]; exact em, ?_⟩
          exact h3 _ F' _ (mk (o' := .l (ts'.set m t')) ⟨_, rfl, rv'.set r' m⟩) ((s2.trans s3).trans s')
        · exact h3.elim
      · exact h3.elim
    · exact h2.elim
  · exact h2.elim
@[simp] theorem sAugI_e {o : T → T → Option T} {ρ : FL.Env} : sAugI i fi o f ρ = withOwn i (fun ρ => (fi ρ).bind fun y ρ => match rdOwn i ρ, y with
  | some (.l ts), .int j => match atT ts j with
    | some t => (f ρ).bind fun u ρ => match o t u, rdOwn i ρ with
      | some t', some (.l ts') => match idx ts'.length j with
        | some m => .ok .nx (setOwn i (.l (ts'.set m t')) ρ)
        | none => .bad
      | _, _ => .bad
    | none => .bad
  | _, _ => .bad) ρ := Eq.trans rfl rfl
end
end FL

/-! FL18: new lists: [..] * n, a + b. -/
namespace FL
open PySem PySem.Spec PyProof.Rows L2
def op2L (o : T → T → Option O) (fa fb : M T) : M O := fun ρ => (fa ρ).bind fun x ρ => (fb ρ).bind fun y ρ => liftO (o x y) ρ
def repL (x y : T) : Option O := match x, y with
  | .lst ts, .int k => if decide (-9223372036854775808 ≤ k) && decide (k < 9223372036854775808) && decide (ts.length * k.toNat ≤ 16777216) then some (.l (List.replicate k.toNat ts).flatten) else none
  | _, _ => none
section
variable {X : Cx} {E : XK} {a b : Expr} {pos : Pos} {fa fb : M T}
theorem fo_rep (ha : FE X E a fa) (hb : FE X E b fb) : FO X E (.BinOp a .Mult b pos) (op2L repL fa fb) := by
  refine pe_imp (pe_op op_rep ha hb) fun σ H Q h => ?_
  obtain ⟨k, F, ρ, R, h⟩ := h
  refine ⟨k, F, ρ, R, (Den.bind h).imp fun x ρ1 h1 v F1 H1 R1 s1 r1 => ⟨k, F1, ρ1, R1, (Den.bind h1).imp fun y ρ2 h2 u F2 H2 R2 s2 r2 => ?_⟩⟩
  obtain ⟨t, e, q⟩ := Den.lift h2
  unfold repL at e
  split at e
  · rename_i ts n
    split at e
    · rename_i hc
      cases e
      simp only [Bool.and_eq_true, decide_eq_true_eq] at hc
      obtain ⟨l, vs, rfl, hl, rv⟩ := r1.mono s2
      have e2 : u = .int n := r2
      subst e2
      refine ⟨l, n, vs, rfl, rfl, R2.fh _ _ hl, hc.1.1, hc.1.2, by rw [szL, ← rv.length]; exact hc.2, fun p np => ?_⟩
      exact q _ F2 _ (R2.newO (o := .l (List.replicate n.toNat ts).flatten) ⟨_, rfl, rv.rep n.toNat⟩ np) (s1.trans s2) R2.len
    · cases e
  · cases e
variable {o : T → T → Option O} {ρ : FL.Env} {ts us : List T} {k : Int}
@[simp] theorem op2L_e : op2L o fa fb ρ = (fa ρ).bind fun x ρ => (fb ρ).bind fun y ρ => liftO (o x y) ρ := Eq.trans rfl rfl
@[simp] theorem repL_e : repL (.lst ts) (.int k) = if decide (-9223372036854775808 ≤ k) && decide (k < 9223372036854775808) && decide (ts.length * k.toNat ≤ 16777216) then some (.l (List.replicate k.toNat ts).flatten) else none := Eq.trans rfl rfl
end
end FL

/-! FL19: sorted(xs), data of one kind. -/
namespace FL
open PySem PySem.Spec PyProof.Rows L2
/-! mergeSort with fuel: the kernel reckons it -/
section
variable {α : Type}
def mrgF (le : α → α → Bool) : Nat → List α → List α → List α
  | 0, xs, ys => xs ++ ys
  | n + 1, [], ys => ys
  | n + 1, xs, [] => xs
  | n + 1, x :: xs, y :: ys => if le x y = true then x :: mrgF le n xs (y :: ys) else y :: mrgF le n (x :: xs) ys
theorem mrgF_eq (le : α → α → Bool) : ∀ (n : Nat) (xs ys : List α), xs.length + ys.length ≤ n → mrgF le n xs ys = List.merge xs ys le
  | 0, xs, ys, h => by
    have h1 : xs = [] := List.eq_nil_of_length_eq_zero (by omega)
    have h2 : ys = [] := List.eq_nil_of_length_eq_zero (by omega)
    subst h1; subst h2
    simp [mrgF, List.merge]
  | n + 1, [], ys, h => by simp [mrgF, List.merge]
  | n + 1, x :: xs, [], h => by simp [mrgF, List.merge]
  | n + 1, x :: xs, y :: ys, h => by
    simp only [List.length_cons] at h
    simp only [mrgF, List.merge]
    split
    · rw [mrgF_eq le n xs (y :: ys) (by simp only [List.length_cons]; omega)]
    · rw [mrgF_eq le n (x :: xs) ys (by simp only [List.length_cons]; omega)]
def msF (le : α → α → Bool) : Nat → List α → List α
  | 0, xs => xs
  | n + 1, [] => []
  | n + 1, [x] => [x]
  | n + 1, x :: y :: xs => mrgF le ((x :: y :: xs).length) (msF le n ((x :: y :: xs).take ((xs.length + 3) / 2))) (msF le n ((x :: y :: xs).drop ((xs.length + 3) / 2)))
theorem msF_eq (le : α → α → Bool) : ∀ (n : Nat) (xs : List α), xs.length ≤ n + 1 → msF le n xs = xs.mergeSort le
  | 0, [], h => by simp [msF]
  | 0, [x], h => by simp [msF]
  | 0, x :: y :: xs, h => by simp at h
  | n + 1, [], h => by simp [msF]
  | n + 1, [x], h => by simp [msF]
  | n + 1, x :: y :: xs, h => by
    simp only [List.length_cons] at h
    simp only [msF]
    rw [msF_eq le n _ (by simp only [List.length_take, List.length_cons]; omega), msF_eq le n _ (by simp only [List.length_drop, List.length_cons]; omega)]
    rw [mrgF_eq le _ _ _ (by simp only [List.length_mergeSort, List.length_take, List.length_drop, List.length_cons]; omega)]
    rw [List.mergeSort]
    simp only [List.MergeSort.Internal.splitInTwo_fst, List.MergeSort.Internal.splitInTwo_snd]
    rfl
def srt (le : α → α → Bool) (xs : List α) : List α := msF le xs.length xs
theorem srt_eq (le : α → α → Bool) (xs : List α) : srt le xs = xs.mergeSort le := msF_eq le _ _ (by omega)
end
section
variable {X : Cx}
def rSortedA (K : PySem.W.Frag) : List V → Hp → VK → Prop := fun vs H Q => ∃ (a : Addr) (bs : List (V × PyData)), vs = [V.ref a] ∧ SqL K H a (bs.map Prod.fst) ∧ (∀ b ∈ bs, Dp K H b.1 b.2 ∧ b.2.depth ≤ 64) ∧ PySem.W.AllAlike (bs.map Prod.snd) ∧ PySem.W.Sortable (bs.map Prod.snd) ∧
  ∀ p, H p = none → Q (.ref p) (upd H p (.lst ((bs.mergeSort (PySem.W.dataLe false Prod.snd)).map Prod.fst)))
theorem each_of {β : Type} {R : Value → β → Prop} {f : β → V} (hR : ∀ b v, RelV (f b) v → R v b) : ∀ {bs : List β} {vs : List Value}, Vals (bs.map f) vs → PySem.W.EachIs R vs bs
  | [], vs, r => by cases r; exact .nil
  | b :: bs, vs, r => by
    cases r with
    | cons h t => exact .cons (hR b _ h) (each_of hR t)
theorem vals_of_each {β : Type} {f : β → V} : ∀ {bs : List β} {vs : List Value}, PySem.W.EachIs (fun v b => RelV (f b) v) vs bs → Vals (bs.map f) vs
  | _, _, .nil => .nil
  | _, _, .cons h t => .cons h (vals_of_each t)
theorem each_mem {β : Type} {R R' : Value → β → Prop} : ∀ {bs : List β} {vs : List Value}, PySem.W.EachIs R vs bs → (∀ b ∈ bs, ∀ v, R v b → R' v b) → PySem.W.EachIs R' vs bs
  | _, _, .nil, _ => .nil
  | _, _, .cons h t, f => .cons (f _ (List.mem_cons_self ..) _ h) (each_mem t fun b hb => f b (List.mem_cons_of_mem _ hb))
theorem cr_sortedA (hu : X.A.units + 66 < cLine) : CallR X (.builtin "sorted") (rSortedA X.K) := by
  intro pins s σ H vs us Q I r h
  obtain ⟨a, bs, rfl, hs, hd, hal, hk, q⟩ := h
  obtain ⟨its, rv, hl, hz⟩ := I.list hs
  rw [Vals.ref1 r]
  have e : PySem.W.EachIs (fun v b => RelV (Prod.fst b) v) its bs := each_of (fun _ _ h => h) rv
  have er : PySem.W.EachIs (fun v b => ∃ as, Reads s.heap v (Prod.snd b) as) its bs := each_mem e fun b hb v r => Dp.reads I b.2 b.1 v (hd b hb).1 r
  have hL : bs.length ≤ sizeLine := by simpa using hz
  refine PySem.W.sorted_data (enc := Prod.snd) hl.isList e er hal hk hL (fun b hb => by have := (hd b hb).2; omega) fun out ho hout => ?_
  obtain ⟨ep, he'⟩ := PyProof.Rows.sortedAll_at s.heap its (List.toArray out)
  have hlen : ((bs.mergeSort (PySem.W.dataLe false Prod.snd)).map Prod.fst).length ≤ sizeLine := by rw [List.length_map, List.length_mergeSort]; exact hL
  exact ⟨.ref _, upd H (s.heap.objs.size + 1) (.lst ((bs.mergeSort (PySem.W.dataLe false Prod.snd)).map Prod.fst)), I.laid (t' := s.toks) (fun _ _ => PyProof.Rows.sortedAll_old) (Nat.le_succ _) ⟨hlen, out, ep, vals_of_each hout, he'⟩, rfl, q _ (I.hok.fresh (Nat.le_succ _))⟩
end
/-- xs in order, as their data are -/
def sortT (xs : List T) (ds : List PyData) : List T := (srt (PySem.W.dataLe false Prod.snd) (xs.zip ds)).map Prod.fst
def okSort (ds : List PyData) : Bool := (ds.all fun d => ds.all fun e => PySem.W.alike d e) && (ds.all fun d => decide (d.depth ≤ 64)) && ((ds.all fun d => match d with
  | .tuple (_ :: _) => true
  | _ => false) || ds.all fun d => match d with
  | .none => false
  | .tuple _ => false
  | _ => true)
def sort1 (ts : List T) : Option O := match ts with
  | [x] => match seqL x with
    | some xs => match toDs xs with
      | some ds => if okSort ds then some (.l (sortT xs ds)) else none
      | none => none
    | none => none
  | _ => none
where seqL (x : T) : Option (List T) := match x with
  | .lst xs => some xs
  | _ => none
theorem okSort_spec {ds : List PyData} (h : okSort ds = true) : PySem.W.AllAlike ds ∧ PySem.W.Sortable ds ∧ ∀ d ∈ ds, d.depth ≤ 64 := by
  simp only [okSort, Bool.and_eq_true, Bool.or_eq_true, List.all_eq_true, decide_eq_true_eq] at h
  refine ⟨fun d hd e he => h.1.1 d hd e he, ?_, h.1.2⟩
  rcases h.2 with h | h
  · refine .inl fun d hd => ?_
    have := h d hd
    split at this
    · exact ⟨_, _, rfl⟩
    · cases this
  · refine .inr fun d hd => ?_
    have := h d hd
    constructor
    · rintro rfl; cases this
    · rintro xs rfl; cases this
theorem toDs_len : ∀ {xs : List T} {ds : List PyData}, toDs xs = some ds → xs.length = ds.length
  | [], ds, h => by simp only [toDs, Option.some.injEq] at h; subst h; rfl
  | t :: xs, ds, h => by
    simp only [toDs] at h
    split at h
    · rename_i d es h1 h2
      cases h
      simp [toDs_len h2]
    · cases h
theorem dps_zip {K : PySem.W.Frag} {mg : Str → Option Value} {F H : Hp} (s : Same F H) : ∀ {xs : List T} {vs : List V} {ds : List PyData}, Reps K mg F xs vs → toDs xs = some ds → ∀ z ∈ xs.zip (vs.zip ds), Rep K mg F z.1 z.2.1 ∧ Dp K H z.2.1 z.2.2
  | [], vs, ds, r, h, z, hz => by simp at hz
  | t :: xs, vs, ds, r, h, z, hz => by
    simp only [toDs] at h
    split at h
    · rename_i d es h1 h2
      cases h
      cases vs with
      | nil => exact absurd r.length (by simp)
      | cons v vs =>
        obtain ⟨v', r', e', r1, r2⟩ := r
        cases e'
        simp only [List.zip_cons_cons, List.mem_cons] at hz
        rcases hz with rfl | hz
        · exact ⟨r1, dp_of s _ _ _ r1 h1⟩
        · exact dps_zip s r2 h2 z hz
    · cases h
theorem reps_all {K : PySem.W.Frag} {mg : Str → Option Value} {F : Hp} : ∀ {l : List (T × V × PyData)}, (∀ z ∈ l, Rep K mg F z.1 z.2.1) → Reps K mg F (l.map Prod.fst) (l.map fun z => z.2.1)
  | [], _ => .nil
  | z :: l, h => .cons (h z (List.mem_cons_self ..)) (reps_all fun z hz => h z (List.mem_cons_of_mem _ hz))
theorem zip_fst {α β : Type} : ∀ {as : List α} {bs : List β}, as.length = bs.length → (as.zip bs).map Prod.fst = as
  | [], [], _ => rfl
  | a :: as, b :: bs, h => by simp [zip_fst (as := as) (bs := bs) (by simpa using h)]
  | [], _ :: _, h => by simp at h
  | _ :: _, [], h => by simp at h
theorem zip_snd {α β : Type} : ∀ {as : List α} {bs : List β}, as.length = bs.length → (as.zip bs).map Prod.snd = bs
  | [], [], _ => rfl
  | a :: as, b :: bs, h => by simp [zip_snd (as := as) (bs := bs) (by simpa using h)]
  | [], _ :: _, h => by simp at h
  | _ :: _, [], h => by simp at h
theorem zip_drop : ∀ {xs : List T} {vs : List V} {ds : List PyData}, xs.length = vs.length → vs.length = ds.length → (xs.zip (vs.zip ds)).map (fun z => (z.1, z.2.2)) = xs.zip ds
  | [], [], [], _, _ => rfl
  | x :: xs, v :: vs, d :: ds, h1, h2 => by simp [zip_drop (xs := xs) (vs := vs) (ds := ds) (by simpa using h1) (by simpa using h2)]
  | [], _ :: _, _, h, _ => by simp at h
  | _ :: _, [], _, h, _ => by simp at h
  | _, [], _ :: _, _, h => by simp at h
  | _, _ :: _, [], _, h => by simp at h
section
variable {X : Cx} {E : XK} {e : Expr} {es : List Expr} {pos : Pos} {fs : M (List T)}
end
theorem units66 {k : Nat} {A : Around} (hr : Room k A) : A.units + 66 < cLine := by have := hr.un; omega
@[simp] theorem sort1_e {xs : List T} : sort1 [.lst xs] = (match toDs xs with
      | some ds => if okSort ds then some (.l (sortT xs ds)) else none
      | none => none) := Eq.trans rfl rfl
end FL

/-! FL20: range with a step. -/
namespace FL
open PySem PySem.Spec PyProof.Rows L2
section
variable {X : Cx} {E : XK} {pos : Pos}
end
end FL

/-! FL21: [e for x in a if p for y in b if q]. -/
namespace FL
open PySem PySem.Spec PyProof.Rows L2
section
variable {J : It} {n : Nat} {G : Hp → Prop} {Y : Nat → Hp → V → Hp → Prop}
theorem loop_it (w : Walk J n G Y) (Pv : Nat → Hp → Prop) (body : (Hp → Prop) → V → Hp → Prop) {H0 : Hp} {Qd : Hp → Prop} (h0 : Pv 0 H0) (hG : ∀ i H, i ≤ n → Pv i H → G H) (hs : ∀ i x H H', i < n → Pv i H → Y i H x H' → body (Pv (i + 1)) x H') (hd : ∀ H, Pv n H → Qd H) :
    ∃ W : Nat → Nat → Hp → Prop, (∃ m, W 0 m H0) ∧ ∀ i m H, W i m H → (J.stop i H ∧ Qd H) ∨ (J.go i H ∧ ∃ Nx : Hp → Prop, (∀ H', Nx H' → ∃ m', m' < m ∧ W (i + 1) m' H') ∧ ∀ x H', J.yld i H x H' → body Nx x H') := by
  refine ⟨fun i m H => m = n - i ∧ i ≤ n ∧ Pv i H, ⟨n, by simp, Nat.zero_le _, h0⟩, ?_⟩
  rintro i m H ⟨rfl, hi, p⟩
  have q := hG i H hi p
  by_cases hlt : i < n
  · exact .inr ⟨w.goes i H hlt q, Pv (i + 1), fun H' p' => ⟨n - (i + 1), by omega, rfl, hlt, p'⟩, fun x H' y => hs i x H H' hlt p (w.yields i H x H' hlt q y)⟩
  · have e : i = n := by omega
    subst e
    exact .inl ⟨w.stops _ q, hd H p⟩
end
/-- two clauses -/
def lcL2 (vs vs1 : List Nat) (g : MG) (test : M Bool) (src1 : M (List T)) (g1 : MG) (test1 : M Bool) (elt : M T) : List T → List T → FL.Env → Res (List T)
  | [], acc, ρ => .ok acc ρ
  | t :: ts, acc, ρ0 => match g t (wipeE ρ0 vs) with
    | none => .bad
    | some ρ1 => (noX (test ρ1)).bind fun b ρ2 => if b = true then (noX (src1 ρ2)).bind fun us ρ3 => if freeS ρ3 vs1 = true then (lcL vs1 g1 test1 elt us acc ρ3).bind fun acc' ρ4 => lcL2 vs vs1 g test src1 g1 test1 elt ts acc' (bring ρ0 ρ4 vs) else .bad
      else lcL2 vs vs1 g test src1 g1 test1 elt ts acc (bring ρ0 ρ2 vs)
def lcM2 (vs vs1 : List Nat) (src : M (List T)) (g : MG) (test : M Bool) (src1 : M (List T)) (g1 : MG) (test1 : M Bool) (elt : M T) : M O := fun ρ => (src ρ).bind fun ts ρ => if freeS ρ vs = true then (lcL2 vs vs1 g test src1 g1 test1 elt ts [] ρ).bind fun l ρ => .ok (.l l) ρ else .bad
section
variable {X : Cx} {E : XK} {f : M T}
/-- the loop of a comprehension that appends at D, from any state -/
theorem lc_loop {vs : List Nat} {gt : MG} {is : List Nat} {test : M Bool} (his : ∀ i ∈ is, i ∈ vs) {k : Bk} {ts acc0 : List T} {J : It} {F1 : Hp} {ρ1 : FL.Env} {σ : L2.St} {H1 : Hp} {D : Addr} {Qd : Hp → Prop} (w1 : Wk X F1 J ts)
    (R1 : RSk X k F1 (ρ1 ++ [SV.ow (.l acc0)]) (σ ++ [some (.ref D)]) H1) (l1 : ρ1.length = σ.length) (hfree : freeS ρ1 vs = true)
    (h2 : Den (lcL vs gt test f ts acc0 ρ1) (fun l ρ'' => ∀ F' H', RSk X k F' (ρ'' ++ [SV.ow (.l l)]) (σ ++ [some (.ref D)]) H' → Same F1 F' → ρ''.length = σ.length → Qd H') (fun _ => True)) :
    ∃ W : Nat → Nat → Hp → Prop, (∃ m, W 0 m H1) ∧ ∀ i m H, W i m H → (J.stop i H ∧ Qd H) ∨ (J.go i H ∧ ∃ Nx : Hp → Prop, (∀ H', Nx H' → ∃ m', m' < m ∧ W (i + 1) m' H') ∧ ∀ x H', J.yld i H x H' →
      tG X is gt x (wipe σ vs) H' fun σ2 H2 => wipe σ2 vs = wipe σ vs ∧ tT X E0 test σ2 H2 fun b H3 =>
        if b = true then tE X E0 f σ2 H3 fun y H4 => ∃ acc, H4 D = some (.lst acc) ∧ acc.length < sizeLine ∧ Nx (upd H4 D (.lst (acc ++ [y]))) else Nx H3) := by
  refine loop_it w1 (fun i H' => ∃ F' ρ' acc, RSk X k F' (ρ' ++ [SV.ow (.l acc)]) (σ ++ [some (.ref D)]) H' ∧ ρ'.length = σ.length ∧ Same F1 F' ∧ freeS ρ' vs = true ∧
    Den (lcL vs gt test f (ts.drop i) acc ρ') (fun l ρ'' => ∀ F' H', RSk X k F' (ρ'' ++ [SV.ow (.l l)]) (σ ++ [some (.ref D)]) H' → Same F1 F' → ρ''.length = σ.length → Qd H') (fun _ => True))
    (fun Nx x H' => tG X is gt x (wipe σ vs) H' fun σ2 H2 => wipe σ2 vs = wipe σ vs ∧ tT X E0 test σ2 H2 fun b H3 =>
        if b = true then tE X E0 f σ2 H3 fun y H4 => ∃ acc, H4 D = some (.lst acc) ∧ acc.length < sizeLine ∧ Nx (upd H4 D (.lst (acc ++ [y]))) else Nx H3) ?_ (fun i H' _ q => ?_) (fun i x H' H'' hlt q y => ?_) (fun H' q => ?_)
  · exact ⟨F1, ρ1, acc0, R1, l1, Same.refl _, hfree, h2⟩
  · obtain ⟨F', ρ', acc, R', _, s', _⟩ := q
    exact s'.trans R'.fh
  · obtain ⟨F', ρ', acc, R', l', s', fr', d⟩ := q
    obtain ⟨t, F2, et, R2, s2, r2⟩ := (y.grow s').take R'
    have ed : ts.drop i = t :: ts.drop (i + 1) := by
      rw [List.drop_eq_getElem_cons hlt]
      rw [List.getElem?_eq_getElem hlt] at et
      rw [Option.some.inj et]
    rw [ed] at d
    unfold lcL at d
    obtain ⟨p, ho, ep, fp, bp, npm, hp, ro, R0⟩ := RS.aside R2 l'
    cases ep
    have f0 : k.F0 D = none := R2.f0.free fp
    split at d
    · exact d.elim
    · rename_i ρ2 e2
      let k' : Bk := ⟨upd k.B D ho, k.F0, k.pm, k.rw⟩
      refine ⟨k', F2, _, t, R0.wiped vs, r2, ρ2, e2, fun σ3 F3 H3 R3 s3 l3 d3 => ⟨?_, ?_⟩⟩
      · rw [wipe_eq l3 fun j hj => d3 j fun z => hj (his j z)]
        exact wipe_eq (by rw [wipe_length]) fun j hj => wipe_get hj
      · have dk : ∀ {σ' : L2.St}, σ' = σ3 → σ'.length = σ.length ∧ ∀ j, j ∉ vs → σ'[j]? = σ[j]? := fun {σ'} e => by
          subst e
          refine ⟨by rw [l3, wipe_length], fun j hj => ?_⟩
          rw [d3 j fun z => hj (his j z), wipe_get hj]
        refine ⟨k', F3, ρ2, R3, Den.noX (y := XOk X.K X.mg k' E0) ((Den.bind d).imp fun b ρ4 d4 => fun F4 H4 R4 s4 => ?_)⟩
        split at d4
        · rename_i eb
          rw [if_pos eb]
          refine ⟨k', F4, ρ4, R4, Den.noX (y := XOk X.K X.mg k' E0) ((Den.bind d4).imp fun z ρ5 d5 => fun v F5 H5 R5 s5 r5 => ?_)⟩
          split at d5
          · rename_i hz
            have sx : Same F2 F5 := s3.trans (s4.trans s5)
            have R6 := RS.brought R5 R0 sx (dk rfl).1 (dk rfl).2 fr'
            have l6 : (bring ρ' ρ5 vs).length = σ.length := R6.len
            have R7 := RS.back (ys := []) (ws := []) (by rw [List.append_nil, List.append_nil]; exact R6) l6 f0 bp npm (ro.mono sx)
            obtain ⟨a, h, ea, _, hh, roh, mk⟩ := RS.chg (o := .l acc) (o' := .l (acc ++ [z])) R7 end_slot (.inl rfl)
            have eD : a = D := by
              rw [l6] at ea
              simpa using ea.symm
            subst eD
            obtain ⟨accV, rfl, rv⟩ := roh
            refine ⟨accV, hh, by rw [← rv.length, szL]; exact hz, F5, bring ρ' ρ5 vs, acc ++ [z], ?_, l6, s'.trans (s2.trans sx), freeS_bring fr' (by rw [R5.len, (dk rfl).1, l']), d5⟩
            have q := mk (h' := .lst (accV ++ [v])) ⟨_, rfl, rv.append (.one r5)⟩
            rw [end_set] at q
            exact q
          · exact d5.elim
        · rename_i eb
          rw [if_neg eb]
          have sx : Same F2 F4 := s3.trans s4
          have R6 := RS.brought R4 R0 sx (dk rfl).1 (dk rfl).2 fr'
          have l6 : (bring ρ' ρ4 vs).length = σ.length := R6.len
          have R7 := RS.back (ys := []) (ws := []) (by rw [List.append_nil, List.append_nil]; exact R6) l6 f0 bp npm (ro.mono sx)
          exact ⟨F4, bring ρ' ρ4 vs, acc, R7, l6, s'.trans (s2.trans sx), freeS_bring fr' (by rw [R4.len, (dk rfl).1, l']), d4⟩
  · obtain ⟨F', ρ', acc, R', l', s', _, d⟩ := q
    rw [List.drop_length] at d
    exact d F' H' R' s' l'
theorem Den.anyx {α : Type} {r : Res α} {p : α → FL.Env → Prop} {x : Ex → Prop} (h : Den r p x) : Den r p (fun _ => True) := by
  cases r with
  | bad => exact h
  | exc e => trivial
  | ok a ρ => exact h
theorem lc_of2 {own : List (Str × Nat)} {vs1 : List Nat} {src src1 : M (List T)} {gt gt1 : MG} {is is1 : List Nat} {test test1 : M Bool} (his : ∀ i ∈ is, i ∈ own.map (·.2)) (his1 : ∀ i ∈ is1, i ∈ vs1) (hv : ∀ i ∈ vs1, i ∈ own.map (·.2)) {σ : L2.St} {H : Hp} {Q : VK} (h : tO X E (lcM2 (own.map (·.2)) vs1 src gt test src1 gt1 test1 f) σ H Q) :
    tLc2 (tI X E src) (tG X is gt) (tT X E0 test) (tI X E0 src1) (tG X is1 gt1) (tT X E0 test1) (tE X E0 f) (own.map (·.2)) vs1 σ H Q := by
  obtain ⟨k, F, ρ, R, h⟩ := h
  refine ⟨k, F, ρ, R, (Den.bind h).imp fun ts ρ1 h1 J F1 H1 R1 s1 w1 => fun D nD => ?_⟩
  have hfree : freeS ρ1 (own.map (·.2)) = true := by
    cases e : freeS ρ1 (own.map (·.2)) with
    | true => rfl
    | false => rw [e] at h1; exact (show False from h1).elim
  rw [if_pos hfree] at h1
  have h2 := Den.bind h1
  refine loop_it w1 (fun i H' => ∃ F' ρ' acc, RSk X k F' (ρ' ++ [SV.ow (.l acc)]) (σ ++ [some (.ref D)]) H' ∧ ρ'.length = σ.length ∧ Same F1 F' ∧ freeS ρ' (own.map (·.2)) = true ∧
    Den (lcL2 (own.map (·.2)) vs1 gt test src1 gt1 test1 f (ts.drop i) acc ρ') (fun l ρ'' => Den (Res.ok (O.l l) ρ'') (fun o ρ' => ∀ v F' H', RSk X k F' (ρ' ++ [SV.ow o]) (σ ++ [some v]) H' → Same F F' → ρ'.length = σ.length → Q v H') (XOk X.K X.mg k E)) (XOk X.K X.mg k E))
    (fun Nx x H' => tG X is gt x (wipe σ (own.map (·.2))) H' fun σ2 H2 => wipe σ2 (own.map (·.2)) = wipe σ (own.map (·.2)) ∧ tT X E0 test σ2 H2 fun b H3 =>
      if b = true then tI X E0 src1 σ2 H3 fun J1 H4 => ∃ W1 : Nat → Nat → Hp → Prop, (∃ m, W1 0 m H4) ∧ ∀ j k H, W1 j k H →
        (J1.stop j H ∧ Nx H) ∨ (J1.go j H ∧ ∃ Nx1 : Hp → Prop, (∀ H', Nx1 H' → ∃ k', k' < k ∧ W1 (j + 1) k' H') ∧ ∀ x H', J1.yld j H x H' → tG X is1 gt1 x (wipe σ2 vs1) H' fun σ3 H5 => wipe σ3 vs1 = wipe σ2 vs1 ∧ tT X E0 test1 σ3 H5 fun b H6 =>
          if b = true then tE X E0 f σ3 H6 fun y H7 => ∃ acc, H7 D = some (.lst acc) ∧ acc.length < sizeLine ∧ Nx1 (upd H7 D (.lst (acc ++ [y]))) else Nx1 H6)
      else Nx H3) ?_ (fun i H' _ q => ?_) (fun i x H' H'' hlt q y => ?_) (fun H' q => ?_)
  · exact ⟨F1, ρ1, [], R1.newO (o := .l []) ⟨[], rfl, .nil⟩ nD, R1.len, Same.refl _, hfree, h2⟩
  · obtain ⟨F', ρ', acc, R', _, s', _⟩ := q
    exact s'.trans R'.fh
  · obtain ⟨F', ρ', acc, R', l', s', fr', d⟩ := q
    obtain ⟨t, F2, et, R2, s2, r2⟩ := (y.grow s').take R'
    have ed : ts.drop i = t :: ts.drop (i + 1) := by
      rw [List.drop_eq_getElem_cons hlt]
      rw [List.getElem?_eq_getElem hlt] at et
      rw [Option.some.inj et]
    rw [ed] at d
    unfold lcL2 at d
    obtain ⟨p, ho, ep, fp, bp, npm, hp, ro, R0⟩ := RS.aside R2 l'
    cases ep
    have f0 : k.F0 D = none := R2.f0.free fp
    split at d
    · exact d.elim
    · rename_i ρ2 e2
      let k' : Bk := ⟨upd k.B D ho, k.F0, k.pm, k.rw⟩
      refine ⟨k', F2, _, t, R0.wiped (own.map (·.2)), r2, ρ2, e2, fun σ3 F3 H3 R3 s3 l3 d3 => ⟨?_, ?_⟩⟩
      · rw [wipe_eq l3 fun j hj => d3 j fun z => hj (his j z)]
        exact wipe_eq (by rw [wipe_length]) fun j hj => wipe_get hj
      · have dk : σ3.length = σ.length ∧ ∀ j, j ∉ own.map (·.2) → σ3[j]? = σ[j]? := by
          refine ⟨by rw [l3, wipe_length], fun j hj => ?_⟩
          rw [d3 j fun z => hj (his j z), wipe_get hj]
        refine ⟨k', F3, ρ2, R3, Den.noX (y := XOk X.K X.mg k' E0) ((Den.bind d).imp fun b ρ4 d4 => fun F4 H4 R4 s4 => ?_)⟩
        split at d4
        · rename_i eb
          rw [if_pos eb]
          refine ⟨k', F4, ρ4, R4, Den.noX (y := XOk X.K X.mg k' E0) ((Den.bind d4).imp fun us ρ5 d5 => fun J1 F5 H5 R5 s5 w5 => ?_)⟩
          split at d5
          · rename_i hfr
            have sx : Same F2 F5 := s3.trans (s4.trans s5)
            have l5 : ρ5.length = σ3.length := R5.len
            have R7 := RS.back (ys := []) (ws := []) (by rw [List.append_nil, List.append_nil]; exact R5) l5 f0 bp npm (ro.mono sx)
            refine lc_loop his1 w5 R7 l5 hfr (Den.anyx ((Den.bind d5).imp fun l ρ6 d6 => fun F6 H6 R6 s6 l6 => ?_))
            obtain ⟨p2, ho2, ep2, fp2, bp2, npm2, hp2, ro2, R60⟩ := RS.aside R6 l6
            cases ep2
            have R8 := RS.brought R60 R0 (sx.trans s6) dk.1 dk.2 fr'
            have l8 : (bring ρ' ρ6 (own.map (·.2))).length = σ.length := R8.len
            have R9 := RS.back (ys := []) (ws := []) (by rw [List.append_nil, List.append_nil]; exact R8) l8 f0 bp npm ro2
            exact ⟨F6, bring ρ' ρ6 (own.map (·.2)), l, R9, l8, s'.trans (s2.trans (sx.trans s6)), freeS_bring fr' (by rw [l6, dk.1, l']), d6⟩
          · exact d5.elim
        · rename_i eb
          rw [if_neg eb]
          have sx : Same F2 F4 := s3.trans s4
          have R6 := RS.brought R4 R0 sx dk.1 dk.2 fr'
          have l6 : (bring ρ' ρ4 (own.map (·.2))).length = σ.length := R6.len
          have R7 := RS.back (ys := []) (ws := []) (by rw [List.append_nil, List.append_nil]; exact R6) l6 f0 bp npm (ro.mono sx)
          exact ⟨F4, bring ρ' ρ4 (own.map (·.2)), acc, R7, l6, s'.trans (s2.trans sx), freeS_bring fr' (by rw [R4.len, dk.1, l']), d4⟩
  · obtain ⟨F', ρ', acc, R', l', s', _, d⟩ := q
    rw [List.drop_length] at d
    exact d _ F' H' R' (s1.trans s') l'
theorem fo_lc2 {elt tg iter tg1 iter1 : Expr} {ifs ifs1 : List Expr} {scope : Scope} {own : List (Str × Nat)} {vs1 : List Nat} {pos : Pos} {src src1 : M (List T)} {gt gt1 : MG} {is is1 : List Nat} {test test1 : M Bool} (hc : X.calm = true) (hN : X.N.Nodup) (hi : FI X E tg iter src) (ok : BlkOk X.N X.env.scope scope own) (hv : ∀ i ∈ vs1, i ∈ own.map (·.2))
    (hg : ∀ (s : Shared) (H : Hp) (C : Addr) (cl : List (Str × Addr)) (fp : List Addr), PG (X.blk s H scope (compEnvC scope cl C X.env) fp) tg (tG X is gt)) (his : ∀ i ∈ is, i ∈ own.map (·.2))
    (ht : ∀ (s : Shared) (H : Hp) (C : Addr) (cl : List (Str × Addr)) (fp : List Addr), PTs (X.blk s H scope (compEnvC scope cl C X.env) fp) ifs (tT X E0 test))
    (hi1 : ∀ (s : Shared) (H : Hp) (C : Addr) (cl : List (Str × Addr)) (fp : List Addr), PI (X.blk s H scope (compEnvC scope cl C X.env) fp) tg1 iter1 (tI X E0 src1))
    (hg1 : ∀ (s : Shared) (H : Hp) (C : Addr) (cl : List (Str × Addr)) (fp : List Addr), PG (X.blk s H scope (compEnvC scope cl C X.env) fp) tg1 (tG X is1 gt1)) (his1 : ∀ i ∈ is1, i ∈ vs1)
    (ht1 : ∀ (s : Shared) (H : Hp) (C : Addr) (cl : List (Str × Addr)) (fp : List Addr), PTs (X.blk s H scope (compEnvC scope cl C X.env) fp) ifs1 (tT X E0 test1))
    (he : ∀ (s : Shared) (H : Hp) (C : Addr) (cl : List (Str × Addr)) (fp : List Addr), PE (X.blk s H scope (compEnvC scope cl C X.env) fp) elt (tE X E0 f)) (hs : ∀ x, foldedSetIterable iter X.env x = pure x := by intro _; rfl) (hs1 : ∀ env x, foldedSetIterable iter1 env x = pure x := by intro _ _; rfl) :
    FO X E (.ListComp elt [⟨tg, iter, ifs, 0⟩, ⟨tg1, iter1, ifs1, 0⟩] scope pos) (lcM2 (own.map (·.2)) vs1 src gt test src1 gt1 test1 f) := pe_imp (pe_lc2 hc hN hi ok hv hg ht hi1 hg1 ht1 he hs hs1) fun σ H Q h => lc_of2 his his1 hv h
end
end FL

set_option maxHeartbeats 4000000
/-! FL22: tuples and texts times a number; int of a truth value; division by any number. -/
namespace FL
open PySem PySem.Spec PyProof.Rows L2
theorem tuple_mulW1 (l : Addr) (items : Array Value) (n : Nat) (dd : Option Addr) (sl : Array (Option Value)) (x : Int) (u : Tok) (c0 : (decide (x < -(2 ^ 63)) || decide (x ≥ 2 ^ 63)) = false) (c1 : (items.isEmpty || x == 1) = true) :
    Meets (Builtin.«tuple.__mul__» ⟨[.ref l, .int x u], []⟩) (fun _ R s => s.heap.get? l = some { cls := .type "tuple", dict := dd, data := .seq items n, slots := sl } ∧
      R (.ok (.ret (Value.ref l))) s) :=
  .of_wp fun prog w A R s h => by
    obtain ⟨hp, g, d, tk, os⟩ := s
    obtain ⟨hl, h⟩ := h
    have f1 := AutoSeq1.idx_int
    have f2 : (Value.type "tuple" == Value.type "tuple") = true := by decide
    wp_walk using wpAny_loadPart' hl
    repeat (first
      | (refine wpAny_ite_false (decide_eq_false (by rw [c0]; exact Bool.false_ne_true)) ?_; wp_walk using wpAny_loadPart' hl)
      | (refine wpAny_ite_true (decide_eq_true c1) ?_; wp_walk using wpAny_loadPart' hl)
      | (refine wpAny_ite_true (decide_eq_true f2) ?_; wp_walk using wpAny_loadPart' hl))
    exact ⟨_, rfl, h⟩
theorem tuple_mulW0 (l : Addr) (items : Array Value) (n : Nat) (dd : Option Addr) (sl : Array (Option Value)) (x : Int) (u : Tok) (c0 : (decide (x < -(2 ^ 63)) || decide (x ≥ 2 ^ 63)) = false) (c1 : (items.isEmpty || x == 1) = false) (c2 : (decide (x ≤ 0) || items.isEmpty) = true) :
    Meets (Builtin.«tuple.__mul__» ⟨[.ref l, .int x u], []⟩) (fun _ R s => s.heap.get? l = some { cls := .type "tuple", dict := dd, data := .seq items n, slots := sl } ∧
      R (.ok (.ret (Value.ref s.heap.objs.size))) { s with heap := s.heap.push { cls := Value.type "tuple", data := Data.seq #[] }, toks := s.toks }) :=
  .of_wp fun prog w A R s h => by
    obtain ⟨hp, g, d, tk, os⟩ := s
    obtain ⟨hl, h⟩ := h
    have f1 := AutoSeq1.idx_int
    wp_walk using wpAny_loadPart' hl
    repeat (first
      | (refine wpAny_ite_false (decide_eq_false (by rw [c0]; exact Bool.false_ne_true)) ?_; wp_walk using wpAny_loadPart' hl)
      | (refine wpAny_ite_false (decide_eq_false (by rw [c1]; exact Bool.false_ne_true)) ?_; wp_walk using wpAny_loadPart' hl)
      | (refine wpAny_ite_true (decide_eq_true c2) ?_; wp_walk using wpAny_loadPart' hl))
    exact ⟨_, rfl, h⟩
def rRep1 (K : PySem.W.Frag) : R2 := fun x y H Q => ∃ l xs, x = .ref l ∧ y = .int 1 ∧ SqT K H l xs ∧ Q (.ref l) H
def rRep0 (K : PySem.W.Frag) : R2 := fun x y H Q => ∃ l k xs, x = .ref l ∧ y = .int k ∧ SqT K H l xs ∧ xs ≠ [] ∧ k ≤ 0 ∧ -1000000 ≤ k ∧ ∀ p, H p = none → Q (.ref p) (upd H p (.tup []))
section
variable {X : Cx}
theorem op_rep1 : OpR X (binaryOp .Mult) (rRep1 X.K) := by
  intro pins s σ H x y v u Q I rx ry h
  obtain ⟨l, xs, rfl, rfl, hT, q⟩ := h
  cases rx
  obtain ⟨t, rfl⟩ := ry
  obtain ⟨its, r, ⟨⟨cls, dd, data, sl⟩, ho, hc, n, hd⟩, hs⟩ := I.tuple hT
  simp only at hc hd
  subst hc hd
  refine wpAny_binaryOp_repeat_ref (T := "tuple") (U := "int") (by decide) ⟨_, ho, rfl⟩ (fun s' => typeIs_int s' 1 t) noFill_tuple_mul F.fills_int_mul F.slot_int_rmul repeat_tuple F.slot_int_index.lookup
    (call_meets F.slot_int_rmul (typeIs_int s 1 t) F.entry_int_rmul (F.args_int_rmul_2 _ _) (int_rmul_tuple 1 t l its.toArray n dd sl)
      ⟨ho, rfl, ⟨_, ho, rfl⟩, call_meets F.slot_tuple_mul ⟨_, ho, rfl⟩ F.entry_tuple_mul (F.args_tuple_mul_2 _ _) (tuple_mulW1 l its.toArray n dd sl 1 t (by decide) (by simp)) ⟨ho, ?_⟩⟩)
  exact ⟨.ref l, H, I, rfl, q⟩
theorem op_rep0 : OpR X (binaryOp .Mult) (rRep0 X.K) := by
  intro pins s σ H x y v u Q I rx ry h
  obtain ⟨l, k, xs, rfl, rfl, hT, hne, h1, h2, q⟩ := h
  cases rx
  obtain ⟨t, rfl⟩ := ry
  obtain ⟨its, r, ⟨⟨cls, dd, data, sl⟩, ho, hc, n, hd⟩, hs⟩ := I.tuple hT
  simp only at hc hd
  subst hc hd
  have hle : its.length = xs.length := r.length.symm
  have hn : its ≠ [] := fun e => hne (by
    rw [e] at hle
    exact List.eq_nil_of_length_eq_zero hle.symm)
  have hi : its.toArray.isEmpty = false := by
    cases its with
    | nil => exact absurd rfl hn
    | cons a b => rfl
  have c0 : (decide (k < -(2 ^ 63)) || decide (k ≥ 2 ^ 63)) = false := by
    rw [decide_eq_false (by omega), decide_eq_false (by omega)] <;> rfl
  have c1 : (its.toArray.isEmpty || k == 1) = false := by
    rw [hi, Bool.false_or]
    exact beq_eq_false_iff_ne.mpr (by omega)
  have c2 : (decide (k ≤ 0) || its.toArray.isEmpty) = true := by
    rw [hi, Bool.or_false]
    exact decide_eq_true (by omega)
  refine wpAny_binaryOp_repeat_ref (T := "tuple") (U := "int") (by decide) ⟨_, ho, rfl⟩ (fun s' => typeIs_int s' k t) noFill_tuple_mul F.fills_int_mul F.slot_int_rmul repeat_tuple F.slot_int_index.lookup
    (call_meets F.slot_int_rmul (typeIs_int s k t) F.entry_int_rmul (F.args_int_rmul_2 _ _) (int_rmul_tuple k t l its.toArray n dd sl)
      ⟨ho, rfl, ⟨_, ho, rfl⟩, call_meets F.slot_tuple_mul ⟨_, ho, rfl⟩ F.entry_tuple_mul (F.args_tuple_mul_2 _ _) (tuple_mulW0 l its.toArray n dd sl k t c0 c1 c2) ⟨ho, ?_⟩⟩)
  refine ⟨.ref s.heap.objs.size, _, I.laid (t' := s.toks) (o := .tup []) (fun b ob q => Heap.get?_push_of_some _ q) (Nat.le_refl _) ?_, rfl, q _ (I.hok.fresh (Nat.le_refl _))⟩
  exact ⟨by decide, _, .nil, IsTup.new _ _⟩
/-- a text times a number -/
def repS (z : Str) (k : Int) : Str := ⟨((List.replicate k.toNat z.cps.toList).flatten).toArray⟩
def rRepS : R2 := fun x y H Q => ∃ z k, x = .str z ∧ y = .int k ∧ -1000000 ≤ k ∧ k ≤ 1000000 ∧ z.length * k.toNat ≤ 1000000 ∧ Q (.str (repS z k)) H
theorem fold_app (xs : Array Nat) : ∀ (m : Nat) (acc : Array Nat), (List.replicate m xs).foldl (· ++ ·) acc = acc ++ ((List.replicate m xs.toList).flatten).toArray
  | 0, acc => by simp
  | m + 1, acc => by
    rw [List.replicate_succ, List.foldl_cons, fold_app xs m, List.replicate_succ, List.flatten_cons]
    apply Array.toList_inj.mp
    simp
theorem repS_eq (z : Str) (k : Int) : (if k < 1 then Str.empty else if (k == 1 || z.length == 0) = true then z else ⟨(List.replicate k.toNat z.cps).foldl (· ++ ·) #[]⟩) = repS z k := by
  unfold repS
  split
  · rename_i h
    have : k.toNat = 0 := by omega
    rw [this]; rfl
  · split
    · rename_i h1 h2
      rw [Bool.or_eq_true, beq_iff_eq, beq_iff_eq] at h2
      rcases h2 with rfl | h2
      · obtain ⟨⟨cs⟩⟩ := z
        simp
      · obtain ⟨⟨cs⟩⟩ := z
        have : cs = [] := by
          have : cs.length = 0 := h2
          exact List.eq_nil_of_length_eq_zero this
        subst this
        simp
    · rw [fold_app]; simp
theorem op_repS : OpR X (binaryOp .Mult) rRepS := by
  intro pins s σ H x y v u Q I rx ry h
  obtain ⟨z, k, rfl, rfl, h1, h2, h3, q⟩ := h
  obtain ⟨t, rfl⟩ := rx
  obtain ⟨u, rfl⟩ := ry
  refine PySem.P.mul_str (by rw [decide_eq_false (by omega), decide_eq_false (by omega)] <;> rfl) ?_ ?_ ?_
  · intro a b
    have hk : k.toNat ≥ 1 := by omega
    have : (z.length : Int) ≤ 1000000 := by
      have : z.length * 1 ≤ z.length * k.toNat := Nat.mul_le_mul_left _ hk
      omega
    have h5 : (1000000 : Int) ≤ (2 ^ 63 - 1) / k := by
      rw [Int.le_ediv_iff_mul_le (by omega)]
      have : 1000000 * k ≤ 1000000 * 1000000 := Int.mul_le_mul_of_nonneg_left h2 (by decide)
      omega
    omega
  · intro a b
    unfold Builtin.Str.tooLong
    rw [sizeLine_eq]
    exact decide_eq_false (by omega)
  · have e := repS_eq z k
    by_cases c1 : k < 1
    · rw [if_pos c1] at e ⊢
      exact ⟨by decide, .str (repS z k), H, I.tok _, ⟨_, by rw [← e]⟩, q⟩
    · rw [if_neg c1] at e ⊢
      by_cases c2 : (k == 1 || z.length == 0) = true
      · rw [if_pos c2] at e ⊢
        exact ⟨.str (repS z k), H, I, ⟨t, by rw [← e]⟩, q⟩
      · rw [if_neg c2] at e ⊢
        refine ⟨?_, .str (repS z k), H, I.tok _, ⟨_, by rw [← e]⟩, q⟩
        rw [e]
        have : (repS z k).length = k.toNat * z.length := by
          show (List.replicate k.toNat z.cps.toList).flatten.toArray.size = _
          rw [List.size_toArray, List.length_flatten, List.map_replicate, List.sum_replicate_nat]
          rfl
        rw [this, sizeLine_eq, Nat.mul_comm]
        omega
/-- any product -/
def mulA (x y : T) : Option T := match x, y with
  | .tup a, .int k => if k = 1 then some (.tup a) else if a = [] then none else if k ≤ 0 then (if -1000000 ≤ k then some (.tup []) else none) else if k ≤ 1000 ∧ a.length ≤ 1000 then some (.tup (List.replicate k.toNat a).flatten) else none
  | .str z, .int k => if -1000000 ≤ k ∧ k ≤ 1000000 ∧ z.length * k.toNat ≤ 1000000 then some (.str (repS z k)) else none
  | x, y => mulO x y
def rMulA (X : Cx) : R2 := fun x y H Q => rMulT X x y H Q ∨ rRepT X.K x y H Q ∨ rRep1 X.K x y H Q ∨ rRep0 X.K x y H Q ∨ rRepS x y H Q
theorem op_mulA : OpR X (binaryOp .Mult) (rMulA X) := op_mulT.or (op_repT.or (op_rep1.or (op_rep0.or op_repS)))
theorem ot_mulA : OpT X (rMulA X) mulA := fun k F ρ σ H Q x y t v u R rx ry e q => by
  unfold mulA at e
  split at e
  · rename_i a i
    obtain ⟨l, xs, rfl, hT, r1⟩ := rx
    have hl := r1.length
    have hu : u = .int i := ry
    subst hu
    by_cases h1 : i = 1
    · subst h1
      rw [if_pos rfl] at e; cases e
      exact .inr (.inr (.inl ⟨l, xs, rfl, rfl, same_SqT R.fh hT, q _ F H R (Same.refl _) ⟨l, xs, rfl, hT, r1⟩⟩))
    · rw [if_neg h1] at e
      by_cases h2 : a = []
      · rw [if_pos h2] at e; cases e
      · rw [if_neg h2] at e
        have hxn : xs ≠ [] := fun z => h2 (by rw [z] at hl; exact List.eq_nil_of_length_eq_zero hl)
        by_cases h3 : i ≤ 0
        · rw [if_pos h3] at e
          split at e
          · rename_i h4
            cases e
            refine .inr (.inr (.inr (.inl ⟨l, i, xs, rfl, rfl, same_SqT R.fh hT, hxn, h3, h4, fun p np => ?_⟩)))
            have sF : Same F (upd F p (.tup [])) := same_upd (R.fnone np)
            exact q _ _ _ (R.newF np) sF ⟨p, [], rfl, upd_same, .nil⟩
          · cases e
        · rw [if_neg h3] at e
          split at e
          · rename_i h4
            cases e
            rw [hl] at h4
            refine .inr (.inl ⟨l, i, xs, rfl, rfl, same_SqT R.fh hT, hxn, by omega, h4.1, h4.2, fun p np => ?_⟩)
            have sF : Same F (upd F p (.tup (List.replicate i.toNat xs).flatten)) := same_upd (R.fnone np)
            exact q _ _ _ (R.newF np) sF ⟨p, _, rfl, upd_same, (r1.rep _).mono sF⟩
          · cases e
  · rename_i z i
    have hu : u = .int i := ry
    have hv : v = .str z := rx
    subst hu; subst hv
    split at e
    · rename_i h
      cases e
      exact .inr (.inr (.inr (.inr ⟨z, i, rfl, rfl, h.1, h.2.1, h.2.2, q _ F H R (Same.refl _) rfl⟩)))
    · cases e
  · exact .inl (ot_mul k F ρ σ H Q x y t v u R rx ry e q)
/-! division by any number -/
def divC2 (_ j : Int) : Bool := decide (0 < j) && decide (j.natAbs.log2 < 9000) || decide (j ≠ 0) && decide (j.natAbs < 1073741824)
abbrev divA := intC divC2 fun i j => i.fdiv j
def rDivA : R2 := fun x y H Q => rI CDivW (fun i j => .int (i / j)) x y H Q ∨ rI CDivN (fun i j => .int (i.fdiv j)) x y H Q
theorem op_divA : OpR X (binaryOp .FloorDiv) rDivA := op_fdivW.or op_fdivN
theorem ot_divA : OpT X rDivA divA := fun k F ρ σ H Q x y t v u R rx ry e q => by
  obtain ⟨i, j, rfl, rfl, h, rfl⟩ := intC_some e
  unfold divC2 at h
  rw [Bool.or_eq_true, Bool.and_eq_true, Bool.and_eq_true] at h
  rcases h with h | h
  · have h1 := of_decide_eq_true h.1
    refine .inl ⟨i, j, rx, ry, ⟨h1, of_decide_eq_true h.2⟩, ?_⟩
    have e1 : i / j = i.fdiv j := (Int.fdiv_eq_ediv_of_nonneg _ (by omega)).symm
    exact q _ F H R (Same.refl _) (show V.int (i / j) = V.int (i.fdiv j) by rw [e1])
  · exact .inr ⟨i, j, rx, ry, ⟨of_decide_eq_true h.1, of_decide_eq_true h.2⟩, q _ F H R (Same.refl _) rfl⟩
/-! differences of truth values too -/
def b01 (b : Bool) : Int := if b then 1 else 0
def subA (x y : T) : Option T := match x, y with
  | .int i, .int j => some (.int (i - j))
  | .bl a, .bl b => some (.int (b01 a - b01 b))
  | _, _ => none
def rSubB : R2 := fun x y H Q => ∃ a b, x = .bl a ∧ y = .bl b ∧ Q (.int (b01 a - b01 b)) H
theorem op_subB : OpR X (binaryOp .Sub) rSubB := by
  intro pins s σ H x y v u Q I rx ry h
  obtain ⟨a, b, rfl, rfl, q⟩ := h
  cases rx
  cases ry
  exact PyProof.Rows.sub_bool ⟨.int (b01 a - b01 b), H, I.tok _, ⟨_, rfl⟩, q⟩
def rSubA : R2 := fun x y H Q => rI0 (fun i j => .int (i - j)) x y H Q ∨ rSubB x y H Q
theorem op_subA : OpR X (binaryOp .Sub) rSubA := op_sub.or op_subB
theorem ot_subA : OpT X rSubA subA := fun k F ρ σ H Q x y t v u R rx ry e q => by
  unfold subA at e
  split at e
  · rename_i i j
    cases e
    exact .inl ⟨i, j, rx, ry, q _ F H R (Same.refl _) rfl⟩
  · rename_i a b
    cases e
    exact .inr ⟨a, b, rx, ry, q _ F H R (Same.refl _) rfl⟩
  · cases e
/-! int of a truth value too -/
def intA (ts : List T) : Option T := match ts with
  | [.int i] => some (.int i)
  | [.bl b] => some (.int (if b then 1 else 0))
  | _ => none
theorem ct_intA : CalT X (fun xs H Q => (∃ i, xs = [.int i] ∧ Q (.int i) H) ∨ ∃ k, xs = [.bl k] ∧ Q (.int (if k then 1 else 0)) H) intA := fun k F ρ σ H Q ts t vs R rs e q => by
  unfold intA at e
  split at e
  · rename_i i
    cases e
    obtain ⟨v, rfl, h⟩ := rs.one_of
    exact .inl ⟨i, by rw [show v = V.int i from h], q _ F H R (Same.refl _) rfl⟩
  · rename_i b
    cases e
    obtain ⟨v, rfl, h⟩ := rs.one_of
    exact .inr ⟨b, by rw [show v = V.bl b from h], q _ F H R (Same.refl _) rfl⟩
  · cases e
end
end FL

/-! FL23: an object of one's own looked at without being given away: in, ==. -/
namespace FL
open PySem PySem.Spec PyProof.Rows L2
section
variable {X : Cx} {E : XK} {a : Expr} {fa : M T} {pos p : Pos} {x : Str} {i : Nat}
end
end FL

/-! FL24: raise of an own exception class. -/
namespace FL
open PySem PySem.Spec PyProof.Rows L2
/-- what a raise of an own class without fields wants of the module's class -/
structure ExcC (K : PySem.W.Frag) (mg : Str → Option Value) (c : Str) : Prop where
  ex : ∃ (C : Addr) (bmB : List Value) (B newId initId : String) (_ : ExcBaseFacts B newId initId bmB), PySem.W.excIn K C bmB newId = true ∧ mg c = some (.ref C) ∧ PySem.W.keepIn K (.ref C) = true ∧ PySem.W.subIn K (.ref C) (.type "BaseException") = some true ∧ PySem.W.typeIn K (.ref C) = some (.type "type")
theorem ExcC.of {K : PySem.W.Frag} {mg : Str → Option Value} {c : Str} {C : Addr} {bmB : List Value} {B newId initId : String} (F : ExcBaseFacts B newId initId bmB) (q : PySem.W.excIn K C bmB newId = true) (g : mg c = some (.ref C)) (k : PySem.W.keepIn K (.ref C) = true)
    (b : PySem.W.subIn K (.ref C) (.type "BaseException") = some true) (t : PySem.W.typeIn K (.ref C) = some (.type "type")) : ExcC K mg c := ⟨⟨C, bmB, B, newId, initId, F, q, g, k, b, t⟩⟩
section
variable {X : Cx} {E : XK} {c : Str} {p pos rpos : Pos}
end
end FL

set_option maxHeartbeats 2000000
/-! FL25: several except clauses, some with a name (as e). -/
namespace FL
open PySem PySem.Spec PyProof.Rows L2
abbrev HB := Addr → Value → Option Addr → TS
/-- a clause's suite ends, its name i is gone -/
def dropN (i : Option Nat) (D : Ends) : Ends := match i with
  | none => D
  | some i => { nx := fun σ H => D.nx (σ.set i none) H, rt := D.rt, bk := fun σ H => D.bk (σ.set i none) H, ct := fun σ H => D.ct (σ.set i none) H }
def putN (i : Option Nat) (a : Addr) (σ : L2.St) : L2.St := match i with
  | none => σ
  | some i => σ.set i (some (.ref a))
/-- what the clauses want, one after the other -/
def wCl (K : PySem.W.Frag) (Wout : WX) (D : Ends) : List (Value × Option Nat × HB) → WX
  | [] => Wout
  | (c, i, ts) :: r => fun cls d σ H => ∃ b, PySem.W.exmOne K cls c = some b ∧ (b = true → ∀ a, H a = none → ts a cls d (dropN i D) (putN i a σ) H) ∧ (b = false → wCl K Wout D r cls d σ H)
/-- the name of a clause and its slot -/
def NmOk (X : Cx) : Option Str → Option Nat → Prop
  | none, none => True
  | some n, some i => X.N[i]? = some n ∧ X.env.kindOf n = some .local
  | _, _ => False
inductive Cls (X : Cx) : List ExceptHandler → List (Value × Option Nat × HB) → Prop
  | nil : Cls X [] []
  | cons {x : Str} {c : Value} {n : Option Str} {i : Option Nat} {ts : HB} {b₀ : Stmt} {suite : List Stmt} {np pos' : Pos} {hds : List ExceptHandler} {l : List (Value × Option Nat × HB)} (hc : Names X x c) (hn : NmOk X n i)
      (hsu : ∀ (a : Addr) (oe : Obj) (cls : Value) (d : Option Addr) (pn : List (Addr × Obj)), Zc cls d oe → (∃ vs, oe.data = .fields vs) → PSs (X.suite a ((a, oe) :: pn)) (b₀ :: suite) (ts a cls d)) (r : Cls X hds l) :
      Cls X (.ExceptHandler (some (.Name x np)) n (b₀ :: suite) pos' :: hds) ((c, i, ts) :: l)
section
variable {X : Cx} {pins : List (Addr × Obj)} {a : Addr} {B : Heap} {σ : L2.St} {H : Hp} {cls : Value} {d : Option Addr} {s : Shared} {D : Ends} {Wout : WX}
end
section
variable {X : Cx} {body : List Stmt} {h₀ : ExceptHandler} {hds : List ExceptHandler} {l : List (Value × Option Nat × HB)} {pos : Pos} {tb : WX → TS} {Wout : WX}
end
end FL

set_option maxHeartbeats 2000000
/-! FL26: raise of an own class whose __init__ keeps one field. -/
namespace FL
open PySem PySem.Spec PyProof.Rows L2
/-- def __init__(self, f): self.f = f -/
def spInit (K : PySem.W.Frag) (f : Str) : Sp := fun vs H Q _ => ∃ (a C : Addr) (y : V), vs = [.ref a, y] ∧ H a = some (exo a C none) ∧ OexC K C ∧ PySem.W.findIn K (.ref C) f = some none ∧
  ∀ dx, H dx = none → dx ≠ a → Q .non (upd (upd H dx (exd dx [(f, y)])) a (exo a C (some dx)))
section
variable {P : Program} {w : World} {K : PySem.W.Frag} {mg : Str → Option Value} {base : Heap}
/-- what a raise of the class c with the field f wants -/
structure ExcF (P : Program) (w : World) (K : PySem.W.Frag) (mg : Str → Option Value) (base : Heap) (k : Nat) (c f : Str) : Prop where
  ex : ∃ (C fI : Addr) (fd : FuncData), mg c = some (.ref C) ∧ OexC K C ∧ PySem.W.findIn K (.ref C) f = some none ∧ PySem.W.findIn K (.ref C) "__init__" = some (some (.ref fI)) ∧ PySem.W.typeIn K (.ref fI) = some (.type "function") ∧
    Binds K fd ["self", f] [] ∧ FnOk P w K mg base (L2.CX P w) k fI fd ["self", f] (spInit K f)
theorem ExcF.mono {j k : Nat} {c f : Str} (h : ExcF P w K mg base j c f) (l : j ≤ k) : ExcF P w K mg base k c f := by
  obtain ⟨C, fI, fd, a, b, c, d, e, g, F⟩ := h.ex
  exact ⟨C, fI, fd, a, b, c, d, e, g, F.mono l⟩
end
section
variable {X : Cx} {E : XK} {c f : Str} {p pos rpos : Pos} {e : Expr} {fs : M (List T)} {k : Nat}
end
end FL

set_option maxHeartbeats 2000000
/-! FL27: the law's def that tells the name of an error. -/
namespace FL
open PySem PySem.Spec PyProof.Rows L2
/-- isinstance(e, c), e the caught exception, with its dict -/
def rIsE2 (K : PySem.W.Frag) (D a dd : Addr) : List V → Hp → VK → Prop := fun xs H Q => ∃ (fs : List (Str × V)) (c : V) (cv : Value) (b : Bool), xs = [.ref a, c] ∧ H dd = some (.xd fs) ∧ (∀ u, RelV c u → u = cv) ∧ PySem.W.kitOne K (.ref D) cv = some b ∧ Q (.bl b) H
theorem call_isE2 {X : Cx} {a D dd : Addr} {oe : Obj} {pn : List (Addr × Obj)} (C : L2.ExcC X.K D) (hz : Zc (.ref D) (some dd) oe) (hf : ∃ vs, oe.data = .fields vs) : CallR (X.suite a ((a, oe) :: pn)) (.builtin "isinstance") (rIsE2 X.K D a dd) := by
  intro pins s σ H xs us Q I r h
  obtain ⟨fs, c, cv, b, rfl, hx, hcv, e, q⟩ := h
  cases r with
  | cons rx rr =>
    cases rr with
    | cons rt rr =>
      cases rr
      cases rx
      have ec := hcv _ rt
      subst ec
      obtain ⟨hget, _⟩ := I.pin (a, oe) (List.mem_append.mpr (.inl List.mem_cons_self))
      obtain ⟨vs, hv⟩ := hf
      have hxd : ObjOk X.prog X.w H s.heap dd (.xd fs) := I.hok dd _ hx
      obtain ⟨mA, hns, hr⟩ := hxd
      obtain ⟨od, ho, hl⟩ := lookIn_ns hns
      have J : PySem.W.InstAt s.heap a oe D (some od) := ⟨hget, hz.1, by unfold PySem.W.notCls; rw [hv] <;> rfl, by rw [hz.2]; exact ho⟩
      have hcl : (PySem.W.clsIn X.K D).isSome = true := by
        obtain ⟨cdD, hcD, _⟩ := PySem.W.any_some C.hd
        rw [hcD]; rfl
      exact PySem.W.kia_one (PySem.W.kitx_exc hcl C.hg C.hk C.hs C.ha C.hn C.ht C.hm) I.kIn J e (fun z => nomatch z) fun tk => ⟨.bl b, H, I.kept (t' := tk) fun _ _ z => z, rfl, q⟩
/-- a clause: except c: return r; except c as e: return (r, e.f) if isinstance(e, ValueError) else .. -/
inductive Cl where
  | s (c r : Str) | f (c r f : Str)
def Cl.cls : Cl → Str
  | .s c _ => c
  | .f c _ _ => c
/-- what the class of a clause with a field must say -/
structure ErrF (K : PySem.W.Frag) (C : Addr) (f : Str) : Prop where
  xf : XfC K C
  no : PySem.W.findIn K (.ref C) f = some none
  ec : L2.ExcC K C
  ki : PySem.W.kitOne K (.ref C) (.type "ValueError") = some true
/-- what the clauses wish of an exception -/
def wErr (K : PySem.W.Frag) (mg : Str → Option Value) (Q : VK) : List Cl → XK
  | [] => fun _ _ _ => False
  | cl :: r => fun cls d H => ∃ C b, mg cl.cls = some (.ref C) ∧ PySem.W.exmOne K cls (.ref C) = some b ∧ (b = true → match cl with
      | .s _ r => Q (.str r) H
      | .f _ r f => cls = .ref C ∧ ErrF K C f ∧ ∃ dd v, d = some dd ∧ H dd = some (.xd [(f, v)]) ∧ ∀ p, H p = none → Q (.ref p) (upd H p (.tup [.str r, v]))) ∧ (b = false → wErr K mg Q r cls d H)
/-- the clauses as they stand in the text; sg: the def's names, i: the slot of e -/
inductive Hds (sg : Scope) (mg : Str → Option Value) (i : Nat) : List ExceptHandler → List Cl → Prop
  | nil : Hds sg mg i [] []
  | s {c r : Str} {j : Nat} {q0 q1 q2 q3 : Pos} {hds : List ExceptHandler} {cls : List Cl} (hg : sg.names.lookup c = some .globalImplicit) (hm : ∃ C, mg c = some (.ref C)) (hd : (c == ("__debug__" : Str)) = false) (t : Hds sg mg i hds cls) :
      Hds sg mg i (.ExceptHandler (some (.Name c q0)) none [.Return (some (.Constant (.str r) j q1)) q2] q3 :: hds) (.s c r :: cls)
  | f {c r f o : Str} {j j2 : Nat} {k : Nat} {p1 p2 p3 p4 p5 p6 p7 p8 p9 p10 p11 p12 q0 : Pos} {hds : List ExceptHandler} {cls : List Cl} (hg : sg.names.lookup c = some .globalImplicit) (hm : ∃ C, mg c = some (.ref C)) (hd : (c == ("__debug__" : Str)) = false)
      (he : sg.names.lookup ("e" : Str) = some .local) (hi : sg.names.lookup ("isinstance" : Str) = some .globalImplicit) (hmi : mg "isinstance" = none) (hv : sg.names.lookup ("ValueError" : Str) = some .globalImplicit) (hmv : mg "ValueError" = none) (t : Hds sg mg i hds cls) :
      Hds sg mg i (.ExceptHandler (some (.Name c q0)) (some "e") [.Return (some (.IfExp (.Call (.Name "isinstance" p1) [.Name "e" p2, .Name "ValueError" p3] [] p4) (.Tuple [.Constant (.str r) j p5, .Attribute (.Name "e" p6) f p7] k p8) (.Constant (.str o) j2 p9) p10)) p11] p12 :: hds) (.f c r f :: cls)
section
variable {X : Cx} {i : Nat} {hds : List ExceptHandler} {cls : List Cl}
theorem bb_isi : bootBuiltins "isinstance" = some (.builtin "isinstance") := by rfl
theorem bb_VE : bootBuiltins "ValueError" = some (.type "ValueError") := by rfl
/-- the suite of a clause with a field -/
def tSuF (K : PySem.W.Frag) (C : Addr) (i : Nat) (r f : Str) (a : Addr) (cls : Value) (d : Option Addr) : TS := fun D σ H => cls = .ref C ∧ ErrF K C f ∧ (i < σ.length → σ[i]? = some (some (.ref a))) ∧ ∃ dd v, d = some dd ∧ H dd = some (.xd [(f, v)]) ∧ ∀ p, H p = none → D.rt (.ref p) (upd H p (.tup [.str r, v]))
theorem suite_f {r f o : Str} {j j2 k : Nat} {p1 p2 p3 p4 p5 p6 p7 p8 p9 p10 p11 : Pos} {a C : Addr} {oe : Obj} {cls : Value} {d : Option Addr} {pn : List (Addr × Obj)} (hN : X.N[i]? = some ("e" : Str)) (he : X.env.scope.names.lookup ("e" : Str) = some .local)
    (hi : X.env.scope.names.lookup ("isinstance" : Str) = some .globalImplicit) (hmi : X.mg "isinstance" = none) (hv : X.env.scope.names.lookup ("ValueError" : Str) = some .globalImplicit) (hmv : X.mg "ValueError" = none)
    (hz : Zc cls d oe) (hf : ∃ vs, oe.data = .fields vs) :
    PSs (X.suite a ((a, oe) :: pn)) [.Return (some (.IfExp (.Call (.Name "isinstance" p1) [.Name "e" p2, .Name "ValueError" p3] [] p4) (.Tuple [.Constant (.str r) j p5, .Attribute (.Name "e" p6) f p7] k p8) (.Constant (.str o) j2 p9) p10)) p11] (tSuF X.K C i r f a cls d) := by
  refine ⟨fun pins s σ H D I h => ?_⟩
  obtain ⟨rfl, EF, hs, dd, v, rfl, hx, q⟩ := h
  have hs : σ[i]? = some (some (.ref a)) := hs (by have e : σ.length = X.N.length := I.len; have := (List.getElem?_eq_some_iff.mp hN).1; omega)
  have gi : Gl (X.suite a ((a, oe) :: pn)) "isinstance" := hi
  have gv : Gl (X.suite a ((a, oe) :: pn)) "ValueError" := hv
  have pe : ∀ {p : Pos}, PE (X.suite a ((a, oe) :: pn)) (.Name "e" p) _ := fun {p} => pe_var (X := X.suite a ((a, oe) :: pn)) (i := i) hN (.inl he)
  have pv : PE (X.suite a ((a, oe) :: pn)) (.Name "ValueError" p3) _ := pe_bltn (v := .ty "ValueError") gv hmv bb_VE rfl
  have p := pss_one (ps_ret (pos := p11) (pe_ifExp (pos := p10) (pt_val (pe_callB (p := p1) (pos := p4) (call_isE2 (dd := dd) EF.ec hz hf) gi hmi bb_isi (pa_cons (pe (p := p2)) (pa_cons pv pa_nil)))) (pe_tup (x1 := k) (pos := p8) (pa_cons (pe_str (x := r) (j := j) (pos := p5)) (pa_cons (pe_xf (pos := p7) EF.xf EF.no hz hf (pe (p := p6))) pa_nil))) (pe_str (x := o) (j := j2) (pos := p9))))
  refine p.run pins s σ H D I ?_
  refine ⟨.ref a, hs, [(f, v)], .ty "ValueError", .type "ValueError", true, rfl, hx, fun u r => r, EF.ki, true, rfl, ?_⟩
  dsimp only
  rw [if_pos rfl]
  exact ⟨.ref a, hs, rfl, rfl, dd, [(f, v)], v, rfl, hx, by simp [List.lookup], (by show 2 ≤ sizeLine; rw [szL]; decide), fun p np => q p np⟩
theorem cls_of (h : Hds X.env.scope X.mg i hds cls) (hN : X.N[i]? = some ("e" : Str) ∨ ∀ cl ∈ cls, ∃ c r, cl = .s c r) : ∃ l, FL.Cls X hds l ∧ ∀ (Q : VK) (D : Ends) (cls0 : Value) (d : Option Addr) (σ : L2.St) (H : Hp), D.rt = Q → wErr X.K X.mg Q cls cls0 d H → wCl X.K (fun _ _ _ _ => False) D l cls0 d σ H := by
  induction h with
  | nil => exact ⟨[], .nil, fun _ _ _ _ _ _ _ w => w⟩
  | @s c r j q0 q1 q2 q3 hds cls hg hm hd t ih =>
    obtain ⟨l, hl, go⟩ := ih (hN.imp id fun n cl hc => n cl (List.mem_cons_of_mem _ hc))
    obtain ⟨C, hm⟩ := hm
    refine ⟨(.ref C, none, fun _ _ _ => fun D _ H => D.rt (.str r) H) :: l, .cons ⟨hg, hd, .inl hm⟩ trivial (fun a oe cls d pn _ _ => pss_one (ps_ret pe_str)) hl, fun Q D cls0 d σ H hD w => ?_⟩
    obtain ⟨C', b, hm', hb, yes, no⟩ := w
    have eC : C' = C := by
      have := hm'.symm.trans (show X.mg (Cl.s c r).cls = _ from hm)
      simpa using this
    subst eC
    exact ⟨b, hb, fun e a na => by subst hD; exact yes e, fun e => go Q D cls0 d σ H hD (no e)⟩
  | @f c r f o j j2 k p1 p2 p3 p4 p5 p6 p7 p8 p9 p10 p11 p12 q0 hds cls hg hm hd he hi hmi hv hmv t ih =>
    obtain ⟨l, hl, go⟩ := ih (hN.imp id fun n cl hc => n cl (List.mem_cons_of_mem _ hc))
    have hN' : X.N[i]? = some ("e" : Str) := hN.elim id fun n => by
      obtain ⟨c', r', z⟩ := n _ List.mem_cons_self
      cases z
    obtain ⟨C, hm⟩ := hm
    refine ⟨(.ref C, some i, tSuF X.K C i r f) :: l, .cons ⟨hg, hd, .inl hm⟩ ⟨hN', he⟩ (fun a oe cls d pn hz hf => suite_f hN' he hi hmi hv hmv hz hf) hl, fun Q D cls0 d σ H hD w => ?_⟩
    obtain ⟨C', b, hm', hb, yes, no⟩ := w
    have eC : C' = C := by
      have := hm'.symm.trans (show X.mg (Cl.f c r f).cls = _ from hm)
      simpa using this
    subst eC
    refine ⟨b, hb, fun e a na => ?_, fun e => go Q D cls0 d σ H hD (no e)⟩
    obtain ⟨e1, e2, dd, v, e3, e4, e5⟩ := yes e
    refine ⟨e1, e2, fun hi' => by show (σ.set i _)[i]? = _; rw [List.getElem?_set_self (by simpa [putN] using hi')], dd, v, e3, e4, fun p np => ?_⟩
    subst hD
    exact e5 p np
end
end FL

set_option maxHeartbeats 2000000
/-! FL28: a lambda with no parameter, or one with a default, handed to a def. -/
namespace FL
open PySem PySem.Spec PyProof.Rows L2 LamX
section
variable {X : Cx} {pins : List (Addr × Obj)} {σ : L2.St} {H : Hp} {s : Shared}
end
/-- the parameters of the lambda: none, or one with an int as its default -/
inductive LamP where
  | none | one (d : Str) (i : Int)
def LamP.ds : LamP → List Str
  | .none => []
  | .one d _ => [d]
/-- what binding them gives -/
def LamP.to (lp : LamP) (binds : List (Str × Value)) : Prop := match lp with
  | .none => binds = []
  | .one d i => ∃ t, binds = [(d, .int i t)]
section
variable {X : Cx} {pins : List (Addr × Obj)} {σ : L2.St} {H : Hp} {s : Shared}
end
end FL

set_option maxHeartbeats 2000000
/-! FL29: the lambda called by the def that got it. -/
namespace FL
open PySem PySem.Spec PyProof.Rows L2 LamX
structure LamS2 (sc scope : Scope) (ds : List Str) : Prop where
  kind : scope.kind = .function
  co : scope.isCoroutine = false
  gen : scope.isGenerator = false
  own : ∀ y ∈ scope.names, y.2 ≠ .cell ∧ (y.2 = .local → y.1 ∈ ds)
  loc : ∀ d ∈ ds, scope.names.lookup d = some .local
  free : ∀ y ∈ scope.names, y.2 = .free → sc.names.lookup y.1 = some .cell ∨ sc.names.lookup y.1 = some .free
theorem LamS2.has {X : Cx} {scope : Scope} {ds : List Str} (L : LamS2 X.env.scope scope ds) (ok : X.Ok) : ∀ y ∈ scope.names, y.2 = .free → ∃ c, X.env.cells.lookup y.1 = some c := fun y hy e => by
  rcases L.free y hy e with k | k
  · exact ok.has _ (.inl k)
  · exact ok.has _ (.inr k)
section
variable {X : Cx} {pins : List (Addr × Obj)} {σ : L2.St} {H HZ : Hp} {s s1 : Shared}
end
section
variable {X : Cx}
end
end FL

set_option maxHeartbeats 2000000
/-! FL30: _law_error(lambda: f(..)) as an expression. -/
namespace FL
open PySem PySem.Spec PyProof.Rows L2 LamX
def exM (c c' : Str) : Bool := c == c' || c' == "TemperError"
structure ExM (K : PySem.W.Frag) (mg : Str → Option Value) (c c' : Str) : Prop where
  ok : ∃ C C' : Addr, mg c = some (.ref C) ∧ mg c' = some (.ref C') ∧ PySem.W.exmOne K (.ref C) (.ref C') = some (exM c c')
theorem ExM.of {K : PySem.W.Frag} {mg : Str → Option Value} {c c' : Str} {C C' : Addr} (h1 : mg c = some (.ref C)) (h2 : mg c' = some (.ref C')) (b : PySem.W.subIn K (.ref C') (.type "BaseException") = some true) (d : PySem.W.hasDictIn K C' = true) (t : PySem.W.typeIn K (.ref C') = some (.type "type")) (h : PySem.W.subIn K (.ref C) (.ref C') = some (exM c c')) : ExM K mg c c' :=
  ⟨C, C', h1, h2, PySem.W.exm_ref b d t h⟩
section
variable {K : PySem.W.Frag} {mg : Str → Option Value}
end
section
variable {X : Cx} {E : XK} {x y : Str} {g : Sg} {k i : Nat} {e : Expr} {es : List Expr} {fs : M (List T)} {p pos : Pos}
end
section
variable {X : Cx} {E : XK}
theorem lawTab_one {K : PySem.W.Frag} {mg : Str → Option Value} {P P' : Addr} (h : LawTab K mg P) (h' : LawTab K mg P') : P' = P := by
  obtain ⟨fa, o, fd, c, e, dd, vs, sl, a1, a2, a3, a4, a5, a6⟩ := h
  obtain ⟨fa', o', fd', c', e', dd', vs', sl', b1, b2, b3, b4, b5, b6⟩ := h'
  rw [a1] at b1; cases b1
  rw [a2] at b2; cases b2
  rw [a3] at b3; cases b3
  rw [a4] at b4; cases b4
  rw [a5] at b5; cases b5
  rw [a6] at b6; cases b6
  rfl
end
end FL

set_option maxHeartbeats 2000000
/-! FL31: the law's end, with its table of code objects. -/
namespace FL
open PySem PySem.Spec PyProof.Rows L2 LamX
/-- the law's code object at c, its table at P -/
structure LawCode (K : PySem.W.Frag) (c P : Addr) : Prop where
  ex : ∃ (dd : Option Addr) (vs : Array Value) (sl : Array (Option Value)) (file : Str) (tf : Tok) (flags : Int) (tg : Tok) (inF : Bool) (text : Int) (tt : Tok), K.lookup c = some ⟨.type "code", dd, .fields vs, sl⟩ ∧ vs[11]? = some (.ref P) ∧
    vs.getD 18 .none = .str file tf ∧ vs.getD 7 .none = .int flags tg ∧ vs.getD 9 .none = .bool inF ∧ vs.getD 10 .none = .int text tt ∧ c ≠ P ∧ K.lookup P = none
theorem LawCode.hd {K : PySem.W.Frag} {c P : Addr} {h : Heap} (L : LawCode K c P) (X : K.In h) : PySem.W.CodeHd h c P := by
  obtain ⟨dd, vs, sl, file, tf, flags, tg, inF, text, tt, h1, h2, h3, h4, h5, h6, h7, _⟩ := L.ex
  refine ⟨_, vs, file, tf, flags, tg, inF, text, tt, X _ _ h1, rfl, rfl, h2, ?_, h3, h4, h5, h6, h7⟩
  rw [Array.getD_eq_getD_getElem?, h2]; rfl
theorem law_end {l : PySem.W.OpenLaw} {w : World} {K : PySem.W.Frag} {mg : Str → Option Value} {h : Heap} {fa c P : Addr} {k : Nat} {x : Str} {fd : FuncData} {oc : Value} {od : Option Addr} {sl : Array (Option Value)} (KX : K.In h) (hm : mg "law" = some (.ref fa)) (lk : K.lookup fa = some ⟨oc, od, .func fd, sl⟩) (hcd : fd.code = .ref c) (LC : LawCode K c P) (own : OwnTab K fa h)
    (hb : ∀ (s : Shared) (u : Value), BindsTo s fd ⟨[u], []⟩ [(x, u)]) (F : ∀ base : Heap, K.In base → base.Ns mainGlobals mg → TabB base mg c P → LawTab K mg P → FnOk l.prog w K mg base (L2.CX l.prog w) k fa fd [x] (spLaw K mg)) :
    LawAtS l w K (L2.CX l.prog w) k 63 x mg fa h := by
  obtain ⟨dd, vs, sl2, file, tf, flags, tg, inF, text, tt, h1, h2, h3, h4, h5, h6, h7, h8⟩ := LC.ex
  have LT : LawTab K mg P := ⟨fa, _, fd, c, _, _, vs, _, hm, lk, rfl, hcd, h1, h2⟩
  refine ⟨fd, [(c, P)], spLaw K mg, fun p hp => ?_, fun p hp => ?_, fun p hp => ?_, hb, fun H a ns hl _ hH hS => ?_, fun base kb nb tb => F base kb nb (tb (c, P) (List.mem_singleton.mpr rfl)) LT⟩
  · rw [List.mem_singleton.mp hp]; exact own c P _ fd _ _ vs _ lk rfl hcd h1 h2
  · rw [List.mem_singleton.mp hp]; exact h8
  · rw [List.mem_singleton.mp hp]; exact LC.hd KX
  · refine ⟨a, ns, rfl, hS, hl, fun P' q => ?_, fun H' => rfl⟩
    rw [lawTab_one LT q]
    exact TabS.nil (hH (c, P) (List.mem_singleton.mpr rfl))
section
variable {P : Program} {w : World} {K : PySem.W.Frag} {mg : Str → Option Value} {base : Heap}
/-- the law's def by its body; its code object is at c -/
theorem law_ok {x qual : Str} {st : Stmt} {f c : Addr} {fd : FuncData} {N ps : List Str} {k : Nat} {fb : MS} (F : Fun K x qual st f fd) (hc : fd.code = .ref c) (S : FnScope N ps (defScope st))
    (hb : ∀ (A : Around) (outer : List PySem.Env) (s : Shared) (H : Hp) (E : XK), Room k (A.deeper (PyProof.Rows.envOfC qual (defScope st) s.heap.objs.size f (.ref c))) → FSs (cxOf (L2.CX P w) P w K mg base N qual (defScope st) f (.ref c) A outer s H E) E (defBody st) fb) :
    FnOk P w K mg base (L2.CX P w) (k + 1) f fd ps (spF K mg (fnF N.length ps.length fb)) := by
  obtain ⟨oc, od, kV, doc, pm, an, cdv, ct, osl, rfl, lk, hcd⟩ := F.ex
  have hc : cdv = .ref c := hc
  subst hc
  refine fn_of lk hcd S (fun vs H Q E h => ?_) fun A outer s H vs Q E hr h => ?_
  · obtain ⟨B, F, ts, _, _, _, r, d⟩ := h
    unfold fnF at d
    split at d
    · rename_i hl
      rw [← r.length]; exact hl.1
    · exact d.elim
  · obtain ⟨B, F', ts, sF, sB, tb, r, d⟩ := h
    refine ⟨_, hb A outer s H E hr, ⟨B, F', none, []⟩, F', ts.map SV.fz ++ List.replicate (N.length - ps.length) SV.un, ?_, ?_⟩
    · unfold fnF at d
      split at d
      · rename_i hl
        have q := start_slots (rw := []) (N := N) sF sB tb r (by omega)
        rw [hl.1] at q
        exact q
      · exact d.elim
    · unfold fnF at d
      split at d
      · cases e : fb (ts.map SV.fz ++ List.replicate (N.length - ps.length) SV.un) with
        | bad => rw [e] at d; exact d
        | exc x => rw [e] at d; exact d
        | ok fl ρ =>
          rw [e] at d
          cases fl with
          | nx => exact fun σ' F2 H' R s' => d .non F2 H' R.fh R.bh R.tb s' (fun a o q => R.fr a o q) rfl
          | bk => exact d.elim
          | ct => exact d.elim
          | rt t => exact fun v σ' F2 H' R s' rv => d v F2 H' R.fh R.bh R.tb s' (fun a o q => R.fr a o q) rv
      · exact d.elim
end
end FL

set_option maxHeartbeats 2000000
/-! FL32: what is never reached; empty dicts. -/
namespace FL
open PySem PySem.Spec PyProof.Rows L2
section
variable {X : Cx} {E : XK} {e : Expr} {pos : Pos}
end
end FL

set_option maxHeartbeats 2000000
/-! FL33: what is walked, a text among it. -/
namespace FL
open PySem PySem.Spec PyProof.Rows L2
/-- a text's signs -/
def chT (z : Str) : List T := z.cps.toList.map fun c => T.str ⟨#[c]⟩
def seqTA (t : T) : Option (List T) := match t with
  | .str z => some (chT z)
  | .lst ts => some ts
  | .sl ts => some ts
  | .tup ts => some ts
  | _ => none
def iSeqA (f : M T) : M (List T) := fun ρ => (f ρ).bind fun t ρ => liftO (seqTA t) ρ
section
variable {X : Cx} {E : XK} {e : Expr} {f : M T}
theorem pi_seqA {tg l : Expr} {tl : TE} (hl : PE X l tl) : PI X tg l (fun σ H R => tl σ H fun x H1 => (∃ z, x = .str z ∧ R (Its z) H1) ∨ ∃ a, x = .ref a ∧ ((∃ xs, SqL X.K H1 a xs) ∧ R (Itl X.K a) H1 ∨ (∃ xs, SqT X.K H1 a xs) ∧ R (Itt X.K a) H1)) := by
  refine ⟨fun pins s σ H R I h => ?_⟩
  refine thn (hl.run pins s σ H _ I h) fun v s1 ⟨y, H1, I1, r1, q1⟩ => ?_
  rcases q1 with ⟨x, ex, q⟩ | ⟨a, e, q⟩
  · subst ex
    obtain ⟨t, rfl⟩ := r1
    cases ha : x.cps.all (· < 128)
    · exact wpAny_pyIter_wide ha (pi_one (tk := s1.toks) I1 _ (turn_str _ x t "str_iterator" (.inr rfl)) ⟨_, Heap.get?_push_size _ rfl, rfl, rfl⟩ q)
    · exact wpAny_pyIter_ascii ha (pi_one (tk := s1.toks) I1 _ (turn_str _ x t "str_ascii_iterator" (.inl rfl)) ⟨_, Heap.get?_push_size _ rfl, rfl, rfl⟩ q)
  · subst e
    cases r1
    rcases q with ⟨⟨xs, hq⟩, q⟩ | ⟨⟨xs, hq⟩, q⟩
    · obtain ⟨its, rv, p, hz⟩ := I1.list hq
      refine wpAny_pyIter_list p.isList ?_
      refine ⟨s1.heap.objs.size, [s1.heap.objs.size], _, _, H1, rfl, I1.kept (t' := s1.toks) fun b o e => Heap.get?_push_of_some _ e, turn_list a _, ⟨_, Heap.get?_push_size _ rfl, rfl, rfl⟩, fun b hb => ?_, q⟩
      have e : b = s1.heap.objs.size := by simpa using hb
      subst e
      exact I1.fpOk (Nat.le_refl _) (I1.hok.fresh (Nat.le_refl _))
    · obtain ⟨its, rv, p, hz⟩ := I1.tuple hq
      refine wpAny_pyIter_tuple (show s1.heap.IsTuple a its.toArray from p) ?_
      refine ⟨s1.heap.objs.size, [s1.heap.objs.size], _, _, H1, rfl, I1.kept (t' := s1.toks) fun b o e => Heap.get?_push_of_some _ e, turn_tuple a _, ⟨_, Heap.get?_push_size _ rfl, rfl, rfl⟩, fun b hb => ?_, q⟩
      have e : b = s1.heap.objs.size := by simpa using hb
      subst e
      exact I1.fpOk (Nat.le_refl _) (I1.hok.fresh (Nat.le_refl _))
theorem fi_seqA {tg : Expr} (h : FE X E e f) : FI X E tg e (iSeqA f) := by
  refine pi_imp (pi_seqA h) fun σ H Q h => ?_
  obtain ⟨k, F, ρ, R, h⟩ := h
  refine ⟨k, F, ρ, R, (Den.bind h).imp fun t ρ1 h1 v F1 H1 R1 s1 r1 => ?_⟩
  obtain ⟨ts, e, q⟩ := Den.lift h1
  have o : (∃ z, t = .str z ∧ ts = chT z) ∨ seqT t = some ts := by
    unfold seqTA at e
    split at e
    · exact .inl ⟨_, rfl, (Option.some.inj e).symm⟩
    · exact .inr e
    · exact .inr e
    · exact .inr e
    · cases e
  rcases o with ⟨z, rfl, rfl⟩ | e
  · cases r1
    refine .inl ⟨z, rfl, q _ F1 H1 R1 s1 ?_⟩
    have w := walk_str (z := z)
    have hl : (chT z).length = z.cps.size := by unfold chT; simp
    unfold Wk
    rw [hl]
    refine w.mono (fun H' s => trivial) fun i H v H' _ _ y => ?_
    obtain ⟨e1, c, e2, rfl⟩ := y
    refine ⟨.str ⟨#[c]⟩, ?_, .inl ⟨e1, rfl⟩⟩
    unfold chT
    rw [List.getElem?_map, Array.getElem?_toList, e2]
    rfl
  · obtain ⟨p, vs, rfl, hs, r⟩ := seqT_rep (Same.refl F1) r1 e
    refine .inr ⟨p, rfl, ?_⟩
    rcases hs with hs | hs
    · refine .inl ⟨⟨vs, same_SqL R1.fh hs⟩, q _ F1 H1 R1 s1 ?_⟩
      have w := walk_list (K := X.K) (a := p) (xs := vs)
      rw [← r.length] at w
      exact w.mono (fun H' s => same_SqL s hs) fun i H v H' _ _ y => yat r y
    · refine .inr ⟨⟨vs, same_SqT0 R1.fh hs⟩, q _ F1 H1 R1 s1 ?_⟩
      have w := walk_tup (K := X.K) (a := p) (xs := vs)
      rw [← r.length] at w
      exact w.mono (fun H' s => same_SqT0 s hs) fun i H v H' _ _ y => yat r y
end
end FL

set_option maxHeartbeats 2000000
/-! FL34: a text's methods of one argument: index, count, join. -/
namespace FL
open PySem PySem.Spec PyProof.Rows L2
section
variable {X : Cx} {E : XK} {ob e : Expr} {fo fe : M T} {apos pos : Pos}
end
end FL

set_option maxHeartbeats 2000000
/-! FL35: join, str(int), len(set(ints)), list.index, list.count, list(range(..)). -/
namespace FL
open PySem PySem.Spec PyProof.Rows L2
/-- the different ones of a list, as they come -/
def metI (ns : List Int) : List Int := PyProof.Rows.firstMet (fun i => ns.getD i 0) ns.length
section
variable {X : Cx} {E : XK} {ob e : Expr} {fo fe fa : M T} {apos cpos pos : Pos}
theorem met_le (f : Nat → Int) : ∀ n, (PyProof.Rows.firstMet f n).length ≤ n
  | 0 => Nat.le_refl _
  | n + 1 => by
    rw [PyProof.Rows.firstMet_succ]
    have := met_le f n
    show (if _ then _ else _ : List Int).length ≤ _
    split
    · omega
    · rw [List.length_append]; simp; omega
end
end FL

set_option maxHeartbeats 2000000
/-! FL36: dicts whose keys are ints, texts, or tuples of such. -/
namespace FL
open PySem PySem.Spec PyProof.Rows L2
def keyT (t : T) : Option L2.Key := match t with
  | .int n => some (.inl n)
  | .str z => some (.inr z)
  | _ => none
def keysT : List T → Option (List L2.Key)
  | [] => some []
  | t :: ts => match keyT t, keysT ts with
    | some k, some ks => some (k :: ks)
    | _, _ => none
def tKey : L2.Key → T
  | .inl n => .int n
  | .inr z => .str z
/-! ### tables -/
section
variable {κ : Type} [DecidableEq κ]
def valP : List κ → List T → κ → Option T
  | k' :: ks, t :: ts, k => if k' = k then some t else valP ks ts k
  | _, _, _ => none
def repP : List κ → List T → κ → T → List T
  | k' :: ks, t' :: ts, k, t => (if k' = k then t else t') :: repP ks ts k t
  | _, _, _, _ => []
def putP (ks : List κ) (ts : List T) (k : κ) (t : T) : List κ × List T := if (ks.any fun k' => decide (k' = k)) = true then (ks, repP ks ts k t) else (ks ++ [k], ts ++ [t])
variable {K : PySem.W.Frag} {mg : Str → Option Value} {F : Hp}
theorem rep_rep {t : T} {v : V} (h : Rep K mg F t v) : ∀ {kvs : List (κ × V)} {ts : List T} (k : κ), Reps K mg F ts (kvs.map (·.2)) → Reps K mg F (repP (kvs.map (·.1)) ts k t) ((kvs.map fun kv => if kv.1 = k then (kv.1, v) else kv).map (·.2))
  | [], ts, k, r => by
    have : ts = [] := by
      cases ts with
      | nil => rfl
      | cons t ts => obtain ⟨v, w, e, _⟩ := r; cases e
    subst this
    exact .nil
  | p :: kvs, ts, k, r => by
    cases ts with
    | nil => cases r
    | cons t' ts =>
      obtain ⟨v', w, e, r1, r2⟩ := r
      rw [List.map_cons] at e
      injection e with e1 e2
      subst e1; subst e2
      simp only [List.map_cons, repP]
      refine .cons ?_ (rep_rep h k r2)
      by_cases hk : p.1 = k
      · rw [if_pos hk, if_pos hk]; exact h
      · rw [if_neg hk, if_neg hk]; exact r1
theorem put_rep {t : T} {v : V} {kvs : List (κ × V)} {ts : List T} {k : κ} (h : Rep K mg F t v) (r : Reps K mg F ts (kvs.map (·.2))) :
    (putK kvs k v).map (·.1) = (putP (kvs.map (·.1)) ts k t).1 ∧ Reps K mg F (putP (kvs.map (·.1)) ts k t).2 ((putK kvs k v).map (·.2)) := by
  unfold putK putP
  have e : ((kvs.map (·.1)).any fun k' => decide (k' = k)) = kvs.any fun kv => decide (kv.1 = k) := by rw [List.any_map]; rfl
  rw [e]
  split
  · refine ⟨?_, rep_rep h k r⟩
    rw [List.map_map]
    refine List.map_congr_left fun kv _ => ?_
    show (if kv.1 = k then (kv.1, v) else kv).1 = kv.1
    split <;> rfl
  · refine ⟨by simp, ?_⟩
    rw [List.map_append]
    exact r.append (.one h)
end
section
variable {K : PySem.W.Frag} {mg : Str → Option Value} {F : Hp}
theorem keyT_rep {t : T} {v : V} {k : L2.Key} (r : Rep K mg F t v) (e : keyT t = some k) : v = kV k := by
  cases t <;> simp only [keyT, Option.some.injEq, reduceCtorEq] at e <;> subst e <;> exact r
theorem keysT_rep : ∀ {ts : List T} {vs : List V} {ks : List L2.Key}, Reps K mg F ts vs → keysT ts = some ks → vs = ks.map kV
  | [], vs, ks, r, e => by
    simp only [keysT, Option.some.injEq] at e
    subst e; exact r
  | t :: ts, vs, ks, r, e => by
    obtain ⟨v, w, rfl, r1, r2⟩ := r
    simp only [keysT] at e
    split at e
    · rename_i k ks' h1 h2
      cases e
      rw [keyT_rep r1 h1, keysT_rep r2 h2]; rfl
    · cases e
theorem tKey_rep {k : L2.Key} : Rep K mg F (tKey k) (kV k) := by cases k <;> exact rfl
end
/-- what o holds at y; none: not to be asked -/
def getO (o : O) (y : T) : Option (Option T) := match o, y with
  | .dk ks ts, y => (keyT y).map (valP ks ts)
  | .dt ks ts, .tup us => (keysT us).map (valP ks ts)
  | _, _ => none
def OR (K : PySem.W.Frag) (mg : Str → Option Value) (F : Hp) : Option T → Option V → Prop
  | some t, some v => Rep K mg F t v
  | none, none => True
  | _, _ => False
def putO (o : O) (y t : T) : Option O := match o, y with
  | .dk ks ts, y => if ks.length < 16777216 then (keyT y).map fun k => .dk (putP ks ts k t).1 (putP ks ts k t).2 else none
  | .dt ks ts, .tup us => if ks.length < 16777216 then (keysT us).map fun k => .dt (putP ks ts k t).1 (putP ks ts k t).2 else none
  | _, _ => none
section
variable {K : PySem.W.Frag} {mg : Str → Option Value} {F H : Hp}
theorem put_o {o o' : O} {h : HO} {a : Addr} {y t : T} {u v : V} (s : Same F H) (ha : H a = some h) (ro : ORep K mg F o h) (ry : Rep K mg F y u) (rt : Rep K mg F t v) (g : putO o y t = some o') :
    ∃ h', DPut H a u v (upd H a h') ∧ ORep K mg F o' h' := by
  cases o with
  | l ts => cases y <;> cases g
  | dk ks ts =>
    obtain ⟨kvs, rfl, hk, hr⟩ := ro
    simp only [putO] at g
    split at g
    · rename_i hl
      rw [Option.map_eq_some_iff] at g
      obtain ⟨k, ek, rfl⟩ := g
      rw [keyT_rep ry ek]
      obtain ⟨p1, p2⟩ := put_rep (k := k) rt hr
      rw [hk] at p1 p2
      have hkl : kvs.length = ks.length := by rw [← hk, List.length_map]
      exact ⟨_, DPut.k ha (by rw [szL, hkl]; exact hl), _, rfl, p1, p2⟩
    · cases g
  | dt ks ts =>
    obtain ⟨kvs, rfl, hk, hr⟩ := ro
    cases y <;> simp only [putO, reduceCtorEq] at g
    split at g
    · rename_i hl
      rw [Option.map_eq_some_iff] at g
      obtain ⟨k, ek, rfl⟩ := g
      obtain ⟨b, vs, rfl, e1, e2⟩ := ry
      have ev := keysT_rep e2 ek
      subst ev
      obtain ⟨p1, p2⟩ := put_rep (k := k) rt hr
      rw [hk] at p1 p2
      have hkl : kvs.length = ks.length := by rw [← hk, List.length_map]
      exact ⟨_, DPut.t ha (s _ _ e1) (by rw [szL, hkl]; exact hl), _, rfl, p1, p2⟩
    · cases g
end
/-! ### by a slot -/
def getH (h : Has) (y : T) : Option (Option T) := match h with
  | .t (.dk ks ts) => getO (.dk ks ts) y
  | .t (.dt ks ts) => getO (.dt ks ts) y
  | .o o => getO o y
  | _ => none
def isDH (h : Has) : Bool := match h with
  | .t (.dk _ _) => true
  | .t (.dt _ _) => true
  | .o (.dk _ _) => true
  | .o (.dt _ _) => true
  | _ => false
section
variable {X : Cx} {E : XK} {b b2 e : Expr} {fb fc fv : M T} {pos p apos cpos : Pos} {x : Str} {i : Nat} {k : Bk} {F : Hp} {ρ : Env} {σ : L2.St} {H : Hp}
theorem OR.isSome {K : PySem.W.Frag} {mg : Str → Option Value} {r : Option T} {r' : Option V} (h : OR K mg F r r') : r.isSome = r'.isSome := by
  cases r <;> cases r' <;> first | rfl | cases h
/-- x[e] = v -/
def sSetD (i : Nat) (fi fv : M T) : MS := fun ρ => (fv ρ).bind fun t ρ => withOwn i (fun ρ => (fi ρ).bind fun y ρ => match (rdOwn i ρ).bind fun o => putO o y t with
  | some o' => .ok .nx (setOwn i o' ρ)
  | none => .bad) ρ
theorem fs_setD {p2 : Pos} {fi : M T} (hu : X.A.units + 1 < cLine) (hN : X.N[i]? = some x := by rfl) (hv : Vis X.env.scope x := by first | exact Or.inl rfl | exact Or.inr (Or.inl rfl) | exact Or.inr (Or.inr rfl)) (hb : FE X E b fi) (he : FE X E e fv)
    (hs : swapsWith e (some (.Subscript (.Name x p) b p2)) pos.line X.env = pure false := by rfl) (hd : (x == ("__debug__" : Str)) = false := by decide) (hcd : (x == ("__classdict__" : Str)) = false := by decide) :
    FS X E (.Assign [.Subscript (.Name x p) b p2] e pos) (sSetD i fi fv) := by
  refine ps_imp (ps_dput hu (pe_var hN hv hd hcd) hb he hs) fun D σ H h => ?_
  obtain ⟨k, F, ρ, R, h⟩ := h
  refine ⟨k, F, ρ, R, (Den.bind h).imp fun t ρ1 h1 v F1 H1 R1 s1 r1 => ?_⟩
  obtain ⟨⟨o, ho⟩, h1⟩ := Den.own h1
  obtain ⟨a, h0, es, _⟩ := R1.own ho
  refine ⟨.ref a, es, k, F1, ρ1, R1, (Den.bind h1).imp fun y ρ2 h2 w F2 H2 R2 s2 r2 => ?_⟩
  split at h2
  · rename_i o' e1
    rw [Option.bind_eq_some_iff] at e1
    obtain ⟨o1, eo, ep⟩ := e1
    obtain ⟨h3, e2, e3, e4, mk⟩ := own_two (k' := k) (F := F) (ρ := ρ) (H := H) (h := h0) R2 es eo
    obtain ⟨h', g1, g2⟩ := put_o R2.fh e3 e4 r2 (r1.mono s2) ep
    exact ⟨a, _, rfl, g1, h2 _ F2 _ (mk g2) (s1.trans s2)⟩
  · exact h2.elim
/-! ### new ones, len, list -/
def newDk : M O := fun ρ => .ok (.dk [] []) ρ
def newDt : M O := fun ρ => .ok (.dt [] []) ρ
theorem fo_dk0 : FO X E (.Dict [] [] pos) newDk := pe_imp pe_dnewK fun σ H Q ⟨k, F, ρ, R, h⟩ p np => h _ F _ (R.newO (o := .dk [] []) ⟨[], rfl, rfl, .nil⟩ np) (Same.refl _) R.len
theorem fo_dt0 : FO X E (.Dict [] [] pos) newDt := pe_imp pe_dnewT fun σ H Q ⟨k, F, ρ, R, h⟩ p np => h _ F _ (R.newO (o := .dt [] []) ⟨[], rfl, rfl, .nil⟩ np) (Same.refl _) R.len
end
theorem units1 {k : Nat} {A : Around} (hr : Room k A) : A.units + 1 < cLine := by have := hr.un; omega
end FL

set_option maxHeartbeats 2000000
/-! FL37: dict comprehensions; sorted, list, len of dicts; displays. -/
namespace FL
open PySem PySem.Spec PyProof.Rows L2
/-! ### {k: v for x in xs if t} -/
section
variable {X : Cx} {E : XK} {e c kx vx : Expr} {es : List Expr} {pos : Pos} {fk fv : M T}
end
/-! ### sorted, list, len -/
def keyD : L2.Key → PyData
  | .inl n => .int n
  | .inr z => .str z
def sortDk (t : T) : Option O := match t with
  | .dk ks ts => if ks.length = ts.length then (if okSort (ks.map keyD) = true then some (.l ((srt (fun a b => PySem.W.dataLe false keyD a b) ks).map tKey)) else none) else none
  | _ => none
section
variable {X : Cx} {E : XK} {e : Expr} {fa : M T} {p pos : Pos}
theorem reps_keys {K : PySem.W.Frag} {mg : Str → Option Value} {F : Hp} : ∀ ks : List L2.Key, Reps K mg F (ks.map tKey) (ks.map kV)
  | [] => .nil
  | k :: ks => .cons tKey_rep (reps_keys ks)
/-- what stands behind a walk over a source, as a list of values; the heap has grown -/
theorem collect_src {P : Program} {w : World} {A : Around} {Ex : Value → Shared → Prop} {s : Shared} {T : String} {r d : Addr} {n : Nat} {Pj : Nat → Value → Prop} {OK : Heap → Prop} {fin : List Value → Shared → Prop} (src : PySem.W.KdlSrc P w T r d n Pj OK) (hh : A.handled = none) (ok : OK s.heap) (few : n ≤ sizeLine)
    (k : ∀ (h' : Heap) (tk : Nat) (acc : Array Value), (∀ b o, s.heap.get? b = some o → h'.get? b = some o) → s.heap.objs.size < h'.objs.size → ItemsOf Pj acc n → fin acc.toList { s with heap := h', toks := tk }) :
    wpAny (model P w) A (collect (.ref r)) fin Ex s := by
  have old := src.there _ ok
  unfold collect
  apply wpAny_bind
  apply wpAny_runValue
  apply codeAny_builtin entry_proto_collect'
  rw [Around.under_plainId PySem.F.plain_proto_collect _]
  show wpAny _ A.in1 (newList [] >>= fun q => again (.builtin "list.__iadd__" ⟨[q, .ref r], []⟩)) _ _ s
  refine wpAny_bind (wpAny_newObj_type (wpAny_pure ⟨plainId_quiet PySem.F.plain_list_iadd _, ?_⟩))
  apply codeAny_builtin entry_list_iadd'
  rw [Around.under_plainId PySem.F.plain_list_iadd _]
  have new : (s.heap.push { cls := .type "list", data := .seq ([] : List Value).toArray }).get? s.heap.objs.size = some { cls := .type "list", data := .seq #[] } := Heap.get?_push_size _ rfl
  show wpAny _ A.in1 (Builtin.List.listExtendWith (.ref s.heap.objs.size) (.ref r) (.ref s.heap.objs.size)) _ _ _
  have ext := PySem.W.kdl_extend (A := A) (s := { s with heap := s.heap.push { cls := .type "list", data := .seq ([] : List Value).toArray } })
    (R := fun (res : Result) (s' : Shared) => ∃ (h' : Heap) (tk : Nat) (acc : Array Value) (c : Nat), res = .ok (.ret (.ref s.heap.objs.size)) ∧ s' = { s with heap := h', toks := tk } ∧
      (∀ b o, s.heap.get? b = some o → h'.get? b = some o) ∧ h'.get? s.heap.objs.size = some { cls := .type "list", dict := none, data := .seq acc c, slots := #[] } ∧ ItemsOf Pj acc n)
    src hh (src.keep _ _ ok fun b _ o e => Heap.get?_push_of_some _ e) s.heap.objs.size (Nat.ne_of_gt old.1) (Nat.ne_of_gt old.2) (.ref s.heap.objs.size) 0 new
    (fun h' tk acc c kp at' its => ⟨h', tk, acc, c, rfl, rfl, fun b o e => kp b o (Nat.ne_of_lt (Heap.lt_size e)) (Heap.get?_push_of_some _ e), at', its⟩) few
  have close : ∀ (res : Result) (s2 : Shared), (∃ (h' : Heap) (tk : Nat) (acc : Array Value) (c : Nat), res = .ok (.ret (.ref s.heap.objs.size)) ∧ s2 = { s with heap := h', toks := tk } ∧
      (∀ b o, s.heap.get? b = some o → h'.get? b = some o) ∧ h'.get? s.heap.objs.size = some { cls := .type "list", dict := none, data := .seq acc c, slots := #[] } ∧ ItemsOf Pj acc n) →
      ∃ (h' : Heap) (tk : Nat) (acc : Array Value) (c : Nat), res = .ok (.ret (.ref s.heap.objs.size)) ∧ s2 = { s with heap := h', toks := tk } ∧ h'.get? s.heap.objs.size = some { cls := .type "list", dict := none, data := .seq acc c, slots := #[] } ∧ fin acc.toList { s with heap := h', toks := tk } := fun res s2 ⟨h', tk, acc, c, e, es, kp, at', its⟩ =>
    ⟨h', tk, acc, c, e, es, at', k h' tk acc kp (Heap.lt_size at') its⟩
  refine wpAny_mono ext (fun o s' x => ?_) fun _ _ x => ?_
  · cases o with
    | done _ =>
      obtain ⟨h', tk, acc, c, e, rfl, at', f⟩ := close _ _ x
      cases e
      show wpAny _ A (load s.heap.objs.size >>= _) _ _ _
      exact wpAny_bind (wpAny_load at' (wpAny_pure f))
    | again _ =>
      refine ⟨x.1, codeAny_mono x.2 fun res s2 y => ?_⟩
      obtain ⟨h', tk, acc, c, rfl, rfl, at', f⟩ := close _ _ y
      show wpAny _ A (load s.heap.objs.size >>= _) _ _ _
      exact wpAny_bind (wpAny_load at' (wpAny_pure f))
  · obtain ⟨_, _, _, _, e, _⟩ := x
    cases e
def rSortDk : List V → Hp → VK → Prop := fun vs H Q => ∃ (a : Addr) (kvs : List (L2.Key × V)), vs = [V.ref a] ∧ H a = some (.dK kvs) ∧ PySem.W.AllAlike ((kvs.map (·.1)).map keyD) ∧ PySem.W.Sortable ((kvs.map (·.1)).map keyD) ∧
  ∀ q, H q = none → Q (.ref q) (upd H q (.lst (((kvs.map (·.1)).mergeSort fun a b => PySem.W.dataLe false keyD a b).map kV)))
theorem reads_key {P : Program} {w : World} {h : Heap} {k : L2.Key} {u : Value} (r : keyIs k u = true) : Reads h u (keyD k) [] := by
  rcases keyIs_shape r with ⟨i, t, e1, e2⟩ | ⟨x, t, e1, e2⟩
  · subst e1; subst e2; exact .int _ _
  · subst e1; subst e2; exact .str _ _
theorem eachIs_of {R : Value → L2.Key → Prop} : ∀ {us : List Value} {ks : List L2.Key}, us.length = ks.length → (∀ (j : Nat) (u : Value) (k : L2.Key), us[j]? = some u → ks[j]? = some k → R u k) → PySem.W.EachIs R us ks
  | [], [], _, _ => .nil
  | [], _ :: _, h, _ => by simp at h
  | _ :: _, [], h, _ => by simp at h
  | u :: us, k :: ks, h, f => .cons (f 0 u k rfl rfl) (eachIs_of (by simpa using h) fun j u k h1 h2 => f (j + 1) u k (by simpa using h1) (by simpa using h2))
theorem vals_each : ∀ {us : List Value} {ks : List L2.Key}, PySem.W.EachIs (fun u k => keyIs k u = true) us ks → Vals (ks.map kV) us
  | _, _, .nil => .nil
  | _, _, .cons h t => .cons (keyIs_rel h) (vals_each t)
theorem depth_key (k : L2.Key) : (keyD k).depth ≤ 64 := by cases k <;> simp [keyD, PyData.depth]
theorem key_room (hu : X.A.units + 66 < cLine) (b : L2.Key) : X.A.in1.units + 1 + (keyD b).depth < cLine := by
  have h1 := depth_key b
  show X.A.units + 1 + 1 + (keyD b).depth < cLine
  omega
theorem cr_sortedDk (hc : X.calm = true) (hu : X.A.units + 66 < cLine) : CallR X (.builtin "sorted") rSortDk := by
  intro pins s σ H vs us Q I r h
  obtain ⟨a, kvs, rfl, hk, hal, hso, q⟩ := h
  rw [Vals.ref1 r]
  obtain ⟨z, lo, vs', rk, hd⟩ := (show ObjOk X.prog X.w H s.heap a (.dK kvs) from I.hok a _ hk)
  obtain ⟨ep, hat⟩ := hd.dictAt
  have hl : kvs.length = vs'.length := Paired.length rk
  refine Calls.call_function_entry kind_sorted plain_sorted entry_sorted (args_sorted1 _) ?_
  unfold Builtin.«sorted»
  refine wpAny_bind (m := checkCount "sorted" 1 1 _) (wpAny_pure ?_)
  refine wpAny_bind (collect_src (A := X.A.in1) (PySem.W.kdl_dict (knd := mixKind X.prog X.w) (kvs := vs') (ep := ep) lo) (I.ok.hd hc) hat (by rw [← hl]; exact z) fun h' tk acc hkeep hgt hacc => ?_)
  have hlen : acc.toList.length = kvs.length := by rw [Array.length_toList, hacc.1, hl]
  refine wpAny_bind (wpAny_newList ?_ (by rw [hlen]; exact z))
  have each : PySem.W.EachIs (fun u k => keyIs k u = true) acc.toList (kvs.map (·.1)) := eachIs_of (by rw [hlen, List.length_map]) fun j u k h1 h2 => by
    obtain ⟨k', y, hky, hi⟩ := hacc.2 j u (by rw [← Array.getElem?_toList]; exact h1)
    have e1 : (kvs.map (·.1))[j]? = some k' := by rw [KV.keys rk, List.getElem?_map, hky]; rfl
    rw [e1] at h2
    cases h2
    exact hi
  have hnew : (h'.push { cls := .type "list", data := .seq acc.toList.toArray }).get? h'.objs.size = some (seqObj "list" acc.toList.toArray 0) := Heap.get?_push_size _ rfl
  have er : PySem.W.EachIs (fun v b => ∃ as, Reads (h'.push { cls := .type "list", data := .seq acc.toList.toArray }) v (keyD b) as ∧ h'.objs.size ∉ as) acc.toList (kvs.map (·.1)) := each_mem each fun b _ v hb => ⟨[], reads_key (P := X.prog) (w := X.w) hb, by simp⟩
  refine wpAny_bind (wpAny_holding (wpAny_mono (PySem.W.list_sort_data (A := X.A.in1) (enc := keyD) (s := { s with heap := h'.push { cls := .type "list", data := .seq acc.toList.toArray }, toks := tk }) (R := fun u k => keyIs k u = true) (vs := acc.toList) (bs := kvs.map (·.1)) hnew each er hal hso (by rw [List.length_map]; exact z) (fun b _ => key_room hu b)
    (Q := fun _ s' => EP X pins σ Q (.ref h'.objs.size) s') (fun out ho hout => ?_)) (fun _ s' x => ?_) fun _ _ e => e))
  · obtain ⟨e0, he⟩ := PyProof.Rows.sortedHeap_at (out := List.toArray out) hnew
    have hz : ((((kvs.map (·.1)).mergeSort fun a b => PySem.W.dataLe false keyD a b).map kV)).length ≤ sizeLine := by rw [List.length_map, List.length_mergeSort, List.length_map]; exact z
    have hkp : ∀ b o, s.heap.get? b = some o → (PyProof.Rows.sortedHeap (h'.push { cls := .type "list", data := .seq acc.toList.toArray }) h'.objs.size acc.toList (List.toArray out)).get? b = some o := fun b o hb => by
      have h1 := hkeep b o hb
      have hlt : b < h'.objs.size := Heap.lt_size h1
      rw [PyProof.Rows.sortedHeap_old (Nat.ne_of_lt hlt) (by exact Nat.lt_of_lt_of_eq (Nat.lt_succ_of_lt hlt) (Heap.size_push ..).symm)]
      exact Heap.get?_push_of_some _ h1
    have hge : s.heap.objs.size ≤ h'.objs.size := Nat.le_of_lt hgt
    exact ⟨.ref _, upd H h'.objs.size (.lst _), I.laid (t' := tk) hkp hge ⟨hz, out, e0, vals_each hout, he⟩, rfl, q _ (I.hok.fresh hge)⟩
  · exact wpAny_pure ⟨_, rfl, x⟩
end
end FL

set_option maxHeartbeats 2000000
/-! FL38: sorted, list, len of dicts by name; displays; stars; min, max of data. -/
namespace FL
open PySem PySem.Spec PyProof.Rows L2
def one1 (o : T → Option O) (ts : List T) : Option O := match ts with
  | [t] => o t
  | _ => none
section
variable {X : Cx} {E : XK} {e kx vx : Expr} {es : List Expr} {f fa fk fv : M T} {fs : M (List T)} {p pos apos : Pos} {x : Str} {i : Nat}
theorem fo_sortedD (hc : X.calm = true) (hu : X.A.units + 66 < cLine) (hg : Gl X "sorted") (hm : X.mg "sorted" = none) (hv : bootBuiltins "sorted" = some (.builtin "sorted")) (ha : FA X E (e :: es) fs)
    (he : starEach (e :: es) X.env = (false, eval e X.env) :: starEach es X.env := by rfl) (hpl : (backTo pos (starEach es X.env)).any (·.1) = false := by rfl) : FO X E (.Call (.Name "sorted" p) (e :: es) [] pos) (calO (one1 sortDk) fs) := by
  refine pe_imp (pe_callB (cr_sortedDk hc hu) hg hm hv ha (by decide) (by decide) he hpl) fun σ H Q h => ?_
  obtain ⟨k, F, ρ, R, h⟩ := h
  refine ⟨k, F, ρ, R, (Den.bind h).imp fun ts ρ1 h1 vs F1 H1 R1 s1 r1 => ?_⟩
  obtain ⟨o, eo, q⟩ := Den.lift h1
  unfold one1 at eo
  split at eo
  · rename_i t
    unfold sortDk at eo
    split at eo
    · rename_i ks ts0
      split at eo
      · split at eo
        · rename_i hok
          cases eo
          obtain ⟨v, rfl, a, kvs, rfl, e1, e2, e3⟩ := r1.one_of
          obtain ⟨g1, g2, _⟩ := okSort_spec hok
          refine ⟨a, kvs, rfl, R1.fh _ _ e1, by rw [e2]; exact g1, by rw [e2]; exact g2, fun p0 np => ?_⟩
          rw [e2]
          rw [srt_eq] at q
          exact q _ F1 _ (R1.newO (o := .l _) ⟨_, rfl, reps_keys _⟩ np) s1 R1.len
        · cases eo
      · cases eo
    · cases eo
  · cases eo
end
/-! ### min, max of data -/
mutual
def plT : T → Bool
  | .non => true | .bl _ => true | .int _ => true | .str _ => true
  | .lst ts => plTs ts
  | .tup ts => plTs ts
  | _ => false
def plTs : List T → Bool
  | [] => true
  | t :: ts => plT t && plTs ts
end
end FL

set_option maxHeartbeats 2000000
/-! FL39: min, max of lists and tuples of data. -/
namespace FL
open PySem PySem.Spec PyProof.Rows L2
mutual
def ofD : PyData → T
  | .none => .non
  | .bool b => .bl b
  | .int i => .int i
  | .str z => .str z
  | .list ds => .lst (ofDs ds)
  | .tuple ds => .tup (ofDs ds)
  | _ => .non
def ofDs : List PyData → List T
  | [] => []
  | d :: ds => ofD d :: ofDs ds
end
mutual
theorem ofD_toD : ∀ (t : T) (d : PyData), plT t = true → toD t = some d → ofD d = t
  | .non, d, _, h => by simp only [toD, Option.some.injEq] at h; subst h; rfl
  | .bl b, d, _, h => by simp only [toD, Option.some.injEq] at h; subst h; rfl
  | .int i, d, _, h => by simp only [toD, Option.some.injEq] at h; subst h; rfl
  | .str z, d, _, h => by simp only [toD, Option.some.injEq] at h; subst h; rfl
  | .lst ts, d, p, h => by
    simp only [toD, Option.map_eq_some_iff] at h
    obtain ⟨ds, h, rfl⟩ := h
    simp only [ofD]
    rw [ofDs_toDs ts ds (by simpa only [plT] using p) h]
  | .tup ts, d, p, h => by
    simp only [toD, Option.map_eq_some_iff] at h
    obtain ⟨ds, h, rfl⟩ := h
    simp only [ofD]
    rw [ofDs_toDs ts ds (by simpa only [plT] using p) h]
  | .sl _, _, p, _ => by cases p
  | .fn _, _, p, _ => by cases p
  | .dk _ _, _, p, _ => by cases p
  | .dt _ _, _, p, _ => by cases p
theorem ofDs_toDs : ∀ (ts : List T) (ds : List PyData), plTs ts = true → toDs ts = some ds → ofDs ds = ts
  | [], ds, _, h => by simp only [toDs, Option.some.injEq] at h; subst h; rfl
  | t :: ts, ds, p, h => by
    simp only [toDs] at h
    split at h
    · rename_i d es h1 h2
      cases h
      simp only [plTs, Bool.and_eq_true] at p
      simp only [ofDs]
      rw [ofD_toD t d p.1 h1, ofDs_toDs ts es p.2 h2]
    · cases h
end
section
variable {X : Cx} {E : XK} {e : Expr} {es : List Expr} {fs : M (List T)} {pos : Pos}
theorem dpall {K : PySem.W.Frag} {H : Hp} : ∀ {bs : List (V × PyData)}, (∀ b ∈ bs, Dp K H b.1 b.2) → DpAll K H (bs.map Prod.fst) (bs.map Prod.snd)
  | [], _ => .nil
  | b :: bs, h => .cons (h b List.mem_cons_self) (dpall fun c hc => h c (List.mem_cons_of_mem _ hc))
def rMM (K : PySem.W.Frag) (pick : PyData → List PyData → PyData) : List V → Hp → VK → Prop := fun vs H Q => ∃ (a : Addr) (bs : List (V × PyData)) (d : PyData) (ds : List PyData), vs = [V.ref a] ∧ (SqL K H a (bs.map Prod.fst) ∨ SqT K H a (bs.map Prod.fst)) ∧ (∀ b ∈ bs, Dp K H b.1 b.2) ∧
  bs.map Prod.snd = d :: ds ∧ PySem.W.AlikeAll (d :: ds) ∧ PyData.depthAll (d :: ds) ≤ 60 ∧ ∀ v, (v, pick d ds) ∈ bs → Q v H
theorem mm_pick {pins : List (Addr × Obj)} {σ : L2.St} {H : Hp} {s : Shared} (I : Inv X pins σ H s) {bs : List (V × PyData)} {its : List Value} (rv : Vals (bs.map Prod.fst) its) (hd : ∀ b ∈ bs, Dp X.K H b.1 b.2) {i : Nat} {v : Value} (hi : its.toArray[i]? = some v) {h' : Heap}
    (kp : ∀ b o, s.heap.get? b = some o → h'.get? b = some o) {e : PyData} {as : List Addr} (r : Reads h' v e as) : ∃ w, (w, e) ∈ bs ∧ RelV w v := by
  have hi : its[i]? = some v := by simpa using hi
  have hl : bs.length = its.length := by simpa using rv.length
  have hlt : i < bs.length := by rw [hl]; exact (List.getElem?_eq_some_iff.mp hi).1
  obtain ⟨u, hu, hr⟩ := rv.get (i := i) (x := bs[i].1) (by rw [List.getElem?_map]; simp [hlt])
  rw [hi] at hu
  cases hu
  refine ⟨bs[i].1, ?_, hr⟩
  obtain ⟨as2, r2⟩ := Dp.reads I bs[i].2 bs[i].1 v (hd _ (List.getElem_mem hlt)) hr
  have e2 := ((PyProof.Rows.Reads.keeps kp r2).unique e as r).1
  rw [← e2]
  exact List.getElem_mem hlt
theorem cr_minD (hc : X.calm = true) (hu : X.A.units + 66 < cLine) : CallR X (.builtin "min") (rMM X.K PySem.W.minD) := by
  intro pins s σ H vs us Q I r h
  obtain ⟨a, bs, d, ds, rfl, hs, hd, hds, hal, hdp, q⟩ := h
  rw [Vals.ref1 r]
  have hun : X.A.units + 1 + PyData.depthAll (d :: ds) < cLine := by omega
  have fin : ∀ {its : List Value}, Vals (bs.map Prod.fst) its → ∀ (i : Nat) (v : Value) (h' : Heap) (tk : Nat) (as : List Addr), its.toArray[i]? = some v → Reads h' v (PySem.W.minD d ds) as → (∀ b o, s.heap.get? b = some o → h'.get? b = some o) → EP X pins σ Q v { s with heap := h', toks := tk } := fun rv i v h' tk as hi hr kp => by
    obtain ⟨w, hw, hr2⟩ := mm_pick I rv hd hi kp hr
    exact ⟨w, H, I.kept (t' := tk) kp, hr2, q w hw⟩
  rcases hs with hs | hs
  · obtain ⟨its, rv, hl, _⟩ := I.list hs
    obtain ⟨as, ra⟩ := Dp.readsAll I _ _ _ (dpall hd) rv
    rw [hds] at ra
    exact PySem.W.min_list_data (I.ok.hd hc) hl.isList (by simpa using ra) hal hun (fin rv)
  · obtain ⟨its, rv, hl, _⟩ := I.tuple hs
    obtain ⟨as, ra⟩ := Dp.readsAll I _ _ _ (dpall hd) rv
    rw [hds] at ra
    exact PySem.W.min_tuple_data (I.ok.hd hc) hl (by simpa using ra) hal hun (fin rv)
/-- of a row of plain data, all alike -/
def mmO (pick : PyData → List PyData → PyData) (ts : List T) : Option T := match ts with
  | [x] => match seqT x with
    | some xs => match toDs xs with
      | some (d :: ds) => if plTs xs = true ∧ ((d :: ds).all fun a => (d :: ds).all fun b => PySem.W.alike a b) = true ∧ ((d :: ds).all fun a => match a with | .none => false | _ => true) = true ∧ PyData.depthAll (d :: ds) ≤ 60 then some (ofD (pick d ds)) else none
      | _ => none
    | none => none
  | _ => none
theorem zs_of {K : PySem.W.Frag} {mg : Str → Option Value} {F H : Hp} (s : Same F H) : ∀ {xs : List T} {vs : List V} {ds : List PyData}, Reps K mg F xs vs → toDs xs = some ds → plTs xs = true → ∃ bs : List (V × PyData), bs.map Prod.fst = vs ∧ bs.map Prod.snd = ds ∧ ∀ b ∈ bs, Dp K H b.1 b.2 ∧ Rep K mg F (ofD b.2) b.1
  | [], vs, ds, r, h, _ => by
    simp only [toDs, Option.some.injEq] at h
    subst h
    have r : vs = [] := r
    subst r
    exact ⟨[], rfl, rfl, fun _ h => by cases h⟩
  | t :: xs, vs, ds, r, h, p => by
    obtain ⟨v, w, rfl, r1, r2⟩ := r
    simp only [toDs] at h
    split at h
    · rename_i d es h1 h2
      cases h
      simp only [plTs, Bool.and_eq_true] at p
      obtain ⟨bs, b1, b2, b3⟩ := zs_of s r2 h2 p.2
      refine ⟨(v, d) :: bs, by simp [b1], by simp [b2], fun b hb => ?_⟩
      rcases List.mem_cons.mp hb with rfl | hb
      · refine ⟨dp_of s _ _ _ r1 h1, ?_⟩
        show Rep K mg F (ofD d) v
        rw [ofD_toD t d p.1 h1]; exact r1
      · exact b3 b hb
    · cases h
theorem ct_mm {pick : PyData → List PyData → PyData} : CalT X (rMM X.K pick) (mmO pick) := fun k F ρ σ H Q ts t vs R rs e q => by
  unfold mmO at e
  split at e
  · split at e
    · rename_i xs hx
      split at e
      · rename_i d ds hds
        split at e
        · rename_i hc
          cases e
          obtain ⟨v, rfl, r⟩ := rs.one_of
          obtain ⟨p, ws, rfl, hq, r2⟩ := seqT_rep R.fh r hx
          obtain ⟨bs, b1, b2, b3⟩ := zs_of R.fh r2 hds hc.1
          refine ⟨p, bs, d, ds, rfl, by rw [b1]; exact hq, fun b hb => (b3 b hb).1, b2, ⟨fun x hx y hy => ?_, fun x hx => ?_⟩, hc.2.2.2, fun w hw => ?_⟩
          · exact List.all_eq_true.mp (List.all_eq_true.mp hc.2.1 x hx) y hy
          · intro e0
            subst e0
            have := List.all_eq_true.mp hc.2.2.1 _ hx
            cases this
          · exact q w F H R (Same.refl _) (b3 _ hw).2
        · cases e
      · cases e
    · cases e
  · cases e
end
end FL

set_option maxHeartbeats 2000000
/-! FL40: several names of any kind, each given a value of its own. -/
namespace FL
open PySem PySem.Spec PyProof.Rows L2
section
variable {X : Cx} {E : XK} {fs : M (List VO)} {pos : Pos}
end
end FL

set_option maxHeartbeats 2000000
/-! FL41: new dicts walked; displays of two. -/
namespace FL
open PySem PySem.Spec PyProof.Rows L2
section
variable {X : Cx} {E : XK} {tg e kx vx kx2 vx2 : Expr} {pos : Pos} {te : TE} {fk fv fk2 fv2 : M T} {fo : M O}
end
end FL
namespace FL
open PySem PySem.Spec PyProof.Rows L2
section
variable {X : Cx} {E : XK} {b : Expr} {pos p : Pos} {fb : M T} {i : Nat} {x : Str}
end
end FL

set_option maxHeartbeats 2000000
/-! FL42: x[::-1] of a list. -/
namespace FL
open PySem PySem.Spec PyProof.Rows L2
section
variable {X : Cx} {E : XK} {e st : Expr} {te ts : TE} {pos p2 : Pos} {fa fb : M T}
end
end FL

/-! FL43: zip(*e), walked by one name. -/
namespace FL
open PySem PySem.Spec L2 PyProof.Rows
section
variable {M : Model} {A : Around} {E : Value → Shared → Prop}
end
/-- what is zipped: whether a list, where it lies, its items -/
abbrev ZR := Bool × Addr × Array Value
def refsFrom (n k : Nat) : List Value := (List.range k).map fun i => Value.ref (n + i)
theorem SqAt.keep {c : Bool} {h h' : Heap} {a : Addr} {items : Array Value} (x : SqAt c h a items) (k : ∀ o, h.get? a = some o → h'.get? a = some o) : SqAt c h' a items := by
  cases c with
  | true => exact (show h.IsList a items from x).at k
  | false => exact (show h.IsTuple a items from x).at k
section
variable {prog : Program} {w : World} {A : Around} {E : Value → Shared → Prop} {s : Shared}
def tupObj (xs : List Value) : Obj := { cls := .type "tuple", data := .seq xs.toArray }
theorem sbx {x : Nat} {h h' : Heap} (hs : Heap.SameBut x h h') (c : Nat) (o : Obj) (n : c ≠ x) (e : h.get? c = some o) : h'.get? c = some o := hs.extBut c o n e
/-- a zip under way, behind i turns -/
structure ZN (bs : List ZR) (base : Nat) (h : Heap) (T : Value) (f : Bool) (i : Nat) : Prop where
  z : h.get? (base + bs.length + 2) = some { cls := .type "zip", dict := none, data := .fields #[T, .bool f, .bool false, .ref (base + bs.length), .ref (base + bs.length + 1)], slots := #[] }
  ti : h.get? (base + bs.length) = some (tupObj (refsFrom base bs.length))
  to : ∃ us, h.get? (base + bs.length + 1) = some (tupObj us) ∧ us.length = bs.length
  it : ∀ (k : Nat) r, bs[k]? = some r → ItAt r.1 h (base + k) r.2.1 i
/-- within a turn, behind j of the iterators -/
structure ZM (bs : List ZR) (base : Nat) (h0 g : Heap) (i j : Nat) : Prop where
  it : ∀ (k : Nat) r, bs[k]? = some r → ItAt r.1 g (base + k) r.2.1 (if k < j then i + 1 else i)
  sq : ∀ r ∈ bs, SqAt r.1 g r.2.1 r.2.2
  keep : ∀ (c : Nat) o, (c < base ∨ base + bs.length + 2 < c) → h0.get? c = some o → g.get? c = some o
  size : g.objs.size = h0.objs.size
theorem ZM.same {bs : List ZR} {base : Nat} {h0 g g' : Heap} {i j : Nat} {x : Nat} (M : ZM bs base h0 g i j) (hs : Heap.SameBut x g g') (hlo : ∀ r ∈ bs, @LT.lt Nat _ r.2.1 base) (h1 : base + bs.length ≤ x) (h2 : x ≤ base + bs.length + 2) : ZM bs base h0 g' i j :=
  ⟨fun k r e => (M.it k r e).keep fun o q => sbx hs _ _ (by have := (List.getElem?_eq_some_iff.mp e).1; omega) q, fun r m => (M.sq r m).keep fun o q => sbx hs _ _ (by have := hlo r m; omega) q, fun c o q e => sbx hs _ _ (by omega) (M.keep c o q e), by rw [hs.1]; exact M.size⟩
end
end FL

/-! FL44: zip(*e), the rest. -/
namespace FL
open PySem PySem.Spec L2 PyProof.Rows
section
variable {prog : Program} {w : World} {A : Around} {E : Value → Shared → Prop} {s : Shared}
end
/-! ### the walk -/
abbrev VR := Bool × Addr × List V
/-- rows as values, and as they stand in the heap -/
def RB (h : Heap) : List VR → List ZR → Prop
  | [], bs => bs = []
  | r :: rs, bs => ∃ b cs, bs = b :: cs ∧ b.1 = r.1 ∧ b.2.1 = r.2.1 ∧ SqAt b.1 h b.2.1 b.2.2 ∧ Vals r.2.2 b.2.2.toList ∧ RB h rs cs
section
variable {h : Heap}
theorem RB.len : ∀ {rs : List VR} {bs : List ZR}, RB h rs bs → bs.length = rs.length
  | [], bs, e => by
    have e : bs = [] := e
    subst e; rfl
  | r :: rs, bs, e => by
    obtain ⟨b, cs, rfl, _, _, _, _, q⟩ := e
    simp [RB.len q]
theorem RB.get : ∀ {rs : List VR} {bs : List ZR} {k : Nat} {r : VR}, RB h rs bs → rs[k]? = some r → ∃ b, bs[k]? = some b ∧ b.1 = r.1 ∧ b.2.1 = r.2.1
  | r :: rs, bs, 0, r', e, hk => by
    cases hk
    obtain ⟨b, cs, rfl, e1, e2, _⟩ := e
    exact ⟨b, rfl, e1, e2⟩
  | r :: rs, bs, k + 1, r', e, hk => by
    obtain ⟨b, cs, rfl, _, _, _, _, q⟩ := e
    exact RB.get (k := k) q hk
end
end FL

set_option maxHeartbeats 2000000
/-! FL45: any of lists and tuples of data. -/
namespace FL
open PySem PySem.Spec PyProof.Rows L2
section
variable {X : Cx}
end
end FL

set_option maxHeartbeats 2000000
/-! FL46: zip(a, b) walked by one name. -/
namespace FL
open PySem PySem.Spec PyProof.Rows L2 FL.ZN
end FL

set_option maxHeartbeats 2000000
/-! FL47: dict comprehensions whose keys are tuples, of one and of two clauses: what the model does. -/
namespace FL
open PySem PySem.Spec PyProof.Rows L2
section
variable {X : Cx}
end
section
variable {prog : Program} {w : World} {A : Around} {R : Result → Shared → Prop} {s : Shared} {kx vx t0 i0 t1 i1 : Expr} {ifs0 ifs1 : List Expr} {scope : Scope} {pos : Pos} {it : Value} {D : Addr} {env : PySem.Env}
end

section
variable {X : Cx}
end
end FL

set_option maxHeartbeats 2000000
/-! FL48: {k: v for x in a if p [for y in b if q]}, the keys tuples. -/
namespace FL
open PySem PySem.Spec PyProof.Rows L2
def keyTT (t : T) : Option (List L2.Key) := match t with
  | .tup us => keysT us
  | _ => none
theorem keyTT_rep {K : PySem.W.Frag} {mg : Str → Option Value} {F : Hp} {t : T} {v : V} {k : List L2.Key} (r : Rep K mg F t v) (e : keyTT t = some k) : ∃ b, v = .ref b ∧ F b = some (.tup (k.map kV)) := by
  cases t <;> simp only [keyTT, reduceCtorEq] at e
  obtain ⟨a, vs, rfl, e1, e2⟩ := r
  rw [keysT_rep e2 e] at e1
  exact ⟨a, rfl, e1⟩
section
variable {X : Cx} {E : XK} {fk fv : M T}
end
end FL

set_option maxHeartbeats 2000000
/-! FL49: the keys of a dict, where they are tuples. -/
namespace FL
open PySem PySem.Spec PyProof.Rows L2
def tupKey (k : List L2.Key) : T := .tup (k.map tKey)
theorem reps_tkeys {K : PySem.W.Frag} {mg : Str → Option Value} {F : Hp} : ∀ k : List L2.Key, Reps K mg F (k.map tKey) (k.map kV)
  | [] => .nil
  | k :: ks => .cons tKey_rep (reps_tkeys ks)
section
variable {X : Cx} {k : Bk} {F H : Hp} {ρ : FL.Env} {σ : L2.St}
open Classical in
/-- tuples that stand in the heap are trees -/
noncomputable def addT (F H : Hp) (bs : List Addr) : Hp := fun a => if a ∈ bs then H a else F a
theorem addT_in {bs : List Addr} {a : Addr} (h : a ∈ bs) : addT F H bs a = H a := by unfold addT; exact if_pos h
theorem addT_out {bs : List Addr} {a : Addr} (h : a ∉ bs) : addT F H bs a = F a := by unfold addT; exact if_neg h
theorem addT_same {bs : List Addr} (s : Same F H) : Same F (addT F H bs) := fun a o e => by
  by_cases m : a ∈ bs
  · rw [addT_in m]; exact s _ _ e
  · rw [addT_out m]; exact e
theorem RS.addT {bs : List Addr} (R : RSk X k F ρ σ H) (ht : ∀ b ∈ bs, ∃ vs, H b = some (.tup vs)) : RSk X k (FL.addT F H bs) ρ σ H := by
  have sF := addT_same (bs := bs) R.fh
  have out : ∀ a o, H a = some o → (∀ vs, o ≠ .tup vs) → a ∉ bs := fun a o e n m => by
    obtain ⟨vs, e2⟩ := ht a m
    rw [e] at e2
    exact n vs (Option.some.inj e2)
  obtain ⟨α, h1, h2⟩ := R.ex
  refine ⟨R.len, fun a o e => ?_, R.bh, R.f0.trans sF, fun a o e => ?_, R.pt, ⟨R.tb.x, fun P q => ?_, R.tb.b⟩, α, fun i x hx => ?_, h2⟩
  · by_cases m : a ∈ bs
    · rw [addT_in m] at e; exact e
    · rw [addT_out m] at e; exact R.fh _ _ e
  · by_cases m : a ∈ bs
    · rw [addT_in m] at e
      obtain ⟨vs, e2⟩ := ht a m
      rw [e2] at e
      exact .inr (.inr ⟨vs, (Option.some.inj e).symm⟩)
    · rw [addT_out m] at e; exact R.fr _ _ e
  · rw [addT_out]
    · exact R.tb.f P q
    · intro m
      obtain ⟨vs, e2⟩ := ht P m
      obtain ⟨ps, z1, _⟩ := R.tb.x P q
      rw [z1] at e2; cases e2
  · have q := h1 i x hx
    cases x with
    | un => trivial
    | fz t => obtain ⟨v, a, b⟩ := q; exact ⟨v, a, b.mono sF⟩
    | raw n => exact q
    | ow o => obtain ⟨a, b, c, d, h, e1, e2⟩ := q; exact ⟨a, by rw [addT_out (out _ _ e1 e2.ntup)]; exact b, c, d, h, e1, e2.mono sF⟩
    | pa o => obtain ⟨a, b, c, d, h, e1, e2⟩ := q; exact ⟨a, by rw [addT_out (out _ _ e1 e2.ntup)]; exact b, c, d, h, e1, e2.mono sF⟩
theorem isKeys_tup {H : Hp} {kvs : List (List L2.Key × V)} {bs : List Addr} (h : IsKeys H kvs bs) : ∀ b ∈ bs, ∃ vs, H b = some (.tup vs) := by
  unfold IsKeys at h
  induction h with
  | nil => intro b m; cases m
  | @cons p q ps qs hq t ih =>
    intro b m
    rcases List.mem_cons.mp m with rfl | m
    · exact ⟨_, hq⟩
    · exact ih b m
theorem isKeys_reps {K : PySem.W.Frag} {mg : Str → Option Value} {F H : Hp} {kvs : List (List L2.Key × V)} {bs : List Addr} (h : IsKeys H kvs bs) (hf : ∀ b ∈ bs, F b = H b) : Reps K mg F (kvs.map fun p => tupKey p.1) (bs.map V.ref) := by
  unfold IsKeys at h
  induction h with
  | nil => exact .nil
  | @cons p q ps qs hq t ih =>
    refine .cons ⟨q, p.1.map kV, rfl, by rw [hf q List.mem_cons_self]; exact hq, reps_tkeys _⟩ (ih fun b m => hf b (List.mem_cons_of_mem _ m))
/-- the keys as trees -/
theorem RS.keys {kvs : List (List L2.Key × V)} {bs : List Addr} (R : RSk X k F ρ σ H) (h : IsKeys H kvs bs) : ∃ F', Same F F' ∧ RSk X k F' ρ σ H ∧ Reps X.K X.mg F' (kvs.map fun p => tupKey p.1) (bs.map V.ref) :=
  ⟨FL.addT F H bs, addT_same R.fh, R.addT (isKeys_tup h), isKeys_reps h fun b m => addT_in m⟩
end
section
variable {X : Cx} {E : XK} {e : Expr} {es : List Expr} {fs : M (List T)} {p pos : Pos}
end
end FL

set_option maxHeartbeats 2000000
/-! FL50: x = {k: v for ..}, the keys tuples. -/
namespace FL
open PySem PySem.Spec PyProof.Rows L2
section
variable {X : Cx}
end
section
variable {X : Cx} {E : XK} {a : Expr} {fa : M T} {pos p : Pos} {x : Str} {i : Nat}
end
end FL

set_option maxHeartbeats 2000000
/-! FL51: sorted(d), the keys tuples. -/
namespace FL
open PySem PySem.Spec PyProof.Rows L2
def tupD (k : List L2.Key) : PyData := .tuple (k.map keyD)
theorem dp_key {K : PySem.W.Frag} {H : Hp} (k : L2.Key) : Dp K H (kV k) (keyD k) := by cases k <;> constructor
theorem dp_keys {K : PySem.W.Frag} {H : Hp} : ∀ ks : List L2.Key, DpAll K H (ks.map kV) (ks.map keyD)
  | [] => .nil
  | k :: ks => .cons (dp_key k) (dp_keys ks)
section
variable {X : Cx}
def rSortDt : List V → Hp → VK → Prop := fun vs H Q => ∃ (a : Addr) (kvs : List (List L2.Key × V)), vs = [V.ref a] ∧ H a = some (.dT kvs) ∧ PySem.W.AllAlike ((kvs.map (·.1)).map tupD) ∧ PySem.W.Sortable ((kvs.map (·.1)).map tupD) ∧ (∀ k ∈ kvs.map (·.1), (tupD k).depth ≤ 64) ∧
  ∀ (q : Addr) (L : List (List L2.Key × Addr)), H q = none → L.map (·.1) = kvs.map (·.1) → (∀ p ∈ L, H p.2 = some (.tup (p.1.map kV))) → Q (.ref q) (upd H q (.lst ((L.mergeSort fun a b => PySem.W.dataLe false (fun p => tupD p.1) a b).map fun p => V.ref p.2)))
theorem each_zip {us : List Value} : ∀ {L : List (List L2.Key × Addr)}, us = (L.map fun p => Value.ref p.2) → PySem.W.EachIs (fun u p => u = Value.ref p.2) us L
  | [], e => by subst e; exact .nil
  | p :: L, e => by subst e; exact .cons rfl (each_zip rfl)
theorem vals_zip : ∀ {us : List Value} {L : List (List L2.Key × Addr)}, PySem.W.EachIs (fun u p => u = Value.ref p.2) us L → Vals (L.map fun p => V.ref p.2) us
  | _, _, .nil => .nil
  | _, _, .cons h t => .cons h (vals_zip t)
theorem cr_sortedDt (hc : X.calm = true) (hu : X.A.units + 66 < cLine) : CallR X (.builtin "sorted") rSortDt := by
  intro pins s σ H vs us Q I r h
  obtain ⟨a, kvs, rfl, hk, hal, hso, hdp, q⟩ := h
  rw [Vals.ref1 r]
  obtain ⟨z, hs, ks, pr, o, es, ep, ho, hx, hdt, he, hn⟩ := (show ObjOk X.prog X.w H s.heap a (.dT kvs) from I.hok a _ hk)
  have l1 : es.size = ks.length := size_of_entries he
  have l2 : kvs.length = ks.length := Paired.length pr
  refine Calls.call_function_entry kind_sorted plain_sorted entry_sorted (args_sorted1 _) ?_
  unfold Builtin.«sorted»
  refine wpAny_bind (m := checkCount "sorted" 1 1 _) (wpAny_pure ?_)
  refine wpAny_bind (collect_src (A := X.A.in1) (kdl_raw hs hx hdt) (I.ok.hd hc) ho (by omega) fun h' tk acc hkeep hgt it => ?_)
  have ea : acc.toList = ks.map fun x => Value.ref x.2.1 := by
    have hl : acc.toList.length = ks.length := by rw [Array.length_toList, it.1]; exact l1
    apply List.ext_getElem?
    intro j
    rw [List.getElem?_map]
    cases hj : acc.toList[j]? with
    | none =>
      have h1 := List.getElem?_eq_none_iff.mp hj
      rw [List.getElem?_eq_none (by omega)]
      all_goals rfl
    | some v =>
      obtain ⟨en, hen, hv⟩ := it.2 j v (by rw [← Array.getElem?_toList]; exact hj)
      have qe := entry_at he j
      rw [hen] at qe
      cases hb : ks[j]? with
      | none =>
        rw [hb] at qe
        exact nomatch (show some en = none from qe)
      | some b =>
        rw [hb] at qe
        have e2 : en = entryOfKey (tupleKind (mixKind X.prog X.w)) b := Option.some.inj qe
        rw [hv, e2]
        all_goals rfl
  let L : List (List L2.Key × Addr) := ks.map fun x => (x.1, x.2.1)
  have eL : acc.toList = L.map fun p => Value.ref p.2 := by rw [ea, List.map_map]; rfl
  have key : ∀ {l : List (List L2.Key × V)} {m : List (List L2.Key × Addr × Value)}, KT H l m → (m.map fun x => (x.1, x.2.1)).map (·.1) = l.map (·.1) ∧ ∀ p ∈ m.map (fun x => (x.1, x.2.1)), H p.2 = some (.tup (p.1.map kV)) := fun {l m} t => by
    induction t with
    | nil => exact ⟨rfl, fun p m => by cases m⟩
    | @cons p q ps qs hq t ih =>
      refine ⟨?_, fun y m => ?_⟩
      · simp only [List.map_cons]
        rw [ih.1, hq.1]
      · rw [List.map_cons] at m
        rcases List.mem_cons.mp m with rfl | m
        · show H q.2.1 = some (.tup (q.1.map kV))
          rw [← hq.1]; exact hq.2.1
        · exact ih.2 y m
  obtain ⟨k1, k2⟩ := key pr
  have hlen : acc.toList.length = kvs.length := by rw [eL, List.length_map, List.length_map]; exact l2.symm
  have hLl : L.length = kvs.length := by rw [List.length_map]; exact l2.symm
  refine wpAny_bind (wpAny_newList ?_ (by rw [hlen]; exact z))
  have each : PySem.W.EachIs (fun u p => u = Value.ref p.2 ∧ p ∈ L) acc.toList L := each_mem (each_zip eL) fun b hb v e => ⟨e, hb⟩
  have hnew : (h'.push { cls := .type "list", data := .seq acc.toList.toArray }).get? h'.objs.size = some (seqObj "list" acc.toList.toArray 0) := Heap.get?_push_size _ rfl
  have hmap : L.map (fun p => tupD p.1) = (kvs.map (·.1)).map tupD := by
    have e1 : ∀ M : List (List L2.Key × Addr), M.map (fun p => tupD p.1) = (M.map (·.1)).map tupD := fun M => by rw [List.map_map]; rfl
    rw [e1]
    exact congrArg (List.map tupD) k1
  have hal' : PySem.W.AllAlike (L.map fun p => tupD p.1) := by rw [hmap]; exact hal
  have hso' : PySem.W.Sortable (L.map fun p => tupD p.1) := by rw [hmap]; exact hso
  have er : PySem.W.EachIs (fun v b => ∃ as, Reads (h'.push { cls := .type "list", data := .seq acc.toList.toArray }) v (tupD b.1) as ∧ h'.objs.size ∉ as) acc.toList L := each_mem each fun b hb v e => by
    obtain ⟨as, r⟩ := Dp.reads I (tupD b.1) (.ref b.2) v (.tup (SqT.of (k2 b hb)) (dp_keys _)) e.1
    have r2 := PyProof.Rows.Reads.keeps hkeep r
    refine ⟨as, PyProof.Rows.Reads.keeps (fun c o e => Heap.get?_push_of_some _ e) r2, fun m => ?_⟩
    obtain ⟨o2, e2⟩ := PyProof.On.reads_mem_get r2 _ m
    exact Nat.lt_irrefl _ (Heap.lt_size e2)
  refine wpAny_bind (wpAny_holding (wpAny_mono (PySem.W.list_sort_data (A := X.A.in1) (enc := fun p => tupD p.1) (s := { s with heap := h'.push { cls := .type "list", data := .seq acc.toList.toArray }, toks := tk }) (R := fun u p => u = Value.ref p.2 ∧ p ∈ L) (vs := acc.toList) (bs := L) hnew each er hal' hso' (by rw [hLl]; exact z) (fun b hb => by
      have hb1 : b.1 ∈ kvs.map (·.1) := by rw [← k1]; exact List.mem_map_of_mem hb
      have := hdp b.1 hb1
      show X.A.units + 1 + 1 + (tupD b.1).depth < cLine
      omega)
    (Q := fun _ s' => EP X pins σ Q (.ref h'.objs.size) s') (fun out ho hout => ?_)) (fun _ s' x => ?_) fun _ _ e => e))
  · obtain ⟨e0, he⟩ := PyProof.Rows.sortedHeap_at (out := List.toArray out) hnew
    have hz : (((L.mergeSort fun a b => PySem.W.dataLe false (fun p => tupD p.1) a b).map fun p => V.ref p.2)).length ≤ sizeLine := by rw [List.length_map, List.length_mergeSort, hLl]; exact z
    have hkp : ∀ b o, s.heap.get? b = some o → (PyProof.Rows.sortedHeap (h'.push { cls := .type "list", data := .seq acc.toList.toArray }) h'.objs.size acc.toList (List.toArray out)).get? b = some o := fun b o hb => by
      have h1 := hkeep b o hb
      have hlt : b < h'.objs.size := Heap.lt_size h1
      rw [PyProof.Rows.sortedHeap_old (Nat.ne_of_lt hlt) (by exact Nat.lt_of_lt_of_eq (Nat.lt_succ_of_lt hlt) (Heap.size_push ..).symm)]
      exact Heap.get?_push_of_some _ h1
    have hge : s.heap.objs.size ≤ h'.objs.size := Nat.le_of_lt hgt
    exact ⟨.ref _, upd H h'.objs.size (.lst _), I.laid (t' := tk) hkp hge ⟨hz, out, e0, vals_zip (each_mem hout fun b _ v e => e.1), he⟩, rfl, q _ L (I.hok.fresh hge) k1 k2⟩
  · exact wpAny_pure ⟨_, rfl, x⟩
end
end FL

set_option maxHeartbeats 2000000
/-! FL52: sorted(d) as trees, the keys tuples. -/
namespace FL
open PySem PySem.Spec PyProof.Rows L2
def sortDtT (t : T) : Option O := match t with
  | .dt ks ts => if ks.length = ts.length then (if okSort (ks.map tupD) = true then some (.l ((srt (fun a b => PySem.W.dataLe false tupD a b) ks).map tupKey)) else none) else none
  | _ => none
theorem reps_of_at {K : PySem.W.Frag} {mg : Str → Option Value} {F : Hp} : ∀ {L : List (List L2.Key × Addr)}, (∀ p ∈ L, F p.2 = some (.tup (p.1.map kV))) → Reps K mg F (L.map fun p => tupKey p.1) (L.map fun p => V.ref p.2)
  | [], _ => .nil
  | p :: L, h => .cons ⟨p.2, p.1.map kV, rfl, h p List.mem_cons_self, reps_tkeys _⟩ (reps_of_at fun q m => h q (List.mem_cons_of_mem _ m))
section
variable {X : Cx} {E : XK} {e : Expr} {es : List Expr} {fs : M (List T)} {p pos : Pos}
theorem fo_sortedDT (hc : X.calm = true) (hu : X.A.units + 66 < cLine) (hg : Gl X "sorted") (hm : X.mg "sorted" = none) (hv : bootBuiltins "sorted" = some (.builtin "sorted")) (ha : FA X E (e :: es) fs)
    (he : starEach (e :: es) X.env = (false, eval e X.env) :: starEach es X.env := by rfl) (hpl : (backTo pos (starEach es X.env)).any (·.1) = false := by rfl) : FO X E (.Call (.Name "sorted" p) (e :: es) [] pos) (calO (one1 sortDtT) fs) := by
  refine pe_imp (pe_callB (cr_sortedDt hc hu) hg hm hv ha (by decide) (by decide) he hpl) fun σ H Q h => ?_
  obtain ⟨k, F, ρ, R, h⟩ := h
  refine ⟨k, F, ρ, R, (Den.bind h).imp fun ts ρ1 h1 vs F1 H1 R1 s1 r1 => ?_⟩
  obtain ⟨o, eo, q⟩ := Den.lift h1
  unfold one1 at eo
  split at eo
  · unfold sortDtT at eo
    split at eo
    · rename_i ks ts0
      split at eo
      · split at eo
        · rename_i hok
          cases eo
          obtain ⟨v, rfl, a, kvs, rfl, e1, e2, e3⟩ := r1.one_of
          obtain ⟨g1, g2, g3⟩ := okSort_spec hok
          refine ⟨a, kvs, rfl, R1.fh _ _ e1, by rw [e2]; exact g1, by rw [e2]; exact g2, fun k' m => ?_, fun p0 L np l1 l2 => ?_⟩
          · rw [e2] at m
            exact g3 _ (List.mem_map_of_mem m)
          · have hin : ∀ p ∈ (L.mergeSort fun a b => PySem.W.dataLe false (fun p => tupD p.1) a b), p ∈ L := fun p m => (List.mergeSort_perm L _).mem_iff.mp m
            have ht : ∀ b ∈ L.map (·.2), ∃ vs, H1 b = some (.tup vs) := fun b m => by
              obtain ⟨p, hp, rfl⟩ := List.mem_map.mp m
              exact ⟨_, l2 p hp⟩
            have R2 := R1.addT ht
            have s2 := addT_same (bs := L.map (·.2)) R1.fh
            have r2 : Reps X.K X.mg (FL.addT F1 H1 (L.map (·.2))) ((L.mergeSort fun a b => PySem.W.dataLe false (fun p => tupD p.1) a b).map fun p => tupKey p.1) ((L.mergeSort fun a b => PySem.W.dataLe false (fun p => tupD p.1) a b).map fun p => V.ref p.2) := reps_of_at fun p m => by
              rw [addT_in (List.mem_map_of_mem (hin p m))]
              exact l2 p (hin p m)
            have e5 : (L.mergeSort fun a b => PySem.W.dataLe false (fun p => tupD p.1) a b).map (fun p => tupKey p.1) = (srt (fun a b => PySem.W.dataLe false tupD a b) ks).map tupKey := by
              rw [srt_eq]
              have e6 : (L.mergeSort fun a b => PySem.W.dataLe false (fun p => tupD p.1) a b).map (·.1) = (L.map (·.1)).mergeSort (fun a b => PySem.W.dataLe false tupD a b) := List.map_mergeSort fun a _ b _ => rfl
              have e7 : ∀ M : List (List L2.Key × Addr), M.map (fun p => tupKey p.1) = (M.map (·.1)).map tupKey := fun M => by rw [List.map_map]; rfl
              rw [e7, e6, l1, e2]
            rw [e5] at r2
            exact q _ (FL.addT F1 H1 (L.map (·.2))) _ (R2.newO (o := .l _) ⟨_, rfl, r2⟩ np) (s1.trans s2) R1.len
        · cases eo
      · cases eo
    · cases eo
  · cases eo
end
end FL

set_option maxHeartbeats 2000000
/-! FL53: d.setdefault(k, v), the keys tuples. -/
namespace FL
open PySem PySem.Spec PyProof.Rows L2
section
variable {X : Cx} {pins : List (Addr × Obj)} {σ : L2.St} {H : Hp} {s : Shared} {a b : Addr} {r : Value} {d : V} {E : Value → Shared → Prop}
theorem d_setdT {kvs : List (List L2.Key × V)} {k : List L2.Key} {Q : Value → Shared → Prop} (hu : X.A.units + 1 < cLine) (I : Inv X pins σ H s) (e : H a = some (.dT kvs)) (eb : H b = some (.tup (k.map kV))) (rd : RelV d r) (hl : kvs.length < sizeLine)
    (h1 : ∀ v, valV kvs k = some v → ∀ (w' : Value) (s' : Shared), Inv X pins σ H s' → RelV v w' → Q w' s') (h2 : valV kvs k = none → ∀ (w' : Value) (s' : Shared), Inv X pins σ (upd H a (.dT (putK kvs k d))) s' → RelV d w' → Q w' s') :
    wpAny (model X.prog X.w) X.A (call (.builtin "dict.setdefault") [.ref a, .ref b, r]) Q E s := by
  obtain ⟨z, hd, xs, rel, dd⟩ := dt_of I.hok e
  have hz : xs.length ≤ sizeLine := by rw [← Paired.length rel]; exact z
  refine call_setdefault_heap (hsz := hz) (tupleKind_room_in1 hu) (key_of I.hok eb) hd dd (fun p hp => ?_) fun hn h' dd' hs => ?_
  · have q := rel.val k
    rw [hp] at q
    cases q0 : valV kvs k with
    | none =>
      rw [q0] at q
      exact (show False from q).elim
    | some v0 =>
      rw [q0] at q
      exact h1 v0 q0 _ _ (I.tok _) q
  · have q := rel.val k
    rw [hn] at q
    cases q0 : valV kvs k with
    | some v0 =>
      rw [q0] at q
      exact (show False from q).elim
    | none =>
      have hl2 : (putK kvs k d).length ≤ sizeLine := by
        have := length_putK kvs k d
        omega
      obtain ⟨q, es, ep, hq, g2, g3, g4, _, g5⟩ := dd'
      refine h2 q0 _ _ (d_write I (by rw [e]; exact True.intro) hs ⟨q, hq⟩ ⟨hl2, hd, _, (rel.put k eb rd).keeps fun c ys ec => ?_, q, es, ep, hq, g2, g3, g4, g5⟩) rd
      rw [upd_ne (ne_of ec e (fun z => nomatch z))]
      exact ec
end
def tDSetdT (td ty tx : TE) : TE := fun σ H Q => td σ H fun x H1 => ∃ a, x = .ref a ∧ IsD H1 a ∧ ty σ H1 fun y H2 => tx σ H2 fun z H3 => ∃ (kvs : List (List L2.Key × V)) (k : List L2.Key) (b : Addr), H3 a = some (.dT kvs) ∧ y = .ref b ∧ H3 b = some (.tup (k.map kV)) ∧ kvs.length < sizeLine ∧
  (∀ v, valV kvs k = some v → Q v H3) ∧ (valV kvs k = none → Q z (upd H3 a (.dT (putK kvs k z))))
section
variable {X : Cx} {o e f : Expr} {td ty tx : TE} {apos cpos : Pos}
theorem pe_dsetdT (hu : X.A.units + 1 < cLine) (ho : PE X o td) (he : PE X e ty) (hf : PE X f tx) (m : M2 X o "setdefault" apos e f cpos) : PE X (.Call (.Attribute o "setdefault" apos) [e, f] [] cpos) (tDSetdT td ty tx) := by
  refine ⟨fun pins s σ H Q I h => ?_⟩
  refine wpAny_Call_method m.base m.few m.line PySem.F.plainAttrs_dict PySem.F.slot_dict_setdefault PySem.F.type_dict_setdefault (thn (ho.run pins s σ H _ I h) fun u s1 ⟨x, H1, I1, rx, a, ex, d, q1⟩ => ?_)
  subst ex
  obtain rfl : u = Value.ref a := rx
  obtain ⟨t1, t2, _⟩ := isD_at I1 d
  refine ⟨t1, t2, ?_⟩
  rw [m.trees]
  refine Calls.callWith_builtin rfl (Calls.evalArgs_plain (Calls.spliced_cons (thn (he.run pins s1 σ H1 _ I1 q1) fun iv s2 ⟨y, H2, I2, ry, q2⟩ =>
    Calls.spliced_cons (thn (hf.run pins s2 σ H2 _ I2 q2) fun fv s3 ⟨z, H3, I3, rz, kvs, k, b, ea, ey, eb, hl, q3, q4⟩ => Calls.spliced_nil ?_))))
  subst ey
  obtain rfl : iv = Value.ref b := ry
  exact d_setdT hu I3 ea eb rz hl (fun v hv w' s4 I4 rw' => ⟨v, _, I4, rw', q3 v hv⟩) fun hn w' s4 I4 rw' => ⟨z, _, I4, rw', q4 hn⟩
end
section
variable {X : Cx} {E : XK} {x : Str} {i : Nat} {b b2 : Expr} {fb fc : M T} {p apos cpos : Pos}
end
end FL

set_option maxHeartbeats 2000000
/-! FL54: zip(a, b) as the argument of dict(). -/
namespace FL
open PySem PySem.Spec L2 PyProof.Rows
section
variable {prog : Program} {w : World}
end
end FL

set_option maxHeartbeats 2000000
/-! FL55: dict(zip(a, b)), a's items tuples, all different. -/
namespace FL
open PySem PySem.Spec PyProof.Rows L2
end FL

set_option maxHeartbeats 2000000
/-! FL56: dict(zip(a, b)) as trees. -/
namespace FL
open PySem PySem.Spec PyProof.Rows L2
section
variable {X : Cx} {E : XK} {e e2 : Expr} {fs : M (List T)} {p p2 q pos : Pos}
end
end FL

set_option maxHeartbeats 2000000
/-! HL1: a store of lists that are changed through several names; expressions that read it. -/
namespace FL.HL
open PySem PySem.Spec PyProof.Rows L2 FL
/-- a value in the store: a tree that stays, or the n-th list of the store -/
inductive HV where
  | t (x : T) | r (n : Nat)
abbrev Sto := List (List HV)
def HRep (K : PySem.W.Frag) (mg : Str → Option Value) (F : Hp) (al : List Addr) : HV → V → Prop
  | .t x, v => Rep K mg F x v
  | .r n, v => ∃ a, al[n]? = some a ∧ v = .ref a
def HReps (K : PySem.W.Frag) (mg : Str → Option Value) (F : Hp) (al : List Addr) : List HV → List V → Prop
  | [], vs => vs = []
  | x :: xs, vs => ∃ v r, vs = v :: r ∧ HRep K mg F al x v ∧ HReps K mg F al xs r
section
variable {K : PySem.W.Frag} {mg : Str → Option Value} {F F' : Hp} {al al' : List Addr}
theorem HRep.mono {x : HV} {v : V} (h : HRep K mg F al x v) (s : Same F F') : HRep K mg F' al x v := by
  cases x with
  | t x => exact (show Rep K mg F x v from h).mono s
  | r n => exact h
theorem HReps.mono (s : Same F F') : ∀ {xs : List HV} {vs : List V}, HReps K mg F al xs vs → HReps K mg F' al xs vs
  | [], _, h => h
  | _ :: _, _, ⟨v, r, e, h, hs⟩ => ⟨v, r, e, h.mono s, HReps.mono s hs⟩
theorem HReps.length : ∀ {xs : List HV} {vs : List V}, HReps K mg F al xs vs → xs.length = vs.length
  | [], vs, h => by
    have e : vs = [] := h
    subst e; rfl
  | _ :: _, _, ⟨v, r, e, _, hs⟩ => by rw [e, List.length_cons, List.length_cons, HReps.length hs]
theorem HReps.get : ∀ {xs : List HV} {vs : List V} {i : Nat} {x : HV}, HReps K mg F al xs vs → xs[i]? = some x → ∃ v, vs[i]? = some v ∧ HRep K mg F al x v
  | _ :: _, _, 0, x, ⟨v, r, e, h, _⟩, hx => by
    cases hx; subst e; exact ⟨v, rfl, h⟩
  | _ :: _, _, i + 1, x, ⟨v, r, e, _, hs⟩, hx => by
    subst e; exact HReps.get (i := i) hs hx
theorem HReps.set {x : HV} {v : V} (hx : HRep K mg F al x v) : ∀ {xs : List HV} {vs : List V} (i : Nat), HReps K mg F al xs vs → HReps K mg F al (xs.set i x) (vs.set i v)
  | [], vs, _, h => by
    have e : vs = [] := h
    subst e; exact rfl
  | _ :: _, _, 0, ⟨u, r, e, h, hs⟩ => by subst e; exact ⟨v, r, rfl, hx, hs⟩
  | _ :: _, _, i + 1, ⟨u, r, e, h, hs⟩ => by subst e; exact ⟨u, _, rfl, h, HReps.set hx i hs⟩
end
/-- the store stands in the heap, among what a reading keeps -/
structure KS0 (K : PySem.W.Frag) (mg : Str → Option Value) (k : Bk) (F : Hp) (al : List Addr) (μ : Sto) : Prop where
  rw : k.rw = al.map V.ref
  nd : al.Nodup
  len : al.length = μ.length
  pm : k.pm = none
  st : ∀ (n : Nat) (a : Addr) (xs : List HV), al[n]? = some a → μ[n]? = some xs → k.F0 a = none ∧ ∃ ws, k.B a = some (.lst ws) ∧ HReps K mg F al xs ws
abbrev KS (X : Cx) (k : Bk) (F : Hp) (al : List Addr) (μ : Sto) : Prop := KS0 X.K X.mg k F al μ
section
variable {X : Cx} {k : Bk} {F F' : Hp} {al : List Addr} {μ : Sto}
theorem KS.mono (S : KS X k F al μ) (s : Same F F') : KS X k F' al μ := ⟨S.rw, S.nd, S.len, S.pm, fun n a xs h1 h2 => by
  obtain ⟨q, ws, b, r⟩ := S.st n a xs h1 h2
  exact ⟨q, ws, b, r.mono s⟩⟩
/-- of a raw slot: its address -/
theorem KS.raw {ρ : Env} {σ : L2.St} {H : Hp} {i n : Nat} (S : KS X k F al μ) (R : RSk X k F ρ σ H) (h : ρ[i]? = some (.raw n)) : ∃ a, al[n]? = some a ∧ σ[i]? = some (some (.ref a)) := by
  obtain ⟨α, h1, _⟩ := R.ex
  obtain ⟨v, e1, e2⟩ := h1 i _ h
  rw [S.rw, List.getElem?_map, Option.map_eq_some_iff] at e2
  obtain ⟨a, e, rfl⟩ := e2
  exact ⟨a, e, e1⟩
/-- the n-th list, in the heap -/
theorem KS.cell {ρ : Env} {σ : L2.St} {H : Hp} {n : Nat} {xs : List HV} (S : KS X k F al μ) (R : RSk X k F ρ σ H) (h : μ[n]? = some xs) : ∃ a ws, al[n]? = some a ∧ H a = some (.lst ws) ∧ HReps X.K X.mg F al xs ws := by
  have hl : n < al.length := by rw [S.len]; exact (List.getElem?_eq_some_iff.mp h).1
  obtain ⟨_, ws, b, r⟩ := S.st n al[n] xs (List.getElem?_eq_getElem hl) h
  exact ⟨al[n], ws, List.getElem?_eq_getElem hl, R.bh _ _ b, r⟩
end
abbrev HM (α : Type) := Sto → M α
def tHT (X : Cx) (E : XK) (f : HM Bool) : TT := fun σ H Q => ∃ k al F ρ μ, RSk X k F ρ σ H ∧ KS X k F al μ ∧ Den (f μ ρ) (fun b ρ' => ∀ F' H', RSk X k F' ρ' σ H' → Same F F' → Q b H') (XOk X.K X.mg k E)
abbrev HT (X : Cx) (E : XK) (e : Expr) (f : HM Bool) : Prop := PT X e (tHT X E f)
section
variable {X : Cx} {E : XK} {a b c e : Expr} {es : List Expr} {fa fb f : HM T} {fr : HM Nat} {fs : HM (List T)} {f0 : M T} {pos : Pos}
/-- len of a list of the store -/
def hlen (fr : HM Nat) : HM T := fun μ ρ => (fr μ ρ).bind fun n ρ => match μ[n]? with
  | some xs => .ok (.int xs.length) ρ
  | none => .bad
end
end FL.HL

set_option maxHeartbeats 2000000
/-! HL2: statements over the store. -/
namespace FL.HL
open PySem PySem.Spec PyProof.Rows L2 FL
/-- what lies outside the store is as it was; new lists stand behind the old ones -/
structure Ext (k : Bk) (al : List Addr) (k' : Bk) (al' : List Addr) : Prop where
  pre : ∃ b, al' = al ++ b
  f0 : k'.F0 = k.F0
  pm : k'.pm = k.pm
  out : ∀ a, a ∉ al' → k'.B a = k.B a
  new : ∀ a, a ∈ al' → a ∉ al → k.B a = none
theorem Ext.refl (k : Bk) (al : List Addr) : Ext k al k al := ⟨⟨[], (List.append_nil _).symm⟩, rfl, rfl, fun _ _ => rfl, fun _ m n => absurd m n⟩
theorem Ext.trans {k k1 k2 : Bk} {al al1 al2 : List Addr} (h : Ext k al k1 al1) (g : Ext k1 al1 k2 al2) : Ext k al k2 al2 := by
  obtain ⟨b, e⟩ := h.pre
  obtain ⟨c, e'⟩ := g.pre
  have up : ∀ a, a ∉ al2 → a ∉ al1 := fun a n m => n (by rw [e']; exact List.mem_append_left _ m)
  refine ⟨⟨b ++ c, by rw [e', e, List.append_assoc]⟩, g.f0.trans h.f0, g.pm.trans h.pm, fun a n => ?_, fun a m n => ?_⟩
  · rw [g.out a n, h.out a (up a n)]
  · by_cases m1 : a ∈ al1
    · exact h.new a m1 n
    · rw [← h.out a m1]; exact g.new a m m1
/-- what lies outside the store stays -/
theorem Ext.keep {k k1 : Bk} {al al1 : List Addr} (h : Ext k al k1 al1) {a : Addr} {o : HO} (e : k.B a = some o) (n : a ∉ al) : k1.B a = some o := by
  by_cases m : a ∈ al1
  · rw [h.new a m n] at e; cases e
  · rw [h.out a m]; exact e
/-- the trees, and the store's lists -/
def onF (al : List Addr) (F H : Hp) : Hp := fun a => if a ∈ al then H a else F a
inductive HFl where
  | nx | rt (v : HV) | rtT (vs : List HV) | bk | ct | rtF (t : T)
def PostH (X : Cx) (k : Bk) (al : List Addr) (F : Hp) (D : Ends) (r : HFl × Sto) (ρ' : Env) : Prop := match r with
  | (.nx, μ') => ∀ k' al' σ' F' H', Ext k al k' al' → RSk X k' F' ρ' σ' H' → KS X k' F' al' μ' → Same F F' → D.nx σ' H'
  | (.bk, μ') => ∀ k' al' σ' F' H', Ext k al k' al' → RSk X k' F' ρ' σ' H' → KS X k' F' al' μ' → Same F F' → D.bk σ' H'
  | (.ct, μ') => ∀ k' al' σ' F' H', Ext k al k' al' → RSk X k' F' ρ' σ' H' → KS X k' F' al' μ' → Same F F' → D.ct σ' H'
  | (.rt x, μ') => ∀ k' al' σ' F' H' v, Ext k al k' al' → RSk X k' F' ρ' σ' H' → KS X k' F' al' μ' → Same F F' → HRep X.K X.mg F' al' x v → D.rt v H'
  | (.rtT xs, μ') => ∀ k' al' σ' F' H' a vs, Ext k al k' al' → RSk X k' F' ρ' σ' H' → KS X k' F' al' μ' → Same F F' → HReps X.K X.mg F' al' xs vs → F' a = some (.tup vs) → D.rt (.ref a) H'
  | (.rtF t, μ') => ∀ k' al' σ' F' H', Ext k al k' al' → RSk X k' F' ρ' σ' H' → KS X k' F' al' μ' → Same F F' → ∀ v F3 H3, Same F3 H3 → Same (hideTab X.K X.mg H') H3 → Tb X.K X.mg F3 (hideTab X.K X.mg H') H3 → Same (onF al' F' H') F3 → (∀ a o, F3 a = some o → (∃ u, onF al' F' H' a = some u) ∨ NB (hideTab X.K X.mg H') a o) → Rep X.K X.mg F3 t v → D.rt v H3
theorem PostH.ext {X : Cx} {k k1 : Bk} {al al1 : List Addr} {F F1 : Hp} {D : Ends} {r : HFl × Sto} {ρ : Env} (e : Ext k al k1 al1) (s : Same F F1) (h : PostH X k al F D r ρ) : PostH X k1 al1 F1 D r ρ := by
  obtain ⟨fl, μ⟩ := r
  cases fl with
  | nx => exact fun k' al' σ' F' H' x R S s' => h k' al' σ' F' H' (e.trans x) R S (s.trans s')
  | bk => exact fun k' al' σ' F' H' x R S s' => h k' al' σ' F' H' (e.trans x) R S (s.trans s')
  | ct => exact fun k' al' σ' F' H' x R S s' => h k' al' σ' F' H' (e.trans x) R S (s.trans s')
  | rt y => exact fun k' al' σ' F' H' v x R S s' r => h k' al' σ' F' H' v (e.trans x) R S (s.trans s') r
  | rtT ys => exact fun k' al' σ' F' H' a vs x R S s' r t => h k' al' σ' F' H' a vs (e.trans x) R S (s.trans s') r t
  | rtF t => exact fun k' al' σ' F' H' x R S s' => h k' al' σ' F' H' (e.trans x) R S (s.trans s')
abbrev MH := Sto → M (HFl × Sto)
section
variable {X : Cx} {E : XK} {e c : Expr} {pos : Pos} {f0 : MS} {st : Stmt} {sts a b : List Stmt} {s1 s2 : MH} {g : HM Bool} {f : HM T}
def conv : Fl → HFl
  | .nx => .nx
  | .rt t => .rt (.t t)
  | .bk => .bk
  | .ct => .ct
def hsq (f g : MH) : MH := fun μ ρ => (f μ ρ).bind fun r ρ => match r with
  | (.nx, μ) => g μ ρ
  | r => .ok r ρ
end
end FL.HL

set_option maxHeartbeats 2000000
/-! HL3: loops over the store. -/
namespace FL.HL
open PySem PySem.Spec PyProof.Rows L2 FL
section
variable {X : Cx} {E : XK} {e c tg iter : Expr} {pos : Pos} {body : List Stmt} {src : HM (List T)} {src0 : M (List T)} {g : MG} {is : List Nat} {sb : MH} {gt : HM Bool}
end
end FL.HL

set_option maxHeartbeats 2000000
/-! HL4: slots given references; cells of the store written; new cells. -/
namespace FL.HL
open PySem PySem.Spec PyProof.Rows L2 FL
section
variable {X : Cx} {k : Bk} {F : Hp} {ρ : Env} {σ : L2.St} {H : Hp} {al : List Addr} {μ : Sto}
theorem KS.fresh {a b : Addr} {n : Nat} (S : KS X k F al μ) (R : RSk X k F ρ σ H) (na : H a = none) (h : al[n]? = some b) : b ≠ a := fun z => by
  subst z
  have hl : n < μ.length := by rw [← S.len]; exact (List.getElem?_eq_some_iff.mp h).1
  obtain ⟨_, ws, e, _⟩ := S.st n b μ[n] h (List.getElem?_eq_getElem hl)
  rw [R.bh _ _ e] at na; cases na
end
end FL.HL

set_option maxHeartbeats 2000000
/-! HL5: items of the store's lists as targets. -/
namespace FL.HL
open PySem PySem.Spec PyProof.Rows L2 FL
section
variable {X : Cx} {E : XK} {e i : Expr} {es : List Expr} {pos : Pos} {f : HM T} {fr : HM Nat} {fi : HM T} {fv : HM HV} {fs : HM (List HV)} {gs : List HV → HM Sto}
end
end FL.HL

set_option maxHeartbeats 2000000
/-! HL6: line[c] op= e. -/
namespace FL.HL
open PySem PySem.Spec PyProof.Rows L2 FL
section
variable {X : Cx} {E : XK} {b e o : Expr} {pos p2 : Pos} {fi f : HM T} {fr : HM Nat}
end
end FL.HL

set_option maxHeartbeats 2000000
/-! HL7: expressions that make lists of the store. -/
namespace FL.HL
open PySem PySem.Spec PyProof.Rows L2 FL
section
variable {X : Cx} {E : XK} {e : Expr} {es : List Expr} {f0 : M O} {fv : HM HV} {k : Bk} {F : Hp} {ρ : Env} {σ : L2.St} {H : Hp} {al : List Addr} {μ : Sto}
end
end FL.HL

set_option maxHeartbeats 2000000
/-! HL8: names given values of the store. -/
namespace FL.HL
open PySem PySem.Spec PyProof.Rows L2 FL
section
variable {X : Cx} {e : Expr} {pos : Pos} {fn : Sto → M (HV × Sto)} {k : Bk} {F : Hp} {ρ : Env} {σ : L2.St} {H : Hp} {al : List Addr} {μ : Sto}
def slot : HV → SV
  | .t t => .fz t
  | .r n => .raw n
end
end FL.HL

set_option maxHeartbeats 2000000
/-! HL9: lists of references walked. -/
namespace FL.HL
open PySem PySem.Spec PyProof.Rows L2 FL
section
variable {X : Cx} {iter : Expr} {pos : Pos} {body : List Stmt} {src : HM (List HV)} {sb : MH}
theorem HReps.append {K : PySem.W.Frag} {mg : Str → Option Value} {F : Hp} {al : List Addr} : ∀ {xs ys : List HV} {vs ws : List V}, HReps K mg F al xs vs → HReps K mg F al ys ws → HReps K mg F al (xs ++ ys) (vs ++ ws)
  | [], _, vs, _, h, g => by
    have q : vs = [] := h
    subst q; exact g
  | x :: xs, _, vs, ws, h, g => by
    obtain ⟨u, r, rfl, h1, h2⟩ := h
    exact ⟨u, r ++ ws, rfl, h1, HReps.append h2 g⟩
end
end FL.HL

set_option maxHeartbeats 2000000
/-! HL10: an expression that only reads the store: its lists are taken as trees meanwhile. -/
namespace FL.HL
open PySem PySem.Spec PyProof.Rows L2 FL
def opts {α : Type} : List (Option α) → Option (List α)
  | [] => some []
  | x :: r => match x, opts r with
    | some x, some r => some (x :: r)
    | _, _ => none
/-- a value of the store as a tree -/
def thaw (μ : Sto) : Nat → HV → Option T
  | _, .t x => some x
  | 0, .r _ => none
  | d + 1, .r n => match μ[n]? with
    | some xs => match opts (xs.map (thaw μ d)) with
      | some ts => some (.lst ts)
      | none => none
    | none => none
section
variable {K : PySem.W.Frag} {mg : Str → Option Value} {F : Hp} {al : List Addr}
end
section
variable {X : Cx} {k : Bk} {F F3 : Hp} {al : List Addr} {μ : Sto} {ρ ρ3 : Env} {σ σ3 : L2.St} {H H3 : Hp}
theorem KS.fn (S : KS X k F al μ) (R : RSk X k F ρ σ H) {a : Addr} (m : a ∈ al) : F a = none ∧ k.F0 a = none ∧ ∃ ws, k.B a = some (.lst ws) ∧ H a = some (.lst ws) := by
  obtain ⟨n, hn⟩ := List.getElem?_of_mem m
  have hl : n < μ.length := by rw [← S.len]; exact (List.getElem?_eq_some_iff.mp hn).1
  obtain ⟨q, ws, e, _⟩ := S.st n a μ[n] hn (List.getElem?_eq_getElem hl)
  refine ⟨?_, q, ws, e, R.bh _ _ e⟩
  cases z : F a with
  | none => rfl
  | some o =>
    rcases R.fr a o z with ⟨u, w⟩ | w | ⟨us, rfl⟩
    · rw [q] at w; cases w
    · rw [e] at w; cases w
    · have y := R.fh _ _ z
      rw [R.bh _ _ e] at y
      cases y
variable {E : XK} {e c : Expr} {es : List Expr} {f0 : M T} {g0 : M Bool} {fs0 : M (List T)} {o0 : M O}
end
end FL.HL

set_option maxHeartbeats 2000000
/-! HL11: new lists of new lists; names; items; append; ranges; returns; tests that change the store. -/
namespace FL.HL
open PySem PySem.Spec PyProof.Rows L2 FL
section
variable {K : PySem.W.Frag} {mg : Str → Option Value} {B F0 F F' : Hp} {pm : Option Addr} {rw rw0 : List V} {ρ ρ' ρ0 : Env} {σ σ' : L2.St} {H H' H0 : Hp} {vs : List Nat}
end
/-- as Ext, but for the cell D -/
structure ExtD (D : Addr) (k : Bk) (al : List Addr) (k' : Bk) (al' : List Addr) : Prop where
  pre : ∃ b, al' = al ++ b
  f0 : k'.F0 = k.F0
  pm : k'.pm = k.pm
  out : ∀ a, a ∉ al' → a ≠ D → k'.B a = k.B a
  new : ∀ a, a ∈ al' → a ∉ al → k.B a = none
theorem ExtD.step {D : Addr} {k k1 k2 : Bk} {al al1 al2 : List Addr} {o o' : HO} (h : ExtD D k al k1 al1) (g : Ext k1 al1 k2 al2) (e : k1.B D = some o) : ExtD D k al ⟨upd k2.B D o', k2.F0, k2.pm, k2.rw⟩ al2 := by
  obtain ⟨b, eb⟩ := h.pre
  obtain ⟨c, ec⟩ := g.pre
  have up : ∀ a, a ∉ al2 → a ∉ al1 := fun a n m => n (by rw [ec]; exact List.mem_append_left _ m)
  refine ⟨⟨b ++ c, by rw [ec, eb, List.append_assoc]⟩, g.f0.trans h.f0, g.pm.trans h.pm, fun a n ne => ?_, fun a m n => ?_⟩
  · show upd k2.B D o' a = k.B a
    rw [upd_ne ne, g.out a n, h.out a (up a n) ne]
  · by_cases m1 : a ∈ al1
    · exact h.new a m1 n
    · have q := g.new a m m1
      have ne : a ≠ D := fun z => by subst z; rw [e] at q; cases q
      rw [← h.out a m1 ne]; exact q
section
variable {X : Cx} {k : Bk} {F : Hp} {al : List Addr} {μ : Sto}
theorem KS.updB {D : Addr} {o : HO} (S : KS X k F al μ) (n : D ∉ al) : KS X ⟨upd k.B D o, k.F0, k.pm, k.rw⟩ F al μ := ⟨S.rw, S.nd, S.len, S.pm, fun m b zs h1 h2 => by
  obtain ⟨q, ws, b', r⟩ := S.st m b zs h1 h2
  exact ⟨q, ws, by show upd k.B D o b = _; rw [upd_ne fun z => by subst z; exact n (List.mem_of_getElem? h1)]; exact b', r⟩⟩
end
/-! ### [new list for x in xs] -/
section
variable {X : Cx} {E : XK} {e c : Expr} {es : List Expr} {pos : Pos} {f : M T} {g : M Bool}
/-! ### names given values -/
def sets (ρ : Env) : List Nat → List HV → Env
  | i :: is, x :: xs => sets (ρ.set i (slot x)) is xs
  | _, _ => ρ
/-! ### ranges -/
/-! ### returns -/
end
end FL.HL

set_option maxHeartbeats 2000000
/-! HL12: tests that change the store; defs that read and change the caller's store; defs that return a new list. -/
namespace FL.HL
open PySem PySem.Spec PyProof.Rows L2 FL
section
variable {X : Cx} {E : XK} {a b e c : Expr} {rest es : List Expr} {pos : Pos} {fn : Sto → M (HV × Sto)} {fa fb : Sto → M (Bool × Sto)} {s1 s2 : MH}
end
/-! ### defs over the caller's store -/
structure StOk (K : PySem.W.Frag) (mg : Str → Option Value) (B F0 F : Hp) (al : List Addr) (μ : Sto) : Prop where
  nd : al.Nodup
  len : al.length = μ.length
  st : ∀ (n : Nat) (a : Addr) (xs : List HV), al[n]? = some a → μ[n]? = some xs → F0 a = none ∧ ∃ ws, B a = some (.lst ws) ∧ HReps K mg F al xs ws
inductive HRes where
  | v (x : HV) | tup (xs : List HV)
def HResRep (K : PySem.W.Frag) (mg : Str → Option Value) (F : Hp) (al : List Addr) : HRes → V → Prop
  | .v x, v => HRep K mg F al x v
  | .tup xs, v => ∃ a vs, v = .ref a ∧ F a = some (.tup vs) ∧ HReps K mg F al xs vs
abbrev SgH := List HV → Sto → Res (HRes × Sto)
def spH (K : PySem.W.Frag) (mg : Str → Option Value) (g : SgH) : Sp := fun vs H Q E => ∃ B F al μ xs, Same F H ∧ Same B H ∧ Tb K mg F B H ∧ HReps K mg F al xs vs ∧ StOk K mg B F F al μ ∧
  Den (g xs μ) (fun r _ => ∀ v B' F' H' al', (∃ b, al' = al ++ b) → (∀ a, a ∉ al' → B' a = B a) → (∀ a, a ∈ al' → a ∉ al → B a = none) → Same F' H' → Same B' H' → Tb K mg F' B' H' → Same F F' → (∀ a o, F' a = some o → (∃ u, F a = some u) ∨ NB B' a o) → StOk K mg B' F F' al' r.2 → HResRep K mg F' al' r.1 v → Q v H') (fun _ => False)
structure KnownH (P : Program) (w : World) (K : PySem.W.Frag) (mg : Str → Option Value) (base : Heap) (k : Nat) (nm : Str) (g : SgH) : Prop where
  ok : ∃ (f : Addr) (fd : FuncData) (ps : List Str), mg nm = some (.ref f) ∧ PySem.W.keepIn K (.ref f) = true ∧ Binds K fd ps [] ∧ FnOk P w K mg base (L2.CX P w) k f fd ps (spH K mg g)
theorem KnownH.mono {P : Program} {w : World} {K : PySem.W.Frag} {mg : Str → Option Value} {base : Heap} {j k : Nat} {nm : Str} {g : SgH} (h : KnownH P w K mg base j nm g) (l : j ≤ k) : KnownH P w K mg base k nm g := by
  obtain ⟨f, fd, ps, a, b, c, d⟩ := h.ok
  exact ⟨f, fd, ps, a, b, c, d.mono l⟩
section
variable {P : Program} {w : World} {K : PySem.W.Frag} {mg : Str → Option Value} {base : Heap}
end
section
variable {X : Cx} {e : Expr} {es : List Expr} {pos p : Pos} {fs : HM (List HV)} {x : Str} {g : SgH}
end
/-! ### a def that returns a new list -/
def spO (K : PySem.W.Frag) (mg : Str → Option Value) (g : List T → Res O) : Sp := fun vs H Q E => ∃ B F ts, Same F H ∧ Same B H ∧ Tb K mg F B H ∧ Reps K mg F ts vs ∧
  Den (g ts) (fun o _ => ∀ p h F' H', Same F' H' → Same B H' → Tb K mg F' B H' → Same F F' → (∀ a o, F' a = some o → (∃ u, F a = some u) ∨ NB B a o) → F' p = none → B p = none → H' p = some h → ORep K mg F' o h → Q (.ref p) H') (fun _ => False)
structure KnownO (P : Program) (w : World) (K : PySem.W.Frag) (mg : Str → Option Value) (base : Heap) (k : Nat) (nm : Str) (g : List T → Res O) : Prop where
  ok : ∃ (f : Addr) (fd : FuncData) (ps : List Str), mg nm = some (.ref f) ∧ PySem.W.keepIn K (.ref f) = true ∧ Binds K fd ps [] ∧ FnOk P w K mg base (L2.CX P w) k f fd ps (spO K mg g)
theorem KnownO.mono {P : Program} {w : World} {K : PySem.W.Frag} {mg : Str → Option Value} {base : Heap} {j k : Nat} {nm : Str} {g : List T → Res O} (h : KnownO P w K mg base j nm g) (l : j ≤ k) : KnownO P w K mg base k nm g := by
  obtain ⟨f, fd, ps, a, b, c, d⟩ := h.ok
  exact ⟨f, fd, ps, a, b, c, d.mono l⟩
section
variable {X : Cx} {e : Expr} {es : List Expr} {pos p : Pos} {fs : M (List T)} {x : Str} {fo : M O} {st : Stmt} {sts : List Stmt}
end
section
variable {P : Program} {w : World} {K : PySem.W.Frag} {mg : Str → Option Value} {base : Heap}
end
section
variable {X : Cx} {E : XK} {e : Expr} {es : List Expr} {pos p : Pos} {fs : M (List T)} {x : Str} {g : List T → Res O}
end
/-! ### a def that begins with an empty store and ends with trees -/
/-! ### a def that begins with an empty store, as a function upon trees -/
end FL.HL

set_option maxHeartbeats 2000000
/-! FL57: sorted(x), x a list or a tuple. -/
namespace FL
open PySem PySem.Spec PyProof.Rows L2
section
open PySem.Calls
variable {prog : Program} {w : World} {A : Around} {E : Value → Shared → Prop} {s : Shared} {κ : PyProof.Rows.KeyKind}
theorem collect_tupl {l : Addr} {vs : List Value} {Q : List Value → Shared → Prop} (hl : IsTup s.heap l vs.toArray)
    (h : Q vs { s with heap := (s.heap.push (seqObj "list" #[] 0)).update s.heap.objs.size (Obj.mapSeq (· ++ vs.toArray)) }) (hsz : vs.length ≤ sizeLine) :
    wpAny (model prog w) A (collect (.ref l)) Q E s := by
  obtain ⟨o, ho, hc, n, hd⟩ := id hl
  unfold collect
  refine wpAny_bind (wpAny_runValue (codeAny_builtin entry_proto_collect' ?_))
  show wpAny _ _ (do again (.builtin "list.__iadd__" ⟨[← newList [], .ref l], []⟩)) _ _ s
  refine wpAny_bind (wpAny_newList (wpAny_pure ⟨Code.quiet_builtin _ (by decide +kernel), codeAny_builtin entry_list_iadd' ?_⟩))
  show wpAny _ _ (Builtin.List.listExtendWith (.ref s.heap.objs.size) (.ref l) (.ref s.heap.objs.size)) _ _ { s with heap := s.heap.push (seqObj "list" #[] 0) }
  unfold Builtin.List.listExtendWith
  have ho' : (s.heap.push (seqObj "list" #[] 0)).get? l = some o := Heap.get?_push_of_some _ ho
  refine wpAny_bind (wpAny_typeOf (T := "tuple") ⟨o, ho', hc⟩ ?_)
  have ht : (Value.type "tuple" == Value.type "tuple") = true := by rfl
  rw [if_pos (by rw [ht]; simp)]
  refine wpAny_bind (listItems_at ho' hd ?_)
  refine wpAny_bind (listItems_at (xs := #[]) (n := 0) (Heap.get?_push_size _ rfl) rfl ?_)
  rw [if_neg (by simp)]
  refine wpAny_bind (listUpdate_at (xs := #[]) (n := 0) (Heap.get?_push_size _ rfl) rfl ?_ (Nat.zero_le _) (by show (#[] ++ vs.toArray).size ≤ sizeLine + 1; simp only [Array.size_append, List.size_toArray, List.length_nil]; omega))
  refine wpAny_pure ?_
  show wpAny (model prog w) A (do
      let o ← load s.heap.objs.size
      match o.data with
      | .seq xs _ => pure xs.toList
      | _ => unsupported "internal:collect") Q E { s with heap := (s.heap.push (seqObj "list" #[] 0)).update s.heap.objs.size (Obj.mapSeq (· ++ vs.toArray)) }
  refine wpAny_bind (wpAny_load (get?_update_seq (Heap.get?_push_size _ rfl) _) ?_)
  show wpAny _ _ (pure ((#[] : Array Value) ++ vs.toArray).toList) Q E _
  rw [show ((#[] : Array Value) ++ vs.toArray).toList = vs by simp]
  exact wpAny_pure h
theorem sorted_of_sort_tup {l : Addr} {vs : List Value} {Q : Value → Shared → Prop} (hl : IsTup s.heap l vs.toArray) (hL : vs.length ≤ sizeLine)
    (body : ∀ E' : Value → Shared → Prop, wpAny (model prog w) A.in1.in1 (Builtin.«list.sort» ⟨[.ref (s.heap.objs.size + 1)], []⟩) (fun f s' => f = .done (.ret .none) ∧ Q (.ref (s.heap.objs.size + 1)) s') E' { s with heap := PySem.W.copyHeap s.heap vs }) :
    wpAny (model prog w) A (call (.builtin "sorted") [.ref l]) Q E s := by
  refine call_function_entry_kw kind_sorted plain_sorted entry_sorted (args_sorted1 _) ?_
  unfold Builtin.«sorted»
  refine wpAny_bind (m := checkCount "sorted" 1 1 _) (wpAny_pure ?_)
  refine wpAny_bind (collect_tupl hl ?_ hL)
  refine wpAny_bind (wpAny_newList ?_ hL)
  have hsz : ((s.heap.push (seqObj "list" #[] 0)).update s.heap.objs.size (Obj.mapSeq (· ++ vs.toArray))).objs.size = s.heap.objs.size + 1 := by
    rw [Heap.size_update, size_push']
  show wpAny _ _ _ _ _ { s with heap := PySem.W.copyHeap s.heap vs }
  rw [hsz]
  refine wpAny_bind (wpAny_holding (wpAny_call_entry_kw slot_list_sort ⟨_, PySem.W.copyHeap_at s.heap vs, rfl⟩ entry_list_sort ?body (args_list_sort _)))
  case body =>
    show wpAny (model prog w) A.in1.in1 (Builtin.«list.sort» ⟨[.ref (s.heap.objs.size + 1)], []⟩) _ _ _
    refine wpAny_mono (body _) (fun f s' hf => ?_) fun _ _ e => e
    obtain ⟨rfl, hq⟩ := hf
    exact ⟨_, rfl, wpAny_pure ⟨_, rfl, hq⟩⟩
variable {β : Type} {vs : List Value} {bs : List β} {enc : β → PyData} {R : Value → β → Prop}
theorem sorted_data_tup {l : Addr} {Q : Value → Shared → Prop} (hl : IsTup s.heap l vs.toArray) (e : PySem.W.EachIs R vs bs) (er : PySem.W.EachIs (fun v b => ∃ as, Reads s.heap v (enc b) as) vs bs) (hal : PySem.W.AllAlike (bs.map enc)) (hk : PySem.W.Sortable (bs.map enc)) (hL : bs.length ≤ sizeLine)
    (hu : ∀ b, b ∈ bs → A.units + 2 + (enc b).depth < cLine) (h : ∀ out, out.length = bs.length → PySem.W.EachIs R out (bs.mergeSort (PySem.W.dataLe false enc)) → Q (.ref (s.heap.objs.size + 1)) { s with heap := sortedAll s.heap vs (List.toArray out) }) :
    wpAny (model prog w) A (call (.builtin "sorted") [.ref l]) Q E s := by
  have er' : PySem.W.EachIs (fun v b => ∃ as, Reads (PySem.W.sortingHeap (PySem.W.copyHeap s.heap vs) (s.heap.objs.size + 1) vs) v (enc b) as) vs bs := er.mono fun _ _ ⟨as, r⟩ => ⟨as, PyProof.Rows.Reads.keeps (fun _ _ => PySem.W.sorting_copy_old) r⟩
  have hS := PySem.W.SortsAt.data (prog := prog) (w := w) (A := A.in1.in1) (s := { s with heap := PySem.W.sortingHeap (PySem.W.copyHeap s.heap vs) (s.heap.objs.size + 1) vs }) (PySem.W.each_map (R := fun v d => ∃ as, Reads (PySem.W.sortingHeap (PySem.W.copyHeap s.heap vs) (s.heap.objs.size + 1) vs) v d as) enc er') hal hk (PySem.W.bound_map hu)
  refine sorted_of_sort_tup hl (by rw [e.length]; exact hL) fun E' => PySem.W.list_sort_vals (s := { s with heap := PySem.W.copyHeap s.heap vs }) (PySem.W.copyHeap_at s.heap vs) hS (by rw [e.length]; exact hL) ⟨rfl, ?_⟩
  exact h _ (by rw [PySem.W.sortVals_length false rfl]; exact e.length) (PySem.W.sortVals_data false e er' hal)
end
section
variable {X : Cx}
def rSortedX (K : PySem.W.Frag) : List V → Hp → VK → Prop := fun vs H Q => ∃ (a : Addr) (bs : List (V × PyData)), vs = [V.ref a] ∧ (SqL K H a (bs.map Prod.fst) ∨ SqT K H a (bs.map Prod.fst)) ∧ (∀ b ∈ bs, Dp K H b.1 b.2 ∧ b.2.depth ≤ 64) ∧ PySem.W.AllAlike (bs.map Prod.snd) ∧ PySem.W.Sortable (bs.map Prod.snd) ∧
  ∀ p, H p = none → Q (.ref p) (upd H p (.lst ((bs.mergeSort (PySem.W.dataLe false Prod.snd)).map Prod.fst)))
theorem cr_sortedX (hu : X.A.units + 66 < cLine) : CallR X (.builtin "sorted") (rSortedX X.K) := by
  intro pins s σ H vs us Q I r h
  obtain ⟨a, bs, rfl, hs, hd, hal, hk, q⟩ := h
  rcases hs with hs | hs
  · exact cr_sortedA hu pins s σ H _ us Q I r ⟨a, bs, rfl, hs, hd, hal, hk, q⟩
  obtain ⟨its, rv, hl, hz⟩ := I.tuple hs
  rw [Vals.ref1 r]
  have e : PySem.W.EachIs (fun v b => RelV (Prod.fst b) v) its bs := each_of (fun _ _ h => h) rv
  have er : PySem.W.EachIs (fun v b => ∃ as, Reads s.heap v (Prod.snd b) as) its bs := each_mem e fun b hb v r => Dp.reads I b.2 b.1 v (hd b hb).1 r
  have hL : bs.length ≤ sizeLine := by simpa using hz
  refine sorted_data_tup (enc := Prod.snd) hl e er hal hk hL (fun b hb => by have := (hd b hb).2; omega) fun out ho hout => ?_
  obtain ⟨ep, he'⟩ := PyProof.Rows.sortedAll_at s.heap its (List.toArray out)
  have hlen : ((bs.mergeSort (PySem.W.dataLe false Prod.snd)).map Prod.fst).length ≤ sizeLine := by rw [List.length_map, List.length_mergeSort]; exact hL
  exact ⟨.ref _, upd H (s.heap.objs.size + 1) (.lst ((bs.mergeSort (PySem.W.dataLe false Prod.snd)).map Prod.fst)), I.laid (t' := s.toks) (fun _ _ => PyProof.Rows.sortedAll_old) (Nat.le_succ _) ⟨hlen, out, ep, vals_of_each hout, he'⟩, rfl, q _ (I.hok.fresh (Nat.le_succ _))⟩
end
/-- sorted of a list or a tuple -/
def sortA (ts : List T) : Option O := match ts with
  | [.tup xs] => sort1 [.lst xs]
  | ts => sort1 ts
section
variable {X : Cx} {E : XK} {e : Expr} {es : List Expr} {pos : Pos} {fs : M (List T)}
theorem sortA_spec {ts : List T} {o : O} (h : sortA ts = some o) : ∃ t xs ds, ts = [t] ∧ (t = .lst xs ∨ t = .tup xs) ∧ toDs xs = some ds ∧ okSort ds = true ∧ o = .l (sortT xs ds) := by
  have key : ∀ {xs : List T}, sort1 [.lst xs] = some o → ∃ ds, toDs xs = some ds ∧ okSort ds = true ∧ o = .l (sortT xs ds) := fun {xs} h => by
    rw [sort1_e] at h
    split at h
    · rename_i ds hd
      split at h
      · rename_i hok; cases h; exact ⟨ds, hd, hok, rfl⟩
      · cases h
    · cases h
  unfold sortA at h
  split at h
  · rename_i xs
    obtain ⟨ds, h1, h2, h3⟩ := key h
    exact ⟨_, xs, ds, rfl, .inr rfl, h1, h2, h3⟩
  · cases ts with
    | nil => cases h
    | cons t ts =>
      cases ts with
      | cons _ _ => cases h
      | nil =>
        cases t with
        | lst xs =>
          obtain ⟨ds, h1, h2, h3⟩ := key h
          exact ⟨_, xs, ds, rfl, .inl rfl, h1, h2, h3⟩
        | _ => cases h
theorem fo_sortedX {p : Pos} (hu : X.A.units + 66 < cLine) (hg : Gl X "sorted") (hm : X.mg "sorted" = none) (hv : bootBuiltins "sorted" = some (.builtin "sorted")) (ha : FA X E (e :: es) fs)
    (he : starEach (e :: es) X.env = (false, eval e X.env) :: starEach es X.env := by rfl) (hpl : (backTo pos (starEach es X.env)).any (·.1) = false := by rfl) : FO X E (.Call (.Name "sorted" p) (e :: es) [] pos) (calO sortA fs) := by
  refine pe_imp (pe_callB (cr_sortedX hu) hg hm hv ha (by decide) (by decide) he hpl) fun σ H Q h => ?_
  obtain ⟨k, F, ρ, R, h⟩ := h
  refine ⟨k, F, ρ, R, (Den.bind h).imp fun ts ρ1 h1 vs F1 H1 R1 s1 r1 => ?_⟩
  obtain ⟨o, eo, q⟩ := Den.lift h1
  obtain ⟨t, xs, ds, rfl, ht, hd, hok, rfl⟩ := sortA_spec eo
  obtain ⟨v, rfl, r⟩ := r1.one_of
  have hsq : ∃ a ws, v = .ref a ∧ (SqL X.K H1 a ws ∨ SqT X.K H1 a ws) ∧ Reps X.K X.mg F1 xs ws := by
    rcases ht with rfl | rfl
    · obtain ⟨a, ws, rfl, h2, h3⟩ := r
      exact ⟨a, ws, rfl, .inl (SqL.of (R1.fh _ _ h2)), h3⟩
    · obtain ⟨a, ws, rfl, h2, h3⟩ := r
      exact ⟨a, ws, rfl, .inr (SqT.of (R1.fh _ _ h2)), h3⟩
  obtain ⟨a, ws, rfl, h2, h3⟩ := hsq
  have l1 := h3.length
  have l2 := toDs_len hd
  have hall := dps_zip R1.fh h3 hd
  obtain ⟨zs, hzs⟩ : ∃ zs, zs = xs.zip (ws.zip ds) := ⟨_, rfl⟩
  have hb : zs.map Prod.snd = ws.zip ds := by rw [hzs, zip_snd (by simp; omega)]
  have hxd : zs.map (fun z => (z.1, z.2.2)) = xs.zip ds := by rw [hzs, zip_drop l1 (by omega)]
  obtain ⟨g1, g2, g3⟩ := okSort_spec hok
  have hsnd : (ws.zip ds).map Prod.snd = ds := zip_snd (by omega)
  have hfst : (ws.zip ds).map Prod.fst = ws := zip_fst (by omega)
  rw [← hzs] at hall
  have m1 : (zs.mergeSort (PySem.W.dataLe false fun z => z.2.2)).map Prod.snd = (ws.zip ds).mergeSort (PySem.W.dataLe false Prod.snd) := by
    rw [← hb]
    exact List.map_mergeSort (fun a _ b _ => rfl)
  have m2 : (zs.mergeSort (PySem.W.dataLe false fun z => z.2.2)).map (fun z => (z.1, z.2.2)) = (xs.zip ds).mergeSort (PySem.W.dataLe false Prod.snd) := by
    rw [← hxd]
    exact List.map_mergeSort (fun a _ b _ => rfl)
  refine ⟨a, ws.zip ds, rfl, by rw [hfst]; exact h2, fun b hbm => ?_, by rw [hsnd]; exact g1, by rw [hsnd]; exact g2, fun p np => ?_⟩
  · rw [← hb] at hbm
    obtain ⟨z, hz, rfl⟩ := List.mem_map.mp hbm
    refine ⟨(hall z hz).2, g3 _ ?_⟩
    rw [← hsnd, ← hb]
    exact List.mem_map.mpr ⟨z.2, List.mem_map.mpr ⟨z, hz, rfl⟩, rfl⟩
  · refine q _ F1 _ (R1.newO (o := .l (sortT xs ds)) ⟨_, rfl, ?_⟩ np) s1 R1.len
    rw [← m1]
    unfold sortT
    rw [srt_eq, ← m2, List.map_map, List.map_map]
    exact reps_all fun z hz => (hall z (List.mem_mergeSort.mp hz)).1
end
end FL

set_option maxHeartbeats 2000000
/-! FL58: z[::-1] of a text; sum of a tuple of numbers. -/
namespace FL
open PySem PySem.Spec PyProof.Rows L2
section
variable {X : Cx} {E : XK} {e st : Expr} {te ts : TE} {pos p2 : Pos} {fa fb : M T}
/-! sum of a tuple of numbers -/
end
end FL

set_option maxHeartbeats 2000000
/-! FL59: t[::-1], t[:0:-1] of a tuple. -/
namespace FL
open PySem PySem.Spec PyProof.Rows L2
open PySem.SeqAt
open PySem.MeetsSeq PySem.MeetsSeq2 PySem.MeetsSeq3
section
variable {prog : Program} {w : World} {A : Around} {E : Value → Shared → Prop} {s : Shared}
end
section
variable {X : Cx} {E : XK} {e st up : Expr} {te ts tu : TE} {pos p2 : Pos} {fa fb fu : M T}
theorem Reps.tl {K : PySem.W.Frag} {mg : Str → Option Value} {F : Hp} {ts : List T} {vs : List V} (h : Reps K mg F ts vs) : Reps K mg F ts.tail vs.tail := by
  have := h.drop 1
  simpa using this
end
end FL

set_option maxHeartbeats 2000000
/-! FL60: len(set(x)): tuples of numbers, lists of such tuples. -/
namespace FL
open PySem PySem.Spec PyProof.Rows L2
/-- the different ones, as they come -/
def ddGo {α : Type} [DecidableEq α] : List α → List α → List α
  | [], acc => acc
  | x :: xs, acc => if x ∈ acc then ddGo xs acc else ddGo xs (acc ++ [x])
def dd {α : Type} [DecidableEq α] (xs : List α) : List α := ddGo xs []
theorem ddGo_spec {α : Type} [DecidableEq α] : ∀ (xs acc : List α), acc.Nodup → (ddGo xs acc).Nodup ∧ ∀ a, a ∈ ddGo xs acc ↔ a ∈ acc ∨ a ∈ xs
  | [], acc, h => ⟨h, fun a => by simp [ddGo]⟩
  | x :: xs, acc, h => by
    unfold ddGo
    by_cases e : x ∈ acc
    · rw [if_pos e]
      obtain ⟨h1, h2⟩ := ddGo_spec xs acc h
      refine ⟨h1, fun a => ?_⟩
      rw [h2]
      constructor
      · rintro (h | h)
        · exact .inl h
        · exact .inr (List.mem_cons_of_mem _ h)
      · rintro (h | h)
        · exact .inl h
        · rcases List.mem_cons.mp h with rfl | h
          · exact .inl e
          · exact .inr h
    · rw [if_neg e]
      have hn : (acc ++ [x]).Nodup := by
        rw [List.nodup_append]
        refine ⟨h, by simp, fun a ha b hb => ?_⟩
        rw [List.mem_singleton.mp hb]
        intro e2; subst e2; exact e ha
      obtain ⟨h1, h2⟩ := ddGo_spec xs (acc ++ [x]) hn
      refine ⟨h1, fun a => ?_⟩
      rw [h2, List.mem_append, List.mem_singleton, List.mem_cons]
      constructor
      · rintro ((h | h) | h)
        · exact .inl h
        · exact .inr (.inl h)
        · exact .inr (.inr h)
      · rintro (h | h | h)
        · exact .inl (.inl h)
        · exact .inl (.inr h)
        · exact .inr h
theorem dd_nodup {α : Type} [DecidableEq α] (xs : List α) : (dd xs).Nodup := (ddGo_spec xs [] List.nodup_nil).1
theorem dd_mem {α : Type} [DecidableEq α] {xs : List α} {a : α} : a ∈ dd xs ↔ a ∈ xs := by
  rw [dd, (ddGo_spec xs [] List.nodup_nil).2]; simp
theorem dd_len {α : Type} [DecidableEq α] {xs ys : List α} (h : ys.Nodup) (e : ∀ a, a ∈ ys ↔ a ∈ xs) : ys.length = (dd xs).length :=
  ((List.perm_ext_iff_of_nodup h (dd_nodup xs)).mpr fun a => (e a).trans dd_mem.symm).length_eq
theorem ddGo_le {α : Type} [DecidableEq α] : ∀ (xs acc : List α), (ddGo xs acc).length ≤ acc.length + xs.length
  | [], acc => by simp [ddGo]
  | x :: xs, acc => by
    unfold ddGo
    split
    · have := ddGo_le xs acc; simp; omega
    · have := ddGo_le xs (acc ++ [x]); simp at this ⊢; omega
theorem dd_le {α : Type} [DecidableEq α] (xs : List α) : (dd xs).length ≤ xs.length := by have := ddGo_le xs []; simp at this; exact this
/-- tuples of numbers -/
def tupsT : List T → Option (List (List Int))
  | [] => some []
  | .tup ts :: us => match intsT ts, tupsT us with
    | some ns, some kss => some (ns :: kss)
    | _, _ => none
  | _ :: _ => none
def lenSetX (x : T) : Option T := match x with
  | .tup xs => match intsT xs with
    | some ns => if ns.length ≤ 4000 then some (.int ((dd ns).length : Nat)) else none
    | none => none
  | .lst xs => match intsT xs with
    | some ns => if ns.length ≤ 4000 then some (.int ((metI ns).length : Nat)) else none
    | none => match tupsT xs with
      | some ks => if ks.length < 64 then some (.int ((dd ks).length : Nat)) else none
      | none => none
  | _ => none
section
variable {X : Cx} {E : XK} {fa : M T}
def tLenSetX (K : PySem.W.Frag) (ta : TE) : TE := fun σ H Q => ta σ H fun x H1 => (∃ (l : Addr) (ns : List Int), x = .ref l ∧ SqL K H1 l (ns.map V.int) ∧ ns.length ≤ 4000 ∧ Q (.int ((metI ns).length : Nat)) H1)
  ∨ (∃ (l : Addr) (ns : List Int), x = .ref l ∧ SqT K H1 l (ns.map V.int) ∧ ns.length ≤ 4000 ∧ Q (.int ((dd ns).length : Nat)) H1)
  ∨ (∃ (l : Addr) (ks : List (Addr × List Int)), x = .ref l ∧ SqL K H1 l (ks.map fun p => V.ref p.1) ∧ (∀ p ∈ ks, SqT K H1 p.1 (p.2.map V.int)) ∧ ks.length < 64 ∧ Q (.int ((dd (ks.map (·.2))).length : Nat)) H1)
theorem pe_lenSetX {a : Expr} {ta : TE} {p p2 q pos : Pos} (hu : X.A.units + 64 < cLine) (hg : Gl X "len") (hm : X.mg "len" = none) (hg2 : Gl X "set") (hm2 : X.mg "set" = none) (ha : PE X a ta) (hc : X.calm = true := by rfl)
    (na : starEach [a] X.env = (false, eval a X.env) :: starEach [] X.env := by rfl) : PE X (.Call (.Name "len" p) [.Call (.Name "set" p2) [a] [] q] [] pos) (tLenSetX X.K ta) := by
  refine ⟨fun pins s σ H Q I h => ?_⟩
  refine Call_ (ld_blt I hg hm boot_len ?_)
  refine PyProof.Rows.callWith_builtin1 (PyProof.Rows.args_cons ?_ rfl) rfl rfl
  refine Call_ (ld_blt I hg2 hm2 boot_set ?_)
  refine PyProof.Rows.callWith_type1 (PyProof.Rows.args_cons (thn (ha.run pins s σ H _ I h) fun v s1 ⟨x, H1, I1, r1, q1⟩ => PyProof.Rows.args_nil ?_) na) na rfl
  rcases q1 with ⟨l, ns, rfl, hq, hl, q1⟩ | ⟨l, ns, rfl, hq, hl, q1⟩ | ⟨l, ks, rfl, hq, hk, hl, q1⟩
  · cases r1
    obtain ⟨its, r, pl, hz⟩ := I1.list hq
    have hlen : its.toArray.size = ns.length := by rw [List.size_toArray, ← r.length, List.length_map]
    refine call_set_list (I1.ok.hd hc) pl.isList (by simpa using RZ.intsAre_vals r) (by rw [hlen]; unfold scanBound; omega) fun h' tk hS hk => ?_
    refine PyProof.Rows.args_nil ?_
    rw [hlen] at hS
    obtain ⟨o, es, ep, t, ho, hex, hd, _, _, _, hf, hn⟩ := hS
    have hn : es.size = (metI ns).length := hn
    have hml := met_le (fun i => ns.getD i 0) ns.length
    have hml : (metI ns).length ≤ ns.length := hml
    have I2 : Inv X pins σ H1 { s1 with heap := h', toks := tk } := I1.kept fun b o e => hk b o (Heap.lt_size e) e
    exact call_len_set ho hex hd hf (by rw [hn] <;> omega) ⟨.int (metI ns).length, H1, I2.tok _, ⟨_, by rw [hn]⟩, q1⟩
  · cases r1
    obtain ⟨its, r, pl, hz⟩ := I1.tuple hq
    refine call_set_tupI ns (I1.ok.hd hc) pl (by simpa using RZ.intsAre_vals r) (by unfold scanBound; omega) fun h' tk c hS hc2 hk => ?_
    refine PyProof.Rows.args_nil ?_
    obtain ⟨o, es, ep, t, ho, hex, hd, _, hnd, hmem, _, hf, hn, _⟩ := hS
    have e : es.size = (dd ns).length := by
      have := dd_len (xs := ns) hnd fun a => by rw [← hmem a, decide_eq_true_eq]
      rw [← this, List.length_map, Array.length_toList]
    have hml := dd_le ns
    have I2 : Inv X pins σ H1 { s1 with heap := h', toks := tk } := I1.kept fun b o e => hk b o e
    exact call_len_set ho hex hd hf (by rw [e] <;> omega) ⟨.int (dd ns).length, H1, I2.tok _, ⟨_, by rw [e]⟩, q1⟩
  · cases r1
    obtain ⟨its, rv, pl, hz⟩ := I1.list hq
    refine call_set_tups (P := X.prog) (w := X.w) ks (I1.ok.hd hc) pl.isList (by simpa using refs_of_vals rv) (fun p hp => I1.isT (hk p hp)) hl (by omega) fun h' tk L es ep t R g k => ?_
    refine PyProof.Rows.args_nil ?_
    obtain ⟨o, ho, hex, hd⟩ := R.ob
    have R2 : SetTR X.prog X.w ({ s1 with heap := h', toks := tk } : Shared).heap s1.heap.objs.size L es ep t := R
    have e : es.size = (dd (ks.map (·.2))).length := by
      rw [R2.size]
      have := dd_len (xs := ks.map (·.2)) R.nd fun a => by
        constructor
        · intro h
          obtain ⟨p, hp, rfl⟩ := List.mem_map.mp h
          exact List.mem_map.mpr ⟨p, List.mem_of_mem_take (g.sub p hp), rfl⟩
        · intro h
          obtain ⟨p, hp, rfl⟩ := List.mem_map.mp h
          exact g.all p (by rw [List.take_length]; exact hp)
      rw [← this, List.length_map]
    have hf : t.fits es.size = true := R2.fits
    have hml := dd_le (ks.map (·.2))
    rw [List.length_map] at hml
    have I2 : Inv X pins σ H1 { s1 with heap := h', toks := tk } := I1.kept fun b o e => k b o e
    exact call_len_set ho hex hd hf (by rw [e] <;> omega) ⟨.int (dd (ks.map (·.2))).length, H1, I2.tok _, ⟨_, by rw [e]⟩, q1⟩
/-- tuples of numbers, as they lie -/
theorem tups_of {K : PySem.W.Frag} {mg : Str → Option Value} {F H : Hp} (s : Same F H) : ∀ {ts : List T} {kss : List (List Int)} {vs : List V}, tupsT ts = some kss → Reps K mg F ts vs → ∃ ks : List (Addr × List Int), vs = ks.map (fun p => V.ref p.1) ∧ ks.map (·.2) = kss ∧ ∀ p ∈ ks, SqT K H p.1 (p.2.map V.int)
  | [], kss, vs, e, r => by
    cases e
    have r : vs = [] := r
    subst r
    exact ⟨[], rfl, rfl, fun p h => (by cases h)⟩
  | t :: ts, kss, vs, e, r => by
    obtain ⟨v, w, rfl, r1, r2⟩ := r
    cases t with
    | tup us =>
      simp only [tupsT] at e
      split at e
      · rename_i ns kss' e1 e2
        cases e
        obtain ⟨p, xs, rfl, h1, h2⟩ := r1
        have ex := intsT_rep h2 e1
        subst ex
        obtain ⟨ks, rfl, rfl, hk⟩ := tups_of s e2 r2
        refine ⟨(p, ns) :: ks, rfl, rfl, fun q hq => ?_⟩
        rcases List.mem_cons.mp hq with rfl | hq
        · exact SqT.of (s _ _ h1)
        · exact hk q hq
      · cases e
    | _ => simp only [tupsT, reduceCtorEq] at e
theorem fe_lensetX {a : Expr} {p p2 q pos : Pos} (hu : X.A.units + 64 < cLine) (hg : Gl X "len") (hm : X.mg "len" = none) (hg2 : Gl X "set") (hm2 : X.mg "set" = none) (ha : FE X E a fa) (hc : X.calm = true := by rfl)
    (na : starEach [a] X.env = (false, eval a X.env) :: starEach [] X.env := by rfl) : FE X E (.Call (.Name "len" p) [.Call (.Name "set" p2) [a] [] q] [] pos) (op1 lenSetX fa) := by
  refine pe_imp (pe_lenSetX hu hg hm hg2 hm2 ha hc na) fun σ H Q h => ?_
  obtain ⟨k, F, ρ, R, h⟩ := h
  refine ⟨k, F, ρ, R, (Den.bind h).imp fun x ρ1 h1 v F1 H1 R1 s1 r1 => ?_⟩
  obtain ⟨t, e, q⟩ := Den.lift h1
  unfold lenSetX at e
  split at e
  · split at e
    · rename_i ns hn
      split at e
      · rename_i hl
        cases e
        obtain ⟨a, vs, rfl, e1, e2⟩ := r1
        have ew := intsT_rep e2 hn
        subst ew
        exact .inr (.inl ⟨a, ns, rfl, SqT.of (R1.fh _ _ e1), hl, q _ F1 H1 R1 s1 rfl⟩)
      · cases e
    · cases e
  · split at e
    · rename_i ns hn
      split at e
      · rename_i hl
        cases e
        obtain ⟨a, vs, rfl, e1, e2⟩ := r1
        have ew := intsT_rep e2 hn
        subst ew
        exact .inl ⟨a, ns, rfl, SqL.of (R1.fh _ _ e1), hl, q _ F1 H1 R1 s1 rfl⟩
      · cases e
    · split at e
      · rename_i ks hks
        split at e
        · rename_i hl
          cases e
          obtain ⟨a, vs, rfl, e1, e2⟩ := r1
          obtain ⟨kk, rfl, rfl, hk⟩ := tups_of R1.fh hks e2
          refine .inr (.inr ⟨a, kk, rfl, SqL.of (R1.fh _ _ e1), hk, by simpa using hl, q _ F1 H1 R1 s1 rfl⟩)
        · cases e
      · cases e
  · cases e
end
end FL

set_option maxHeartbeats 2000000
/-! FL61: four names, each given a value of its own. -/
namespace FL
open PySem PySem.Spec PyProof.Rows L2
section
variable {X : Cx} {E : XK} {fs : M (List VO)} {pos : Pos}
end
end FL

set_option maxHeartbeats 2000000
/-! FL62: sorted(set(x)), x a list of ints. -/
namespace FL
open PySem PySem.Spec PyProof.Rows L2
section
variable {P : Program} {w : World} {A : Around} {E : Value → Shared → Prop} {s : Shared}
end
end FL

set_option maxHeartbeats 2000000
/-! FL63: sorted(set(x)) as a reading. -/
namespace FL
open PySem PySem.Spec PyProof.Rows L2
section
variable {X : Cx} {E : XK} {e : Expr} {fs : M (List T)} {p p2 q pos : Pos}
end
end FL

set_option maxHeartbeats 2000000
/-! FL64: sorted(set(x)), however many there are. -/
namespace FL
open PySem PySem.Spec PyProof.Rows PyProof.V L2 PySem.W PySem.Calls
section
variable {P : Program} {w : World} {A : Around} {E : Value → Shared → Prop} {s : Shared} {a : Addr}
end
section
variable {X : Cx} {E : XK} {e : Expr} {fs : M (List T)} {p p2 q pos : Pos}
end
end FL

set_option maxHeartbeats 2000000
/-! FL65: sorted(d.items()), keys and values ints or texts. -/
namespace FL
open PySem PySem.Spec PyProof.Rows L2
section
variable {X : Cx} {e : Expr} {te : TE} {p apos cpos pos : Pos}
end
section
variable {X : Cx} {E : XK} {e : Expr} {f : M T} {p apos cpos pos : Pos}
end
end FL

/-! FL66: x < y, data alike (tuples of numbers, texts). -/
namespace FL
open PySem PySem.Spec PyProof.Rows L2
section
variable {X : Cx}
end
end FL

set_option maxHeartbeats 2000000
/-! FL67: for k, v in d.items(), d a dict of tuple keys that a name holds (and that is not used any more). -/
namespace FL
open PySem PySem.Spec PyProof.Rows L2
section
variable {P : Program} {w : World} {K : PySem.W.Frag} {tg : Expr} {d : Addr} {o : Obj} {es : Array DictEntry} {ep : Nat}
theorem frzT2 {X : Cx} {pins : List (Addr × Obj)} {σ : L2.St} {H : Hp} {s : Shared} {kvs : List (List Key × V)} (I : Inv X pins σ H s) (h : H d = some (.frz o (.dT kvs))) :
    (d == sysModules) = false ∧ s.heap.get? d = some o ∧ o.ExactDict ∧ ∃ (es : Array DictEntry) (ep : Nat), o.data = .dict es ep ∧ es.size = kvs.length ∧
      ∀ (i : Nat) (k : List Key) (v : V), kvs[i]? = some (k, v) → ∃ (en : DictEntry) (q : Addr), es[i]? = some en ∧ en.key = .ref q ∧ H q = some (.tup (k.map kV)) ∧ RelV v en.val := by
  obtain ⟨hd, z, hs, xs, pr, o', es, ep, ho, hx, hdt, he, _⟩ := I.hok d _ h
  rw [hd] at ho
  cases ho
  refine ⟨hs, hd, hx, es, ep, hdt, ?_, fun i k v e => ?_⟩
  · have l1 : es.size = xs.length := size_of_entries he
    have l2 : kvs.length = xs.length := Paired.length pr
    omega
  · obtain ⟨b, hb, e1, e2, e3⟩ := L2.paired_get pr e
    have q := entry_at he i
    rw [hb] at q
    exact ⟨_, b.2.1, q, rfl, e2, e3⟩
end
section
variable {X : Cx} {E : XK} {tg e : Expr} {td : TE} {apos cpos : Pos}
/-- the object of a slot set aside, the slot forgotten -/
theorem RS.asideI {K : PySem.W.Frag} {mg : Str → Option Value} {B F0 F : Hp} {pm : Option Addr} {rw : List V} {ρ : Env} {σ : L2.St} {H : Hp} {i : Nat} {o : O} (R : RS K mg B F0 pm rw F ρ σ H) (hi : ρ[i]? = some (.ow o)) :
    ∃ p h, σ[i]? = some (some (.ref p)) ∧ F p = none ∧ B p = none ∧ pm ≠ some p ∧ H p = some h ∧ ORep K mg F o h ∧ RS K mg (upd B p h) F0 pm rw F (ρ.set i .un) σ H := by
  obtain ⟨α, h1, h2⟩ := R.ex
  obtain ⟨a, b, c, d, u, e1, e2⟩ := h1 i _ hi
  have up : ∀ j y, (ρ.set i SV.un)[j]? = some y → y = .un ∨ (j ≠ i ∧ ρ[j]? = some y) := fun j y hy => by
    by_cases hj : i = j
    · subst hj
      rw [List.getElem?_set_self (by exact (List.getElem?_eq_some_iff.mp hi).1)] at hy
      exact .inl (Option.some.inj hy).symm
    · rw [List.getElem?_set_ne hj] at hy
      exact .inr ⟨fun e => hj e.symm, hy⟩
  refine ⟨α i, u, a, b, c, d, e1, e2, ⟨by rw [List.length_set]; exact R.len, R.fh, fun z w q => ?_, R.f0, fun z w q => ?_, R.pt, R.tb.updB e1 e2.plain, α, fun j y hy => ?_, fun j m y z hy hz oy oz ne => ?_⟩⟩
  · by_cases hz : z = α i
    · subst hz; rw [upd_same] at q; cases q; exact e1
    · rw [upd_ne hz] at q; exact R.bh _ _ q
  · rcases R.fr z w q with k | k
    · exact .inl k
    · refine .inr (k.imp (fun k => ?_) id)
      rw [upd_ne (fun e => by subst e; rw [b] at q; cases q)]
      exact k
  · rcases up j y hy with rfl | ⟨hj, hy'⟩
    · trivial
    · have q := h1 j y hy'
      have ne : y.owned = true → α j ≠ α i := fun oy => h2 j i y _ hy' hi oy rfl hj
      cases y with
      | un => trivial
      | fz t => exact q
      | raw n => exact q
      | ow o => obtain ⟨a, b, c, d⟩ := q; exact ⟨a, b, by rw [upd_ne (ne rfl)]; exact c, d⟩
      | pa o => obtain ⟨a, b, c, d⟩ := q; exact ⟨a, b, by rw [upd_ne (ne rfl)]; exact c, d⟩
  · rcases up j y hy with rfl | ⟨hj, hy'⟩
    · cases oy
    · rcases up m z hz with rfl | ⟨hm, hz'⟩
      · cases oz
      · exact h2 j m y z hy' hz' oy oz ne
def tStillT (te : TE) : TE := fun σ H Q => te σ H fun x H1 => ∃ (d : Addr) (kvs : List (List L2.Key × V)), x = .ref d ∧ H1 d = some (.dT kvs) ∧ ∀ od, Q x (upd H1 d (.frz od (.dT kvs)))
theorem pe_stillT {te : TE} (he : PE X e te) : PE X e (tStillT te) := by
  refine ⟨fun pins s σ H Q I h => thn (he.run pins s σ H _ I h) fun u s1 ⟨x, H1, I1, rx, d, kvs, ex, hd, q⟩ => ?_⟩
  obtain ⟨od, I2⟩ := I1.lock hd True.intro
  exact ⟨x, _, I2, rx, q od⟩
theorem reps_get {K : PySem.W.Frag} {mg : Str → Option Value} {F : Hp} : ∀ {ts : List T} {vs : List V} {i : Nat} {v : V}, Reps K mg F ts vs → vs[i]? = some v → ∃ t, ts[i]? = some t ∧ Rep K mg F t v
  | [], vs, i, v, r, h => by
    have : vs = [] := r
    subst this; cases h
  | t :: ts, vs, 0, v, r, h => by
    obtain ⟨u, w, rfl, r1, _⟩ := r
    cases h
    exact ⟨t, rfl, r1⟩
  | t :: ts, vs, i + 1, v, r, h => by
    obtain ⟨u, w, rfl, _, r2⟩ := r
    exact reps_get (i := i) r2 h
end
end FL

set_option maxHeartbeats 2000000
/-! FL68: list.count of data. -/
namespace FL
open PySem PySem.Spec PyProof.Rows L2
section
variable {X : Cx} {E : XK} {ob e : Expr} {fo fe fa : M T} {apos cpos pos : Pos}
end
end FL

set_option maxHeartbeats 2000000
/-! FL69: for k in {k: v for ..}, the keys tuples. -/
namespace FL
open PySem PySem.Spec PyProof.Rows L2
section
variable {P : Program} {w : World} {K : PySem.W.Frag} {tg : Expr} {d : Addr} {o : Obj} {es : Array DictEntry} {ep : Nat}
end
section
variable {X : Cx} {E : XK} {tg e : Expr} {td : TE} {fo : M O}
end
end FL

set_option maxHeartbeats 2000000
/-! FL70: len(d), d of tuple keys. -/
namespace FL
open PySem PySem.Spec PyProof.Rows L2
section
variable {X : Cx} {E : XK} {x : Str} {i : Nat} {p pos : Pos}
end
end FL

set_option maxHeartbeats 2000000
/-! FL71: for v in d.values(), d a dict of tuple keys that a name holds (and that is not used any more). -/
namespace FL
open PySem PySem.Spec PyProof.Rows L2
section
variable {P : Program} {w : World} {K : PySem.W.Frag} {tg : Expr} {d : Addr} {o : Obj} {es : Array DictEntry} {ep : Nat}
def Itvt (d : Addr) (o : Obj) (kvs : List (List Key × V)) : It :=
  ⟨fun i H => H d = some (.frz o (.dT kvs)) ∧ i < kvs.length, fun i H x H' => H' = H ∧ ∃ k, kvs[i]? = some (k, x), fun i H => H d = some (.frz o (.dT kvs)) ∧ kvs.length ≤ i⟩
theorem turn_valsT {kvs : List (List Key × V)} (it : Addr) (hod : o.data = .dict es ep) (hsz0 : es.size = kvs.length) : Turn P w K tg (Itvt d o kvs) [it] it (fun i h => h.IsValIter it d i es.size ep) where
  mem := by simp
  obj := fun i h st b hb => by
    have e : b = it := by simpa using hb
    subst e
    obtain ⟨oi, e, c, dd⟩ := st
    exact ⟨oi, e, fun v z => by rw [dd] at z; cases z⟩
  keep := fun i h h' st k => st.at fun oi e => k it (by simp) oi e
  item := by
    intro X hP hw hK hc i pins s σ H E I hf st hg
    subst hP hw hK
    obtain ⟨hd, hi⟩ := hg
    obtain ⟨f0, f1, f2, f3, f4, f5⟩ := hf it (by simp)
    obtain ⟨hs, hgd, hx, es', ep', hdt, hsz, ent⟩ := frzT2 I hd
    obtain ⟨rfl, rfl⟩ := dict_ep hod hdt
    obtain ⟨⟨k, v⟩, hkv⟩ : ∃ p, kvs[i]? = some p := ⟨kvs[i], List.getElem?_eq_getElem hi⟩
    obtain ⟨en, q, hen, hkey, hq, rv⟩ := ent i k v hkv
    have hie : i < es'.size := by omega
    have een : es'[i] = en := by
      have := Array.getElem?_eq_getElem hie
      rw [hen] at this
      exact (Option.some.inj this).symm
    refine wpAny_pyNext_values_item_raw st ⟨o, hgd, hx, hdt⟩ hie fun h' st' sb => ?_
    have I1 : Inv X pins σ H { s with heap := h' } := I.turned (t' := s.toks) (fun b ob hb e => (sb.2 b hb).trans e) f0 f1 f3 f4 f5
    obtain ⟨oi, e, c, dd⟩ := id st'
    rw [een]
    exact ⟨en.val, rfl, go_of (s := { s with heap := h' }) e c dd (by decide) ⟨v, H, I1, rv, ⟨rfl, k, hkv⟩, st', fun b hb => (hf b hb).1⟩⟩
  done := by
    intro X hP hw hK hc i pins s σ H E I hf st hg
    subst hP hw hK
    obtain ⟨hd, hi⟩ := hg
    obtain ⟨f0, f1, f2, f3, f4, f5⟩ := hf it (by simp)
    obtain ⟨hs, hgd, hx, es', ep', hdt, hsz, ent⟩ := frzT2 I hd
    obtain ⟨rfl, rfl⟩ := dict_ep hod hdt
    exact wpAny_pyNext_values_end_raw (I.ok.hd hc) st ⟨o, hgd, hx, hdt⟩ (by omega) fun h' eb => ⟨rfl, I.turned (t' := s.toks) (fun b ob hb e => eb b ob hb e) f0 f1 f3 f4 f5⟩
  self := fun A i s Q E st h => wpAny_pyIter_valiter st h
end
section
variable {X : Cx} {E : XK} {tg e : Expr} {td : TE} {apos cpos : Pos}
def iValsT (td : TE) : TI := fun σ H R => td σ H fun x H1 => ∃ d o kvs, x = .ref d ∧ H1 d = some (.frz o (.dT kvs)) ∧ R (Itvt d o kvs) H1
theorem pi_valsT (he : PE X e td) (hbase : attributeBase e "values" X.env (eval e X.env) = eval e X.env := by rfl) (hline : (apos.endLine == cpos.line) = true := by rfl) :
    PI X tg (.Call (.Attribute e "values" apos) [] [] cpos) (iValsT td) := by
  refine ⟨fun pins s σ H R I h => ?_⟩
  refine wpAny_Call_method (T := "dict") (id := "dict.values") hbase rfl hline F.plainAttrs_dict F.slot_dict_values F.type_dict_values (thn (he.run pins s σ H _ I h) fun u s1 ⟨x, H1, I1, rx, d, o, kvs, ex, hd, q⟩ => ?_)
  subst ex
  obtain rfl : u = Value.ref d := rx
  obtain ⟨hs, hgd, hx, es, ep, hdt, hsz, ent⟩ := frzT2 I1 hd
  have raw : s1.heap.DictRaw d es ep := ⟨o, hgd, hx, hdt⟩
  have I2 : Inv X pins σ H1 { s1 with heap := s1.heap.push { cls := .type "dict_values", data := .fields #[.ref d] } } := I1.kept (t' := s1.toks) fun b ob q => Heap.get?_push_of_some _ q
  have hnd : o.dict = none := hx.2.1
  refine ⟨raw.typeIs, (fun a e => by cases e; exact ⟨o, hgd, hnd⟩), ?_⟩
  have raw2 : (s1.heap.push { cls := .type "dict_values", data := .fields #[.ref d] }).DictRaw d es ep := ⟨o, Heap.get?_push_of_some _ hgd, hx, hdt⟩
  have fin : wpAny (model X.prog X.w) X.A (pyIter (.ref s1.heap.objs.size)) (PIE X pins σ tg R) X.xe { s1 with heap := s1.heap.push { cls := .type "dict_values", data := .fields #[.ref d] } } := by
    refine wpAny_pyIter_values_raw (d := d) ⟨_, Heap.get?_push_size _ rfl, rfl, rfl⟩ raw2 (pi_one (tk := s1.toks) I2 _ (turn_valsT _ hdt hsz) ⟨_, Heap.get?_push_size _ rfl, rfl, rfl⟩ q)
  show wpAny _ _ (callWith cpos (.builtin "dict.values") [.ref d] [] []) _ X.xe s1
  exact method_meetsIn F.slot_dict_values F.entry_dict_values rfl (PySem.evalArgs_none ⟨rfl, raw.typeIs, F.args_dict_values_1 _, _, meets_dict_values_raw d hs, ⟨⟨es, ep, raw⟩, fin⟩⟩)
end
/-- d.values(), d a name whose dict is not used any more -/
def iVlT (i : Nat) : M (List T) := fun ρ => match ρ[i]? with
  | some (.ow (.dt ks ts)) => if ks.length = ts.length then .ok ts (ρ.set i .un) else .bad
  | _ => .bad
/-- a dict of one's own, frozen for a walk -/
theorem RS.lockT {K : PySem.W.Frag} {mg : Str → Option Value} {B F0 F : Hp} {pm : Option Addr} {rw : List V} {ρ : Env} {σ : L2.St} {H : Hp} {q : Addr} {kvs : List (List L2.Key × V)} (R0 : RS K mg (upd B q (.dT kvs)) F0 pm rw F ρ σ H) (fp : F q = none) (bp : B q = none) (hp : H q = some (.dT kvs)) (od : Obj) :
    Same F (upd F q (.frz od (.dT kvs))) ∧ RS K mg B F0 pm rw (upd F q (.frz od (.dT kvs))) ρ σ (upd H q (.frz od (.dT kvs))) := by
  have sF : Same F (upd F q (.frz od (.dT kvs))) := same_upd fp
  refine ⟨sF, ?_⟩
  obtain ⟨α, g1, g2⟩ := R0.ex
  have pl : plainO (.dT kvs) := ⟨fun _ z => (by cases z), fun _ z => (by cases z)⟩
  refine ⟨R0.len, fun a u z => ?_, fun a u z => ?_, R0.f0.trans sF, fun a u z => ?_, fun a z => ?_, ?_, α, fun j y hy => ?_, g2⟩
  · by_cases ha : a = q
    · subst ha; rw [upd_same] at z ⊢; exact z
    · rw [upd_ne ha] at z ⊢; exact R0.fh _ _ z
  · have ha : a ≠ q := fun w => by subst w; rw [bp] at z; cases z
    rw [upd_ne ha]
    exact R0.bh _ _ (by rw [upd_ne ha]; exact z)
  · by_cases ha : a = q
    · subst ha; exact .inr (.inl bp)
    · rw [upd_ne ha] at z
      rcases R0.fr a u z with z | z
      · exact .inl z
      · exact .inr (z.imp (fun z => by rw [upd_ne ha] at z; exact z) id)
  · obtain ⟨u, w⟩ := R0.pt a z
    by_cases ha : a = q
    · subst ha; exact ⟨_, upd_same⟩
    · exact ⟨u, by rw [upd_ne ha]; exact w⟩
  · have T0 := R0.tb.lessB (same_upd bp)
    exact ((T0.updH hp pl).updF2 (h := .frz od (.dT kvs)) upd_same ⟨fun _ z => (by cases z), fun _ z => (by cases z)⟩)
  · have z := g1 j y hy
    have far : ∀ a, upd B q (.dT kvs) a = none → a ≠ q ∧ B a = none := fun a z => by
      have ne : a ≠ q := fun w => by subst w; rw [upd_same] at z; cases z
      exact ⟨ne, by rw [upd_ne ne] at z; exact z⟩
    cases y with
    | un => trivial
    | fz t => obtain ⟨v, a, b⟩ := z; exact ⟨v, a, b.mono sF⟩
    | raw n => obtain ⟨v, a, b⟩ := z; exact ⟨v, a, b⟩
    | ow o =>
      obtain ⟨a, b, c, d, u, e1, e2⟩ := z
      obtain ⟨n1, n2⟩ := far _ c
      exact ⟨a, by rw [upd_ne n1]; exact b, n2, d, u, by rw [upd_ne n1]; exact e1, e2.mono sF⟩
    | pa o =>
      obtain ⟨a, b, c, d, u, e1, e2⟩ := z
      obtain ⟨n1, n2⟩ := far _ c
      exact ⟨a, by rw [upd_ne n1]; exact b, n2, d, u, by rw [upd_ne n1]; exact e1, e2.mono sF⟩
section
variable {X : Cx} {E : XK} {tg e : Expr} {apos cpos : Pos}
theorem fi_vlT {i : Nat} {x : Str} {p : Pos} (hN : X.N[i]? = some x := by rfl) (hv : Vis X.env.scope x := by first | exact Or.inl rfl | exact Or.inr (Or.inl rfl) | exact Or.inr (Or.inr rfl)) (hd : (x == ("__debug__" : Str)) = false := by decide)
    (hcd : (x == ("__classdict__" : Str)) = false := by decide) (hbase : attributeBase (.Name x p) "values" X.env (eval (.Name x p) X.env) = eval (.Name x p) X.env := by rfl) (hline : (apos.endLine == cpos.line) = true := by rfl) :
    FI X E tg (.Call (.Attribute (.Name x p) "values" apos) [] [] cpos) (iVlT i) := by
  refine pi_imp (pi_valsT (pe_stillT (pe_var hN hv hd hcd)) hbase hline) fun σ H Q h => ?_
  obtain ⟨k, F, ρ, R, h⟩ := h
  unfold iVlT at h
  split at h
  · rename_i ks ts hρ
    split at h
    · rename_i hlen
      obtain ⟨q, ho, ev, fp, bp, npm, hp, ro, R0⟩ := RS.asideI R hρ
      obtain ⟨kvs, rfl, hk, hr⟩ := ro
      refine ⟨.ref q, ev, q, kvs, rfl, hp, fun od => ⟨q, od, kvs, rfl, upd_same, ?_⟩⟩
      obtain ⟨sF, R2⟩ := RS.lockT R0 fp bp hp od
      refine h _ _ _ R2 sF ?_
      have hkl : ks.length = kvs.length := by rw [← hk, List.length_map]
      have hl : ts.length = kvs.length := by omega
      unfold Wk
      rw [hl]
      refine ⟨fun j H' hj s => ⟨s _ _ upd_same, hj⟩, fun H' s => ⟨s _ _ upd_same, Nat.le_refl _⟩, fun j H' v H'' hj s y => ?_⟩
      obtain ⟨rfl, key, e2⟩ := y
      have e3 : (kvs.map (·.2))[j]? = some v := by rw [List.getElem?_map, e2]; rfl
      obtain ⟨t, ht, rt⟩ := reps_get hr e3
      exact ⟨t, ht, .inl ⟨rfl, rt.mono sF⟩⟩
    · exact h.elim
  · exact h.elim
end
end FL

set_option maxHeartbeats 2000000
/-! FL72: for x in xs: d.setdefault(k, []).append(x), d a new dict of tuple keys. -/
namespace FL
open PySem PySem.Spec PyProof.Rows L2
def nraw (ρ : FL.Env) : Bool := ρ.all fun x => match x with
  | .raw _ => false
  | _ => true
/-- groups: keys and their items, in the order of their first ones -/
abbrev Gr := List (List L2.Key × List T)
def grpPut (k : List L2.Key) (x : T) : Gr → Gr
  | [] => [(k, [x])]
  | p :: γ => if p.1 = k then (p.1, p.2 ++ [x]) :: γ else p :: grpPut k x γ
def grpOk (γ : Gr) : Bool := decide (γ.length < 16777216) && γ.all fun p => decide (p.2.length < 16777216)
def isRaw0 (gi : Nat) (ρ : FL.Env) : Bool := match ρ[gi]? with
  | some (.raw 0) => true
  | _ => false
theorem isRaw0_e {gi : Nat} {ρ : FL.Env} (h : isRaw0 gi ρ = true) : ρ[gi]? = some (.raw 0) := by
  unfold isRaw0 at h
  split at h
  · assumption
  · cases h
def grpL (gi i : Nat) (g : MG) (kf : M T) : List T → Gr → FL.Env → Res Gr
  | [], γ, ρ => .ok γ ρ
  | t :: ts, γ, ρ => match g t ρ with
    | none => .bad
    | some ρ1 => if isRaw0 gi ρ1 = true then (noX (kf ρ1)).bind fun y ρ2 => match keyTT y, ρ2[i]? with
      | some kk, some (.fz x) => if grpOk γ = true then grpL gi i g kf ts (grpPut kk x γ) ρ2 else .bad
      | _, _ => .bad
      else .bad
def isDt0 (gi : Nat) (ρ : FL.Env) : Bool := match ρ[gi]? with
  | some (.ow (.dt [] [])) => true
  | _ => false
def grpFin (gi : Nat) (γ : Gr) (ρ : FL.Env) : Res Fl := if isRaw0 gi ρ = true ∧ nraw (ρ.set gi .un) = true then .ok .nx (ρ.set gi (.ow (.dt (γ.map fun p => p.1) (γ.map fun p => .lst p.2)))) else .bad
def sGrp (gi i : Nat) (src : M (List T)) (g : MG) (kf : M T) : MS := fun ρ => (src ρ).bind fun ts ρ =>
  if isDt0 gi ρ = true ∧ nraw (ρ.set gi .un) = true then (grpL gi i g kf ts [] (ρ.set gi (.raw 0))).bind (grpFin gi)
  else .bad
theorem nraw_get {ρ : FL.Env} (h : nraw ρ = true) {i n : Nat} (e : ρ[i]? = some (.raw n)) : False := by
  unfold nraw at h
  rw [List.all_eq_true] at h
  have := h _ (List.mem_of_getElem? e)
  simp at this
section
variable {K : PySem.W.Frag} {mg : Str → Option Value} {B F0 F : Hp} {pm : Option Addr} {rw : List V} {ρ : FL.Env} {σ : L2.St} {H : Hp} {i : Nat}
theorem RS.toRaw {v : V} (R : RS K mg B F0 pm rw F (ρ.set i .un) σ H) (hn : nraw (ρ.set i .un) = true) (hi : i < ρ.length) (hσ : σ[i]? = some (some v)) : RS K mg B F0 pm [v] F (ρ.set i (.raw 0)) σ H := by
  obtain ⟨α, h1, h2⟩ := R.ex
  have step : ∀ j y, (ρ.set i (.raw 0))[j]? = some y → (j = i ∧ y = .raw 0) ∨ (j ≠ i ∧ (ρ.set i .un)[j]? = some y) := fun j y hy => by
    by_cases hj : j = i
    · subst hj
      rw [List.getElem?_set_self hi] at hy
      exact .inl ⟨rfl, (Option.some.inj hy).symm⟩
    · rw [List.getElem?_set_ne (Ne.symm hj)] at hy
      exact .inr ⟨hj, by rw [List.getElem?_set_ne (Ne.symm hj)]; exact hy⟩
  refine ⟨by have := R.len; rw [List.length_set] at this ⊢; exact this, R.fh, R.bh, R.f0, R.fr, R.pt, R.tb, α, fun j y hy => ?_, fun j m y z hy hz oy oz ne => ?_⟩
  · rcases step j y hy with ⟨rfl, rfl⟩ | ⟨hj, hy'⟩
    · exact ⟨v, hσ, rfl⟩
    · have q := h1 j y hy'
      cases y with
      | un => trivial
      | fz t => exact q
      | raw n => exact (nraw_get hn hy').elim
      | ow o => exact q
      | pa o => exact q
  · rcases step j y hy with ⟨rfl, rfl⟩ | ⟨hj, hy'⟩
    · cases oy
    · rcases step m z hz with ⟨rfl, rfl⟩ | ⟨hm, hz'⟩
      · cases oz
      · exact h2 j m y z hy' hz' oy oz ne
/-- a cell among what a reading keeps is written, whatever it is -/
theorem RS.wrB {a : Addr} {h h' : HO} (R : RS K mg B F0 pm rw F ρ σ H) (e : B a = some h) (n0 : F0 a = none) (pl : plainO h) (pl' : plainO h') (nt : ∀ vs, h ≠ .tup vs) : RS K mg (upd B a h') F0 pm rw F ρ σ (upd H a h') := by
  have hH : H a = some h := R.bh _ _ e
  have nF : F a = none := by
    cases q : F a with
    | none => rfl
    | some o =>
      rcases R.fr a o q with ⟨u, w⟩ | w | ⟨us, rfl⟩
      · rw [n0] at w; cases w
      · rw [e] at w; cases w
      · have z := R.fh _ _ q
        rw [hH] at z
        exact (nt us (Option.some.inj z)).elim
  obtain ⟨α, h1, h2⟩ := R.ex
  refine ⟨R.len, fun b x q => ?_, same_upd2 R.bh, R.f0, fun b o q => ?_, fun b q => ?_, ?_, α, fun i x hx => ?_, h2⟩
  · rw [upd_ne (fun z => by subst z; rw [nF] at q; cases q)]; exact R.fh _ _ q
  · have ne : b ≠ a := fun z => by subst z; rw [nF] at q; cases q
    rcases R.fr b o q with w | w
    · exact .inl w
    · exact .inr (w.imp (fun w => by show upd B a h' b = none; rw [upd_ne ne]; exact w) id)
  · obtain ⟨o, w⟩ := R.pt b q
    by_cases hb : b = a
    · subst hb; exact ⟨_, upd_same⟩
    · exact ⟨o, by rw [upd_ne hb]; exact w⟩
  · exact (R.tb.updH hH pl).updB (upd_same) pl'
  · have q := h1 i x hx
    have far : ∀ b, B b = none → b ≠ a := fun b w z => by subst z; rw [e] at w; cases w
    cases x with
    | un => trivial
    | fz t => exact q
    | raw n => exact q
    | ow o => obtain ⟨a1, b1, c, d, u, e1, e2⟩ := q; exact ⟨a1, b1, by show upd B a h' _ = none; rw [upd_ne (far _ c)]; exact c, d, u, by rw [upd_ne (far _ c)]; exact e1, e2⟩
    | pa o => obtain ⟨a1, b1, c, d, u, e1, e2⟩ := q; exact ⟨a1, b1, by show upd B a h' _ = none; rw [upd_ne (far _ c)]; exact c, d, u, by rw [upd_ne (far _ c)]; exact e1, e2⟩
end
theorem plain_lst' {vs : List V} : plainO (.lst vs) := ⟨fun _ z => (by cases z), fun _ z => (by cases z)⟩
theorem plain_dT {kvs : List (List L2.Key × V)} : plainO (.dT kvs) := ⟨fun _ z => (by cases z), fun _ z => (by cases z)⟩
/-- the dict D and its lists bs, among what a reading keeps -/
structure GK (K : PySem.W.Frag) (mg : Str → Option Value) (B F0 B1 F : Hp) (D : Addr) (bs : List Addr) (kvs : List (List L2.Key × V)) (γ : Gr) : Prop where
  d : B1 D = some (.dT kvs)
  ks : kvs.map (·.1) = γ.map (·.1)
  vs : kvs.map (·.2) = bs.map V.ref
  len : bs.length = γ.length
  nd : (D :: bs).Nodup
  ce : ∀ (j : Nat) b p, bs[j]? = some b → γ[j]? = some p → ∃ ws, B1 b = some (.lst ws) ∧ Reps K mg F p.2 ws
  out : ∀ a, a ∉ D :: bs → B1 a = B a
  inn : ∀ a, a ∈ D :: bs → B a = none ∧ F0 a = none
section
variable {K : PySem.W.Frag} {mg : Str → Option Value} {B F0 B1 F F' : Hp} {D : Addr} {bs : List Addr} {kvs : List (List L2.Key × V)} {γ : Gr}
theorem GK.mono (G : GK K mg B F0 B1 F D bs kvs γ) (s : Same F F') : GK K mg B F0 B1 F' D bs kvs γ := ⟨G.d, G.ks, G.vs, G.len, G.nd, fun j b p h1 h2 => let ⟨ws, q, r⟩ := G.ce j b p h1 h2; ⟨ws, q, r.mono s⟩, G.out, G.inn⟩
theorem val_none : ∀ {kvs : List (List L2.Key × V)} {k : List L2.Key}, valV kvs k = none ↔ ∀ p ∈ kvs, p.1 ≠ k
  | [], k => by simp [valV]
  | p :: kvs, k => by
    have ih := val_none (kvs := kvs) (k := k)
    by_cases h : p.1 = k
    · simp [valV, List.find?_cons, h]
    · have : valV (p :: kvs) k = valV kvs k := by simp [valV, List.find?_cons, h]
      rw [this, ih]; simp [h]
theorem val_some : ∀ {kvs : List (List L2.Key × V)} {k : List L2.Key} {v : V}, valV kvs k = some v → ∃ j, kvs[j]? = some (k, v) ∧ ∀ m : Nat, m < j → ∀ p : List L2.Key × V, kvs[m]? = some p → p.1 ≠ k
  | [], k, v, h => by simp [valV] at h
  | p :: kvs, k, v, h => by
    by_cases e : p.1 = k
    · have : valV (p :: kvs) k = some p.2 := by simp [valV, List.find?_cons, e]
      rw [this] at h
      refine ⟨0, ?_, fun m hm => absurd hm (Nat.not_lt_zero _)⟩
      rw [← e, ← Option.some.inj h]; rfl
    · have : valV (p :: kvs) k = valV kvs k := by simp [valV, List.find?_cons, e]
      rw [this] at h
      obtain ⟨j, h1, h2⟩ := val_some h
      refine ⟨j + 1, by simpa using h1, fun m hm q hq => ?_⟩
      cases m with
      | zero => simp at hq; subst hq; exact e
      | succ m => exact h2 m (by omega) q (by simpa using hq)
theorem grpPut_new {k : List L2.Key} {x : T} : ∀ {γ : Gr}, (∀ p ∈ γ, p.1 ≠ k) → grpPut k x γ = γ ++ [(k, [x])]
  | [], _ => rfl
  | p :: γ, h => by
    unfold grpPut
    rw [if_neg (h p (List.mem_cons_self ..)), grpPut_new fun q hq => h q (List.mem_cons_of_mem _ hq)]; rfl
theorem grpPut_at {k : List L2.Key} {x : T} : ∀ {γ : Gr} {j : Nat} {it : List T}, γ[j]? = some (k, it) → (∀ m : Nat, m < j → ∀ p : List L2.Key × List T, γ[m]? = some p → p.1 ≠ k) → grpPut k x γ = γ.set j (k, it ++ [x])
  | p :: γ, 0, it, h, _ => by
    simp at h; subst h
    unfold grpPut; rw [if_pos rfl]; rfl
  | p :: γ, j + 1, it, h, h2 => by
    unfold grpPut
    rw [if_neg (h2 0 (by omega) p rfl), grpPut_at (j := j) (by simpa using h) fun m hm q hq => h2 (m + 1) (by omega) q (by simpa using hq)]
    rfl
  | [], j, it, h, _ => by simp at h
theorem putK_new {k : List L2.Key} {v : V} {kvs : List (List L2.Key × V)} (h : valV kvs k = none) : putK kvs k v = kvs ++ [(k, v)] := by
  have h1 := val_none.mp h
  unfold putK
  rw [if_neg]
  intro z
  rw [List.any_eq_true] at z
  obtain ⟨p, hp, e⟩ := z
  exact h1 p hp (of_decide_eq_true e)
theorem GK.kvAt (G : GK K mg B F0 B1 F D bs kvs γ) {j : Nat} {k : List L2.Key} {v : V} (h : kvs[j]? = some (k, v)) : ∃ b it, bs[j]? = some b ∧ v = .ref b ∧ γ[j]? = some (k, it) := by
  have h1 : (kvs.map (·.1))[j]? = some k := by rw [List.getElem?_map, h]; rfl
  have h2 : (kvs.map (·.2))[j]? = some v := by rw [List.getElem?_map, h]; rfl
  rw [G.ks, List.getElem?_map, Option.map_eq_some_iff] at h1
  rw [G.vs, List.getElem?_map, Option.map_eq_some_iff] at h2
  obtain ⟨p, e1, e2⟩ := h1
  obtain ⟨b, e3, e4⟩ := h2
  obtain ⟨pk, pi⟩ := p
  simp only at e2
  subst e2
  exact ⟨b, pi, e3, e4.symm, e1⟩
theorem GK.keyAt (G : GK K mg B F0 B1 F D bs kvs γ) {j : Nat} {p : List L2.Key × List T} (h : γ[j]? = some p) : ∃ q, kvs[j]? = some q ∧ q.1 = p.1 := by
  have h1 : (γ.map (·.1))[j]? = some p.1 := by rw [List.getElem?_map, h]; rfl
  rw [← G.ks, List.getElem?_map, Option.map_eq_some_iff] at h1
  exact h1
theorem GK.found (G : GK K mg B F0 B1 F D bs kvs γ) {j : Nat} {k : List L2.Key} {it : List T} {b : Addr} {ws : List V} {x : T} {v : V} (hb : bs[j]? = some b) (hg : γ[j]? = some (k, it)) (hw : B1 b = some (.lst ws)) (r : Rep K mg F x v) :
    GK K mg B F0 (upd B1 b (.lst (ws ++ [v]))) F D bs kvs (γ.set j (k, it ++ [x])) := by
  have bm : b ∈ bs := List.mem_of_getElem? hb
  have nD : D ≠ b := fun z => by subst z; exact (List.nodup_cons.mp G.nd).1 bm
  have hj := (List.getElem?_eq_some_iff.mp hg).1
  refine ⟨by rw [upd_ne nD]; exact G.d, ?_, G.vs, by rw [List.length_set]; exact G.len, G.nd, fun m b' p h1 h2 => ?_, fun a ha => ?_, G.inn⟩
  · rw [G.ks, List.map_set]
    refine List.ext_getElem? fun m => ?_
    by_cases hm : m = j
    · subst hm
      rw [List.getElem?_set_self (by simpa using hj), List.getElem?_map, hg]; rfl
    · rw [List.getElem?_set_ne (Ne.symm hm)]
  · by_cases hm : m = j
    · subst hm
      rw [hb] at h1; cases h1
      rw [List.getElem?_set_self hj] at h2; cases h2
      obtain ⟨ws', e1, e2⟩ := G.ce m b (k, it) hb hg
      rw [hw] at e1; cases e1
      exact ⟨_, upd_same, e2.append (.one r)⟩
    · rw [List.getElem?_set_ne (Ne.symm hm)] at h2
      obtain ⟨ws', e1, e2⟩ := G.ce m b' p h1 h2
      refine ⟨ws', ?_, e2⟩
      rw [upd_ne fun z => ?_]
      · exact e1
      · subst z
        have h3 : bs[m]? = bs[j]? := by rw [h1, hb]
        exact hm ((List.getElem?_inj (List.getElem?_eq_some_iff.mp h1).1 (List.nodup_cons.mp G.nd).2).mp h3)
  · rw [upd_ne fun z => ha (by rw [z]; exact List.mem_cons_of_mem _ bm)]
    exact G.out a ha
theorem GK.new (G : GK K mg B F0 B1 F D bs kvs γ) {p : Addr} {k : List L2.Key} {x : T} {v : V} (hp : p ∉ D :: bs) (hB : B p = none) (hF : F0 p = none) (r : Rep K mg F x v) :
    GK K mg B F0 (upd (upd (upd B1 p (.lst [])) D (.dT (kvs ++ [(k, .ref p)]))) p (.lst [v])) F D (bs ++ [p]) (kvs ++ [(k, .ref p)]) (γ ++ [(k, [x])]) := by
  have nD : D ≠ p := fun z => hp (by rw [z]; exact List.mem_cons_self ..)
  have nb : ∀ b ∈ bs, b ≠ p := fun b hb z => hp (by rw [← z]; exact List.mem_cons_of_mem _ hb)
  have nbD : ∀ b ∈ bs, b ≠ D := fun b hb z => (List.nodup_cons.mp G.nd).1 (z ▸ hb)
  refine ⟨by rw [upd_ne nD, upd_same], by rw [List.map_append, List.map_append, G.ks]; rfl, by rw [List.map_append, List.map_append, G.vs]; rfl, by rw [List.length_append, List.length_append, G.len]; rfl, ?_, fun m b q h1 h2 => ?_, fun a ha => ?_, fun a ha => ?_⟩
  · rw [← List.cons_append, List.nodup_append]
    exact ⟨G.nd, by simp, fun a ha b hb => by rw [List.mem_singleton] at hb; subst hb; exact fun z => hp (z ▸ ha)⟩
  · by_cases hm : m < bs.length
    · rw [List.getElem?_append_left hm] at h1
      rw [List.getElem?_append_left (by rw [← G.len]; exact hm)] at h2
      obtain ⟨ws, e1, e2⟩ := G.ce m b q h1 h2
      have bm := List.mem_of_getElem? h1
      exact ⟨ws, by rw [upd_ne (nb b bm), upd_ne (nbD b bm), upd_ne (nb b bm)]; exact e1, e2⟩
    · have hl := (List.getElem?_eq_some_iff.mp h1).1
      rw [List.length_append] at hl
      have em : m = bs.length := by simp at hl; omega
      subst em
      rw [List.getElem?_append_right (Nat.le_refl _), Nat.sub_self] at h1
      cases h1
      rw [G.len, List.getElem?_append_right (Nat.le_refl _), Nat.sub_self] at h2
      cases h2
      exact ⟨[v], upd_same, .one r⟩
  · rw [← List.cons_append, List.mem_append, List.mem_singleton, not_or] at ha
    rw [upd_ne ha.2, upd_ne (fun z => ha.1 (by rw [z]; exact List.mem_cons_self ..)), upd_ne ha.2]
    exact G.out a ha.1
  · rw [← List.cons_append, List.mem_append, List.mem_singleton] at ha
    rcases ha with ha | rfl
    · exact G.inn a ha
    · exact ⟨hB, hF⟩
open Classical in
/-- the lists become trees, the dict an object of one's own -/
theorem GK.thaw {pm : Option Addr} {rw0 rw : List V} {ρ : FL.Env} {σ : L2.St} {H : Hp} {gi : Nat} (G : GK K mg B F0 B1 F D bs kvs γ) (R : RS K mg B1 F0 pm rw F ρ σ H) (hpm : ∀ a, pm = some a → a ≠ D) (hρ : ρ[gi]? = some (.raw 0)) (hσ : σ[gi]? = some (some (.ref D))) (hn : nraw (ρ.set gi .un) = true) :
    ∃ F2, Same F F2 ∧ RS K mg B F0 pm rw0 F2 (ρ.set gi (.ow (.dt (γ.map (·.1)) (γ.map fun p => .lst p.2)))) σ H := by
  have hH : ∀ b ∈ bs, ∃ ws, B1 b = some (.lst ws) ∧ H b = some (.lst ws) ∧ F b = none := fun b hb => by
    obtain ⟨j, hj⟩ := List.getElem?_of_mem hb
    have hl : j < γ.length := by rw [← G.len]; exact (List.getElem?_eq_some_iff.mp hj).1
    obtain ⟨ws, e1, _⟩ := G.ce j b _ hj (List.getElem?_eq_getElem hl)
    refine ⟨ws, e1, R.bh _ _ e1, ?_⟩
    cases q : F b with
    | none => rfl
    | some o =>
      rcases R.fr b o q with ⟨u, w⟩ | w | ⟨us, rfl⟩
      · rw [(G.inn b (List.mem_cons_of_mem _ hb)).2] at w; cases w
      · rw [e1] at w; cases w
      · have z := R.fh _ _ q
        rw [R.bh _ _ e1] at z; cases z
  have hFD : F D = none := by
    cases q : F D with
    | none => rfl
    | some o =>
      rcases R.fr D o q with ⟨u, w⟩ | w | ⟨us, rfl⟩
      · rw [(G.inn D (List.mem_cons_self ..)).2] at w; cases w
      · rw [G.d] at w; cases w
      · have z := R.fh _ _ q
        rw [R.bh _ _ G.d] at z; cases z
  have nDb : D ∉ bs := (List.nodup_cons.mp G.nd).1
  have sB : Same B B1 := fun a o e => by
    by_cases ha : a ∈ D :: bs
    · rw [(G.inn a ha).1] at e; cases e
    · rw [G.out a ha]; exact e
  have lessB : ∀ a, B1 a = none → B a = none := fun a e => sB.free e
  let F2 : Hp := fun a => if a ∈ bs then H a else F a
  have f2b : ∀ a, a ∈ bs → F2 a = H a := fun a ha => if_pos ha
  have f2n : ∀ a, a ∉ bs → F2 a = F a := fun a ha => if_neg ha
  have sF : Same F F2 := fun a o e => by
    by_cases ha : a ∈ bs
    · obtain ⟨ws, _, _, z⟩ := hH a ha
      rw [z] at e; cases e
    · rw [f2n a ha]; exact e
  refine ⟨F2, sF, ?_⟩
  obtain ⟨α, h1, h2⟩ := R.ex
  have hlt : gi < ρ.length := (List.getElem?_eq_some_iff.mp hρ).1
  have step : ∀ j y, (ρ.set gi (.ow (.dt (γ.map (·.1)) (γ.map fun p => .lst p.2))))[j]? = some y → (j = gi ∧ y = .ow (.dt (γ.map (·.1)) (γ.map fun p => .lst p.2))) ∨ (j ≠ gi ∧ ρ[j]? = some y) := fun j y hy => by
    by_cases hj : j = gi
    · subst hj
      rw [List.getElem?_set_self hlt] at hy
      exact .inl ⟨rfl, (Option.some.inj hy).symm⟩
    · rw [List.getElem?_set_ne (Ne.symm hj)] at hy
      exact .inr ⟨hj, hy⟩
  have hD : H D = some (.dT kvs) := R.bh _ _ G.d
  have reps : Reps K mg F2 (γ.map fun p => T.lst p.2) (kvs.map (·.2)) := by
    rw [G.vs]
    have go : ∀ (γ' : Gr) (bs' : List Addr), bs'.length = γ'.length → (∀ (j : Nat) b p, bs'[j]? = some b → γ'[j]? = some p → b ∈ bs ∧ ∃ ws, B1 b = some (.lst ws) ∧ Reps K mg F p.2 ws) → Reps K mg F2 (γ'.map fun p => T.lst p.2) (bs'.map V.ref) := by
      intro γ'
      induction γ' with
      | nil =>
        intro bs' hl _
        cases bs' with
        | nil => exact .nil
        | cons b bs' => simp at hl
      | cons p γ' ih =>
        intro bs' hl hc
        cases bs' with
        | nil => simp at hl
        | cons b bs' =>
          obtain ⟨hb, ws, e1, e2⟩ := hc 0 b p rfl rfl
          refine .cons ⟨b, ws, rfl, ?_, e2.mono sF⟩ (ih bs' (by simpa using hl) fun j b p h1 h2 => hc (j + 1) b p (by simpa using h1) (by simpa using h2))
          rw [f2b b hb]
          exact R.bh _ _ e1
    exact go γ bs G.len fun j b p h1 h2 => ⟨List.mem_of_getElem? h1, G.ce j b p h1 h2⟩
  have nα : ∀ j y, ρ[j]? = some y → y.owned = true → B1 (α j) = none := fun j y hy oy => by
    have q := h1 j y hy
    cases y with
    | un => cases oy
    | fz t => cases oy
    | raw n => cases oy
    | ow o => exact q.2.2.1
    | pa o => exact q.2.2.1
  have notin : ∀ a, B1 a = none → a ∉ D :: bs := fun a e m => by
    rcases List.mem_cons.mp m with rfl | m
    · rw [G.d] at e; cases e
    · obtain ⟨ws, z, _⟩ := hH a m
      rw [z] at e; cases e
  refine ⟨by rw [List.length_set]; exact R.len, fun a o e => ?_, sB.trans R.bh, R.f0.trans sF, fun a o e => ?_, R.pt, ⟨R.tb.x, fun P q => ?_, fun P q => lessB _ (R.tb.b P q)⟩, fun j => if j = gi then D else α j, fun j y hy => ?_, fun j m y z hy hz oy oz ne => ?_⟩
  · by_cases ha : a ∈ bs
    · rw [f2b a ha] at e; exact e
    · rw [f2n a ha] at e; exact R.fh _ _ e
  · by_cases ha : a ∈ bs
    · exact .inr (.inl (G.inn a (List.mem_cons_of_mem _ ha)).1)
    · rw [f2n a ha] at e
      exact (R.fr a o e).imp id (Or.imp (lessB a) id)
  · have hb : P ∉ bs := fun m => notin P (R.tb.b P q) (List.mem_cons_of_mem _ m)
    rw [f2n P hb]; exact R.tb.f P q
  · rcases step j y hy with ⟨rfl, rfl⟩ | ⟨hj, hy'⟩
    · unfold Slot
      simp only [if_true]
      refine ⟨hσ, by rw [f2n D nDb]; exact hFD, (G.inn D (List.mem_cons_self ..)).1, fun e => hpm D e rfl, _, hD, kvs, rfl, G.ks, reps⟩
    · have q := h1 j y hy'
      have ej : (if j = gi then D else α j) = α j := if_neg hj
      have hx : (ρ.set gi .un)[j]? = some y := by rw [List.getElem?_set_ne (Ne.symm hj)]; exact hy'
      cases y with
      | un => trivial
      | fz t => obtain ⟨v, a, b⟩ := q; exact ⟨v, a, b.mono sF⟩
      | raw n => exact (nraw_get hn hx).elim
      | ow o =>
        obtain ⟨a, b, c, d, u, e1, e2⟩ := q
        unfold Slot; simp only [ej]
        have ni := notin _ c
        exact ⟨a, by rw [f2n _ fun m => ni (List.mem_cons_of_mem _ m)]; exact b, lessB _ c, d, u, e1, e2.mono sF⟩
      | pa o =>
        obtain ⟨a, b, c, d, u, e1, e2⟩ := q
        unfold Slot; simp only [ej]
        have ni := notin _ c
        exact ⟨a, by rw [f2n _ fun m => ni (List.mem_cons_of_mem _ m)]; exact b, lessB _ c, d, u, e1, e2.mono sF⟩
  · rcases step j y hy with ⟨rfl, rfl⟩ | ⟨hj, hy'⟩
    · rcases step m z hz with ⟨rfl, rfl⟩ | ⟨hm, hz'⟩
      · exact absurd rfl ne
      · simp only [if_true, if_neg hm]
        exact fun e => notin _ (nα m z hz' oz) (by rw [← e]; exact List.mem_cons_self ..)
    · rcases step m z hz with ⟨rfl, rfl⟩ | ⟨hm, hz'⟩
      · simp only [if_true, if_neg hj]
        exact fun e => notin _ (nα j y hy' oy) (by rw [e]; exact List.mem_cons_self ..)
      · simp only [if_neg hj, if_neg hm]
        exact h2 j m y z hy' hz' oy oz ne
end
theorem den_nx {α : Type} {r : Res α} {p : α → FL.Env → Prop} {x x' : Ex → Prop} (h : Den (noX r) p x) : Den r p x' := by
  cases r with
  | bad => exact h
  | exc e => exact h.elim
  | ok a ρ => exact h
theorem RS.lessBk {K : PySem.W.Frag} {mg : Str → Option Value} {B B' F0 F : Hp} {pm : Option Addr} {rw : List V} {ρ : FL.Env} {σ : L2.St} {H : Hp} (R : RS K mg B' F0 pm rw F ρ σ H) (s : Same B B') : RS K mg B F0 pm rw F ρ σ H := by
  obtain ⟨α, h1, h2⟩ := R.ex
  refine ⟨R.len, R.fh, s.trans R.bh, R.f0, fun a o e => (R.fr a o e).imp id (Or.imp (fun e => s.free e) id), R.pt, R.tb.lessB s, α, fun j y hy => ?_, h2⟩
  have q := h1 j y hy
  cases y with
  | un => trivial
  | fz t => exact q
  | raw n => exact q
  | ow o => obtain ⟨a, b, c, d⟩ := q; exact ⟨a, b, s.free c, d⟩
  | pa o => obtain ⟨a, b, c, d⟩ := q; exact ⟨a, b, s.free c, d⟩
section
variable {X : Cx} {E : XK} {pos : Pos}
theorem fs_grp {gx x : Str} {gi i : Nat} {tg iter key lst : Expr} {is : List Nat} {src : M (List T)} {g : MG} {kf : M T} {fl : M O} {pg px apos cpos apos2 cpos2 epos : Pos} (hp : PassesOwn (model X.prog X.w) X.A X.env X.xe) (hc : X.calm = true) (hu : X.A.units + 1 < cLine)
    (hi : FI X E tg iter src) (hg : FG X is tg g) (hk : FE X E key kf) (hl : FO X E lst fl) (hfl : ∀ ρ, fl ρ = .ok (.l []) ρ)
    (hN : X.N[gi]? = some gx := by rfl) (hv : Vis X.env.scope gx := by first | exact Or.inl rfl | exact Or.inr (Or.inl rfl) | exact Or.inr (Or.inr rfl)) (hd : (gx == ("__debug__" : Str)) = false := by decide) (hcd : (gx == ("__classdict__" : Str)) = false := by decide)
    (hN2 : X.N[i]? = some x := by rfl) (hv2 : Vis X.env.scope x := by first | exact Or.inl rfl | exact Or.inr (Or.inl rfl) | exact Or.inr (Or.inr rfl)) (hd2 : (x == ("__debug__" : Str)) = false := by decide) (hcd2 : (x == ("__classdict__" : Str)) = false := by decide)
    (hm : M2 X (.Name gx pg) "setdefault" apos key lst cpos := by exact ⟨rfl, rfl, rfl, rfl⟩)
    (hbase : attributeBase (.Call (.Attribute (.Name gx pg) "setdefault" apos) [key, lst] [] cpos) "append" X.env (eval (.Call (.Attribute (.Name gx pg) "setdefault" apos) [key, lst] [] cpos) X.env) = eval (.Call (.Attribute (.Name gx pg) "setdefault" apos) [key, lst] [] cpos) X.env := by rfl)
    (hfew : ((backTo cpos2 (starEach [.Name x px] X.env)).all (fun x => !x.1) && (backToKw cpos2 (keywordEach [] X.env)).all (fun x => x.1.isSome)
      && decide ([Expr.Name x px].length + ([] : List Keyword).length + (if ([] : List Keyword).isEmpty then 0 else 1) < 30)) = true := by rfl)
    (hline : (apos2.endLine == cpos2.line) = true := by rfl) (hs : starEach [.Name x px] X.env = (false, eval (.Name x px) X.env) :: starEach [] X.env := by rfl) (hplain : (backTo cpos2 (starEach [] X.env)).any (·.1) = false := by rfl)
    (hsw : swapsWith (.Call (.Attribute (.Call (.Attribute (.Name gx pg) "setdefault" apos) [key, lst] [] cpos) "append" apos2) [.Name x px] [] cpos2) none epos.line X.env = pure false := by rfl)
    (hfs : ∀ x, foldedSetIterable iter X.env x = pure x := by intro _; rfl) :
    FS X E (.For tg iter [.Expr (.Call (.Attribute (.Call (.Attribute (.Name gx pg) "setdefault" apos) [key, lst] [] cpos) "append" apos2) [.Name x px] [] cpos2) epos] [] pos) (sGrp gi i src g kf) := by
  refine ps_imp (ps_for hp hc hi hg (pss_one (ps_expr (pe_bm PySem.F.plainAttrs_list PySem.F.slot_list_append PySem.F.type_list_append mt_append (pe_dsetdT hu (pe_var hN hv hd hcd) hk hl hm) (pa_cons (pe_var hN2 hv2 hd2 hcd2) pa_nil hs) hbase hfew hline hs hplain) hsw)) hfs) fun D σ H h => ?_
  obtain ⟨k, F, ρ, R, h⟩ := h
  refine ⟨k, F, ρ, R, (Den.bind h).imp fun ts ρ1 h1 J F1 H1 R1 s1 w1 => ?_⟩
  split at h1
  · rename_i hch
    obtain ⟨hdt, hnr⟩ := hch
    have h1 := Den.bind h1
    obtain ⟨hρ⟩ : PLift (ρ1[gi]? = some (.ow (.dt [] []))) := by
      unfold isDt0 at hdt
      split at hdt
      · rename_i e; exact ⟨e⟩
      · cases hdt
    obtain ⟨Da, ho, ev, fp, bp, npm, hpD, ro, R2⟩ := RS.asideI R1 hρ
    obtain ⟨kvs0, rfl, hk0, hr0⟩ := ro
    have ek : kvs0 = [] := by simpa using hk0
    subst ek
    have hlt : gi < ρ1.length := (List.getElem?_eq_some_iff.mp hρ).1
    have R3 := RS.toRaw R2 hnr hlt ev
    have G0 : GK X.K X.mg k.B k.F0 (upd k.B Da (.dT [])) F1 Da [] [] [] := ⟨upd_same, rfl, rfl, rfl, by simp, fun j b p e => by simp at e, fun a ha => by rw [upd_ne fun z => ha (by rw [z]; exact List.mem_cons_self ..)], fun a ha => by
      rw [List.mem_singleton] at ha; subst ha
      exact ⟨bp, R1.f0.free fp⟩⟩
    refine for_it w1 (fun j σ' H' => ∃ B1 F' ρ' γ bs kvs, RS X.K X.mg B1 k.F0 k.pm [V.ref Da] F' ρ' σ' H' ∧ GK X.K X.mg k.B k.F0 B1 F' Da bs kvs γ ∧ Same F1 F' ∧ Den (grpL gi i g kf (ts.drop j) γ ρ') (fun γ ρ => Den (grpFin gi γ ρ) (Post X k F D) (XOk X.K X.mg k E)) (XOk X.K X.mg k E)) ⟨_, F1, _, [], [], [], R3, G0, Same.refl _, h1⟩ (fun j σ' H' _ q => ?_) (fun j v σ' H' H'' hlt q y => ?_) (fun σ' H' q => ?_)
    · obtain ⟨B1, F', ρ', γ, bs, kvs, R', G', s', _⟩ := q
      exact s'.trans R'.fh
    · obtain ⟨B1, F', ρ', γ, bs, kvs, R', G', s', d⟩ := q
      obtain ⟨t, F2, et, R2', s2, r2⟩ := (y.grow s').take (show RSk X ⟨B1, k.F0, k.pm, [V.ref Da]⟩ F' ρ' σ' H' from R')
      have ed : ts.drop j = t :: ts.drop (j + 1) := by
        rw [List.drop_eq_getElem_cons hlt]
        rw [List.getElem?_eq_getElem hlt] at et
        rw [Option.some.inj et]
      rw [ed] at d
      unfold grpL at d
      split at d
      · exact d.elim
      · rename_i ρ2 e2
        refine ⟨⟨B1, k.F0, k.pm, [V.ref Da]⟩, F2, ρ', t, R2', r2, ρ2, e2, fun σ3 F3 H3 R4 s3 _ _ => ?_⟩
        have G3 := G'.mono (s2.trans s3)
        split at d
        · rename_i hraw
          have hraw := isRaw0_e hraw
          have hDa : σ3[gi]? = some (some (.ref Da)) := by
            obtain ⟨α, g1, _⟩ := R4.ex
            obtain ⟨v', e1, e2⟩ := g1 gi _ hraw
            have : v' = V.ref Da := by simpa using e2.symm
            rw [e1, this]
          have hDH : H3 Da = some (.dT kvs) := R4.bh _ _ G3.d
          refine ⟨.ref Da, hDa, Da, rfl, .inr ⟨kvs, .inl hDH⟩, ⟨B1, k.F0, k.pm, [V.ref Da]⟩, F3, ρ2, R4, den_nx ((Den.bind d).imp fun yk ρ4 h4 w F4 H4 R5 s4 r4 => ?_)⟩
          split at h4
          · rename_i kk xt ekk ext
            split at h4
            · rename_i hok
              refine ⟨⟨B1, k.F0, k.pm, [V.ref Da]⟩, F4, ρ4, R5, ?_⟩
              rw [hfl]
              intro z F5 H5 R6 s5 l5
              obtain ⟨p, hpo, rfl, fp5, bp5, npm5, hp5, ro5, R7⟩ := RS.aside R6 l5
              obtain ⟨vs5, rfl, hr5⟩ := ro5
              have ev5 : vs5 = [] := hr5
              subst ev5
              have G5 := G3.mono (s4.trans s5)
              obtain ⟨b, rfl, eb⟩ := keyTT_rep (r4.mono s5) ekk
              obtain ⟨vx, evx, rx⟩ := RS.slot R7 ext
              have hsz : kvs.length < sizeLine := by
                have e1 : kvs.length = γ.length := by
                  have := congrArg List.length G5.ks
                  simpa using this
                unfold grpOk at hok
                simp only [Bool.and_eq_true, decide_eq_true_eq] at hok
                rw [szL, e1]; exact hok.1
              have hitl : ∀ p ∈ γ, p.2.length < 16777216 := fun p hp => by
                unfold grpOk at hok
                simp only [Bool.and_eq_true, List.all_eq_true, decide_eq_true_eq] at hok
                exact hok.2 p hp
              have bq : B1 p = none := bp5
              have pB : k.B p = none := by
                by_cases hm : p ∈ Da :: bs
                · exact (G5.inn p hm).1
                · rw [← G5.out p hm]; exact bq
              have pn : p ∉ Da :: bs := fun m => by
                rcases List.mem_cons.mp m with ez | m
                · rw [ez, G5.d] at bq; cases bq
                · obtain ⟨jj, hjj⟩ := List.getElem?_of_mem m
                  have hl : jj < γ.length := by rw [← G5.len]; exact (List.getElem?_eq_some_iff.mp hjj).1
                  obtain ⟨ws, z1, _⟩ := G5.ce jj p _ hjj (List.getElem?_eq_getElem hl)
                  rw [z1] at bq; cases bq
              have sB5 : Same B1 (upd B1 p (.lst [])) := same_upd bp5
              have R8 := RS.lessBk R7 sB5
              have dH5 : H5 Da = some (.dT kvs) := R8.bh _ _ G5.d
              refine ⟨kvs, kk, b, dH5, rfl, R7.fh _ _ eb, hsz, fun v' ev' => ?_, fun en => ?_⟩
              · obtain ⟨jj, hj1, hj2⟩ := val_some ev'
                obtain ⟨b', it, hb', rfl, hg'⟩ := G5.kvAt hj1
                obtain ⟨ws, e1, e2⟩ := G5.ce jj b' _ hb' hg'
                have hH5 : H5 b' = some (.lst ws) := R8.bh _ _ e1
                have bm : b' ∈ bs := List.mem_of_getElem? hb'
                have eg : grpPut kk xt γ = γ.set jj (kk, it ++ [xt]) := grpPut_at hg' fun m hm q hq => by
                  obtain ⟨q', hq1, hq2⟩ := G5.keyAt hq
                  rw [← hq2]; exact hj2 m hm q' hq1
                refine ⟨.inl ⟨rfl, ws, SqL.of hH5⟩, vx, evx, b', ws, vx, rfl, rfl, hH5, by rw [← e2.length, szL]; exact hitl _ (List.mem_of_getElem? hg'), ?_⟩
                have G6 := G5.found hb' hg' e1 rx
                have R9 := RS.wrB (h' := .lst (ws ++ [vx])) R8 e1 (G5.inn b' (List.mem_cons_of_mem _ bm)).2 plain_lst' plain_lst' (fun vs z => by cases z)
                rw [eg] at h4
                exact ⟨_, F5, ρ4, _, bs, kvs, R9, G6, s'.trans (s2.trans (s3.trans (s4.trans s5))), h4⟩
              · have eg : grpPut kk xt γ = γ ++ [(kk, [xt])] := grpPut_new fun q hq => by
                  obtain ⟨jj, hjj⟩ := List.getElem?_of_mem hq
                  obtain ⟨q', hq1, hq2⟩ := G5.keyAt hjj
                  rw [← hq2]
                  exact val_none.mp en q' (List.mem_of_getElem? hq1)
                have nD : Da ≠ p := fun z => pn (by rw [z]; exact List.mem_cons_self ..)
                have F0D : k.F0 Da = none := (G5.inn Da (List.mem_cons_self ..)).2
                have F0p : k.F0 p = none := R7.f0.free fp5
                have eD : (upd B1 p (.lst [])) Da = some (.dT kvs) := by rw [upd_ne nD]; exact G5.d
                have R9 := RS.wrB (h' := .dT (putK kvs kk (.ref p))) R7 eD F0D plain_dT plain_dT (fun vs z => by cases z)
                have ep : (upd (upd B1 p (.lst [])) Da (.dT (putK kvs kk (.ref p)))) p = some (.lst []) := by rw [upd_ne (Ne.symm nD), upd_same]
                have hHp : (upd H5 Da (.dT (putK kvs kk (.ref p)))) p = some (.lst []) := R9.bh _ _ ep
                refine ⟨.inl ⟨rfl, [], SqL.of hHp⟩, vx, evx, p, [], vx, rfl, rfl, hHp, by rw [szL]; decide, ?_⟩
                have R10 := RS.wrB (h' := .lst ([] ++ [vx])) R9 ep F0p plain_lst' plain_lst' (fun vs z => by cases z)
                have G6 := G5.new (k := kk) pn pB F0p rx
                rw [eg] at h4
                rw [← putK_new (v := V.ref p) en] at G6
                exact ⟨_, F5, ρ4, _, bs ++ [p], _, R10, G6, s'.trans (s2.trans (s3.trans (s4.trans s5))), h4⟩
            · exact h4.elim
          · exact h4.elim
        · exact d.elim
    · obtain ⟨B1, F', ρ', γ, bs, kvs, R', G', s', d⟩ := q
      rw [List.drop_length] at d
      have d : Den (grpFin gi γ ρ') (Post X k F D) (XOk X.K X.mg k E) := d
      unfold grpFin at d
      split at d
      · rename_i hch
        obtain ⟨hraw, hn2⟩ := hch
        have hraw := isRaw0_e hraw
        have hDa : σ'[gi]? = some (some (.ref Da)) := by
          obtain ⟨α, g1, _⟩ := R'.ex
          obtain ⟨v', e1, e2⟩ := g1 gi _ hraw
          have : v' = V.ref Da := by simpa using e2.symm
          rw [e1, this]
        obtain ⟨F9, s9, R9⟩ := G'.thaw (rw0 := k.rw) R' (fun a e z => npm (by rw [e, z])) hraw hDa hn2
        exact d σ' F9 H' R9 (s1.trans (s'.trans s9))
      · exact d.elim
  · exact h1.elim
end
end FL

set_option maxHeartbeats 3200000
/-! FL73: sorted(set(x)), x a list of texts. -/
namespace FL
open PySem PySem.Spec PyProof.Rows L2 PySem.W PySem.Calls
/-- the text that an entry of a set holds -/
def txE (e : Int × Value) : Str := match e.2 with
  | .str z _ => z
  | _ => Str.empty
/-- at a stands a set of just these texts, and its table can be walked -/
def TSet (w : World) (h : Heap) (a : Addr) (ks : List Str) : Prop :=
  ∃ o es ep t, (h.get? a = some o ∧ o.ExactSet ∧ o.data = .set es ep t) ∧ (∀ e ∈ es.toList, ∃ z tk, e = (hashStr w z, Value.str z tk)) ∧ ks.Perm (es.toList.map txE) ∧
    (ks.Nodup ∧ ks.length < scanBound) ∧ (t.fits es.size = true ∧ Ris t.place.toList) ∧ (w.params.followText "set-order" = true ∨ t.led = true)
theorem TSet.keep {w : World} {h h2 : Heap} {a : Addr} {ks : List Str} (T : TSet w h a ks) (k : ∀ o, h.get? a = some o → h2.get? a = some o) : TSet w h2 a ks := by
  obtain ⟨o, es, ep, t, ⟨a1, a2⟩, r⟩ := T
  exact ⟨o, es, ep, t, ⟨k _ a1, a2⟩, r⟩
section
variable {P : Program} {w : World} {A : Around} {E : Value → Shared → Prop} {s : Shared} {a : Addr} {ks : List Str}
end
section
variable {P : Program} {w : World} {A : Around} {E : Value → Shared → Prop} {s : Shared} {a : Addr}
end
section
variable {X : Cx} {E : XK} {e : Expr} {fs : M (List T)} {p p2 q pos : Pos}
end
end FL

set_option maxHeartbeats 3200000
/-! FL74: sorted(set(x)), x a list of tuples of numbers, any many of them, fewer than 63 different ones. -/
namespace FL
open PySem PySem.Spec PyProof.Rows L2 PySem.W PySem.Calls
section
variable {P : Program} {w : World} {A : Around} {E : Value → Shared → Prop} {s : Shared}
end
end FL

set_option maxHeartbeats 3200000
/-! FL75: sorted(set(x)) as a reading, x a list of tuples of numbers. -/
namespace FL
open PySem PySem.Spec PyProof.Rows L2 PySem.W PySem.Calls
/-! the order of tuples of numbers -/
def tupI (ns : List Int) : PyData := .tuple (ns.map PyData.int)
def leT (a b : List Int) : Bool := dataLe false tupI a b
theorem leT_iff {a b : List Int} : leT a b = true ↔ dataLt (tupI b) (tupI a) = false := by
  show (!dataLt (tupI b) (tupI a)) = true ↔ _
  cases dataLt (tupI b) (tupI a) <;> simp
theorem leT_trans (a b c : List Int) (h1 : leT a b = true) (h2 : leT b c = true) : leT a c = true := by
  rw [leT_iff] at h1 h2 ⊢
  cases e : dataLt (tupI c) (tupI a) with
  | false => rfl
  | true =>
    rcases PyProof.Rows.lex_negTrans _ (keyToks (tupI b)) _ e with q | q
    · exact absurd (h2.symm.trans q) nofun
    · exact absurd (h1.symm.trans q) nofun
theorem leT_total (a b : List Int) : (leT a b || leT b a) = true := by
  rw [Bool.or_eq_true, leT_iff, leT_iff]
  cases e : dataLt (tupI b) (tupI a) with
  | false => exact .inl rfl
  | true =>
    refine .inr ?_
    cases e2 : dataLt (tupI a) (tupI b) with
    | false => rfl
    | true =>
      have q : dataLt (tupI a) (tupI a) = true := PyProof.Rows.lex_trans _ _ _ e2 e
      rw [show dataLt (tupI a) (tupI a) = false from PyProof.Rows.lex_irrefl _] at q
      cases q
theorem toks_ints : ∀ {xs ys : List Int}, keyToksAll (xs.map PyData.int) = keyToksAll (ys.map PyData.int) → xs = ys
  | [], [], _ => rfl
  | [], y :: ys, h => by simp [keyToksAll, keyToks] at h
  | x :: xs, [], h => by simp [keyToksAll, keyToks] at h
  | x :: xs, y :: ys, h => by
    simp only [List.map_cons, keyToksAll, keyToks, List.cons_append, List.nil_append, List.cons.injEq, true_and] at h
    rw [toks_ints h.2, Sum.inl.inj h.1]
theorem leT_anti {a b : List Int} (h1 : leT a b = true) (h2 : leT b a = true) : a = b := by
  have e : keyToks (tupI a) = keyToks (tupI b) := PyProof.Rows.lex_total _ _ (leT_iff.mp h2) (leT_iff.mp h1)
  unfold tupI at e
  simp only [keyToks] at e
  exact toks_ints e
theorem sorted_oneT {xs ys : List (List Int)} (h : xs.Perm ys) : xs.mergeSort leT = ys.mergeSort leT :=
  List.Perm.eq_of_pairwise (le := fun a b => leT a b = true) (fun _ _ _ _ h1 h2 => leT_anti h1 h2) (List.pairwise_mergeSort leT_trans leT_total xs) (List.pairwise_mergeSort leT_trans leT_total ys)
    ((List.mergeSort_perm _ _).trans (h.trans (List.mergeSort_perm _ _).symm))
section
variable {X : Cx} {E : XK} {e : Expr} {fs : M (List T)} {p p2 q pos : Pos}
end
end FL

set_option maxHeartbeats 2000000
/-! FL76: sorted(d), the keys tuples, one key at most, which may be the empty tuple. -/
namespace FL
open PySem PySem.Spec PyProof.Rows L2
section
variable {X : Cx} {E : XK} {e : Expr} {es : List Expr} {fs : M (List T)} {p pos : Pos}
end
end FL

set_option maxHeartbeats 2000000
/-! FL77: int(text); x.pop() of a list. -/
namespace FL
open PySem PySem.Spec PyProof.Rows L2
section
variable {X : Cx} {E : XK} {x : Str} {i : Nat} {p : Pos}
end
end FL

set_option maxHeartbeats 2000000
/-! FL78: [e for x in NAME if t], NAME a list of one's own, which it stays. -/
namespace FL
open PySem PySem.Spec PyProof.Rows L2
section
variable {X : Cx} {E : XK} {f : M T} {x : Str} {i : Nat} {p : Pos}
end
end FL

/-! NL1: plain Lean programs of what the readings do; the judgements. -/
namespace FL.NL
open PySem

/-- a plain program: no claim; an exception; a value; a drawn number -/
inductive R (α : Type) where
  | bad | exc (e : Ex) | ok (a : α) | dr (m : Int) (k : Int → R α)
namespace R
variable {α β γ : Type}
def bind0 (r : R α) (k : α → R β) : R β := match r with
  | .bad => .bad
  | .exc e => .exc e
  | .ok a => k a
  | .dr m f => .dr m fun v => (f v).bind0 k
/-- one behind the other -/
@[irreducible] def bind (r : R α) (k : α → R β) : R β := bind0 r k
theorem bind_e {r : R α} {k : α → R β} : r.bind k = r.bind0 k := by unfold bind; rfl
@[simp] theorem bind_ok {a : α} {k : α → R β} : (R.ok a).bind k = k a := by rw [bind_e]; rfl
@[simp] theorem bind_bad {k : α → R β} : (R.bad : R α).bind k = .bad := by rw [bind_e]; rfl
@[simp] theorem bind_exc {e : Ex} {k : α → R β} : (R.exc e : R α).bind k = .exc e := by rw [bind_e]; rfl
@[simp] theorem bind_dr {m : Int} {f : Int → R α} {k : α → R β} : (R.dr m f).bind k = .dr m fun v => (f v).bind k := by
  rw [bind_e]
  show R.dr m (fun v => (f v).bind0 k) = _
  congr 1; funext v; rw [bind_e]
theorem bind_assoc {r : R α} {k : α → R β} {l : β → R γ} : (r.bind k).bind l = r.bind fun a => (k a).bind l := by
  induction r with
  | bad => simp only [bind_bad]
  | exc e => simp only [bind_exc]
  | ok a => simp only [bind_ok]
  | dr m f ih => simp only [bind_dr, ih]
/-- within a comprehension no exception is carried -/
def noX (r : R α) : R α := match r with
  | .bad => .bad
  | .exc _ => .bad
  | .ok a => .ok a
  | .dr m f => .dr m fun v => (f v).noX
@[simp] theorem noX_ok {a : α} : (R.ok a).noX = .ok a := Eq.trans rfl rfl
@[simp] theorem noX_bad : (R.bad : R α).noX = .bad := Eq.trans rfl rfl
/-- all ends are good -/
def All (Q : α → Prop) : R α → Prop
  | .bad => False
  | .exc _ => False
  | .ok a => Q a
  | .dr m k => 0 < m ∧ m < 18446744073709551616 ∧ ∀ v, 0 ≤ v → v < m → All Q (k v)
theorem All.bind {Q : β → Prop} {r : R α} {k : α → R β} (h : All (fun a => All Q (k a)) r) : All Q (r.bind k) := by
  rw [R.bind_e]
  induction r with
  | bad => exact h
  | exc e => exact h
  | ok a => exact h
  | dr m f ih => exact ⟨h.1, h.2.1, fun v h0 h1 => ih v (h.2.2 v h0 h1)⟩
theorem All.mono {Q Q' : α → Prop} {r : R α} (h : All Q r) (hi : ∀ a, Q a → Q' a) : All Q' r := by
  induction r with
  | bad => exact h
  | exc e => exact h
  | ok a => exact hi a h
  | dr m f ih => exact ⟨h.1, h.2.1, fun v h0 h1 => ih v (h.2.2 v h0 h1)⟩
@[simp] theorem All_ok {Q : α → Prop} {a : α} : All Q (.ok a) ↔ Q a := Iff.rfl
theorem All_noX {Q : α → Prop} {r : R α} (h : All Q r) : All Q r.noX := by
  induction r with
  | bad => exact h
  | exc e => exact h
  | ok a => exact h
  | dr m f ih => exact ⟨h.1, h.2.1, fun v h0 h1 => ih v (h.2.2 v h0 h1)⟩
/-- reckoned over all draws -/
def allB (q : α → Bool) : R α → Bool
  | .bad => false
  | .exc _ => false
  | .ok a => q a
  | .dr m k => decide (0 < m) && decide (m < 18446744073709551616) && (List.range m.toNat).all fun v => allB q (k (v : Int))
theorem All_of {q : α → Bool} : ∀ {r : R α}, allB q r = true → All (fun a => q a = true) r
  | .bad, h => by cases h
  | .exc _, h => by cases h
  | .ok a, h => h
  | .dr m k, h => by
    simp only [allB, Bool.and_eq_true, decide_eq_true_eq, List.all_eq_true, List.mem_range] at h
    refine ⟨h.1.1, h.1.2, fun v h0 h1 => All_of ?_⟩
    have := h.2 v.toNat (by omega)
    rwa [Int.toNat_of_nonneg h0] at this
end R

/-! ### what is known of the slots -/
/-- the row of drawn numbers -/
def RowOk (o : O) : Prop := ∃ (cs : List Int) (a b c : Int), o = .l [.sl (cs.map T.int), .int a, .int b, .int c] ∧ 0 ≤ a ∧ 0 ≤ b ∧ b < 2147483647
inductive Sp where
  | any | nf | is (x : SV) | lz (ts : List T) | row (lent : Bool)
abbrev Ctx := List Sp
def nfz (x : SV) : Bool := match x with
  | .un => true
  | .fz _ => true
  | _ => false
def Sp.ok : Sp → SV → Prop
  | .any, _ => True
  | .nf, x => nfz x = true
  | .is y, x => x = y
  | .lz ts, x => x = .ow (.l ts) ∨ x = .fz (.lst ts)
  | .row b, x => ∃ o, x = (if b = true then SV.pa o else SV.ow o) ∧ RowOk o
structure St (ρ : Env) (Γ : Ctx) : Prop where
  len : ρ.length = Γ.length
  get : ∀ (i : Nat) (p : Sp), Γ[i]? = some p → ∃ x, ρ[i]? = some x ∧ p.ok x
theorem St.is {ρ : Env} {Γ : Ctx} (h : St ρ Γ) {i : Nat} {x : SV} (e : Γ[i]? = some (.is x)) : ρ[i]? = some x := by
  obtain ⟨y, e1, e2⟩ := h.get i _ e
  have e2 : y = x := e2
  rw [e1, e2]
theorem St.set {ρ : Env} {Γ : Ctx} (h : St ρ Γ) {p : Sp} {x : SV} (hp : p.ok x) (i : Nat) : St (ρ.set i x) (Γ.set i p) := by
  refine ⟨by simp [h.len], fun j q e => ?_⟩
  by_cases hj : i = j
  · subst hj
    have hl : i < Γ.length := by
      have := (List.getElem?_eq_some_iff.mp e).1
      simpa using this
    rw [List.getElem?_set_self hl] at e
    cases e
    exact ⟨x, List.getElem?_set_self (by rw [h.len]; exact hl), hp⟩
  · rw [List.getElem?_set_ne hj] at e
    obtain ⟨y, e1, e2⟩ := h.get j q e
    exact ⟨y, by rw [List.getElem?_set_ne hj]; exact e1, e2⟩
inductive SpLe : Sp → Sp → Prop
  | refl (p : Sp) : SpLe p p
  | any (p : Sp) : SpLe p .any
  | nfz (t : T) : SpLe (.is (.fz t)) .nf
  | nun : SpLe (.is .un) .nf
  | low (ts : List T) : SpLe (.is (.ow (.l ts))) (.lz ts)
  | lfz (ts : List T) : SpLe (.is (.fz (.lst ts))) (.lz ts)
  | mkrow (cs : List Int) (c : Int) (h0 : 0 ≤ c) (h1 : c < 2147483647) : SpLe (.is (.ow (.l [.sl (cs.map T.int), .int 0, .int c, .int 0]))) (.row false)
theorem SpLe.ok {p q : Sp} (h : SpLe p q) {x : SV} (hx : p.ok x) : q.ok x := by
  cases h with
  | refl => exact hx
  | any p => trivial
  | nfz t => have hx : x = .fz t := hx; subst hx; rfl
  | nun => have hx : x = .un := hx; subst hx; rfl
  | low ts => exact .inl hx
  | lfz ts => exact .inr hx
  | mkrow cs c h0 h1 => exact ⟨_, hx, cs, 0, c, 0, rfl, by decide, h0, h1⟩
inductive Le : Ctx → Ctx → Prop
  | nil : Le [] []
  | cons {p q : Sp} {Γ Γ' : Ctx} (h : SpLe p q) (t : Le Γ Γ') : Le (p :: Γ) (q :: Γ')
theorem Le.length {Γ Γ' : Ctx} (h : Le Γ Γ') : Γ.length = Γ'.length := by
  induction h with
  | nil => rfl
  | cons _ _ ih => simp [ih]
theorem Le.get {Γ Γ' : Ctx} (h : Le Γ Γ') : ∀ {i : Nat} {q : Sp}, Γ'[i]? = some q → ∃ p, Γ[i]? = some p ∧ SpLe p q := by
  induction h with
  | nil => intro i q e; simp at e
  | cons hp _ ih =>
    intro i q e
    cases i with
    | zero => simp at e; subst e; exact ⟨_, rfl, hp⟩
    | succ i => exact ih (by simpa using e)
theorem St.le {ρ : Env} {Γ Γ' : Ctx} (h : St ρ Γ) (l : Le Γ Γ') : St ρ Γ' := by
  refine ⟨h.len.trans l.length, fun i q e => ?_⟩
  obtain ⟨p, e1, hl⟩ := l.get e
  obtain ⟨x, e2, hx⟩ := h.get i p e1
  exact ⟨x, e2, hl.ok hx⟩
theorem Le.k {p : Sp} {Γ Γ' : Ctx} (t : Le Γ Γ') : Le (p :: Γ) (p :: Γ') := .cons (.refl p) t
theorem Le.d {p : Sp} {Γ Γ' : Ctx} (t : Le Γ Γ') : Le (p :: Γ) (.any :: Γ') := .cons (.any p) t
theorem Le.n {t : T} {Γ Γ' : Ctx} (t' : Le Γ Γ') : Le (.is (.fz t) :: Γ) (.nf :: Γ') := .cons (.nfz t) t'
theorem Le.u {Γ Γ' : Ctx} (t' : Le Γ Γ') : Le (.is .un :: Γ) (.nf :: Γ') := .cons .nun t'
theorem Le.lo {ts : List T} {Γ Γ' : Ctx} (t : Le Γ Γ') : Le (.is (.ow (.l ts)) :: Γ) (.lz ts :: Γ') := .cons (.low ts) t
/-! ### judgements -/
variable {α β γ δ σ : Type}
/-- x (what a reading gives) is as the program r says; P: of r's value and x -/
def Good (P : γ → Res β → Prop) (x : Res β) : R γ → Prop
  | .bad => True
  | .exc e => x = .exc e
  | .ok v => P v x
  | .dr m k => 0 < m → m < 18446744073709551616 → ∃ v, 0 ≤ v ∧ v < m ∧ Good P x (k v)
theorem Good.bind {P : γ → Res β → Prop} {x : Res β} {r : R α} {k : α → R γ} (h : Good (fun a x => Good P x (k a)) x r) : Good P x (r.bind k) := by
  rw [R.bind_e]
  induction r with
  | bad => trivial
  | exc e => exact h
  | ok a => exact h
  | dr m f ih => exact fun h0 h1 => let ⟨v, a, b, c⟩ := h h0 h1; ⟨v, a, b, ih v c⟩
theorem good_ok {P : γ → Res β → Prop} {x : Res β} {a : α} {k : α → R γ} (h : Good P x (k a)) : Good P x ((R.ok a).bind k) := by rw [R.bind_ok]; exact h
theorem Good.mono {P P' : γ → Res β → Prop} {x : Res β} {r : R γ} (h : Good P x r) (hi : ∀ v, P v x → P' v x) : Good P' x r := by
  induction r with
  | bad => trivial
  | exc e => exact h
  | ok a => exact hi a h
  | dr m f ih => exact fun h0 h1 => let ⟨v, a, b, c⟩ := h h0 h1; ⟨v, a, b, ih v c⟩
/-- from what a part gives to what the whole gives -/
theorem Good.next {δ : Type} {P : γ → Res β → Prop} {y : Res δ} {x : Res β} {Q : α → Res δ → Prop} {r : R α} {k : α → R γ} (h : Good Q y r) (hx : ∀ e, y = .exc e → x = .exc e) (hi : ∀ a, Q a y → Good P x (k a)) : Good P x (r.bind k) := by
  rw [R.bind_e]
  induction r with
  | bad => trivial
  | exc e => exact hx e h
  | ok a => exact hi a h
  | dr m f ih => exact fun h0 h1 => let ⟨v, a, b, c⟩ := h h0 h1; ⟨v, a, b, ih v c⟩
theorem Good.all {P : γ → Res β → Prop} {x : Res β} {Q : γ → Prop} {r : R γ} (h : Good P x r) (a : R.All Q r) : ∃ v, Q v ∧ P v x := by
  induction r with
  | bad => exact a.elim
  | exc e => exact a.elim
  | ok v => exact ⟨v, a, h⟩
  | dr m f ih => obtain ⟨v, h0, h1, c⟩ := h a.1 a.2.1; exact ih v c (a.2.2 v h0 h1)
theorem Good.noX {P : γ → Res β → Prop} {x : Res β} {r : R γ} (h : Good P x r) : Good P x r.noX := by
  induction r with
  | bad => trivial
  | exc e => trivial
  | ok v => exact h
  | dr m f ih => exact fun h0 h1 => let ⟨v, a, b, c⟩ := h h0 h1; ⟨v, a, b, ih v c⟩
/-- an expression (a test, arguments, what is walked): r is its program with k behind it -/
def EW (Γ : Ctx) (e : M δ) (r : R γ) (k : α → R γ) (f : α → δ) (Γ' : Ctx) : Prop :=
  ∀ (β : Type) (P : γ → Res β → Prop) (K : δ → Env → Res β), (∀ a ρ, St ρ Γ' → Good P (K (f a) ρ) (k a)) → ∀ ρ, St ρ Γ → Good P ((e ρ).bind K) r
/-- a statement, or a block -/
def SW (Γ : Ctx) (s : MS) (r : R γ) (P : γ → Res Fl → Prop) : Prop := ∀ ρ, St ρ Γ → Good P (s ρ) r
/-- a target -/
def GW (Γ : Ctx) (g : MG) (t : T) (Γ' : Ctx) : Prop := ∀ ρ, St ρ Γ → ∃ ρ', g t ρ = some ρ' ∧ St ρ' Γ'
def GsW (Γ : Ctx) (g : MGs) (ts : List T) (Γ' : Ctx) : Prop := ∀ ρ, St ρ Γ → ∃ ρ', g ts ρ = some ρ' ∧ St ρ' Γ'
/-- an operation of trees is as r says -/
def Lo (x : Option δ) (r : R α) (f : α → δ) : Prop := match r with
  | .bad => True
  | .ok v => x = some (f v)
  | _ => False
theorem res_bind_assoc {x : Res α} {k : α → Env → Res β} {l : β → Env → Res γ} : (x.bind k).bind l = x.bind fun a ρ => (k a ρ).bind l := by
  cases x <;> rfl
section
variable {Γ Γ' Γ'' Γ3 : Ctx} {e e1 e2 e3 : M T} {r : R γ} {f : α → δ} {k : α → R γ}
theorem ew_pure {e : M δ} {a : α} (h : ∀ ρ, St ρ Γ → e ρ = .ok (f a) ρ) : EW Γ e (k a) k f Γ := fun β P K hk ρ hs => by
  rw [h ρ hs]; exact hk a ρ hs
theorem ew_bind {δ' α' : Type} {e : M δ'} {f : α' → δ'} {g : δ' → M δ} {f' : α → δ} {k1 : α' → R γ} (h : EW Γ e r k1 f Γ') (hg : ∀ a, EW Γ' (g (f a)) (k1 a) k f' Γ'') : EW Γ (fun ρ => (e ρ).bind g) r k f' Γ'' := fun β P K hk ρ hs => by
  rw [res_bind_assoc]
  exact h β P _ (fun a ρ' hs' => hg a β P K hk ρ' hs') ρ hs
theorem ew_lift {x : Option δ} {r0 : R α} (h : Lo x r0 f) : EW Γ (liftO x) (r0.bind k) k f Γ := fun β P K hk ρ hs => by
  rw [R.bind_e]
  cases r0 with
  | bad => trivial
  | exc e => exact h.elim
  | ok v =>
    have h : x = some (f v) := h
    rw [h]; exact hk v ρ hs
  | dr m f => exact h.elim
theorem ew_tot {x : Option δ} {a : α} (h : x = some (f a)) : EW Γ (liftO x) (k a) k f Γ := fun β P K hk ρ hs => by
  rw [h]; exact hk a ρ hs
/-! names, constants -/
theorem ew_var {i : Nat} (a : α) (f : α → T) {k : α → R γ} (h : Γ[i]? = some (.is (.fz (f a))) := by rfl) : EW Γ (rdA i) (k a) k f Γ :=
  ew_pure fun ρ hs => by unfold rdA; rw [hs.is h]
theorem ew_frz {i : Nat} (a : α) (f : α → T) {k : α → R γ} {o : O} (h : Γ[i]? = some (.is (.ow o)) := by rfl) (ho : frzO o = f a := by rfl) : EW Γ (rdA i) (k a) k f (Γ.set i (.is (.fz (f a)))) := fun β P K hk ρ hs => by
  unfold rdA
  rw [hs.is h]
  show Good P (K (frzO o) (ρ.set i (.fz (frzO o)))) _
  rw [ho]
  exact hk a _ (hs.set (p := .is _) rfl i)
theorem ew_con {t : T} (a : α) (f : α → T) {k : α → R γ} (h : f a = t := by rfl) : EW Γ (rdC t) (k a) k f Γ :=
  ew_pure fun ρ hs => by rw [h]; rfl
theorem ew_co {α' : Type} {e : M δ} {f : α → δ} {g : α' → δ} {k : α' → R γ} (c : α → α') (h : ∀ a, f a = g (c a)) (D : EW Γ e r (fun a => k (c a)) f Γ') : EW Γ e r k g Γ' := fun β P K hk ρ hs =>
  D β P K (fun a ρ' hs' => by rw [h a]; exact hk (c a) ρ' hs') ρ hs
theorem ew_cst {e : M δ} (a : α) (f : α → δ) {k : α → R γ} (h : ∀ ρ, e ρ = .ok (f a) ρ := by intro _; rfl) : EW Γ e (k a) k f Γ := ew_pure fun ρ _ => h ρ
theorem ew_bindv {e : M δ} {f : α → δ} {k : α → R γ} (D : EW Γ e r (fun a => (R.ok a).bind k) f Γ') : EW Γ e r k f Γ' := by simpa only [R.bind_ok] using D
/-- a plain value, whatever stands behind it -/
theorem ew_val {e : M δ} {a : α} {f : α → δ} (h : ∀ {γ : Type} (k : α → R γ), EW Γ e (k a) k f Γ') {ρ : Env} (hs : St ρ Γ) : ∃ ρ', e ρ = .ok (f a) ρ' ∧ St ρ' Γ' := by
  classical
  have := h (fun b => if b = a then R.ok () else .bad) δ (fun _ x => ∃ ρ', x = .ok (f a) ρ' ∧ St ρ' Γ') (fun y ρ => .ok y ρ) (fun b ρ' hs' => by
    by_cases hb : b = a
    · simp only [hb, if_true]; exact ⟨ρ', rfl, hs'⟩
    · simp only [hb, if_false]; trivial) ρ hs
  simp only [if_true] at this
  obtain ⟨ρ', e1, hs'⟩ := this
  refine ⟨ρ', ?_, hs'⟩
  cases he : e ρ with
  | bad => rw [he] at e1; cases e1
  | exc x => rw [he] at e1; cases e1
  | ok y ρ2 => rw [he] at e1; exact e1
/-! operators -/
theorem ew_op2 {α1 α2 : Type} {o : T → T → Option T} {f1 : α1 → T} {f2 : α2 → T} {f : α → T} {k1 : α1 → R γ} {w : α1 → α2 → α} (hw : ∀ a b, o (f1 a) (f2 b) = some (f (w a b)))
    (h1 : EW Γ e1 r k1 f1 Γ') (h2 : ∀ a, EW Γ' e2 (k1 a) (fun b => k (w a b)) f2 Γ'') : EW Γ (op2 o e1 e2) r k f Γ'' :=
  ew_bind h1 fun a => ew_bind (h2 a) fun b => ew_tot (hw a b)
theorem ew_op2p {α1 α2 : Type} {o : T → T → Option T} {f1 : α1 → T} {f2 : α2 → T} {f : α → T} {k1 : α1 → R γ} {r0 : α1 → α2 → R α} (hw : ∀ a b, Lo (o (f1 a) (f2 b)) (r0 a b) f)
    (h1 : EW Γ e1 r k1 f1 Γ') (h2 : ∀ a, EW Γ' e2 (k1 a) (fun b => (r0 a b).bind k) f2 Γ'') : EW Γ (op2 o e1 e2) r k f Γ'' :=
  ew_bind h1 fun a => ew_bind (h2 a) fun b => ew_lift (hw a b)
theorem ew_op1 {α1 : Type} {o : T → Option T} {f1 : α1 → T} {f : α → T} {w : α1 → α} (hw : ∀ a, o (f1 a) = some (f (w a)))
    (h1 : EW Γ e1 r (fun a => k (w a)) f1 Γ') : EW Γ (op1 o e1) r k f Γ' := ew_bind h1 fun a => ew_tot (hw a)
theorem ew_op1p {α1 : Type} {o : T → Option T} {f1 : α1 → T} {f : α → T} {r0 : α1 → R α} (hw : ∀ a, Lo (o (f1 a)) (r0 a) f)
    (h1 : EW Γ e1 r (fun a => (r0 a).bind k) f1 Γ') : EW Γ (op1 o e1) r k f Γ' := ew_bind h1 fun a => ew_lift (hw a)
/-! tests and truth values -/
def eB (b : Bool) : T := .bl b
def idB (b : Bool) : Bool := b
theorem ew_tst {k : Bool → R γ} (h : EW Γ e r k eB Γ') : EW Γ (tst e) r k idB Γ' := ew_bind h fun a => ew_tot (k := k) (f := idB) (a := a) rfl
theorem ew_truth {α1 : Type} {k : Bool → R γ} {f1 : α1 → T} {w : α1 → Bool} (hw : ∀ a, tru (f1 a) = some (w a)) (h : EW Γ e r (fun a => k (w a)) f1 Γ') : EW Γ (truth e) r k idB Γ' :=
  ew_bind h fun a => ew_tot (k := k) (f := idB) (a := w a) (hw a)
theorem ew_notT {g : M Bool} {k : Bool → R γ} (h : EW Γ g r (fun b => k (!b)) idB Γ') : EW Γ (notT g) r k idB Γ' := fun β P K hk ρ hs => by
  unfold notT
  rw [res_bind_assoc]
  exact h β P _ (fun b ρ' hs' => hk (!b) ρ' hs') ρ hs
/-- a part's program by itself -/
abbrev EV (Γ : Ctx) (e : M δ) (r : R α) (f : α → δ) (Γ' : Ctx) : Prop := EW Γ e r (fun a => .ok a) f Γ'
theorem ew_own {e : M δ} {r0 : R α} (h : EV Γ e r0 f Γ') : EW Γ e (r0.bind k) k f Γ' := fun β P K hk ρ hs => by
  have := h (β := δ) (P := fun a x => ∃ ρ', x = .ok (f a) ρ' ∧ St ρ' Γ') (fun y ρ => .ok y ρ) (fun a ρ' hs' => ⟨ρ', rfl, hs'⟩) ρ hs
  have e2 : ((e ρ).bind fun y ρ => Res.ok y ρ) = e ρ := by cases e ρ <;> rfl
  rw [e2] at this
  refine this.next (fun x hx => by rw [hx]; rfl) fun a ⟨ρ', hx, hs'⟩ => ?_
  rw [hx]; exact hk a ρ' hs'
/-- and, or, with effects on the right -/
theorem ew_andTx {g h : M Bool} {k : Bool → R γ} {rb : R Bool} (h1 : EW Γ g r (fun a => (if a = true then rb else .ok false).bind k) idB Γ') (h2 : EV Γ' h rb idB Γ') : EW Γ (andT g h) r k idB Γ' := fun β P K hk ρ hs => by
  unfold andT
  rw [res_bind_assoc]
  refine h1 β P _ (fun a ρ' hs' => ?_) ρ hs
  cases a with
  | true => exact ew_own h2 β P K (fun b ρ2 hs2 => hk b ρ2 hs2) ρ' hs'
  | false => exact good_ok (hk false ρ' hs')
theorem ew_orTx {g h : M Bool} {k : Bool → R γ} {rb : R Bool} (h1 : EW Γ g r (fun a => (if a = true then .ok true else rb).bind k) idB Γ') (h2 : EV Γ' h rb idB Γ') : EW Γ (orT g h) r k idB Γ' := fun β P K hk ρ hs => by
  unfold orT
  rw [res_bind_assoc]
  refine h1 β P _ (fun a ρ' hs' => ?_) ρ hs
  cases a with
  | false => exact ew_own h2 β P K (fun b ρ2 hs2 => hk b ρ2 hs2) ρ' hs'
  | true => exact good_ok (hk true ρ' hs')
/-! the same as values -/
theorem ew_notV {k : Bool → R γ} (h : EW Γ e r (fun b => k (!b)) eB Γ') : EW Γ (notV e) r k eB Γ' := fun β P K hk ρ hs => by
  unfold notV
  rw [res_bind_assoc]
  exact h β P _ (fun b ρ' hs' => hk (!b) ρ' hs') ρ hs
theorem ew_andV {k : Bool → R γ} {b2 : Bool} (h1 : EW Γ e1 r (fun a => k (a && b2)) eB Γ') (h2 : ∀ {γ : Type} (k : Bool → R γ), EW Γ' e2 (k b2) k eB Γ') : EW Γ (andV e1 e2) r k eB Γ' := fun β P K hk ρ hs => by
  unfold andV
  rw [res_bind_assoc]
  refine h1 β P _ (fun a ρ' hs' => ?_) ρ hs
  cases a with
  | true => exact h2 k β P K (fun b ρ2 hs2 => hk b ρ2 hs2) ρ' hs'
  | false => exact hk false ρ' hs'
theorem ew_andVx {k : Bool → R γ} {rb : R Bool} (h1 : EW Γ e1 r (fun a => (if a = true then rb else .ok false).bind k) eB Γ') (h2 : EV Γ' e2 rb eB Γ') : EW Γ (andV e1 e2) r k eB Γ' := fun β P K hk ρ hs => by
  unfold andV
  rw [res_bind_assoc]
  refine h1 β P _ (fun a ρ' hs' => ?_) ρ hs
  cases a with
  | true => exact ew_own h2 β P K (fun b ρ2 hs2 => hk b ρ2 hs2) ρ' hs'
  | false => exact good_ok (hk false ρ' hs')
/-- a < b < c, all plain -/
theorem ew_chn {α1 α2 α3 : Type} {o o' : T → T → Option T} {f1 : α1 → T} {f2 : α2 → T} {f3 : α3 → T} {k1 : α1 → R γ} {k : Bool → R γ} {w : α1 → α2 → Bool} {w' : α2 → α3 → Bool} {c : α3} (hw : ∀ a b, o (f1 a) (f2 b) = some (.bl (w a b))) (hw' : ∀ a b, o' (f2 a) (f3 b) = some (.bl (w' a b)))
    (h1 : EW Γ e1 r k1 f1 Γ') (h2 : ∀ a, EW Γ' e2 (k1 a) (fun b => k (w a b && w' b c)) f2 Γ'') (h3 : ∀ {γ : Type} (k : α3 → R γ), EW Γ'' e3 (k c) k f3 Γ'') : EW Γ (chn o o' e1 e2 e3) r k eB Γ'' := by
  refine ew_bind h1 fun a => ew_bind (h2 a) fun b => ?_
  intro β P K hk ρ hs
  rw [hw a b]
  show Good P ((match (some (T.bl (w a b))).bind toB with
    | some true => (e3 ρ).bind fun z ρ => liftO (o' (f2 b) z) ρ
    | some false => Res.ok (.bl false) ρ
    | none => .bad).bind K) _
  cases h : w a b with
  | false => exact hk false ρ hs
  | true => 
    show Good P (((e3 ρ).bind fun z ρ => liftO (o' (f2 b) z) ρ).bind K) _
    rw [res_bind_assoc]
    refine h3 (fun c => k (w' b c)) β P _ (fun z ρ' hs' => ?_) ρ hs
    rw [hw' b z]
    exact hk _ ρ' hs'
/-! arguments, calls -/
def aN (_ : Unit) : List T := []
def aC (f : α → T) (g : β → List T) (p : α × β) : List T := f p.1 :: g p.2
theorem ew_nil {k : Unit → R γ} : EW Γ rdNil (k ()) k aN Γ := ew_pure fun ρ hs => rfl
theorem ew_cons {α1 α2 : Type} {es : M (List T)} {f1 : α1 → T} {f2 : α2 → List T} {k1 : α1 → R γ} {k : α1 × α2 → R γ} (h1 : EW Γ e r k1 f1 Γ') (h2 : ∀ a, EW Γ' es (k1 a) (fun b => k (a, b)) f2 Γ'') : EW Γ (rdCons e es) r k (aC f1 f2) Γ'' := by
  refine ew_bind h1 fun a => ew_bind (h2 a) fun b => ?_
  exact ew_pure (a := (a, b)) fun ρ hs => rfl
theorem ew_calF {α1 : Type} {o : List T → Option T} {es : M (List T)} {f1 : α1 → List T} {f : α → T} {w : α1 → α} (hw : ∀ a, o (f1 a) = some (f (w a))) (h : EW Γ es r (fun a => k (w a)) f1 Γ') : EW Γ (calF o es) r k f Γ' := ew_bind h fun a => ew_tot (hw a)
theorem ew_calFp {α1 : Type} {o : List T → Option T} {es : M (List T)} {f1 : α1 → List T} {f : α → T} {r0 : α1 → R α} (hw : ∀ a, Lo (o (f1 a)) (r0 a) f) (h : EW Γ es r (fun a => (r0 a).bind k) f1 Γ') : EW Γ (calF o es) r k f Γ' := ew_bind h fun a => ew_lift (hw a)
theorem ew_calOp {α1 : Type} {o : List T → Option O} {es : M (List T)} {f1 : α1 → List T} {f : α → O} {r0 : α1 → R α} (hw : ∀ a, Lo (o (f1 a)) (r0 a) f) (h : EW Γ es r (fun a => (r0 a).bind k) f1 Γ') : EW Γ (calO o es) r k f Γ' := ew_bind h fun a => ew_lift (hw a)
theorem ew_calI {α1 : Type} {o : List T → Option (List T)} {es : M (List T)} {f1 : α1 → List T} {f : α → List T} {w : α1 → α} (hw : ∀ a, o (f1 a) = some (f (w a))) (h : EW Γ es r (fun a => k (w a)) f1 Γ') : EW Γ (calI o es) r k f Γ' := ew_bind h fun a => ew_tot (hw a)
theorem ew_calIp {α1 : Type} {o : List T → Option (List T)} {es : M (List T)} {f1 : α1 → List T} {f : α → List T} {r0 : α1 → R α} (hw : ∀ a, Lo (o (f1 a)) (r0 a) f) (h : EW Γ es r (fun a => (r0 a).bind k) f1 Γ') : EW Γ (calI o es) r k f Γ' := ew_bind h fun a => ew_lift (hw a)
/-- a def is as the program says -/
structure Fn (F : Sg) (ts : List T) (r : R α) (f : α → T) : Prop where
  ok : Good (fun v x => x = .ok (f v) []) (F ts) r
theorem ew_call {α1 : Type} {F : Sg} {es : M (List T)} {f1 : α1 → List T} {f : α → T} {N : α1 → R α} (hF : ∀ a, Fn F (f1 a) (N a) f) (h : EW Γ es r (fun a => (N a).bind k) f1 Γ') : EW Γ (calU F es) r k f Γ' := by
  refine ew_bind h fun a => ?_
  intro β P K hk ρ hs
  refine Good.next (hF a).ok (fun e he => by rw [he]; rfl) fun v hv => ?_
  rw [hv]; exact hk v ρ hs
/-- a def that changes the row -/
def FnM (F : SgM) (ts : List T) (r : R α) (f : α → T) : Prop := ∀ o, RowOk o → Good (fun v x => ∃ o' ρ, RowOk o' ∧ x = .ok (f v, o') ρ) (F o ts) r.noX
theorem Good.calm {P : γ → Res β → Prop} {y : Res (T × O)} {x : Res β} {Q : α → Res (T × O) → Prop} {r : R α} {k : α → R γ} (h : Good Q y r.noX) (hi : ∀ a, Q a y → Good P x (k a)) : Good P x (r.noX.bind k) := by
  rw [R.bind_e]
  induction r with
  | bad => trivial
  | exc e => trivial
  | ok a => exact hi a h
  | dr m f ih => exact fun h0 h1 => let ⟨v, a, b, c⟩ := h h0 h1; ⟨v, a, b, ih v c⟩
theorem ew_callM {α1 : Type} {i : Nat} {F : SgM} {es : M (List T)} {f1 : α1 → List T} {f : α → T} {N : α1 → R α} {b : Bool} (hF : ∀ a, FnM F (f1 a) (N a) f) (h : EW Γ es r (fun a => (N a).noX.bind k) f1 Γ') (h0 : Γ[i]? = some (.row b) := by rfl) (hi : Γ'[i]? = some (.row b) := by rfl) : EW Γ (calM F i es) r k f Γ' := by
  intro β P K hk ρ hs
  unfold calM withOwn
  obtain ⟨x0, ex0, o0, hx0, _⟩ := hs.get i _ h0
  have e0 : rdOwn i ρ = some o0 := by unfold rdOwn; rw [ex0, hx0]; cases b <;> rfl
  rw [e0]
  simp only
  rw [res_bind_assoc]
  refine h β P _ (fun a ρ' hs' => ?_) ρ hs
  obtain ⟨x, ex, o, hx, ho⟩ := hs'.get i _ hi
  have e1 : rdOwn i ρ' = some o := by unfold rdOwn; rw [ex, hx]; cases b <;> rfl
  rw [e1]
  refine (hF a o ho).calm fun v ⟨o', ρ2, ho', hv⟩ => ?_
  simp only
  rw [hv]
  refine hk v _ ?_
  unfold setOwn
  rw [ex]
  refine ⟨by simpa using hs'.len, fun j q ej => ?_⟩
  by_cases hj : i = j
  · subst hj
    rw [hi] at ej; cases ej
    have hl := (List.getElem?_eq_some_iff.mp ex).1
    refine ⟨_, List.getElem?_set_self hl, o', ?_, ho'⟩
    rw [hx]; cases b <;> rfl
  · simp only [List.getElem?_set_ne hj]; exact hs'.get j q ej
end
end FL.NL

/-! NL2: statements, loops, comprehensions, defs. -/
namespace FL.NL
open PySem
variable {α β γ δ σ : Type}
section
variable {Γ Γ' Γ'' Γ3 : Ctx} {e e1 e2 e3 : M T} {r : R γ} {f : α → T} {k : α → R γ} {s s1 s2 : MS} {P : γ → Res Fl → Prop} {i j : Nat}
theorem blt_lt {a b : Nat} (h : Nat.blt a b = true) : a < b := Nat.le_of_ble_eq_true h
/-! ### ends of blocks -/
def Nx (ρ' : Ctx) (x : Res Fl) : Prop := ∃ ρ, (x = .ok .nx ρ ∨ x = .ok .ct ρ) ∧ St ρ ρ'
/-- a block that only goes on -/
def PN (Δ : σ → Ctx) (v : σ) (x : Res Fl) : Prop := ∃ ρ, x = .ok .nx ρ ∧ St ρ (Δ v)
/-- a loop's body that only goes on -/
def PL (Δ : σ → Ctx) (v : σ) (x : Res Fl) : Prop := ∃ ρ, (x = .ok .nx ρ ∨ x = .ok .ct ρ) ∧ St ρ (Δ v)
/-- a def's body -/
def PF (f : α → T) (v : α) (x : Res Fl) : Prop := (∃ ρ, x = .ok (.rt (f v)) ρ) ∨ (f v = .non ∧ ∃ ρ, x = .ok .nx ρ)
/-- the body of a def that was lent the row -/
def PM (f : α → T) (v : α) (x : Res Fl) : Prop := ∃ ρ o, lent ρ = some o ∧ RowOk o ∧ (x = .ok (.rt (f v)) ρ ∨ (f v = .non ∧ x = .ok .nx ρ))
theorem sw_last (h : SW Γ (sq s skip) r P) : SW Γ s r P := fun ρ hs => by
  have e : sq s skip ρ = s ρ := by
    unfold sq
    cases s ρ with
    | bad => rfl
    | exc e => rfl
    | ok fl ρ' => cases fl <;> rfl
  rw [← e]; exact h ρ hs
theorem sw_skip (h : SW Γ s r P) : SW Γ (sq skip s) r P := h
theorem sw_endN {Δ : σ → Ctx} (st : σ) (l : Le Γ (Δ st)) : SW Γ skip (.ok st) (PN Δ) := fun ρ hs => ⟨ρ, rfl, hs.le l⟩
theorem sw_endL {Δ : σ → Ctx} (st : σ) (l : Le Γ (Δ st)) : SW Γ skip (.ok st) (PL Δ) := fun ρ hs => ⟨ρ, .inl rfl, hs.le l⟩
theorem sw_endF {f : α → T} (a : α) (h : f a = .non := by rfl) : SW Γ skip (.ok a) (PF f) := fun ρ hs => .inr ⟨h, ρ, rfl⟩
theorem sq_dead {s : MS} (hd : ∀ ρ, match s ρ with | .ok .nx _ => False | _ => True) : sq s s2 = s := by
  funext ρ
  have := hd ρ
  unfold sq
  cases e : s ρ with
  | bad => rfl
  | exc e => rfl
  | ok fl ρ' =>
    rw [e] at this
    cases fl with
    | nx => exact this.elim
    | rt t => rfl
    | bk => rfl
    | ct => rfl
theorem dead_ret {e : M T} : ∀ ρ, match sRet e ρ with | .ok .nx _ => False | _ => True := fun ρ => by
  unfold sRet
  cases e ρ <;> trivial
theorem sw_retF {r : R α} (h : EW Γ e r (fun a => .ok a) f Γ') : SW Γ (sq (sRet e) s2) r (PF f) := by
  rw [sq_dead dead_ret]
  intro ρ hs
  exact h Fl (PF f) (fun t ρ => .ok (.rt t) ρ) (fun a ρ' hs' => .inl ⟨ρ', rfl⟩) ρ hs
theorem sw_retM {r : R α} (h : EW Γ e r (fun a => .ok a) f Γ') (h0 : Γ'[0]? = some (.row true) := by rfl) : SW Γ (sq (sRet e) s2) r (PM f) := by
  rw [sq_dead dead_ret]
  intro ρ hs
  refine h Fl (PM f) (fun t ρ => .ok (.rt t) ρ) (fun a ρ' hs' => ?_) ρ hs
  obtain ⟨x, ex, o, hx, ho⟩ := hs'.get 0 _ h0
  have hx : x = .pa o := hx
  subst hx
  refine ⟨ρ', o, ?_, ho, .inl rfl⟩
  cases ρ' with
  | nil => simp at ex
  | cons y ys => simp at ex; subst ex; rfl
/-! ### simple statements -/
theorem sw_set (h : EW Γ e r k f Γ') (hn : ∀ a, SW (Γ'.set i (.is (.fz (f a)))) s2 (k a) P) (hi : Nat.blt i Γ'.length = true := by rfl) : SW Γ (sq (sSet i (asT e)) s2) r P := fun ρ hs => by
  have e1 : sq (sSet i (asT e)) s2 ρ = (e ρ).bind fun t ρ => if i < ρ.length then s2 (ρ.set i (.fz t)) else .bad := by
    unfold sq sSet asT put
    cases e ρ with
    | bad => rfl
    | exc e => rfl
    | ok t ρ' =>
      show ((if i < ρ'.length then Res.ok Fl.nx (ρ'.set i (.fz t)) else .bad).bind _) = if i < ρ'.length then _ else _
      split <;> rfl
  rw [e1]
  refine h Fl P _ (fun a ρ' hs' => ?_) ρ hs
  rw [if_pos (by rw [hs'.len]; exact blt_lt hi)]
  exact hn a _ (hs'.set (p := .is _) rfl i)
theorem sw_setO {eo : M O} {f : α → O} (h : EW Γ eo r k f Γ') (hn : ∀ a, SW (Γ'.set i (.is (.ow (f a)))) s2 (k a) P) (hi : Nat.blt i Γ'.length = true := by rfl) : SW Γ (sq (sSet i (asO eo)) s2) r P := fun ρ hs => by
  have e1 : sq (sSet i (asO eo)) s2 ρ = (eo ρ).bind fun t ρ => if i < ρ.length then s2 (ρ.set i (.ow t)) else .bad := by
    unfold sq sSet asO put
    cases eo ρ with
    | bad => rfl
    | exc e => rfl
    | ok t ρ' =>
      show ((if i < ρ'.length then Res.ok Fl.nx (ρ'.set i (.ow t)) else .bad).bind _) = if i < ρ'.length then _ else _
      split <;> rfl
  rw [e1]
  refine h Fl P _ (fun a ρ' hs' => ?_) ρ hs
  rw [if_pos (by rw [hs'.len]; exact blt_lt hi)]
  exact hn a _ (hs'.set (p := .is _) rfl i)
theorem sw_bad : SW Γ (sq bad s2) (.bad : R γ) P := fun ρ hs => trivial
/-- plain values -/
theorem sq_ok {s s2 : MS} {ρ ρ' : Env} (h : s ρ = .ok .nx ρ') : sq s s2 ρ = s2 ρ' := by unfold sq; rw [h]; rfl
theorem sw_setp (a : α) (h : ∀ {γ : Type} (k : α → R γ), EW Γ e (k a) k f Γ') (hn : SW (Γ'.set i (.is (.fz (f a)))) s2 r P) (hi : Nat.blt i Γ'.length = true := by rfl) : SW Γ (sq (sSet i (asT e)) s2) r P := fun ρ hs => by
  obtain ⟨ρ', e1, hs'⟩ := ew_val h hs
  have e2 : sSet i (asT e) ρ = .ok .nx (ρ'.set i (.fz (f a))) := by
    have hl : i < ρ'.length := by rw [hs'.len]; exact blt_lt hi
    simp [e1, hl]
  rw [sq_ok e2]
  exact hn _ (hs'.set (p := .is _) rfl i)
theorem sw_setOp {eo : M O} {f : α → O} (a : α) (h : ∀ {γ : Type} (k : α → R γ), EW Γ eo (k a) k f Γ') (hn : SW (Γ'.set i (.is (.ow (f a)))) s2 r P) (hi : Nat.blt i Γ'.length = true := by rfl) : SW Γ (sq (sSet i (asO eo)) s2) r P := fun ρ hs => by
  obtain ⟨ρ', e1, hs'⟩ := ew_val h hs
  have e2 : sSet i (asO eo) ρ = .ok .nx (ρ'.set i (.ow (f a))) := by
    have hl : i < ρ'.length := by rw [hs'.len]; exact blt_lt hi
    simp [e1, hl]
  rw [sq_ok e2]
  exact hn _ (hs'.set (p := .is _) rfl i)
/-- the row of drawn numbers is made -/
theorem sw_row {cs : List Int} {c : Int} (hj : Γ[j]? = some (.is (.fz (.sl (cs.map T.int)))) := by rfl) (h0 : 0 ≤ c := by decide) (h1 : c < 2147483647 := by decide) (hi : Nat.blt i Γ.length = true := by rfl) (hn : SW (Γ.set i (.row false)) s2 r P) :
    SW Γ (sq (sSet i (asO (calO newL (rdCons (rdA j) (rdCons (rdC (.int 0)) (rdCons (rdC (.int c)) (rdCons (rdC (.int 0)) rdNil))))))) s2) r P := fun ρ hs => by
  have e1 : sq (sSet i (asO (calO newL (rdCons (rdA j) (rdCons (rdC (.int 0)) (rdCons (rdC (.int c)) (rdCons (rdC (.int 0)) rdNil))))))) s2 ρ = s2 (ρ.set i (.ow (.l [.sl (cs.map T.int), .int 0, .int c, .int 0]))) := by
    simp [rdA_e, hs.is hj, hs.len, blt_lt hi]
  rw [e1]
  exact hn _ (hs.set (p := .row false) ⟨_, rfl, cs, 0, c, 0, rfl, by decide, h0, h1⟩ i)
/-! several values -/
def xN (_ : Unit) : List VO := []
def xC (f : α → VO) (g : β → List VO) (p : α × β) : List VO := f p.1 :: g p.2
def vT (f : α → T) (a : α) : VO := .tr (f a)
def vO (f : α → O) (a : α) : VO := .ob (f a)
theorem ew_xnil {k : Unit → R γ} : EW Γ xsNil (k ()) k xN Γ := ew_pure fun ρ hs => rfl
theorem ew_xcons {α1 α2 : Type} {ev : M VO} {es : M (List VO)} {f1 : α1 → VO} {f2 : α2 → List VO} {k1 : α1 → R γ} {k : α1 × α2 → R γ} (h1 : EW Γ ev r k1 f1 Γ') (h2 : ∀ a, EW Γ' es (k1 a) (fun b => k (a, b)) f2 Γ'') : EW Γ (xsCons ev es) r k (xC f1 f2) Γ'' := by
  refine ew_bind h1 fun a => ew_bind (h2 a) fun b => ?_
  exact ew_pure (a := (a, b)) fun ρ hs => rfl
theorem ew_asT (h : EW Γ e r k f Γ') : EW Γ (asT e) r k (vT f) Γ' := ew_bind h fun a => ew_pure (a := a) fun ρ hs => rfl
theorem ew_asO {eo : M O} {f : α → O} (h : EW Γ eo r k f Γ') : EW Γ (asO eo) r k (vO f) Γ' := ew_bind h fun a => ew_pure (a := a) fun ρ hs => rfl
theorem sw_par {α1 α2 : Type} {es : M (List VO)} {f1 : α1 → VO} {f2 : α2 → VO} {k : α1 → α2 → R γ} (h : EW Γ es r (fun p => k p.1 p.2.1) (xC f1 (xC f2 xN)) Γ') (hn : ∀ a b, SW ((Γ'.set i (.is (f1 a).sv)).set j (.is (f2 b).sv)) s2 (k a b) P) (hi : Nat.blt i Γ'.length = true := by rfl) (hj : Nat.blt j Γ'.length = true := by rfl) : SW Γ (sq (sPar i j es) s2) r P := fun ρ hs => by
  have e1 : sq (sPar i j es) s2 ρ = (es ρ).bind fun xs ρ => (put2 i j xs ρ).bind fun fl ρ => match fl with
    | .nx => s2 ρ
    | .rt t => .ok (.rt t) ρ
    | .bk => .ok .bk ρ
    | .ct => .ok .ct ρ := by
    unfold sq sPar
    cases es ρ <;> rfl
  rw [e1]
  refine h Fl P _ (fun a ρ' hs' => ?_) ρ hs
  obtain ⟨a, b, u⟩ := a
  show Good P ((if i < ρ'.length ∧ j < ρ'.length then Res.ok Fl.nx ((ρ'.set i (f1 a).sv).set j (f2 b).sv) else .bad).bind _) _
  rw [if_pos ⟨by rw [hs'.len]; exact blt_lt hi, by rw [hs'.len]; exact blt_lt hj⟩]
  exact hn a b _ ((hs'.set (p := .is _) rfl i).set (p := .is _) rfl j)
theorem sw_parp {α1 α2 : Type} {es : M (List VO)} {f1 : α1 → VO} {f2 : α2 → VO} (a : α1) (b : α2) (h : ∀ {γ : Type} (k : α1 × α2 × Unit → R γ), EW Γ es (k (a, b, ())) k (xC f1 (xC f2 xN)) Γ') (hn : SW ((Γ'.set i (.is (f1 a).sv)).set j (.is (f2 b).sv)) s2 r P) (hi : Nat.blt i Γ'.length = true := by rfl) (hj : Nat.blt j Γ'.length = true := by rfl) : SW Γ (sq (sPar i j es) s2) r P := fun ρ hs => by
  obtain ⟨ρ', e1, hs'⟩ := ew_val h hs
  have e2 : sPar i j es ρ = .ok .nx ((ρ'.set i (f1 a).sv).set j (f2 b).sv) := by
    have hl : i < ρ'.length := by rw [hs'.len]; exact blt_lt hi
    have hl2 : j < ρ'.length := by rw [hs'.len]; exact blt_lt hj
    simp [e1, xC, xN, hl, hl2]
  rw [sq_ok e2]
  exact hn _ ((hs'.set (p := .is _) rfl i).set (p := .is _) rfl j)
/-! targets -/
theorem gw_n {t : T} (hi : Nat.blt i Γ.length = true := by rfl) : GW Γ (gN i) t (Γ.set i (.is (.fz t))) := fun ρ hs => by
  refine ⟨ρ.set i (.fz t), ?_, hs.set (p := .is _) rfl i⟩
  unfold gN
  rw [if_pos (by rw [hs.len]; exact blt_lt hi)]
theorem gs_nil : GsW Γ gsNil [] Γ := fun ρ hs => ⟨ρ, rfl, hs⟩
theorem gs_cons {g : MG} {gs : MGs} {t : T} {ts : List T} (h1 : GW Γ g t Γ') (h2 : GsW Γ' gs ts Γ'') : GsW Γ (gsCons g gs) (t :: ts) Γ'' := fun ρ hs => by
  obtain ⟨ρ1, e1, hs1⟩ := h1 ρ hs
  obtain ⟨ρ2, e2, hs2⟩ := h2 ρ1 hs1
  refine ⟨ρ2, ?_, hs2⟩
  unfold gsCons
  simp only [e1, Option.bind_some, e2]
theorem gw_t {gs : MGs} {ts : List T} (h : GsW Γ gs ts Γ') : GW Γ (gT gs) (.tup ts) Γ' := fun ρ hs => by
  obtain ⟨ρ', e, hs'⟩ := h ρ hs
  exact ⟨ρ', e, hs'⟩
theorem sw_asg {g : MG} {Γ2 : α → Ctx} (h : EW Γ e r k f Γ') (hg : ∀ a, GW Γ' g (f a) (Γ2 a)) (hn : ∀ a, SW (Γ2 a) s2 (k a) P) : SW Γ (sq (sAsg g e) s2) r P := fun ρ hs => by
  have e1 : sq (sAsg g e) s2 ρ = (e ρ).bind fun t ρ => match g t ρ with
    | some ρ => s2 ρ
    | none => .bad := by
    unfold sq sAsg
    cases e ρ with
    | bad => rfl
    | exc e => rfl
    | ok t ρ' =>
      show (Res.bind (match g t ρ' with | some ρ => Res.ok Fl.nx ρ | none => .bad) _) = _
      simp only [bind_ok]
      cases g t ρ' <;> rfl
  rw [e1]
  refine h Fl P _ (fun a ρ' hs' => ?_) ρ hs
  obtain ⟨ρ2, e2, hs2⟩ := hg a ρ' hs'
  rw [e2]
  exact hn a ρ2 hs2
/-! expressions as statements; lists changed -/
theorem sw_expr (h : EW Γ e r k f Γ') (hn : ∀ a, SW Γ' s2 (k a) P) : SW Γ (sq (sExpr e) s2) r P := fun ρ hs => by
  have e1 : sq (sExpr e) s2 ρ = (e ρ).bind fun t ρ => s2 ρ := by
    unfold sq sExpr
    cases e ρ <;> rfl
  rw [e1]
  exact h Fl P _ (fun a ρ' hs' => hn a ρ' hs') ρ hs
def eI (i : Int) : T := .int i
/-- x[j] += e on a list of numbers -/
@[irreducible] def augR (xs : List Int) (j : Int) (w : Int → Int) : R (List Int) := match idx xs.length j with
  | some m => .ok (xs.set m (w (xs.getD m 0)))
  | none => .bad
theorem sw_augI {xs : List Int} {fi f : M T} {k : List Int → R γ} {w : Int → Int → Int} {b : Int} (h0 : Γ[i]? = some (.is (.ow (.l (xs.map eI)))) := by rfl) (hx : EW Γ fi r (fun j => (augR xs j fun a => w a b).bind k) eI Γ') (h1 : Γ'[i]? = some (.is (.ow (.l (xs.map eI)))) := by rfl)
    (h : ∀ {γ : Type} (k : Int → R γ), EW Γ' f (k b) k eI Γ') (hn : ∀ ys : List Int, SW (Γ'.set i (.is (.ow (.l (ys.map eI))))) s2 (k ys) P) :
    SW Γ (sq (sAugI i fi (intO fun i j => .int (w i j)) f) s2) r P := fun ρ hs => by
  have e0 : rdOwn i ρ = some (.l (xs.map eI)) := by unfold rdOwn; rw [hs.is h0]; rfl
  have e1 : sq (sAugI i fi (intO fun i j => .int (w i j)) f) s2 ρ = (fi ρ).bind fun y ρ => sq (fun ρ => match rdOwn i ρ, y with
    | some (.l ts), .int j => match atT ts j with
      | some t => (f ρ).bind fun u ρ => match intO (fun i j => .int (w i j)) t u, rdOwn i ρ with
        | some t', some (.l ts') => match idx ts'.length j with
          | some m => .ok .nx (setOwn i (.l (ts'.set m t')) ρ)
          | none => .bad
        | _, _ => .bad
      | none => .bad
    | _, _ => .bad) s2 ρ := by
    unfold sq sAugI withOwn
    rw [e0]
    simp only
    cases fi ρ <;> rfl
  rw [e1]
  refine hx Fl P _ (fun j ρ2 hs2 => ?_) ρ hs
  have e3 : rdOwn i ρ2 = some (.l (xs.map eI)) := by unfold rdOwn; rw [hs2.is h1]; rfl
  cases hi : idx xs.length j with
  | none =>
    have e4 : augR xs j (fun a => w a b) = .bad := by unfold augR; rw [hi]
    show Good P _ ((augR xs j fun a => w a b).bind k)
    rw [e4]; rw [R.bind_bad]; trivial
  | some m =>
    have e4 : augR xs j (fun a => w a b) = .ok (xs.set m (w (xs.getD m 0) b)) := by unfold augR; rw [hi]
    show Good P _ ((augR xs j fun a => w a b).bind k)
    rw [e4]
    have hm : m < xs.length := by
      unfold idx at hi
      split at hi
      · split at hi
        · cases hi; omega
        · cases hi
      · split at hi
        · cases hi; omega
        · cases hi
    have ea : atT (xs.map eI) j = some (eI (xs[m])) := by
      unfold atT; rw [List.length_map, hi]; simp [hm]
    unfold sq
    simp only []
    rw [e3]
    show Good P ((match atT (xs.map eI) j with
      | some t => (f ρ2).bind fun u ρ => match intO (fun i j => .int (w i j)) t u, rdOwn i ρ with
        | some t', some (.l ts') => match idx ts'.length j with
          | some m => .ok .nx (setOwn i (.l (ts'.set m t')) ρ)
          | none => .bad
        | _, _ => .bad
      | none => .bad : Res Fl).bind _) _
    rw [ea]
    simp only
    rw [res_bind_assoc]
    have := h (fun c => if c = b then k (xs.set m (w (xs.getD m 0) b)) else .bad) Fl P (fun u ρ => (match intO (fun i j => .int (w i j)) (eI xs[m]) u, rdOwn i ρ with
        | some t', some (.l ts') => match idx ts'.length j with
          | some m => .ok .nx (setOwn i (.l (ts'.set m t')) ρ)
          | none => .bad
        | _, _ => .bad : Res Fl).bind fun fl ρ => match fl with
      | .nx => s2 ρ
      | .rt t => .ok (.rt t) ρ
      | .bk => .ok .bk ρ
      | .ct => .ok .ct ρ) (fun c ρ3 hs3 => ?_) ρ2 hs2
    · simp only [if_true] at this
      exact good_ok (this)
    · simp only []
      by_cases hc : c = b
      · rw [if_pos hc, hc]
        have e4 : rdOwn i ρ3 = some (.l (xs.map eI)) := by unfold rdOwn; rw [hs3.is h1]; rfl
        rw [e4]
        show Good P ((match idx (xs.map eI).length j with
          | some m' => .ok .nx (setOwn i (.l ((xs.map eI).set m' (T.int (w xs[m] b)))) ρ3)
          | none => .bad : Res Fl).bind _) _
        rw [List.length_map, hi]
        have e5 : setOwn i (.l ((xs.map eI).set m (T.int (w xs[m] b)))) ρ3 = ρ3.set i (.ow (.l ((xs.set m (w (xs.getD m 0) b)).map eI))) := by
          unfold setOwn; rw [hs3.is h1]
          simp [SV.to, List.map_set, eI, hm]
        show Good P (s2 (setOwn i (.l ((xs.map eI).set m (T.int (w xs[m] b)))) ρ3)) _
        rw [e5]
        exact hn _ _ (hs3.set (p := .is _) rfl i)
      · rw [if_neg hc]; trivial
end
end FL.NL

/-! NL3: ifs, loops, comprehensions, defs. -/
namespace FL.NL
open PySem
variable {α β γ δ σ : Type}
section
variable {Γ Γ' Γ'' Γ3 : Ctx} {e e1 e2 e3 : M T} {r ra rb : R γ} {f : α → T} {k : α → R γ} {s s1 s2 sa sb : MS} {P : γ → Res Fl → Prop} {i j : Nat} {c : M Bool}
theorem sq_nx {ρ ρ' : Env} (h : s ρ = .ok .nx ρ') : sq s s2 ρ = s2 ρ' := by unfold sq; rw [h]; rfl
theorem sq_exc {ρ : Env} {e : Ex} (h : s ρ = .exc e) : sq s s2 ρ = .exc e := by unfold sq; rw [h]; rfl
/-! ### if -/
theorem sq_if : sq (sIf c sa sb) s2 = sIf c (sq sa s2) (sq sb s2) := by
  funext ρ
  unfold sq sIf
  rw [res_bind_assoc]
  congr 1
  funext b ρ'
  cases b <;> rfl
theorem sw_if (hc : EW Γ c r (fun b => if b = true then ra else rb) idB Γ') (ha : SW Γ' (sq sa s2) ra P) (hb : SW Γ' (sq sb s2) rb P) : SW Γ (sq (sIf c sa sb) s2) r P := fun ρ hs => by
  rw [sq_if]
  unfold sIf
  refine hc Fl P _ (fun b ρ' hs' => ?_) ρ hs
  cases b with
  | true => exact ha ρ' hs'
  | false => exact hb ρ' hs'
/-- both ways go on -/
theorem sw_ifj {Δ : σ → Ctx} {ra rb : R σ} {k : σ → R γ} (hc : EW Γ c r (fun b => (if b = true then ra else rb).bind k) idB Γ') (ha : SW Γ' sa ra (PN Δ)) (hb : SW Γ' sb rb (PN Δ)) (hn : ∀ v, SW (Δ v) s2 (k v) P) : SW Γ (sq (sIf c sa sb) s2) r P := fun ρ hs => by
  have hj : ∀ (st : MS) (rr : R σ), SW Γ' st rr (PN Δ) → ∀ ρ', St ρ' Γ' → Good P (sq st s2 ρ') (rr.bind k) := fun st rr h ρ' hs' => by
    refine (h ρ' hs').next (fun e he => sq_exc he) fun v ⟨ρ2, e2, hs2⟩ => ?_
    have : sq st s2 ρ' = s2 ρ2 := by unfold sq; rw [e2]; rfl
    rw [this]
    exact hn v ρ2 hs2
  rw [sq_if]
  unfold sIf
  refine hc Fl P _ (fun b ρ' hs' => ?_) ρ hs
  cases b with
  | true => exact hj sa ra ha ρ' hs'
  | false => exact hj sb rb hb ρ' hs'
/-! ### for -/
def forR (xs : List α) (body : α → σ → R σ) (s0 : σ) : R σ := match xs with
  | [] => .ok s0
  | x :: xs => (body x s0).bind fun s1 => forR xs body s1
theorem forR_good {fx : α → T} {g : MG} {b : MS} {body : α → σ → R σ} {Δ : σ → Ctx} {Γ1 : α → σ → Ctx} (ht : ∀ x v, GW (Δ v) g (fx x) (Γ1 x v)) (hb : ∀ x v, SW (Γ1 x v) b (body x v) (PL Δ)) :
    ∀ (xs : List α) (v : σ) (ρ : Env), St ρ (Δ v) → Good (fun v x => ∃ ρ, x = Res.ok Fl.nx ρ ∧ St ρ (Δ v)) (forL g b (xs.map fx) ρ) (forR xs body v)
  | [], v, ρ, hs => ⟨ρ, rfl, hs⟩
  | x :: xs, v, ρ, hs => by
    obtain ⟨ρ1, e1, hs1⟩ := ht x v ρ hs
    have e2 : forL g b ((x :: xs).map fx) ρ = (b ρ1).bind fun fl ρ => match fl with
      | .nx => forL g b (xs.map fx) ρ
      | .ct => forL g b (xs.map fx) ρ
      | .bk => .ok .nx ρ
      | .rt t => .ok (.rt t) ρ := by
      show (match g (fx x) ρ with | none => _ | some ρ => _) = _
      rw [e1] <;> rfl
    rw [e2]
    refine (hb x v ρ1 hs1).next (fun e he => by rw [he]; rfl) fun v2 ⟨ρ2, hx, hs2⟩ => ?_
    have := forR_good ht hb xs v2 ρ2 hs2
    rcases hx with hx | hx <;> (rw [hx]; exact this)
theorem sw_for {fx : α → T} {g : MG} {b : MS} {src : M (List T)} {body : α → σ → R σ} {Δ : σ → Ctx} {Γ1 : α → σ → Ctx} {k : σ → R γ} (v0 : σ)
    (hsrc : EW Γ src r (fun xs => (forR xs body v0).bind k) (List.map fx) Γ') (l : Le Γ' (Δ v0)) (ht : ∀ x v, GW (Δ v) g (fx x) (Γ1 x v)) (hb : ∀ x v, SW (Γ1 x v) b (body x v) (PL Δ)) (hn : ∀ v, SW (Δ v) s2 (k v) P) : SW Γ (sq (sFor src g b) s2) r P := fun ρ hs => by
  have e1 : sq (sFor src g b) s2 ρ = (src ρ).bind fun ts ρ => sq (fun ρ => forL g b ts ρ) s2 ρ := by
    unfold sq sFor
    rw [res_bind_assoc]
  rw [e1]
  refine hsrc Fl P _ (fun xs ρ' hs' => ?_) ρ hs
  refine (forR_good ht hb xs v0 ρ' (hs'.le l)).next (fun e he => sq_exc he) fun v ⟨ρ2, hx, hs2⟩ => ?_
  rw [sq_nx (s := fun ρ => forL g b (xs.map fx) ρ) hx]
  exact hn v ρ2 hs2
/-! ### while -/
def whileR (n : Nat) (c : σ → R Bool) (body : σ → R σ) (v : σ) : R σ := match n with
  | 0 => .bad
  | n + 1 => (c v).bind fun b => if b = true then (body v).bind fun v => whileR n c body v else .ok v
theorem whileR_good {b : MS} {cr : σ → R Bool} {body : σ → R σ} {Δ : σ → Ctx} (hc : ∀ v, EV (Δ v) c (cr v) idB (Δ v)) (hb : ∀ v, SW (Δ v) b (body v) (PL Δ)) :
    ∀ (n : Nat) (v : σ) (ρ : Env), St ρ (Δ v) → Good (fun v x => ∃ ρ, x = Res.ok Fl.nx ρ ∧ St ρ (Δ v)) (whl c b n ρ) (whileR n cr body v)
  | 0, v, ρ, hs => trivial
  | n + 1, v, ρ, hs => by
    rw [whl_succ]
    refine ew_own (hc v) Fl _ _ (fun x ρ1 hs1 => ?_) ρ hs
    cases x with
    | false => exact ⟨ρ1, rfl, hs1⟩
    | true =>
      refine (hb v ρ1 hs1).next (fun e he => by show (if true = true then _ else _) = _; rw [if_pos rfl, he]; rfl) fun v2 ⟨ρ2, hx, hs2⟩ => ?_
      have := whileR_good hc hb n v2 ρ2 hs2
      show Good _ (if true = true then _ else _) _
      rw [if_pos rfl]
      rcases hx with hx | hx <;> (rw [hx]; exact this)
theorem sw_while {b : MS} {n : Nat} {cr : σ → R Bool} {body : σ → R σ} {Δ : σ → Ctx} {k : σ → R γ} (v0 : σ) (l : Le Γ (Δ v0)) (hc : ∀ v, EV (Δ v) c (cr v) idB (Δ v)) (hb : ∀ v, SW (Δ v) b (body v) (PL Δ)) (hn : ∀ v, SW (Δ v) s2 (k v) P) :
    SW Γ (sq (whl c b n) s2) ((whileR n cr body v0).bind k) P := fun ρ hs => by
  refine (whileR_good hc hb n v0 ρ (hs.le l)).next (fun e he => sq_exc he) fun v ⟨ρ2, hx, hs2⟩ => ?_
  rw [sq_nx hx]
  exact hn v ρ2 hs2
/-! ### comprehensions -/
def freeC (Γ : Ctx) (vs : List Nat) : Bool := vs.all fun v => match Γ[v]? with
  | some (.is .un) => true
  | some (.is (.fz _)) => true
  | some .nf => true
  | _ => false
def wipeC (Γ : Ctx) : List Nat → Ctx
  | [] => Γ
  | v :: vs => (wipeC Γ vs).set v (.is .un)
def setAll (Γ : Ctx) (l : List (Nat × Sp)) : Ctx := match l with
  | [] => Γ
  | (i, p) :: l => setAll (Γ.set i p) l
theorem setAll_len : ∀ {l : List (Nat × Sp)} {Γ : Ctx}, (setAll Γ l).length = Γ.length
  | [], _ => rfl
  | (i, p) :: l, Γ => by unfold setAll; rw [setAll_len, List.length_set]
theorem setAll_get : ∀ {l : List (Nat × Sp)} {Γ : Ctx} {i : Nat}, (l.all fun q => decide (q.1 ≠ i)) = true → (setAll Γ l)[i]? = Γ[i]?
  | [], _, _, _ => rfl
  | (j, p) :: l, Γ, i, h => by
    simp only [List.all_cons, Bool.and_eq_true, decide_eq_true_eq] at h
    unfold setAll
    rw [setAll_get h.2, List.getElem?_set_ne h.1]
theorem St.free {ρ : Env} {vs : List Nat} (h : St ρ Γ) (hf : freeC Γ vs = true) : freeS ρ vs = true := by
  unfold freeC at hf
  unfold freeS
  rw [List.all_eq_true] at hf ⊢
  intro v hv
  have := hf v hv
  split at this
  · rename_i e; rw [h.is e]
  · rename_i e; rw [h.is e]
  · rename_i e
    obtain ⟨x, ex, hx⟩ := h.get _ _ e
    rw [ex]
    have hx : nfz x = true := hx
    cases x <;> first | rfl | cases hx
  · cases this
theorem St.wipe {ρ : Env} (h : St ρ Γ) : ∀ vs : List Nat, St (wipeE ρ vs) (wipeC Γ vs)
  | [] => h
  | v :: vs => (h.wipe vs).set (p := .is .un) rfl v
theorem St.bring {ρ0 ρ : Env} {vs : List Nat} {l : List (Nat × Sp)} (h0 : St ρ0 Γ) (h : St ρ (setAll Γ l)) (hv : (l.all fun q => vs.contains q.1) = true) : St (bring ρ0 ρ vs) Γ := by
  have hl : ρ.length = Γ.length := by rw [h.len, setAll_len]
  refine ⟨by rw [bring_length, hl], fun i p e => ?_⟩
  have hlt : i < Γ.length := (List.getElem?_eq_some_iff.mp e).1
  by_cases hi : i ∈ vs
  · obtain ⟨x, ex, hx⟩ := h0.get i p e
    refine ⟨x, ?_, hx⟩
    rw [bring_get.2 hi (by omega), List.getD_eq_getElem?_getD, ex]; rfl
  · have hn : (l.all fun q => decide (q.1 ≠ i)) = true := by
      rw [List.all_eq_true] at hv ⊢
      intro q hq
      have := hv q hq
      rw [decide_eq_true_eq]
      intro e; subst e
      exact hi (by simpa using this)
    rw [← setAll_get (Γ := Γ) hn] at e
    obtain ⟨x, ex, hx⟩ := h.get i p e
    exact ⟨x, by rw [bring_get.1 hi]; exact ex, hx⟩
def cmpGo (p : α → R Bool) (e : α → R β) : List α → R (List β)
  | [] => .ok []
  | x :: xs => (p x).noX.bind fun b => if b = true then (e x).noX.bind fun y => (cmpGo p e xs).bind fun ys => .ok (y :: ys) else cmpGo p e xs
@[irreducible] def cmpR (xs : List α) (p : α → R Bool) (e : α → R β) : R (List β) := if xs.length ≤ 16777216 then cmpGo p e xs else .bad
@[irreducible] def cmpP (xs : List α) (p : α → Bool) (e : α → β) : R (List β) := if xs.length ≤ 16777216 then .ok ((xs.filter p).map e) else .bad
theorem cmpR_P {xs : List α} {p : α → Bool} {e : α → β} : cmpR xs (fun x => .ok (p x)) (fun x => .ok (e x)) = cmpP xs p e := by
  have : ∀ xs : List α, cmpGo (fun x => .ok (p x)) (fun x => .ok (e x)) xs = .ok ((xs.filter p).map e) := fun xs => by
    induction xs with
    | nil => rfl
    | cons x xs ih =>
      simp only [cmpGo, R.noX_ok, R.bind_ok, ih]
      cases h : p x <;> simp [h]
  unfold cmpR cmpP
  rw [this]
def oL (f : α → T) (xs : List α) : O := .l (xs.map f)
section
variable {vs : List Nat} {g : MG} {test : M Bool} {elt : M T} {fx : α → T} {fe : β → T} {sl : α → List (Nat × Sp)} {src : M (List T)}
theorem noX_of {δ : Type} {x : Res δ} {e : Ex} (h : FL.noX x = .exc e) : False := by cases x <;> cases h
theorem EV.nx {δ : Type} {e : M δ} {r : R α} {f : α → δ} (h : EV Γ e r f Γ') {ρ : Env} (hs : St ρ Γ) : Good (fun a x => ∃ ρ', x = .ok (f a) ρ' ∧ St ρ' Γ') (FL.noX (e ρ)) r.noX := by
  have h1 := h (β := δ) (P := fun a x => ∃ ρ', x = .ok (f a) ρ' ∧ St ρ' Γ') (fun y ρ => .ok y ρ) (fun a ρ' hs' => ⟨ρ', rfl, hs'⟩) ρ hs
  have e2 : ((e ρ).bind fun y ρ => Res.ok y ρ) = e ρ := by cases e ρ <;> rfl
  rw [e2] at h1
  have : ∀ rr : R α, Good (fun a x => ∃ ρ', x = .ok (f a) ρ' ∧ St ρ' Γ') (e ρ) rr → Good (fun a x => ∃ ρ', x = .ok (f a) ρ' ∧ St ρ' Γ') (FL.noX (e ρ)) rr.noX := fun rr => by
    induction rr with
    | bad => exact fun _ => trivial
    | exc e => exact fun _ => trivial
    | ok a => exact fun ⟨ρ', e, hs⟩ => ⟨ρ', by rw [e]; rfl, hs⟩
    | dr m f ih => exact fun h h0 h1 => let ⟨v, a, b, c⟩ := h h0 h1; ⟨v, a, b, ih v c⟩
  exact this r h1
theorem cmp_good {p : α → R Bool} {e : α → R β} (ht : ∀ x, GW (wipeC Γ vs) g (fx x) (setAll Γ (sl x))) (hv : ∀ x, ((sl x).all fun q => vs.contains q.1) = true) (hp : ∀ x, EV (setAll Γ (sl x)) test (p x) idB (setAll Γ (sl x))) (he : ∀ x, EV (setAll Γ (sl x)) elt (e x) fe (setAll Γ (sl x))) :
    ∀ (xs : List α) (acc : List T) (ρ : Env), acc.length + xs.length ≤ 16777216 → St ρ Γ → Good (fun (ys : List β) x => ∃ ρ', x = .ok (acc ++ ys.map fe) ρ' ∧ St ρ' Γ) (lcL vs g test elt (xs.map fx) acc ρ) (cmpGo p e xs)
  | [], acc, ρ, _, hs => ⟨ρ, by simp [lcL], hs⟩
  | x :: xs, acc, ρ, hl, hs => by
    obtain ⟨ρ1, e1, hs1⟩ := ht x _ (hs.wipe vs)
    show Good _ (match g (fx x) (wipeE ρ vs) with | none => _ | some ρ1 => _) _
    rw [e1]
    simp only [List.length_cons] at hl
    refine ((hp x).nx hs1).next (fun e he => (noX_of he).elim) fun b ⟨ρ2, e2, hs2⟩ => ?_
    simp only [e2, bind_ok]
    cases b with
    | false =>
      show Good _ (if false = true then _ else _) (if false = true then _ else _)
      rw [if_neg (by decide), if_neg (by decide)]
      exact cmp_good ht hv hp he xs acc _ (by omega) (hs.bring hs2 (hv x))
    | true =>
      show Good _ (if true = true then _ else _) (if true = true then _ else _)
      rw [if_pos rfl, if_pos rfl]
      refine ((he x).nx hs2).next (fun e he => (noX_of he).elim) fun y ⟨ρ3, e3, hs3⟩ => ?_
      simp only [e3, bind_ok]
      rw [if_pos (by omega)]
      have := cmp_good ht hv hp he xs (acc ++ [fe y]) _ (by simp; omega) (hs.bring hs3 (hv x))
      refine this.next (fun e he => he) fun ys ⟨ρ4, e4, hs4⟩ => ?_
      exact ⟨ρ4, by rw [e4]; simp, hs4⟩
theorem ew_lc {p : α → R Bool} {e : α → R β} {k : List β → R γ} (hsrc : EW Γ src r (fun xs => (cmpR xs p e).bind k) (List.map fx) Γ') (hf : freeC Γ' vs = true) (ht : ∀ x, GW (wipeC Γ' vs) g (fx x) (setAll Γ' (sl x))) (hv : ∀ x, ((sl x).all fun q => vs.contains q.1) = true)
    (hp : ∀ x, EV (setAll Γ' (sl x)) test (p x) idB (setAll Γ' (sl x))) (he : ∀ x, EV (setAll Γ' (sl x)) elt (e x) fe (setAll Γ' (sl x))) : EW Γ (lcM vs src g test elt) r k (oL fe) Γ' := fun β' P K hk ρ hs => by
  unfold lcM
  rw [res_bind_assoc]
  refine hsrc β' P _ (fun xs ρ1 hs1 => ?_) ρ hs
  rw [if_pos (hs1.free hf), res_bind_assoc]
  show Good P _ ((cmpR xs p e).bind k)
  unfold cmpR
  by_cases hl : xs.length ≤ 16777216
  · rw [if_pos hl]
    refine (cmp_good ht hv hp he xs [] ρ1 (by simpa using hl) hs1).next (fun e he => by rw [he]; rfl) fun ys ⟨ρ2, e2, hs2⟩ => ?_
    rw [e2]
    exact hk ys ρ2 hs2
  · rw [if_neg hl]; rw [R.bind_bad]; trivial
theorem ew_lcP {p : α → Bool} {e : α → β} {k : List β → R γ} (hsrc : EW Γ src r (fun xs => (cmpP xs p e).bind k) (List.map fx) Γ') (hf : freeC Γ' vs = true) (ht : ∀ x, GW (wipeC Γ' vs) g (fx x) (setAll Γ' (sl x))) (hv : ∀ x, ((sl x).all fun q => vs.contains q.1) = true)
    (hp : ∀ x, EV (setAll Γ' (sl x)) test (.ok (p x)) idB (setAll Γ' (sl x))) (he : ∀ x, EV (setAll Γ' (sl x)) elt (.ok (e x)) fe (setAll Γ' (sl x))) : EW Γ (lcM vs src g test elt) r k (oL fe) Γ' := by
  refine ew_lc (p := fun x => .ok (p x)) (e := fun x => .ok (e x)) ?_ hf ht hv hp he
  simp only [cmpR_P]
  exact hsrc
theorem ew_lcX {e : α → R β} {k : List β → R γ} (hsrc : EW Γ src r (fun xs => (cmpR xs (fun _ => .ok true) e).bind k) (List.map fx) Γ') (hf : freeC Γ' vs = true) (ht : ∀ x, GW (wipeC Γ' vs) g (fx x) (setAll Γ' (sl x))) (hv : ∀ x, ((sl x).all fun q => vs.contains q.1) = true)
    (he : ∀ x, EV (setAll Γ' (sl x)) elt (e x) fe (setAll Γ' (sl x))) : EW Γ (lcM vs src g yes elt) r k (oL fe) Γ' :=
  ew_lc (p := fun x => .ok true) hsrc hf ht hv (fun x => ew_pure (a := true) (f := idB) (k := fun a => R.ok a) fun ρ hs => rfl) he
end
/-! ### two clauses -/
/-! ### defs -/
def ctx0 (n m : Nat) (ts : List T) : Ctx := ts.map (fun t => Sp.is (.fz t)) ++ List.replicate (n - m) (.is .un)
theorem st0 {n m : Nat} {ts : List T} : St (ts.map SV.fz ++ List.replicate (n - m) SV.un) (ctx0 n m ts) := by
  refine ⟨by simp [ctx0], fun i p e => ?_⟩
  unfold ctx0 at e
  by_cases hi : i < ts.length
  · rw [List.getElem?_append_left (by simpa using hi), List.getElem?_map] at e
    obtain ⟨t, et, rfl⟩ := Option.map_eq_some_iff.mp e
    exact ⟨.fz t, by rw [List.getElem?_append_left (by simpa using hi), List.getElem?_map, et]; rfl, rfl⟩
  · rw [List.getElem?_append_right (by simp; omega), List.getElem?_replicate] at e
    simp only [List.length_map] at e
    split at e
    · cases e
      exact ⟨.un, by rw [List.getElem?_append_right (by simp; omega), List.getElem?_replicate]; simp only [List.length_map]; rw [if_pos (by assumption)], rfl⟩
    · cases e
theorem fn_of {n m : Nat} {body : MS} {ts : List T} {r : R α} {f : α → T} (h : SW (ctx0 n m ts) body r (PF f)) (hl : ts.length = m := by rfl) (hm : m ≤ n := by decide) : Fn (fnF n m body) ts r f := by
  refine ⟨?_⟩
  unfold fnF
  rw [if_pos ⟨hl, hm⟩]
  have := h _ (st0 (n := n) (m := m) (ts := ts))
  revert this
  generalize body (ts.map SV.fz ++ List.replicate (n - m) SV.un) = x
  intro this
  have go : ∀ rr : R α, Good (PF f) x rr → Good (fun v x => x = .ok (f v) []) (outF x) rr := fun rr => by
    induction rr with
    | bad => exact fun _ => trivial
    | exc e =>
        intro h
        have h : x = .exc e := h
        subst h; rfl
    | ok a =>
        intro h
        rcases h with ⟨ρ, rfl⟩ | ⟨h1, ρ, rfl⟩
        · exact rfl
        · show outF (.ok .nx ρ) = .ok (f a) []
          rw [h1]; rfl
    | dr m f ih => exact fun h h0 h1 => let ⟨v, a, b, c⟩ := h h0 h1; ⟨v, a, b, ih v c⟩
  exact go r this
def ctxM (n m : Nat) (ts : List T) : Ctx := .row true :: (ts.map (fun t => Sp.is (.fz t)) ++ List.replicate (n - m) (.is .un))
theorem fm_of {n m : Nat} {body : MS} {ts : List T} {r : R α} {f : α → T} (h : SW (ctxM n m ts) body r (PM f)) (hl : ts.length + 1 = m := by rfl) (hm : m ≤ n := by decide) : FnM (fnM n m body) ts r f := fun o ho => by
  unfold fnM
  rw [if_pos ⟨hl, hm⟩]
  have hs : St (SV.pa o :: (ts.map SV.fz ++ List.replicate (n - m) SV.un)) (ctxM n m ts) := by
    have h0 := st0 (n := n) (m := m) (ts := ts)
    refine ⟨by simp [ctxM], fun i p e => ?_⟩
    cases i with
    | zero => cases e; exact ⟨_, rfl, o, rfl, ho⟩
    | succ i => exact h0.get i p e
  have := h _ hs
  revert this
  generalize body (SV.pa o :: (ts.map SV.fz ++ List.replicate (n - m) SV.un)) = x
  intro this
  have go : ∀ rr : R α, Good (PM f) x rr → Good (fun v x => ∃ o' ρ, RowOk o' ∧ x = .ok (f v, o') ρ) (outM x) rr.noX := fun rr => by
    induction rr with
    | bad => exact fun _ => trivial
    | exc e => exact fun _ => trivial
    | ok a =>
        intro h
        obtain ⟨ρ, o', hlt, ho', h⟩ := h
        rcases h with rfl | ⟨h1, rfl⟩
        · refine ⟨o', [], ho', ?_⟩
          show outV (f a) ρ = _
          unfold outV; rw [hlt]
        · refine ⟨o', [], ho', ?_⟩
          show outV .non ρ = _
          unfold outV; rw [hlt, h1]
    | dr m f ih => exact fun h h0 h1 => let ⟨v, a, b, c⟩ := h h0 h1; ⟨v, a, b, ih v c⟩
  exact go r this
end
end FL.NL

/-! NL4: encodings; the operators on them. -/
namespace FL.NL
open PySem
variable {α β γ δ σ : Type}
/-! ### encodings -/
def eU (_ : Unit) : T := .non
def eL (f : α → T) (xs : List α) : T := .lst (xs.map f)
def eT (f : α → T) (xs : List α) : T := .tup (xs.map f)
def eZ (f : α → T) (xs : List α) : T := .sl (xs.map f)
/-- a tuple of parts of their own kinds -/
def eP (f : α → List T) (p : α) : T := .tup (f p)
/-! ### numbers -/
section
variable {a b : Int} {p q : Bool}
theorem add_I (a b : Int) : addO (eI a) (eI b) = some (eI (a + b)) := rfl
theorem sub_I (a b : Int) : subA (eI a) (eI b) = some (eI (a - b)) := rfl
theorem lt_I (a b : Int) : ltO (eI a) (eI b) = some (eB (decide (a < b))) := rfl
theorem gt_I (a b : Int) : gtO (eI a) (eI b) = some (eB (decide (a > b))) := rfl
theorem le_Ib (a b : Int) : leO (eI a) (eI b) = some (.bl (decide (a ≤ b))) := rfl
theorem neg_I (a : Int) : negO (eI a) = some (eI (-a)) := rfl
@[irreducible] def mulR (a b : Int) : R Int := if a.natAbs.log2 + b.natAbs.log2 < 1000000 then .ok (a * b) else .bad
theorem mul_I (a b : Int) : Lo (mulA (eI a) (eI b)) (mulR a b) eI := by
  show Lo (if mulC a b = true then some (T.int (a * b)) else none) _ _
  unfold mulR mulC
  by_cases h : a.natAbs.log2 + b.natAbs.log2 < 1000000
  · rw [if_pos h, if_pos (decide_eq_true h)]; exact rfl
  · rw [if_neg h]; trivial
@[irreducible] def divR (a b : Int) : R Int := if divC2 a b = true then .ok (a.fdiv b) else .bad
theorem div_I (a b : Int) : Lo (divA (eI a) (eI b)) (divR a b) eI := by
  show Lo (if divC2 a b = true then some (T.int (a.fdiv b)) else none) _ _
  unfold divR
  by_cases h : divC2 a b = true
  · rw [if_pos h, if_pos h]; exact rfl
  · rw [if_neg h, if_neg h]; trivial
theorem divR_pos (h : 0 < b) (h2 : b < 18446744073709551616) : divR a b = .ok (a / b) := by
  unfold divR divC2
  have h3 : b.natAbs.log2 < 9000 := Nat.lt_of_lt_of_le (PySem.Flt.log2_lt_of (show 0 < 64 by decide) (show b.natAbs < 2 ^ 64 by omega)) (by decide)
  rw [decide_eq_true h, decide_eq_true h3, Int.fdiv_eq_ediv_of_nonneg _ (by omega)]; rfl
@[irreducible] def modR (a b : Int) : R Int := if b ≠ 0 then .ok (a.fmod b) else .bad
theorem mod_I (a b : Int) : Lo (modO (eI a) (eI b)) (modR a b) eI := by
  show Lo (if decide (b ≠ 0) = true then some (T.int (a.fmod b)) else none) _ _
  unfold modR
  by_cases h : b ≠ 0
  · rw [if_pos h, if_pos (decide_eq_true h)]; exact rfl
  · rw [if_neg h]; trivial
theorem modR_pos (h : 0 < b) : modR a b = .ok (a % b) := by
  unfold modR
  rw [if_pos (by omega), Int.fmod_eq_emod_of_nonneg _ (by omega)]
/-- by a written positive number -/
theorem div_c (n : Int) (h : (decide (0 < n) && decide (n < 18446744073709551616)) = true) (a : Int) : divA (eI a) (.int n) = some (eI (a / n)) := by
  rw [Bool.and_eq_true, decide_eq_true_eq, decide_eq_true_eq] at h
  have := divR_pos (a := a) h.1 h.2
  unfold divR at this
  show (if divC2 a n = true then some (T.int (a.fdiv n)) else none) = _
  have e1 : a.fdiv n = a / n := Int.fdiv_eq_ediv_of_nonneg _ (by omega)
  split at this
  · rename_i hc
    rw [if_pos hc, e1]; rfl
  · cases this
theorem mod_c (n : Int) (h : decide (0 < n) = true) (a : Int) : modO (eI a) (.int n) = some (eI (a % n)) := by
  rw [decide_eq_true_eq] at h
  exact modO_e h
def absI (a : Int) : Int := if a < 0 then -a else a
theorem abs_I (p : Int × Unit) : abs1O (aC eI aN p) = some (eI (absI p.1)) := rfl
def minI (a b : Int) : Int := if b < a then b else a
theorem min_I (p : Int × Int × Unit) : min2O (aC eI (aC eI aN) p) = some (eI (minI p.1 p.2.1)) := rfl
/-! ### equality -/
def Eqc [DecidableEq α] (f : α → T) : Prop := ∀ a b, eqT (f a) (f b) = some (decide (a = b))
theorem eq_of [DecidableEq α] {f : α → T} (h : Eqc f) (a b : α) : eqO (f a) (f b) = some (eB (decide (a = b))) := by
  unfold eqO; rw [h a b]; rfl
theorem ne_of' [DecidableEq α] {f : α → T} (h : Eqc f) (a b : α) : neO (f a) (f b) = some (eB (!decide (a = b))) := by
  unfold neO; rw [h a b]; rfl
theorem eqc_I : Eqc eI := fun a b => by
  have := eqO_int (i := a) (j := b)
  unfold eqO at this
  cases h : eqT (eI a) (eI b) with
  | none => unfold eI at h; rw [h] at this; cases this
  | some c => unfold eI at h; rw [h] at this; simp at this; rw [this]
theorem eqc_B : Eqc eB := fun a b => by
  have := eqO_bl (a := a) (b := b)
  unfold eqO at this
  cases h : eqT (eB a) (eB b) with
  | none => unfold eB at h; rw [h] at this; cases this
  | some c => unfold eB at h; rw [h] at this; simp at this; rw [this]
/-- an encoding of data of a depth that is known -/
def Dat (n : Nat) (f : α → T) : Prop := (∀ a, dat n (f a) = true) ∧ ∀ a b, f a = f b → a = b
def Dats (n : Nat) (f : α → List T) : Prop := (∀ a, dats n (f a) = true) ∧ ∀ a b, f a = f b → a = b
theorem dat_I {n : Nat} : Dat n eI := ⟨fun a => by unfold eI; cases n <;> rfl, fun a b h => by cases h; rfl⟩
theorem dats_map {n : Nat} {f : α → T} (h : ∀ a, dat n (f a) = true) : ∀ xs : List α, dats n (xs.map f) = true
  | [] => rfl
  | x :: xs => by rw [List.map_cons]; unfold dats; rw [h x, dats_map h xs]; rfl
theorem map_inj {f : α → T} (h : ∀ a b, f a = f b → a = b) : ∀ {xs ys : List α}, xs.map f = ys.map f → xs = ys
  | [], [], _ => rfl
  | [], _ :: _, e => by cases e
  | _ :: _, [], e => by cases e
  | x :: xs, y :: ys, e => by
    rw [List.map_cons, List.map_cons] at e
    injection e with e1 e2
    rw [h _ _ e1, map_inj h e2]
theorem dat_T {n : Nat} {f : α → T} (h : Dat n f) : Dat (n + 1) (eT f) := ⟨fun xs => by unfold eT dat; exact dats_map h.1 xs, fun a b e => by unfold eT at e; injection e with e; exact map_inj h.2 e⟩
theorem dats_N {n : Nat} : Dats n aN := ⟨fun _ => rfl, fun a b _ => rfl⟩
theorem dats_C {n : Nat} {f : α → T} {g : β → List T} (h1 : Dat n f) (h2 : Dats n g) : Dats n (aC f g) := ⟨fun p => by unfold aC dats; rw [h1.1, h2.1]; rfl, fun a b e => by
  unfold aC at e; injection e with e1 e2
  exact Prod.ext (h1.2 _ _ e1) (h2.2 _ _ e2)⟩
theorem dat_P {n : Nat} {g : β → List T} (h : Dats n g) : Dat (n + 1) (eP g) := ⟨fun p => by unfold eP dat; exact h.1 p, fun a b e => by unfold eP at e; injection e with e; exact h.2 _ _ e⟩
theorem eqc_dat [DecidableEq α] {f : α → T} (h : Dat 8 f) : Eqc f := fun a b => by
  obtain ⟨c, e, hc⟩ := eqT_dat (h.1 a) (h.1 b) (by decide) (by decide)
  rw [e]
  congr 1
  rw [Bool.eq_iff_iff, hc, decide_eq_true_eq]
  exact ⟨fun e => h.2 _ _ e, fun e => by rw [e]⟩
/-! ### is None -/
/-! ### rows: +, *, index, len, slices -/
@[irreducible] def catR (xs ys : List α) : R (List α) := if xs.length + ys.length ≤ 16777216 then .ok (xs ++ ys) else .bad
theorem add_L (f : α → T) (xs ys : List α) : Lo (addO (eL f xs) (eL f ys)) (catR xs ys) (eL f) := by
  show Lo (if (xs.map f).length + (ys.map f).length ≤ 16777216 then some (T.lst (xs.map f ++ ys.map f)) else none) _ _
  unfold catR
  rw [List.length_map, List.length_map]
  by_cases h : xs.length + ys.length ≤ 16777216
  · rw [if_pos h, if_pos h, ← List.map_append]; exact rfl
  · rw [if_neg h, if_neg h]; trivial
theorem add_T (f : α → T) (xs ys : List α) : Lo (addO (eT f xs) (eT f ys)) (catR xs ys) (eT f) := by
  show Lo (if (xs.map f).length + (ys.map f).length ≤ 16777216 then some (T.tup (xs.map f ++ ys.map f)) else none) _ _
  unfold catR
  rw [List.length_map, List.length_map]
  by_cases h : xs.length + ys.length ≤ 16777216
  · rw [if_pos h, if_pos h, ← List.map_append]; exact rfl
  · rw [if_neg h, if_neg h]; trivial
/-- [..] * n, a new object -/
@[irreducible] def repL' (xs : List α) (k : Int) : R (List α) := if k < 16777216 ∧ xs.length * k.toNat ≤ 16777216 ∧ -16777216 ≤ k then .ok (List.replicate k.toNat xs).flatten else .bad
def atR (xs : List α) (i : Int) : R α := match (idx xs.length i).bind fun j => xs[j]? with
  | some a => .ok a
  | none => .bad
theorem atT_map (f : α → T) (xs : List α) (i : Int) : Lo (atT (xs.map f) i) (atR xs i) f := by
  unfold atT atR
  rw [List.length_map]
  cases h : idx xs.length i with
  | none => trivial
  | some j =>
    simp only [Option.bind_some, List.getElem?_map]
    cases xs[j]? with
    | none => trivial
    | some a => exact rfl
theorem ix_L (f : α → T) (xs : List α) (i : Int) : Lo (ixO (eL f xs) (eI i)) (atR xs i) f := atT_map f xs i
theorem ix_T (f : α → T) (xs : List α) (i : Int) : Lo (ixO (eT f xs) (eI i)) (atR xs i) f := atT_map f xs i
theorem atR_pos {xs : List α} {i : Int} {a : α} (h0 : 0 ≤ i) (h : xs[i.toNat]? = some a) : atR xs i = .ok a := by
  have hl := (List.getElem?_eq_some_iff.mp h).1
  unfold atR idx
  rw [if_pos h0, if_pos (by omega)]
  simp [h]
/-- x[i], x a name -/
theorem ew_ixA {γ α1 : Type} {Γ Γ' : Ctx} {i : Nat} {fi : M T} {r : R γ} {t : T} {f : α → T} {k : α → R γ} {r0 : α1 → R α} {f1 : α1 → T} (hw : ∀ j, Lo (ixO t (f1 j)) (r0 j) f) (h : EW Γ fi r (fun j => (r0 j).bind k) f1 Γ') (h0 : Γ[i]? = some (.is (.fz t)) := by rfl) (h1 : Γ'[i]? = some (.is (.fz t)) := by rfl) : EW Γ (ixA i fi) r k f Γ' := fun β P K hk ρ hs => by
  have e0 : has i ρ = .t t := by rw [has_e, hs.is h0]
  have e1 : ixA i fi ρ = (fi ρ).bind fun y ρ => match has i ρ with
    | .t t => liftO (ixO t y) ρ
    | .o (.l ts) => match y with
      | .int j => liftO (atT ts j) ρ
      | _ => .bad
    | _ => .bad := by
    unfold ixA; rw [e0]; rfl
  rw [e1, res_bind_assoc]
  refine h β P _ (fun j ρ' hs' => ?_) ρ hs
  have e2 : has i ρ' = .t t := by rw [has_e, hs'.is h1]
  rw [e2]
  exact ew_lift (Γ := Γ') (k := k) (hw j) β P K hk ρ' hs'
/-! len -/
theorem len_L (f : α → T) (p : List α × Unit) : lenO (aC (eL f) aN p) = some (eI p.1.length) := by
  show some (T.int ((p.1.map f).length : Nat)) = _; rw [List.length_map]; rfl
theorem len_T (f : α → T) (p : List α × Unit) : lenO (aC (eT f) aN p) = some (eI p.1.length) := by
  show some (T.int ((p.1.map f).length : Nat)) = _; rw [List.length_map]; rfl
theorem ew_lenA {γ : Type} {Γ : Ctx} {i : Nat} {t : T} {k : Int → R γ} (a : Int) (hw : lenO [t] = some (eI a)) (h0 : Γ[i]? = some (.is (.fz t)) := by rfl) : EW Γ (lenA i) (k a) k eI Γ := ew_pure fun ρ hs => by
  unfold lenA; rw [has_e, hs.is h0]; simp only [hw, lift_some]
/-! slices -/
def cutL (xs : List α) (lo hi : Option Int) : List α := (xs.drop (HT.sIx xs.length 0 lo)).take (HT.sIx xs.length xs.length hi - HT.sIx xs.length 0 lo)
theorem cut_map (f : α → T) (xs : List α) (lo hi : Option Int) : cutT (xs.map f) lo hi = (cutL xs lo hi).map f := by
  unfold cutT cutL
  rw [List.length_map, List.map_take, List.map_drop]
def oI (o : Option Int) : Option Int := o
theorem ew_poN {γ : Type} {Γ : Ctx} {k : Option Int → R γ} : EW Γ poN (k none) k oI Γ := ew_pure fun ρ hs => rfl
theorem ew_poS {γ : Type} {Γ Γ' : Ctx} {e : M T} {r : R γ} {k : Option Int → R γ} (h : EW Γ e r (fun i => k (some i)) eI Γ') : EW Γ (poS e) r k oI Γ' := ew_bind h fun a => ew_pure (a := some a) fun ρ hs => rfl
theorem ew_sl {γ α1 β1 : Type} {Γ Γ' Γ'' Γ3 : Ctx} {e : M T} {fl fh : MO} {r : R γ} {f1 : α1 → T} {f : β1 → T} {k : β1 → R γ} {k1 : α1 → R γ} {k2 : α1 → Option Int → R γ} {w : α1 → Option Int → Option Int → β1} (hw : ∀ a lo hi, slO (f1 a) lo hi = some (f (w a lo hi)))
    (h : EW Γ e r k1 f1 Γ') (hl : ∀ a, EW Γ' fl (k1 a) (k2 a) oI Γ'') (hh : ∀ a lo, EW Γ'' fh (k2 a lo) (fun hi => k (w a lo hi)) oI Γ3) : EW Γ (slM e fl fh) r k f Γ3 :=
  ew_bind h fun a => ew_bind (hl a) fun lo => ew_bind (hh a lo) fun hi => ew_tot (hw a lo hi)
theorem sl_L (f : α → T) (xs : List α) (lo hi : Option Int) : slO (eL f xs) lo hi = some (eL f (cutL xs lo hi)) := by
  show some (T.lst _) = some (T.lst _); rw [cut_map]
theorem sl_T (f : α → T) (xs : List α) (lo hi : Option Int) : slO (eT f xs) lo hi = some (eT f (cutL xs lo hi)) := by
  show some (T.tup _) = some (T.tup _); rw [cut_map]
/-! ### displays, tuple, list, what is walked -/
theorem tup_P {g : α → List T} (h : ∀ p, Nat.ble (g p).length 16777216 = true) (p : α) : tupO (g p) = some (eP g p) := by
  unfold tupO; rw [if_pos (Nat.le_of_ble_eq_true (h p))]; rfl
theorem tuple_L (f : α → T) (p : List α × Unit) : tuple1O (aC (eL f) aN p) = some (eT f p.1) := rfl
theorem ew_frzM {γ : Type} {Γ Γ' : Ctx} {e : M O} {r : R γ} {f : α → T} {k : List α → R γ} (h : EW Γ e r k (oL f) Γ') : EW Γ (frzM e) r k (eL f) Γ' := ew_bind h fun a => ew_pure (a := a) fun ρ hs => rfl
/-! ranges -/
def rg (lo : Int) (n : Nat) : List Int := (List.range n).map fun i => lo + ((i : Nat) : Int)
theorem rgT_rg (lo : Int) (n : Nat) : rgT lo n = (rg lo n).map eI := by
  unfold rgT rg; rw [List.map_map]; rfl
def b62 (i : Int) : Prop := -4611686018427387904 ≤ i ∧ i < 4611686018427387904
instance : Decidable (b62 i) := by unfold b62; exact inferInstance
@[irreducible] def rgR (lo hi : Int) : R (List Int) := if b62 lo ∧ b62 hi then .ok (rg lo (hi - lo).toNat) else .bad
theorem rg_1 (p : Int × Unit) : Lo (rg1 (aC eI aN p)) (rgR 0 p.1) (List.map eI) := by
  show Lo (if decide (-4611686018427387904 ≤ p.1) && decide (p.1 < 4611686018427387904) then some (rgT 0 p.1.toNat) else none) _ _
  unfold rgR b62
  by_cases h : -4611686018427387904 ≤ p.1 ∧ p.1 < 4611686018427387904
  · have h2 : (-4611686018427387904 ≤ (0 : Int) ∧ (0 : Int) < 4611686018427387904) ∧ -4611686018427387904 ≤ p.1 ∧ p.1 < 4611686018427387904 := ⟨by decide, h⟩
    have e1 : (decide (-4611686018427387904 ≤ p.1) && decide (p.1 < 4611686018427387904)) = true := by simp [h]
    rw [if_pos e1, if_pos h2, rgT_rg, Int.sub_zero]; exact rfl
  · have h2 : ¬ ((-4611686018427387904 ≤ (0 : Int) ∧ (0 : Int) < 4611686018427387904) ∧ -4611686018427387904 ≤ p.1 ∧ p.1 < 4611686018427387904) := fun e => h e.2
    rw [if_neg h2]; trivial
theorem rg_2 (p : Int × Int × Unit) : Lo (rg2 (aC eI (aC eI aN) p)) (rgR p.1 p.2.1) (List.map eI) := by
  show Lo (if decide (-4611686018427387904 ≤ p.1) && decide (p.1 < 4611686018427387904) && decide (-4611686018427387904 ≤ p.2.1) && decide (p.2.1 < 4611686018427387904) then some (rgT p.1 (p.2.1 - p.1).toNat) else none) _ _
  unfold rgR b62
  by_cases h : (-4611686018427387904 ≤ p.1 ∧ p.1 < 4611686018427387904) ∧ -4611686018427387904 ≤ p.2.1 ∧ p.2.1 < 4611686018427387904
  · rw [if_pos h, if_pos (by simp [h]), rgT_rg]; exact rfl
  · rw [if_neg h]; trivial
def enumL : Nat → List α → List (Int × α × Unit)
  | _, [] => []
  | n, x :: xs => ((n : Int), x, ()) :: enumL (n + 1) xs
theorem enum_map (f : α → T) : ∀ (n : Nat) (xs : List α), enumT n (xs.map f) = (enumL n xs).map (eP (aC eI (aC f aN)))
  | _, [] => rfl
  | n, x :: xs => by rw [List.map_cons]; unfold enumT enumL; rw [enum_map f (n + 1) xs]; rfl
theorem enum_T (f : α → T) (p : List α × Unit) : enum1 (aC (eT f) aN p) = some ((enumL 0 p.1).map (eP (aC eI (aC f aN)))) := by
  show some (enumT 0 (p.1.map f)) = _; rw [enum_map]
/-! sums, all, any, max, min -/
theorem blsT_map' : ∀ xs : List Bool, blsT (xs.map eB) = some xs
  | [] => rfl
  | x :: xs => by rw [List.map_cons]; show (blsT (xs.map eB)).map (x :: ·) = _; rw [blsT_map' xs]; rfl
theorem all_L (p : List Bool × Unit) : all1O (aC (eL eB) aN p) = some (eB (p.1.all idB)) := by
  show (blsT (p.1.map eB)).map (fun bs => T.bl (bs.all id)) = _; rw [blsT_map']; rfl
theorem rep_O (f : α → T) (xs : List α) (k : Int) : Lo (repL (eL f xs) (eI k)) (repL' xs k) (oL f) := by
  show Lo (if decide (-9223372036854775808 ≤ k) && decide (k < 9223372036854775808) && decide ((xs.map f).length * k.toNat ≤ 16777216) then some (O.l (List.replicate k.toNat (xs.map f)).flatten) else none) _ _
  unfold repL'
  rw [List.length_map]
  by_cases h : k < 16777216 ∧ xs.length * k.toNat ≤ 16777216 ∧ -16777216 ≤ k
  · have e1 : (decide (-9223372036854775808 ≤ k) && decide (k < 9223372036854775808) && decide (xs.length * k.toNat ≤ 16777216)) = true := by
      rw [decide_eq_true h.2.1, decide_eq_true (show -9223372036854775808 ≤ k by omega), decide_eq_true (show k < 9223372036854775808 by omega)]; rfl
    rw [if_pos h, if_pos e1]
    show some (O.l _) = some (O.l _)
    rw [List.map_flatten, List.map_replicate]
  · rw [if_neg h]; trivial
theorem ew_op2Lp {γ α1 α2 : Type} {Γ Γ' Γ'' : Ctx} {e1 e2 : M T} {r : R γ} {o : T → T → Option FL.O} {f1 : α1 → T} {f2 : α2 → T} {f : α → FL.O} {k : α → R γ} {k1 : α1 → R γ} {r0 : α1 → α2 → R α} (hw : ∀ a b, Lo (o (f1 a) (f2 b)) (r0 a b) f)
    (h1 : EW Γ e1 r k1 f1 Γ') (h2 : ∀ a, EW Γ' e2 (k1 a) (fun b => (r0 a b).bind k) f2 Γ'') : EW Γ (op2L o e1 e2) r k f Γ'' :=
  ew_bind h1 fun a => ew_bind (h2 a) fun b => ew_lift (hw a b)
theorem op2c {γ α1 : Type} {Γ Γ' : Ctx} {e1 : M T} {t : T} {r : R γ} {o : T → T → Option T} {f1 : α1 → T} {f : α → T} {k : α → R γ} {w : α1 → α} (hw : ∀ a, o (f1 a) t = some (f (w a))) (h : EW Γ e1 r (fun a => k (w a)) f1 Γ') : EW Γ (op2 o e1 (rdC t)) r k f Γ' :=
  ew_bind h fun a => by
    intro β P K hk ρ hs
    show Good P ((liftO (o (f1 a) t) ρ).bind K) _
    rw [hw a]; exact hk _ ρ hs
/-! among -/
/-! ### name op= e -/
end
end FL.NL

/-! NL6: in; sorted; two clauses. -/
namespace FL.NL
open PySem
variable {α β γ : Type}
section
variable {Γ Γ' : Ctx} {i : Nat} {e : M T} {r : R γ} {k : Bool → R γ}
end
/-! ### two clauses -/
def cmpA (p : α → R Bool) (e : α → R β) : List α → List β → R (List β)
  | [], acc => .ok acc
  | x :: xs, acc => (p x).noX.bind fun b => if b = true then (e x).noX.bind fun y => if acc.length < 16777216 then cmpA p e xs (acc ++ [y]) else .bad else cmpA p e xs acc
def cmp2A {α2 : Type} (p : α → R Bool) (src : α → R (List α2)) (p1 : α → α2 → R Bool) (e : α → α2 → R β) : List α → List β → R (List β)
  | [], acc => .ok acc
  | x :: xs, acc => (p x).noX.bind fun b => if b = true then (src x).noX.bind fun ys => (cmpA (p1 x) (e x) ys acc).bind fun acc' => cmp2A p src p1 e xs acc' else cmp2A p src p1 e xs acc
section
variable {Γ : Ctx} {vs vs1 : List Nat} {g g1 : MG} {test test1 : M Bool} {elt : M T} {fx : α → T} {fe : β → T} {sl : α → List (Nat × Sp)} {src : M (List T)}
theorem cmpA_good {p : α → R Bool} {e : α → R β} (ht : ∀ x, GW (wipeC Γ vs) g (fx x) (setAll Γ (sl x))) (hv : ∀ x, ((sl x).all fun q => vs.contains q.1) = true) (hp : ∀ x, EV (setAll Γ (sl x)) test (p x) idB (setAll Γ (sl x))) (he : ∀ x, EV (setAll Γ (sl x)) elt (e x) fe (setAll Γ (sl x))) :
    ∀ (xs : List α) (acc : List β) (ρ : Env), St ρ Γ → Good (fun (ys : List β) x => ∃ ρ', x = .ok (ys.map fe) ρ' ∧ St ρ' Γ) (lcL vs g test elt (xs.map fx) (acc.map fe) ρ) (cmpA p e xs acc)
  | [], acc, ρ, hs => ⟨ρ, rfl, hs⟩
  | x :: xs, acc, ρ, hs => by
    obtain ⟨ρ1, e1, hs1⟩ := ht x _ (hs.wipe vs)
    show Good _ (match g (fx x) (wipeE ρ vs) with | none => _ | some ρ1 => _) _
    rw [e1]
    refine ((hp x).nx hs1).next (fun e he => (noX_of he).elim) fun b ⟨ρ2, e2, hs2⟩ => ?_
    simp only [e2, bind_ok]
    cases b with
    | false =>
      show Good _ (if false = true then _ else _) (if false = true then _ else _)
      rw [if_neg (by decide), if_neg (by decide)]
      exact cmpA_good ht hv hp he xs acc _ (hs.bring hs2 (hv x))
    | true =>
      show Good _ (if true = true then _ else _) (if true = true then _ else _)
      rw [if_pos rfl, if_pos rfl]
      refine ((he x).nx hs2).next (fun e he => (noX_of he).elim) fun y ⟨ρ3, e3, hs3⟩ => ?_
      simp only [e3, bind_ok, List.length_map]
      by_cases hl : acc.length < 16777216
      · rw [if_pos hl, if_pos hl]
        have := cmpA_good ht hv hp he xs (acc ++ [y]) _ (hs.bring hs3 (hv x))
        rw [List.map_append] at this
        exact this
      · rw [if_neg hl, if_neg hl]; trivial
theorem cmp2A_good {α2 : Type} {fx1 : α2 → T} {sl1 : α → α2 → List (Nat × Sp)} {p : α → R Bool} {sr : α → R (List α2)} {p1 : α → α2 → R Bool} {e : α → α2 → R β} (ht : ∀ x, GW (wipeC Γ vs) g (fx x) (setAll Γ (sl x))) (hv : ∀ x, ((sl x).all fun q => vs.contains q.1) = true) (hp : ∀ x, EV (setAll Γ (sl x)) test (p x) idB (setAll Γ (sl x)))
    (hs1 : ∀ x, EV (setAll Γ (sl x)) src (sr x) (List.map fx1) (setAll Γ (sl x))) (hf1 : ∀ x, freeC (setAll Γ (sl x)) vs1 = true) (ht1 : ∀ x y, GW (wipeC (setAll Γ (sl x)) vs1) g1 (fx1 y) (setAll (setAll Γ (sl x)) (sl1 x y))) (hv1 : ∀ x y, ((sl1 x y).all fun q => vs1.contains q.1) = true)
    (hp1 : ∀ x y, EV (setAll (setAll Γ (sl x)) (sl1 x y)) test1 (p1 x y) idB (setAll (setAll Γ (sl x)) (sl1 x y))) (he : ∀ x y, EV (setAll (setAll Γ (sl x)) (sl1 x y)) elt (e x y) fe (setAll (setAll Γ (sl x)) (sl1 x y))) :
    ∀ (xs : List α) (acc : List β) (ρ : Env), St ρ Γ → Good (fun (ys : List β) x => ∃ ρ', x = .ok (ys.map fe) ρ' ∧ St ρ' Γ) (lcL2 vs vs1 g test src g1 test1 elt (xs.map fx) (acc.map fe) ρ) (cmp2A p sr p1 e xs acc)
  | [], acc, ρ, hs => ⟨ρ, rfl, hs⟩
  | x :: xs, acc, ρ, hs => by
    obtain ⟨ρ1, e1, hs1'⟩ := ht x _ (hs.wipe vs)
    show Good _ (match g (fx x) (wipeE ρ vs) with | none => _ | some ρ1 => _) _
    rw [e1]
    refine ((hp x).nx hs1').next (fun e he => (noX_of he).elim) fun b ⟨ρ2, e2, hs2⟩ => ?_
    simp only [e2, bind_ok]
    cases b with
    | false =>
      show Good _ (if false = true then _ else _) (if false = true then _ else _)
      rw [if_neg (by decide), if_neg (by decide)]
      exact cmp2A_good ht hv hp hs1 hf1 ht1 hv1 hp1 he xs acc _ (hs.bring hs2 (hv x))
    | true =>
      show Good _ (if true = true then _ else _) (if true = true then _ else _)
      rw [if_pos rfl, if_pos rfl]
      refine ((hs1 x).nx hs2).next (fun e he => (noX_of he).elim) fun ys ⟨ρ3, e3, hs3⟩ => ?_
      simp only [e3, bind_ok]
      rw [if_pos (hs3.free (hf1 x))]
      refine (cmpA_good (ht1 x) (hv1 x) (hp1 x) (he x) ys acc ρ3 hs3).next (fun e he => by rw [he]; rfl) fun zs ⟨ρ4, e4, hs4⟩ => ?_
      rw [e4]
      exact cmp2A_good ht hv hp hs1 hf1 ht1 hv1 hp1 he xs zs _ (hs.bring hs4 (hv x))
theorem ew_lc2 {γ : Type} {Γ0 : Ctx} {r : R γ} {src0 : M (List T)} {α2 : Type} {fx1 : α2 → T} {sl1 : α → α2 → List (Nat × Sp)} {p : α → R Bool} {sr : α → R (List α2)} {p1 : α → α2 → R Bool} {e : α → α2 → R β} {k : List β → R γ} (hsrc : EW Γ0 src0 r (fun xs => (cmp2A p sr p1 e xs []).bind k) (List.map fx) Γ) (hf : freeC Γ vs = true)
    (ht : ∀ x, GW (wipeC Γ vs) g (fx x) (setAll Γ (sl x))) (hv : ∀ x, ((sl x).all fun q => vs.contains q.1) = true) (hp : ∀ x, EV (setAll Γ (sl x)) test (p x) idB (setAll Γ (sl x)))
    (hs1 : ∀ x, EV (setAll Γ (sl x)) src (sr x) (List.map fx1) (setAll Γ (sl x))) (hf1 : ∀ x, freeC (setAll Γ (sl x)) vs1 = true) (ht1 : ∀ x y, GW (wipeC (setAll Γ (sl x)) vs1) g1 (fx1 y) (setAll (setAll Γ (sl x)) (sl1 x y))) (hv1 : ∀ x y, ((sl1 x y).all fun q => vs1.contains q.1) = true)
    (hp1 : ∀ x y, EV (setAll (setAll Γ (sl x)) (sl1 x y)) test1 (p1 x y) idB (setAll (setAll Γ (sl x)) (sl1 x y))) (he : ∀ x y, EV (setAll (setAll Γ (sl x)) (sl1 x y)) elt (e x y) fe (setAll (setAll Γ (sl x)) (sl1 x y))) : EW Γ0 (lcM2 vs vs1 src0 g test src g1 test1 elt) r k (oL fe) Γ := fun β' P K hk ρ hs => by
  unfold lcM2
  rw [res_bind_assoc]
  refine hsrc β' P _ (fun xs ρ1 hs1' => ?_) ρ hs
  rw [if_pos (hs1'.free hf), res_bind_assoc]
  refine (cmp2A_good ht hv hp hs1 hf1 ht1 hv1 hp1 he xs [] ρ1 hs1').next (fun e he => by
    have he : lcL2 vs vs1 g test src g1 test1 elt (xs.map fx) [] ρ1 = .exc e := he
    rw [he]; rfl) fun ys ⟨ρ2, e2, hs2⟩ => ?_
  have e2 : lcL2 vs vs1 g test src g1 test1 elt (xs.map fx) [] ρ1 = .ok (ys.map fe) ρ2 := e2
  rw [e2]
  exact hk ys ρ2 hs2
theorem ew_yes {γ : Type} {k : Bool → R γ} : EW Γ yes (k true) k idB Γ := ew_pure fun ρ hs => rfl
end
end FL.NL

/-! NL7: values of any kind; readings as programs; errors told. -/
namespace FL.NL
open PySem
variable {α β γ δ σ : Type}
section
variable {Γ Γ' : Ctx} {r : R γ} {k : T → R γ} {ths : List Str} {cls : List Cl} {fs : M (List T)} {F : Sg} {f1 : α → List T} {i : Nat}
end
/-! ### values of any kind brought to a type -/
theorem sw_re {Γ Γ0 : Ctx} {s : MS} {r : R γ} {P : γ → Res Fl → Prop} (h : SW Γ0 s r P) (e : Γ = Γ0 := by rfl) : SW Γ s r P := e ▸ h
/-- t is f of what as finds -/
def As (as : T → R α) (f : α → T) : Prop := ∀ t, match as t with
  | .ok a => t = f a
  | .bad => True
  | _ => False
def asI (t : T) : R Int := match t with | .int i => .ok i | _ => .bad
def asT (t : T) : R (List T) := match t with | .tup x => .ok x | _ => .bad
def as2 (t : T) : R (T × T × Unit) := match t with | .tup [a, b] => .ok (a, b, ()) | _ => .bad
theorem as_I : As asI eI := fun t => by cases t <;> first | exact rfl | trivial
/-! len, index, is, isinstance -/
end FL.NL

/-! NL8: all ends of programs over drawn values. -/
namespace FL.NL
open PySem
variable {α β γ σ : Type}
namespace R
end R
/-- reckoned -/
theorem All_chk {q : α → Bool} {r : R α} (h : R.allB q r = true) : R.All (fun a => q a = true) r := R.All_of h
end FL.NL

/-! NL9: what is walked, a text among it. -/
namespace FL.NL
open PySem
section
variable {α γ : Type} {Γ Γ' : Ctx} {e : M T}
theorem ew_iLA {r : R γ} {f : α → T} {k : List α → R γ} (h : EW Γ e r k (eL f) Γ') : EW Γ (iSeqA e) r k (List.map f) Γ' := ew_bind h fun a => ew_pure (a := a) fun ρ hs => rfl
theorem ew_iTA {r : R γ} {f : α → T} {k : List α → R γ} (h : EW Γ e r k (eT f) Γ') : EW Γ (iSeqA e) r k (List.map f) Γ' := ew_bind h fun a => ew_pure (a := a) fun ρ hs => rfl
/-- a text's signs -/
def chS (z : Str) : List Str := z.cps.toList.map fun c => ⟨#[c]⟩
end
end FL.NL

/-! NL10: a text's methods of one argument. -/
namespace FL.NL
open PySem
section
variable {α α2 γ : Type} {Γ Γ' Γ'' : Ctx} {e1 e2 : M T} {r : R γ} {k : α → R γ}
end
end FL.NL

/-! NL11: a law's turn, draw by draw. -/
namespace FL.NL
open PySem
variable {α β γ σ : Type}
theorem to {Q : β → Prop} {r : R α} {a : α} {k : α → R β} (e : r = .ok a) (h : R.All Q (k a)) : R.All Q (r.bind k) := by rw [e, R.bind_ok]; exact h
end FL.NL

/-! NL12: values of closed steps. -/
namespace FL.NL
open PySem
variable {α β γ σ : Type}
instance : Inhabited T := ⟨.non⟩
instance : Inhabited Str := ⟨PySem.Str.ofString ""⟩
end FL.NL

/-! NL13: operations of trees as they are. -/
namespace FL.NL
open PySem
section
variable {α α1 α2 γ : Type} {Γ Γ' Γ'' : Ctx} {e1 e2 : M T} {es : M (List T)} {r : R γ}
def optR (x : Option T) : R T := match x with
  | some t => .ok t
  | none => .bad
def optL (x : Option O) : R (List T) := match x with
  | some (.l ts) => .ok ts
  | _ => .bad
end
end FL.NL

/-! NL14: return within a loop of a def that was lent the row. -/
namespace FL.NL
open PySem PySem.Spec FL
section
variable {α σ : Type} {Γ Γ' : Ctx} {e : M T} {s2 : MS} {f : α → T}
end
section
variable {α β γ σ : Type}
end
end FL.NL

/-! NL15: drawn lists whose entries are not known. -/
namespace FL.NL
open PySem
variable {α β γ σ : Type}
theorem Le.e {x y : T} (h : x = y) {Γ Γ' : Ctx} (t : Le Γ Γ') : Le (.is (.fz x) :: Γ) (.is (.fz y) :: Γ') := by
  subst h; exact .k t
theorem sy_cat {xs ys : List α} (h : xs.length + ys.length ≤ 16777216) : catR xs ys = .ok (xs ++ ys) := by
  unfold catR; rw [if_pos h]
theorem sy_sIx {n d k : Nat} (h : k ≤ n) : HT.sIx n d (some (k : Int)) = k := by
  rw [HT.sIx_nat]; omega
theorem sy_cutFrom {xs : List α} {k : Nat} (h : k ≤ xs.length) : cutL xs (some (k : Int)) none = xs.drop k := by
  unfold cutL
  rw [sy_sIx h]
  show ((xs.drop k).take (xs.length - k)) = _
  rw [List.take_of_length_le (by simp)]
end FL.NL

/-! NL16: range with a step. -/
namespace FL.NL
open PySem
/-- a name, then the others -/
theorem ew_consv {α1 α2 γ : Type} {i : Nat} (a : α1) (f1 : α1 → T) {es : M (List T)} {f2 : α2 → List T} {k : α1 × α2 → R γ} {r : R γ} {Γ Γ'' : Ctx} (h2 : EW Γ es r (fun b => k (a, b)) f2 Γ'') (h : Γ[i]? = some (.is (.fz (f1 a))) := by rfl) : EW Γ (rdCons (rdA i) es) r k (aC f1 f2) Γ'' := fun β P K hk ρ hs => by
  have e : rdCons (rdA i) es ρ = (es ρ).bind fun xs ρ => .ok (f1 a :: xs) ρ := by
    unfold rdCons rdA
    rw [hs.is h]
    rfl
  rw [e, res_bind_assoc]
  exact h2 β P _ (fun b ρ' hs' => hk (a, b) ρ' hs') ρ hs
end FL.NL

/-! NL17: operations of trees, brought to a type. -/
namespace FL.NL
open PySem
section
variable {α β γ α1 α2 : Type} {Γ Γ' Γ'' : Ctx} {e e1 e2 : M T} {es : M (List T)} {r : R γ}
theorem As.val {as : T → R α} {f : α → T} (h : As as f) {t : T} {r : R α} (e : as t = r) : r = .bad ∨ ∃ a, r = .ok a ∧ t = f a := by
  have z := h t
  rw [e] at z
  cases r with
  | bad => exact .inl rfl
  | exc x => exact z.elim
  | ok a => exact .inr ⟨a, rfl, z⟩
  | dr m g => exact z.elim
theorem As.mk {as : T → R α} {f : α → T} (h : ∀ t r, as t = r → r = .bad ∨ ∃ a, r = .ok a ∧ t = f a) : As as f := fun t => by
  rcases h t _ rfl with e | ⟨a, e, q⟩
  · rw [e]; trivial
  · rw [e]; exact q
/-- several trees -/
def AsS (as : List T → R α) (f : α → List T) : Prop := ∀ ts r, as ts = r → r = .bad ∨ ∃ a, r = .ok a ∧ ts = f a
theorem AsS.val {as : List T → R α} {f : α → List T} (h : AsS as f) {t : List T} {r : R α} (e : as t = r) : r = .bad ∨ ∃ a, r = .ok a ∧ t = f a := h t r e
def asAll (as : T → R α) : List T → R (List α)
  | [] => .ok []
  | t :: ts => (as t).bind fun a => (asAll as ts).bind fun l => .ok (a :: l)
theorem asS_All {as : T → R α} {f : α → T} (h : As as f) : AsS (asAll as) (List.map f)
  | [], r, e => .inr ⟨[], e.symm, rfl⟩
  | t :: ts, r, e => by
    unfold asAll at e
    rcases h.val (t := t) rfl with e1 | ⟨a, e1, q⟩
    · rw [e1, R.bind_bad] at e; exact .inl e.symm
    · rcases asS_All h ts _ rfl with e2 | ⟨l, e2, q2⟩
      · rw [e1, R.bind_ok, e2, R.bind_bad] at e; exact .inl e.symm
      · rw [e1, R.bind_ok, e2, R.bind_ok] at e; exact .inr ⟨_, e.symm, by rw [q, q2]; rfl⟩
def asTf (as : T → R α) (t : T) : R (List α) := match t with | .tup ts => asAll as ts | _ => .bad
theorem as_Tf {as : T → R α} {f : α → T} (h : As as f) : As (asTf as) (eT f) := .mk fun t r e => by
  cases t with
  | tup ts =>
    rcases (asS_All h).val (t := ts) e with e | ⟨a, e, q⟩
    · exact .inl e
    · exact .inr ⟨a, e, by rw [q]; rfl⟩
  | _ => exact .inl e.symm
def asO (as : T → R α) (t : T) : R (Option α) := match t with | .non => .ok none | t => (as t).bind fun a => .ok (some a)
/-! the operations -/
theorem lo_as {as : T → R α} {f : α → T} (h : As as f) (x : Option T) : Lo x ((optR x).bind as) f := by
  cases x with
  | none => unfold optR; rw [R.bind_bad]; trivial
  | some t =>
    unfold optR; rw [R.bind_ok]
    rcases h.val (t := t) rfl with e | ⟨a, e, q⟩
    · rw [e]; trivial
    · rw [e, q]; exact rfl
theorem lo_asL {as : List T → R (List α)} {f : α → T} (h : AsS as (List.map f)) (x : Option O) : Lo x ((optL x).bind as) (oL f) := by
  cases x with
  | none => unfold optL; rw [R.bind_bad]; trivial
  | some o =>
    cases o with
    | l ts =>
      unfold optL; simp only [R.bind_ok]
      rcases h.val (t := ts) rfl with e | ⟨a, e, q⟩
      · rw [e]; trivial
      · rw [e, q]; exact rfl
    | dk _ _ => unfold optL; simp only [R.bind_bad]; trivial
    | dt _ _ => unfold optL; simp only [R.bind_bad]; trivial
/-- sorted(x) -/
def sortR (as : T → R α) (x : T) : R (List α) := (optL (sortA [x])).bind (asAll as)
theorem ew_sort {as : T → R α} {f : α → T} {f1 : α1 → T} {k : List α → R γ} (hf : As as f) (h : EW Γ es r (fun a => (sortR as (f1 a.1)).bind k) (aC f1 aN) Γ') : EW Γ (calO sortA es) r k (oL f) Γ' := ew_calOp (r0 := fun (a : α1 × Unit) => sortR as (f1 a.1)) (fun _ => lo_asL (asS_All hf) _) h
/-- the least, the greatest -/
def mmR (pick : PyData → List PyData → PyData) (as : T → R α) (x : T) : R α := (optR (mmO pick [x])).bind as
theorem ew_mm {pick : PyData → List PyData → PyData} {as : T → R α} {f : α → T} {f1 : α1 → T} {k : α → R γ} (hf : As as f) (h : EW Γ es r (fun a => (mmR pick as (f1 a.1)).bind k) (aC f1 aN) Γ') : EW Γ (calF (mmO pick) es) r k f Γ' := ew_calFp (r0 := fun (a : α1 × Unit) => mmR pick as (f1 a.1)) (fun _ => lo_as hf _) h
end
end FL.NL

/-! NL18: constants as arguments; zip(*rows); stars in displays. -/
namespace FL.NL
open PySem
/-- a constant, then the others -/
theorem ew_consc {α1 α2 γ : Type} {t : T} (a : α1) (f1 : α1 → T) {es : M (List T)} {f2 : α2 → List T} {k : α1 × α2 → R γ} {r : R γ} {Γ Γ'' : Ctx} (h2 : EW Γ es r (fun b => k (a, b)) f2 Γ'') (h : f1 a = t := by rfl) : EW Γ (rdCons (rdC t) es) r k (aC f1 f2) Γ'' := fun β P K hk ρ hs => by
  have e : rdCons (rdC t) es ρ = (es ρ).bind fun xs ρ => .ok (f1 a :: xs) ρ := by
    unfold rdCons rdC
    rw [h]
    rfl
  rw [e, res_bind_assoc]
  exact h2 β P _ (fun b ρ' hs' => hk (a, b) ρ' hs') ρ hs
theorem sw_ifjp {σ γ : Type} {Γ Γ' : Ctx} {c : M Bool} {sa sb s2 : MS} {Δ : σ → Ctx} {ra rb : R σ} {k : σ → R γ} {P : γ → Res Fl → Prop} (b : Bool) (hc : ∀ {γ : Type} (k : Bool → R γ), EW Γ c (k b) k idB Γ') (ha : SW Γ' sa ra (PN Δ)) (hb : SW Γ' sb rb (PN Δ)) (hn : ∀ v, SW (Δ v) s2 (k v) P) : SW Γ (sq (sIf c sa sb) s2) ((if b = true then ra else rb).bind k) P := sw_ifj (hc (fun b => (if b = true then ra else rb).bind k)) ha hb hn
/-! zip(*rows) -/
/-! displays of one type, with stars -/
/-! among, however it is decided -/
/-! and, or: the left side with no effects -/
theorem ew_andTxp {γ : Type} {Γ Γ' : Ctx} {g h : M Bool} {k : Bool → R γ} {rb : R Bool} (b : Bool) (h1 : ∀ {γ : Type} (k : Bool → R γ), EW Γ g (k b) k idB Γ') (h2 : EV Γ' h rb idB Γ') : EW Γ (andT g h) ((if b = true then rb else .ok false).bind k) k idB Γ' := ew_andTx (h1 fun a => (if a = true then rb else .ok false).bind k) h2
theorem ew_orTxp {γ : Type} {Γ Γ' : Ctx} {g h : M Bool} {k : Bool → R γ} {rb : R Bool} (b : Bool) (h1 : ∀ {γ : Type} (k : Bool → R γ), EW Γ g (k b) k idB Γ') (h2 : EV Γ' h rb idB Γ') : EW Γ (orT g h) ((if b = true then .ok true else rb).bind k) k idB Γ' := ew_orTx (h1 fun a => (if a = true then .ok true else rb).bind k) h2
/-! operands with no effects -/
section
variable {α α1 α2 γ : Type} {Γ Γ' Γ'' : Ctx} {e1 e2 : M T} {o : T → T → Option T} {f1 : α1 → T} {f2 : α2 → T} {f : α → T} {k : α → R γ} {r : R γ}
theorem ew_op2b {w : α1 → α2 → α} (hw : ∀ a b, o (f1 a) (f2 b) = some (f (w a b))) (a : α1) (h1 : ∀ {γ : Type} (k : α1 → R γ), EW Γ e1 (k a) k f1 Γ') (b : α2) (h2 : ∀ {γ : Type} (k : α2 → R γ), EW Γ' e2 (k b) k f2 Γ'') : EW Γ (op2 o e1 e2) (k (w a b)) k f Γ'' :=
  ew_op2 hw (h1 fun a => k (w a b)) fun a => h2 fun b => k (w a b)
theorem ew_op2pb {r0 : α1 → α2 → R α} (hw : ∀ a b, Lo (o (f1 a) (f2 b)) (r0 a b) f) (a : α1) (h1 : ∀ {γ : Type} (k : α1 → R γ), EW Γ e1 (k a) k f1 Γ') (b : α2) (h2 : ∀ {γ : Type} (k : α2 → R γ), EW Γ' e2 (k b) k f2 Γ'') : EW Γ (op2 o e1 e2) ((r0 a b).bind k) k f Γ'' :=
  ew_op2p hw (h1 fun a => (r0 a b).bind k) fun a => h2 fun b => (r0 a b).bind k
theorem ew_op2r {w : α1 → α2 → α} (hw : ∀ a b, o (f1 a) (f2 b) = some (f (w a b))) (b : α2) (h2 : ∀ {γ : Type} (k : α2 → R γ), EW Γ' e2 (k b) k f2 Γ'') (h1 : EW Γ e1 r (fun a => k (w a b)) f1 Γ') : EW Γ (op2 o e1 e2) r k f Γ'' :=
  ew_op2 hw h1 fun a => h2 fun b => k (w a b)
theorem ew_op2pr {r0 : α1 → α2 → R α} (hw : ∀ a b, Lo (o (f1 a) (f2 b)) (r0 a b) f) (b : α2) (h2 : ∀ {γ : Type} (k : α2 → R γ), EW Γ' e2 (k b) k f2 Γ'') (h1 : EW Γ e1 r (fun a => (r0 a b).bind k) f1 Γ') : EW Γ (op2 o e1 e2) r k f Γ'' :=
  ew_op2p hw h1 fun a => h2 fun b => (r0 a b).bind k
theorem ew_op2l {w : α1 → α2 → α} (hw : ∀ a b, o (f1 a) (f2 b) = some (f (w a b))) (a : α1) (h1 : ∀ {γ : Type} (k : α1 → R γ), EW Γ e1 (k a) k f1 Γ') (h2 : EW Γ' e2 r (fun b => k (w a b)) f2 Γ'') : EW Γ (op2 o e1 e2) r k f Γ'' := fun β P K hk ρ hs => by
  obtain ⟨ρ', e, hs'⟩ := ew_val h1 hs
  have e0 : op2 o e1 e2 ρ = (e2 ρ').bind fun y ρ => liftO (o (f1 a) y) ρ := by unfold op2; rw [e]; rfl
  rw [e0, res_bind_assoc]
  refine h2 β P _ (fun b ρ2 hs2 => ?_) ρ' hs'
  rw [hw a b]; exact hk _ ρ2 hs2
theorem ew_op2pl {r0 : α1 → α2 → R α} (hw : ∀ a b, Lo (o (f1 a) (f2 b)) (r0 a b) f) (a : α1) (h1 : ∀ {γ : Type} (k : α1 → R γ), EW Γ e1 (k a) k f1 Γ') (h2 : EW Γ' e2 r (fun b => (r0 a b).bind k) f2 Γ'') : EW Γ (op2 o e1 e2) r k f Γ'' := fun β P K hk ρ hs => by
  obtain ⟨ρ', e, hs'⟩ := ew_val h1 hs
  have e0 : op2 o e1 e2 ρ = (e2 ρ').bind fun y ρ => liftO (o (f1 a) y) ρ := by unfold op2; rw [e]; rfl
  rw [e0, res_bind_assoc]
  exact h2 β P _ (fun b ρ2 hs2 => ew_lift (hw a b) β P K hk ρ2 hs2) ρ' hs'
theorem ew_consp {β : Type} {es : M (List T)} {g : β → List T} {k : α1 × β → R γ} (a : α1) (h1 : ∀ {γ : Type} (k : α1 → R γ), EW Γ e1 (k a) k f1 Γ') (h2 : EW Γ' es r (fun b => k (a, b)) g Γ'') : EW Γ (rdCons e1 es) r k (aC f1 g) Γ'' := fun δ P K hk ρ hs => by
  obtain ⟨ρ', e, hs'⟩ := ew_val h1 hs
  have e0 : rdCons e1 es ρ = (es ρ').bind fun xs ρ => .ok (f1 a :: xs) ρ := by unfold rdCons; rw [e]; rfl
  rw [e0, res_bind_assoc]
  exact h2 δ P _ (fun b ρ2 hs2 => hk (a, b) ρ2 hs2) ρ' hs'
end
/-! plain values, told in full -/
def EP {α δ : Type} (Γ : Ctx) (e : M δ) (a : α) (f : α → δ) : Prop := ∀ ρ, St ρ Γ → e ρ = .ok (f a) ρ
/-! sums -/
/-! sets -/
def lsetXR (x : T) : R Int := (optR (lenSetX x)).bind asI
theorem ew_lsetX {α1 γ : Type} {Γ Γ' : Ctx} {e1 : M T} {f1 : α1 → T} {k : Int → R γ} {r : R γ} (h : EW Γ e1 r (fun a => (lsetXR (f1 a)).bind k) f1 Γ') : EW Γ (op1 lenSetX e1) r k eI Γ' := ew_op1p (fun a => lo_as as_I _) h
/-! reversed -/
end FL.NL

/-! NL19: dicts whose keys are tuples of ints and whose values are ints. -/
namespace FL.NL
open PySem
def kI (i : Int) : L2.Key := .inl i
theorem keysT_I : ∀ (k : List Int), keysT (k.map eI) = some (k.map kI)
  | [] => rfl
  | x :: xs => by
    rw [List.map_cons]
    show (match keyT (.int x), keysT (xs.map eI) with
      | some k, some ks => some (k :: ks)
      | _, _ => none) = _
    rw [keysT_I xs]; rfl
theorem kI_inj {a b : List Int} : a.map kI = b.map kI ↔ a = b := by
  constructor
  · intro h
    have : ∀ a b : List Int, a.map kI = b.map kI → a = b := fun a => by
      induction a with
      | nil => intro b h; cases b with
        | nil => rfl
        | cons _ _ => cases h
      | cons x xs ih => intro b h; cases b with
        | nil => cases h
        | cons y ys =>
          simp only [List.map_cons, List.cons.injEq] at h
          obtain ⟨h1, h2⟩ := h
          unfold kI at h1
          injection h1 with h1
          rw [h1, ih _ h2]
    exact this a b h
  · rintro rfl; rfl
section
variable {Γ Γ' Γ'' : Ctx} {i : Nat} {e1 e2 : M T} {γ : Type}
end
end FL.NL

/-! NL20: dicts whose keys are tuples of ints, every value True: sets that keep their order. -/
namespace FL.NL
open PySem
abbrev Ks := List (List Int)
def kkD (d : Ks) : List (List L2.Key) := d.map fun k => k.map kI
def kvD (d : Ks) : List T := d.map fun _ => T.bl true
def oKs (d : Ks) : O := .dt (kkD d) (kvD d)
def eKs (d : Ks) : T := .dt (kkD d) (kvD d)
def kPut (d : Ks) (k : List Int) : Ks := if k ∈ d then d else d ++ [k]
@[irreducible] def kpR (d : Ks) (k : List Int) : R Ks := if d.length < 16777216 then .ok (kPut d k) else .bad
theorem kkD_any (d : Ks) (k : List Int) : (kkD d).any (fun k' => decide (k' = k.map kI)) = decide (k ∈ d) := by
  unfold kkD
  induction d with
  | nil => simp
  | cons p d ih =>
    simp only [List.map_cons, List.any_cons]
    rw [ih, Bool.eq_iff_iff, Bool.or_eq_true, decide_eq_true_eq, decide_eq_true_eq, decide_eq_true_eq, kI_inj, List.mem_cons]
    constructor
    · rintro (h | h)
      · exact .inl h.symm
      · exact .inr h
    · rintro (h | h)
      · exact .inl h.symm
      · exact .inr h
theorem repP_K (d : Ks) (k : List L2.Key) : repP (kkD d) (kvD d) k (T.bl true) = kvD d := by
  unfold kkD kvD
  induction d with
  | nil => rfl
  | cons p d ih =>
    simp only [List.map_cons]
    unfold repP
    rw [ih]
    simp
theorem putP_K (d : Ks) (k : List Int) : O.dt (putP (kkD d) (kvD d) (k.map kI) (T.bl true)).1 (putP (kkD d) (kvD d) (k.map kI) (T.bl true)).2 = oKs (kPut d k) := by
  unfold putP kPut
  rw [kkD_any]
  by_cases h : k ∈ d
  · simp only [h, decide_true, if_true]
    rw [repP_K]; rfl
  · simp only [h, decide_false, Bool.false_eq_true, if_false]
    unfold oKs kkD kvD
    simp
theorem putO_K (d : Ks) (k : List Int) : putO (oKs d) (eT eI k) (T.bl true) = if d.length < 16777216 then some (oKs (kPut d k)) else none := by
  show (if (kkD d).length < 16777216 then (keysT (k.map eI)).map fun k => O.dt (putP (kkD d) (kvD d) k (T.bl true)).1 (putP (kkD d) (kvD d) k (T.bl true)).2 else none) = _
  have hl : (kkD d).length = d.length := by unfold kkD; rw [List.length_map]
  rw [hl, keysT_I]
  by_cases h : d.length < 16777216
  · rw [if_pos h, if_pos h, Option.map_some, putP_K]
  · rw [if_neg h, if_neg h]
section
variable {Γ Γ' : Ctx} {i : Nat} {e : M T} {s2 : MS} {γ : Type} {r : R γ} {P : γ → Res Fl → Prop}
/-- d[k] = True -/
theorem sw_setK {d : Ks} {k : Ks → R γ} (h0 : Γ[i]? = some (.is (.ow (oKs d))) := by rfl) (h : EW Γ e r (fun a => (kpR d a).bind k) (eT eI) Γ') (h1 : Γ'[i]? = some (.is (.ow (oKs d))) := by rfl) (hn : ∀ ys : Ks, SW (Γ'.set i (.is (.ow (oKs ys)))) s2 (k ys) P) :
    SW Γ (sq (sSetD i e (rdC (.bl true))) s2) r P := fun ρ hs => by
  have o0 : rdOwn i ρ = some (oKs d) := by unfold rdOwn; rw [hs.is h0]; rfl
  have e1 : sq (sSetD i e (rdC (.bl true))) s2 ρ = (e ρ).bind fun y ρ => match (rdOwn i ρ).bind fun o => putO o y (T.bl true) with
    | some o' => s2 (setOwn i o' ρ)
    | none => .bad := by
    unfold sq sSetD withOwn rdC
    show ((match rdOwn i ρ with
      | some _ => (e ρ).bind fun y ρ => match (rdOwn i ρ).bind fun o => putO o y (T.bl true) with
        | some o' => Res.ok Fl.nx (setOwn i o' ρ)
        | none => .bad
      | none => .bad).bind _) = _
    rw [o0]
    show ((e ρ).bind _).bind _ = _
    cases e ρ with
    | bad => rfl
    | exc e => rfl
    | ok t ρ' =>
      simp only [bind_ok]
      cases (rdOwn i ρ').bind fun o => putO o t (T.bl true) <;> rfl
  rw [e1]
  refine h Fl P _ (fun a ρ' hs' => ?_) ρ hs
  have e2 : rdOwn i ρ' = some (oKs d) := by unfold rdOwn; rw [hs'.is h1]; rfl
  rw [e2]
  simp only [Option.bind_some]
  rw [putO_K]
  unfold kpR
  by_cases hl : d.length < 16777216
  · rw [if_pos hl, if_pos hl, R.bind_ok]
    simp only
    have es : ∀ o, setOwn i o ρ' = ρ'.set i (.ow o) := fun o => by unfold setOwn; rw [hs'.is h1]; rfl
    rw [es]
    exact hn (kPut d a) _ (hs'.set (p := .is _) rfl i)
  · rw [if_neg hl, if_neg hl, R.bind_e]; trivial
theorem ew_newKs {k : Ks → R γ} : EW Γ newDt (k []) k oKs Γ := ew_pure fun ρ hs => rfl
/-- list(d) -/
theorem tupKey_I (k : List Int) : tupKey (k.map kI) = eT eI k := by
  unfold tupKey eT
  rw [List.map_map]; rfl
/-- sorted(d) -/
def sortKs (d : Ks) : R (List (List Int)) := (optL (sortDtT (eKs d))).bind (asAll (asTf asI))
theorem ew_sortK {es : M (List T)} {k : List (List Int) → R γ} (h : EW Γ es r (fun a => (sortKs a.1).bind k) (aC eKs aN) Γ') : EW Γ (calO (one1 sortDtT) es) r k (oL (eT eI)) Γ' :=
  ew_calOp (r0 := fun (a : Ks × Unit) => sortKs a.1) (fun a => lo_asL (f := eT eI) (asS_All (as_Tf as_I)) _) h
end
end FL.NL

/-! NL21: four names at once. -/
namespace FL.NL
open PySem
section
variable {Γ Γ' : Ctx} {i j l m : Nat} {s2 : MS} {γ : Type} {r : R γ} {P : γ → Res Fl → Prop}
end
end FL.NL

/-! NL22: dicts of any keys (ints, texts, tuples of such) and any values. -/
namespace FL.NL
open PySem
abbrev Dic (κ α : Type) := List (κ × α)
section
variable {κ α β : Type} [DecidableEq κ]
def mGt : Dic κ α → κ → Option α
  | [], _ => none
  | p :: d, k => if p.1 = k then some p.2 else mGt d k
def mRp : Dic κ α → κ → α → Dic κ α
  | [], _, _ => []
  | p :: d, k, v => (p.1, if p.1 = k then v else p.2) :: mRp d k v
def mSt (d : Dic κ α) (k : κ) (v : α) : Dic κ α := if (d.any fun p => decide (p.1 = k)) = true then mRp d k v else d ++ [(k, v)]
@[irreducible] def msR (d : Dic κ α) (k : κ) (v : α) : R (Dic κ α) := if d.length < 16777216 then .ok (mSt d k v) else .bad
def mK (d : Dic κ α) : List κ := d.map Prod.fst
def mV (f : α → T) (d : Dic κ α) : List T := d.map fun p => f p.2
theorem valP_M (f : α → T) (k : κ) : ∀ d : Dic κ α, valP (mK d) (mV f d) k = (mGt d k).map f
  | [] => rfl
  | p :: d => by
    show (if p.1 = k then some (f p.2) else valP (mK d) (mV f d) k) = _
    unfold mGt
    by_cases h : p.1 = k
    · rw [if_pos h, if_pos h]; rfl
    · rw [if_neg h, if_neg h]; exact valP_M f k d
theorem repP_M (f : α → T) (k : κ) (v : α) : ∀ d : Dic κ α, repP (mK d) (mV f d) k (f v) = mV f (mRp d k v)
  | [] => rfl
  | p :: d => by
    show (if p.1 = k then f v else f p.2) :: repP (mK d) (mV f d) k (f v) = f (if p.1 = k then v else p.2) :: mV f (mRp d k v)
    rw [repP_M f k v d]
    by_cases h : p.1 = k
    · rw [if_pos h, if_pos h]
    · rw [if_neg h, if_neg h]
theorem mRp_K (k : κ) (v : α) : ∀ d : Dic κ α, mK (mRp d k v) = mK d
  | [] => rfl
  | p :: d => by
    show p.1 :: mK (mRp d k v) = p.1 :: mK d
    rw [mRp_K k v d]
theorem putP_M (f : α → T) (d : Dic κ α) (k : κ) (v : α) : putP (mK d) (mV f d) k (f v) = (mK (mSt d k v), mV f (mSt d k v)) := by
  unfold putP mSt
  have e : ((mK d).any fun k' => decide (k' = k)) = d.any fun p => decide (p.1 = k) := by unfold mK; rw [List.any_map]; rfl
  rw [e]
  by_cases h : (d.any fun p => decide (p.1 = k)) = true
  · rw [if_pos h, if_pos h, repP_M, mRp_K]
  · rw [if_neg h, if_neg h]
    unfold mK mV
    simp
/-- what a kind of keys must give -/
structure KOk (ek : κ → T) (ob : List κ → List T → O) : Prop where
  get : ∀ ks ts k, getO (ob ks ts) (ek k) = some (valP ks ts k)
  put : ∀ ks ts k t, putO (ob ks ts) (ek k) t = if ks.length < 16777216 then some (ob (putP ks ts k t).1 (putP ks ts k t).2) else none
  tget : ∀ ks ts k, getH (.t (frzO (ob ks ts))) (ek k) = some (valP ks ts k)
  dO : ∀ ks ts, isDH (.o (ob ks ts)) = true
  dT : ∀ ks ts, isDH (.t (frzO (ob ks ts))) = true
def oM (ob : List κ → List T → O) (f : α → T) (d : Dic κ α) : O := ob (mK d) (mV f d)
def eM (ob : List κ → List T → O) (f : α → T) (d : Dic κ α) : T := frzO (oM ob f d)
def obK (kf : κ → L2.Key) (ks : List κ) (ts : List T) : O := .dk (ks.map kf) ts
def obT (kf : κ → List L2.Key) (ks : List κ) (ts : List T) : O := .dt (ks.map kf) ts
structure Fk (ek : κ → T) (kf : κ → L2.Key) : Prop where
  key : ∀ k, keyT (ek k) = some (kf k)
  inj : ∀ a b, kf a = kf b → a = b
  tr : ∀ k, tKey (kf k) = ek k
structure Tk (ek : κ → T) (kf : κ → List L2.Key) : Prop where
  key : ∀ k, ∃ us, ek k = .tup us ∧ keysT us = some (kf k)
  inj : ∀ a b, kf a = kf b → a = b
  tr : ∀ k, tupKey (kf k) = ek k
theorem valP_map {μ : Type} [DecidableEq μ] {kf : κ → μ} (hi : ∀ a b, kf a = kf b → a = b) (k : κ) : ∀ (ks : List κ) (ts : List T), valP (ks.map kf) ts (kf k) = valP ks ts k
  | [], ts => by cases ts <;> rfl
  | _ :: _, [] => rfl
  | a :: ks, t :: ts => by
    show (if kf a = kf k then some t else valP (ks.map kf) ts (kf k)) = if a = k then some t else valP ks ts k
    rw [valP_map hi k ks ts]
    by_cases h : a = k
    · rw [if_pos h, if_pos (by rw [h])]
    · rw [if_neg h, if_neg (fun e => h (hi _ _ e))]
theorem repP_map {μ : Type} [DecidableEq μ] {kf : κ → μ} (hi : ∀ a b, kf a = kf b → a = b) (k : κ) (t : T) : ∀ (ks : List κ) (ts : List T), repP (ks.map kf) ts (kf k) t = repP ks ts k t
  | [], ts => by cases ts <;> rfl
  | _ :: _, [] => rfl
  | a :: ks, u :: ts => by
    show (if kf a = kf k then t else u) :: repP (ks.map kf) ts (kf k) t = (if a = k then t else u) :: repP ks ts k t
    rw [repP_map hi k t ks ts]
    by_cases h : a = k
    · rw [if_pos h, if_pos (by rw [h])]
    · rw [if_neg h, if_neg (fun e => h (hi _ _ e))]
theorem putP_map {μ : Type} [DecidableEq μ] {kf : κ → μ} (hi : ∀ a b, kf a = kf b → a = b) (k : κ) (t : T) (ks : List κ) (ts : List T) : putP (ks.map kf) ts (kf k) t = ((putP ks ts k t).1.map kf, (putP ks ts k t).2) := by
  unfold putP
  have e : ((ks.map kf).any fun k' => decide (k' = kf k)) = ks.any fun k' => decide (k' = k) := by
    rw [List.any_map]
    congr 1
    funext a
    show decide (kf a = kf k) = decide (a = k)
    by_cases h : a = k
    · simp [h]
    · have : kf a ≠ kf k := fun e => h (hi _ _ e)
      simp [h, this]
  rw [e]
  by_cases h : (ks.any fun k' => decide (k' = k)) = true
  · rw [if_pos h, if_pos h, repP_map hi]
  · rw [if_neg h, if_neg h]; simp
theorem kok_K {ek : κ → T} {kf : κ → L2.Key} (h : Fk ek kf) : KOk ek (obK kf) where
  get := fun ks ts k => by
    show (keyT (ek k)).map (valP (ks.map kf) ts) = _
    rw [h.key, Option.map_some, valP_map h.inj]
  put := fun ks ts k t => by
    show (if (ks.map kf).length < 16777216 then (keyT (ek k)).map fun q => O.dk (putP (ks.map kf) ts q t).1 (putP (ks.map kf) ts q t).2 else none) = _
    rw [List.length_map, h.key, Option.map_some, putP_map h.inj]; rfl
  tget := fun ks ts k => by
    show (keyT (ek k)).map (valP (ks.map kf) ts) = _
    rw [h.key, Option.map_some, valP_map h.inj]
  dO := fun _ _ => rfl
  dT := fun _ _ => rfl
end
def kfI (i : Int) : L2.Key := .inl i
theorem fk_I : Fk eI kfI := ⟨fun _ => rfl, fun a b h => by unfold kfI at h; injection h, fun _ => rfl⟩
def kfT {κ : Type} (kf : κ → L2.Key) (xs : List κ) : List L2.Key := xs.map kf
theorem map_inj' {κ μ : Type} {kf : κ → μ} (hi : ∀ a b, kf a = kf b → a = b) : ∀ xs ys : List κ, xs.map kf = ys.map kf → xs = ys
  | [], [], _ => rfl
  | [], _ :: _, h => by cases h
  | _ :: _, [], h => by cases h
  | a :: xs, b :: ys, h => by
    simp only [List.map_cons, List.cons.injEq] at h
    rw [hi _ _ h.1, map_inj' hi xs ys h.2]
theorem keysT_map {κ : Type} {e : κ → T} {kf : κ → L2.Key} (h : ∀ k, keyT (e k) = some (kf k)) : ∀ xs : List κ, keysT (xs.map e) = some (xs.map kf)
  | [] => rfl
  | x :: xs => by
    show (match keyT (e x), keysT (xs.map e) with
      | some k, some ks => some (k :: ks)
      | _, _ => none) = _
    rw [h, keysT_map h xs]; rfl
theorem tk_T {κ : Type} {e : κ → T} {kf : κ → L2.Key} (h : Fk e kf) : Tk (eT e) (kfT kf) := ⟨fun xs => ⟨_, rfl, keysT_map h.key xs⟩, map_inj' h.inj, fun xs => by
  show T.tup ((xs.map kf).map tKey) = T.tup (xs.map e)
  rw [List.map_map]
  congr 1
  exact List.map_congr_left fun k _ => h.tr k⟩
section
variable {κ α : Type} [DecidableEq κ] {ek : κ → T} {ob : List κ → List T → O} {f : α → T} {Γ Γ' Γ'' : Ctx} {i : Nat} {e e1 e2 : M T} {s2 : MS} {γ : Type} {r : R γ} {P : γ → Res Fl → Prop} {d : Dic κ α}
/-- the slot holds the dict -/
abbrev IsM (ob : List κ → List T → O) (f : α → T) (d : Dic κ α) (p : Option Sp) : Prop := p = some (.is (.ow (oM ob f d))) ∨ p = some (.is (.fz (eM ob f d)))
theorem IsM.get (hk : KOk ek ob) (h : IsM ob f d Γ[i]?) {ρ : Env} (hs : St ρ Γ) (k : κ) : isDH (has i ρ) = true ∧ getH (has i ρ) (ek k) = some ((mGt d k).map f) := by
  rcases h with h | h
  · have o0 : has i ρ = .o (oM ob f d) := by unfold has; rw [hs.is h]
    rw [o0]
    refine ⟨hk.dO _ _, ?_⟩
    show getO (oM ob f d) (ek k) = _
    unfold oM
    rw [hk.get, valP_M]
  · have o0 : has i ρ = .t (eM ob f d) := by unfold has; rw [hs.is h]
    rw [o0]
    refine ⟨hk.dT _ _, ?_⟩
    unfold eM oM
    rw [hk.tget, valP_M]
/-- d[k] = v -/
theorem sw_setM (hk : KOk ek ob) {ev : M T} {k : Dic κ α → R γ} {k1 : α → R γ} (h : EW Γ ev r k1 f Γ') (h0 : Γ'[i]? = some (.is (.ow (oM ob f d)))) (h2 : ∀ v, EW Γ' e (k1 v) (fun a => (msR d a v).bind k) ek Γ'') (h1 : Γ''[i]? = some (.is (.ow (oM ob f d)))) (hn : ∀ d' : Dic κ α, SW (Γ''.set i (.is (.ow (oM ob f d')))) s2 (k d') P) :
    SW Γ (sq (sSetD i e ev) s2) r P := fun ρ hs => by
  have e1 : sq (sSetD i e ev) s2 ρ = (ev ρ).bind fun t ρ => match rdOwn i ρ with
      | some _ => (e ρ).bind fun y ρ => (match (rdOwn i ρ).bind fun o => putO o y t with
        | some o' => s2 (setOwn i o' ρ)
        | none => .bad)
      | none => .bad := by
    unfold sq sSetD withOwn
    cases ev ρ with
    | bad => rfl
    | exc x => rfl
    | ok t ρ1 =>
      show ((match rdOwn i ρ1 with
        | some _ => (e ρ1).bind fun y ρ => match (rdOwn i ρ).bind fun o => putO o y t with
          | some o' => Res.ok Fl.nx (setOwn i o' ρ)
          | none => .bad
        | none => .bad).bind _) = (match rdOwn i ρ1 with
        | some _ => (e ρ1).bind fun y ρ => (match (rdOwn i ρ).bind fun o => putO o y t with
          | some o' => s2 (setOwn i o' ρ)
          | none => .bad)
        | none => .bad)
      cases rdOwn i ρ1 with
      | none => rfl
      | some o1 =>
        show ((e ρ1).bind _).bind _ = (e ρ1).bind _
        cases e ρ1 with
        | bad => rfl
        | exc x => rfl
        | ok y ρ2 =>
          simp only [bind_ok]
          cases (rdOwn i ρ2).bind fun o => putO o y t <;> rfl
  rw [e1]
  refine h Fl P _ (fun v ρ' hs' => ?_) ρ hs
  have o1 : rdOwn i ρ' = some (oM ob f d) := by unfold rdOwn; rw [hs'.is h0]; rfl
  rw [o1]
  refine h2 v Fl P _ (fun a ρ2 hs2 => ?_) ρ' hs'
  have o2 : rdOwn i ρ2 = some (oM ob f d) := by unfold rdOwn; rw [hs2.is h1]; rfl
  rw [o2]
  simp only [Option.bind_some]
  unfold oM
  rw [hk.put]
  have hl : (mK d).length = d.length := by unfold mK; rw [List.length_map]
  rw [hl]
  show Good P _ ((msR d a v).bind k)
  unfold msR
  by_cases c : d.length < 16777216
  · rw [if_pos c, if_pos c, R.bind_ok, putP_M]
    simp only
    have es : ∀ o, setOwn i o ρ2 = ρ2.set i (.ow o) := fun o => by unfold setOwn; rw [hs2.is h1]; rfl
    rw [es]
    exact hn (mSt d a v) _ (hs2.set (p := .is _) rfl i)
  · rw [if_neg c, if_neg c, R.bind_e]; trivial
theorem sw_setMv (hk : KOk ek ob) (v : α) {ev : M T} {k : Dic κ α → R γ} (h : ∀ {γ : Type} (k : α → R γ), EW Γ ev (k v) k f Γ') (h0 : Γ'[i]? = some (.is (.ow (oM ob f d)))) (h2 : EW Γ' e r (fun a => (msR d a v).bind k) ek Γ'') (h1 : Γ''[i]? = some (.is (.ow (oM ob f d)))) (hn : ∀ d' : Dic κ α, SW (Γ''.set i (.is (.ow (oM ob f d')))) s2 (k d') P) :
    SW Γ (sq (sSetD i e ev) s2) r P := by
  classical
  have q := h (fun v' => if v' = v then r else .bad)
  rw [if_pos rfl] at q
  refine sw_setM hk q h0 (fun v' => ?_) h1 hn
  by_cases c : v' = v
  · subst c; rw [if_pos rfl]; exact h2
  · rw [if_neg c]; exact fun _ _ _ _ _ _ => trivial
/-- sorted(d) -/
def sMR (o : T → Option O) (as : T → R κ) (x : T) : R (List κ) := (optL (o x)).bind (asAll as)
theorem ew_sortM {as : T → R κ} (hf : As as ek) {o : T → Option O} {es : M (List T)} {k : List κ → R γ} (h : EW Γ es r (fun a => (sMR o as (eM ob f a.1)).bind k) (aC (eM ob f) aN) Γ') : EW Γ (calO (one1 o) es) r k (oL ek) Γ' :=
  ew_calOp (r0 := fun (a : Dic κ α × Unit) => sMR o as (eM ob f a.1)) (fun a => show Lo (one1 o (aC (eM ob f) aN a)) (sMR o as (eM ob f a.1)) (oL ek) from lo_asL (f := ek) (asS_All hf) (o (eM ob f a.1))) h
theorem ew_newMK {kf : κ → L2.Key} {k : Dic κ α → R γ} : EW Γ newDk (k []) k (oM (obK kf) f) Γ := ew_pure fun ρ hs => rfl
theorem ew_newMT {kf : κ → List L2.Key} {k : Dic κ α → R γ} : EW Γ newDt (k []) k (oM (obT kf) f) Γ := ew_pure fun ρ hs => rfl
end
/-! ### raise, told -/
section
variable {Γ Γ' : Ctx} {γ : Type} {P : γ → Res Fl → Prop} {c g : Str}
end
/-! ### {k: v for ..} -/
section
variable {κ α β α2 : Type} [DecidableEq κ]
variable {vs vs1 : List Nat} {g g1 : MG} {test test1 : M Bool} {ek0 ev0 : M T} {fx : α → T} {fx1 : α2 → T} {ek : κ → T} {fv : β → T} {sl : α → List (Nat × Sp)} {sl1 : α → α2 → List (Nat × Sp)} {Γ Γ0 : Ctx}
end
end FL.NL

/-! NL23: sorted(set(x)). -/
namespace FL.NL
open PySem
end FL.NL

/-! NL24: sorted(d.items()). -/
namespace FL.NL
open PySem
end FL.NL

/-! NL25: x < y, data alike (PD's Key tells the same in the math texts; here for the rules alone). -/
namespace FL.NL
open PySem PySem.W
section
variable {α β : Type}
end
end FL.NL

/-! NL26: in, for things of any kind (partial). -/
namespace FL.NL
open PySem
variable {α β γ : Type} {α1 α2 : Type}
end FL.NL

/-! NL27: for k, v in d.items(), d a name that holds a dict of tuple keys and is not used any more. -/
namespace FL.NL
open PySem
end FL.NL

/-! NL28: list.count of data. -/
namespace FL.NL
open PySem PySem.Spec PyProof.Rows L2
variable {α1 α2 γ : Type} {Γ Γ' Γ'' : Ctx} {e1 e2 : M T} {r : R γ}
end FL.NL

/-! NL29: for k in {k: v for ..}, the keys tuples. -/
namespace FL.NL
open PySem
end FL.NL

/-! NL30: len(d), d of tuple keys. -/
namespace FL.NL
open PySem
end FL.NL

/-! NL31: rows unpacked. -/
namespace FL.NL
open PySem
end FL.NL

/-! NL32: groups (for x in xs: d.setdefault(k, []).append(x)), and d.values(). -/
namespace FL.NL
open PySem
def vlL {κ β : Type} (d : Dic κ β) : List β := d.map fun p => p.2
theorem ew_vlM {κ β γ : Type} {Γ : Ctx} {i : Nat} {kf : κ → List L2.Key} {fv : β → T} {k : List β → R γ} (d : Dic κ β) (h0 : Γ[i]? = some (.is (.ow (oM (obT kf) fv d))) := by rfl) : EW Γ (iVlT i) (k (vlL d)) k (List.map fv) (Γ.set i .any) := fun β' P K hK ρ hs => by
  have e0 : ρ[i]? = some (.ow (oM (obT kf) fv d)) := hs.is h0
  have e : iVlT i ρ = .ok ((vlL d).map fv) (ρ.set i .un) := by
    unfold iVlT
    rw [e0]
    show (if ((mK d).map kf).length = (mV fv d).length then Res.ok (mV fv d) (ρ.set i .un) else .bad) = _
    rw [if_pos (by unfold mK mV; simp)]
    congr 1
    unfold mV vlL
    rw [List.map_map]; rfl
  rw [e]
  exact hK (vlL d) (ρ.set i .un) (hs.set (p := .any) trivial i)
def gPut {κ α : Type} [DecidableEq κ] (k : κ) (x : α) : Dic κ (List α) → Dic κ (List α)
  | [] => [(k, [x])]
  | p :: d => if p.1 = k then (p.1, p.2 ++ [x]) :: d else p :: gPut k x d
def gOk {κ α : Type} (d : Dic κ (List α)) : Bool := decide (d.length < 16777216) && d.all fun p => decide (p.2.length < 16777216)
def grpR {κ α : Type} [DecidableEq κ] (kr : α → R κ) : List α → Dic κ (List α) → R (Dic κ (List α))
  | [], d => .ok d
  | x :: xs, d => (kr x).noX.bind fun k => if gOk d = true then grpR kr xs (gPut k x d) else .bad
def grO {κ α : Type} (kf : κ → List L2.Key) (f : α → T) (d : Dic κ (List α)) : Gr := d.map fun p => (kf p.1, p.2.map f)
theorem grO_put {κ α : Type} [DecidableEq κ] {kf : κ → List L2.Key} {f : α → T} (hi : ∀ a b, kf a = kf b → a = b) (k : κ) (x : α) : ∀ d : Dic κ (List α), grpPut (kf k) (f x) (grO kf f d) = grO kf f (gPut k x d)
  | [] => rfl
  | p :: d => by
    show (if kf p.1 = kf k then (kf p.1, p.2.map f ++ [f x]) :: grO kf f d else (kf p.1, p.2.map f) :: grpPut (kf k) (f x) (grO kf f d)) = grO kf f (if p.1 = k then (p.1, p.2 ++ [x]) :: d else p :: gPut k x d)
    by_cases h : p.1 = k
    · rw [if_pos h, if_pos (by rw [h])]
      show _ = (kf p.1, (p.2 ++ [x]).map f) :: grO kf f d
      rw [List.map_append]; rfl
    · rw [if_neg h, if_neg (fun e => h (hi _ _ e)), grO_put hi k x d]; rfl
theorem grO_ok {κ α : Type} {kf : κ → List L2.Key} {f : α → T} (d : Dic κ (List α)) : grpOk (grO kf f d) = gOk d := by
  unfold grpOk gOk grO
  rw [List.length_map, List.all_map]
  congr 2
  funext p
  simp [Function.comp_def]
/-- no slot holds a value that is only carried -/
def nrSp : Sp → Bool
  | .nf => true
  | .is (.raw _) => false
  | .is _ => true
  | .lz _ => true
  | _ => false
def nrC (Γ : Ctx) : Bool := Γ.all nrSp
theorem nrC_ok {Γ : Ctx} {ρ : Env} (h : nrC Γ = true) (hs : St ρ Γ) : nraw ρ = true := by
  unfold nraw
  rw [List.all_eq_true]
  intro x hx
  obtain ⟨i, hi⟩ := List.getElem?_of_mem hx
  have hl : i < Γ.length := by rw [← hs.len]; exact (List.getElem?_eq_some_iff.mp hi).1
  obtain ⟨y, e1, e2⟩ := hs.get i _ (List.getElem?_eq_getElem hl)
  rw [hi] at e1; cases e1
  unfold nrC at h
  rw [List.all_eq_true] at h
  have h1 := h _ (List.getElem_mem hl)
  generalize Γ[i] = p at *
  cases p with
  | any => cases h1
  | nf =>
    cases x with
    | raw n => cases e2
    | _ => rfl
  | is z =>
    have e2 : x = z := e2
    subst e2
    cases x with
    | raw n => cases h1
    | _ => rfl
  | lz ts => rcases e2 with rfl | rfl <;> rfl
  | row b => cases h1
section
variable {κ α γ : Type} [DecidableEq κ] {Γ Γ1 Δ : Ctx} {Γ2 : α → Ctx} {gi i : Nat} {src : M (List T)} {g : MG} {kfm : M T} {s2 : MS} {r : R γ} {kr : α → R κ} {f : α → T} {ek : κ → T} {kf : κ → List L2.Key} {k : Dic κ (List α) → R γ} {P : γ → Res Fl → Prop}
theorem grp_good (tk : Tk ek kf) (ht : ∀ x, GW Δ g (f x) (Γ2 x)) (hx : ∀ x, (Γ2 x)[i]? = some (.is (.fz (f x)))) (hg2 : ∀ x, (Γ2 x)[gi]? = some (.is (.raw 0))) (hk : ∀ x, EV (Γ2 x) kfm (kr x) ek (Γ2 x)) (hl : ∀ x, Le (Γ2 x) Δ) :
    ∀ (xs : List α) (d : Dic κ (List α)) (ρ : Env), St ρ Δ → Good (fun d' x => ∃ ρ', x = Res.ok (grO kf f d') ρ' ∧ St ρ' Δ) (grpL gi i g kfm (xs.map f) (grO kf f d) ρ) (grpR kr xs d)
  | [], d, ρ, hs => ⟨ρ, rfl, hs⟩
  | x :: xs, d, ρ, hs => by
    obtain ⟨ρ1, e1, hs1⟩ := ht x ρ hs
    have er : isRaw0 gi ρ1 = true := by unfold isRaw0; rw [hs1.is (hg2 x)]; all_goals rfl
    have e2 : grpL gi i g kfm ((x :: xs).map f) (grO kf f d) ρ = (noX (kfm ρ1)).bind fun y ρ2 => match keyTT y, ρ2[i]? with
        | some kk, some (.fz z) => if grpOk (grO kf f d) = true then grpL gi i g kfm (xs.map f) (grpPut kk z (grO kf f d)) ρ2 else .bad
        | _, _ => .bad := by
      show grpL gi i g kfm (f x :: xs.map f) (grO kf f d) ρ = _
      conv => lhs; unfold grpL
      rw [e1]
      simp only []
      rw [if_pos er]
      all_goals rfl
    rw [e2]
    show Good _ _ ((kr x).noX.bind fun k => if gOk d = true then grpR kr xs (gPut k x d) else .bad)
    refine ((hk x).nx hs1).next (fun e he => (noX_of he).elim) fun kv ⟨ρ2, e3, hs2⟩ => ?_
    rw [e3]
    show Good _ (match keyTT (ek kv), ρ2[i]? with
        | some kk, some (.fz z) => if grpOk (grO kf f d) = true then grpL gi i g kfm (xs.map f) (grpPut kk z (grO kf f d)) ρ2 else .bad
        | _, _ => .bad) _
    have ekk : keyTT (ek kv) = some (kf kv) := by
      obtain ⟨us, e4, e5⟩ := tk.key kv
      rw [e4]; unfold keyTT; exact e5
    rw [ekk, hs2.is (hx x)]
    simp only []
    rw [grO_ok]
    by_cases h : gOk d = true
    · rw [if_pos h, if_pos h, grO_put tk.inj]
      exact grp_good tk ht hx hg2 hk hl xs _ ρ2 (hs2.le (hl x))
    · rw [if_neg h, if_neg h]; trivial
theorem sw_grp (hsrc : EW Γ src r (fun xs => (grpR kr xs []).bind k) (List.map f) Γ1) (tk : Tk ek kf) (h0 : Γ1[gi]? = some (.is (.ow (oM (obT kf) (eL f) ([] : Dic κ (List α)))))) (hn1 : nrC (Γ1.set gi (.is .un)) = true) (l : Le (Γ1.set gi (.is (.raw 0))) Δ) (hΔ : Δ[gi]? = some (.is (.raw 0))) (hn2 : nrC (Δ.set gi (.is .un)) = true)
    (ht : ∀ x, GW Δ g (f x) (Γ2 x)) (hx : ∀ x, (Γ2 x)[i]? = some (.is (.fz (f x)))) (hg2 : ∀ x, (Γ2 x)[gi]? = some (.is (.raw 0))) (hk : ∀ x, EV (Γ2 x) kfm (kr x) ek (Γ2 x)) (hl : ∀ x, Le (Γ2 x) Δ)
    (hn : ∀ d, SW (Δ.set gi (.is (.ow (oM (obT kf) (eL f) d)))) s2 (k d) P) : SW Γ (sq (sGrp gi i src g kfm) s2) r P := fun ρ hs => by
  have e1 : sq (sGrp gi i src g kfm) s2 ρ = (src ρ).bind fun ts ρ => sq (fun ρ => if isDt0 gi ρ = true ∧ nraw (ρ.set gi .un) = true then (grpL gi i g kfm ts [] (ρ.set gi (.raw 0))).bind (grpFin gi) else .bad) s2 ρ := by
    unfold sq sGrp
    rw [res_bind_assoc]
  rw [e1]
  refine hsrc Fl P _ (fun xs ρ1 hs1 => ?_) ρ hs
  have a1 : isDt0 gi ρ1 = true := by unfold isDt0; rw [hs1.is h0]; all_goals rfl
  have a2 : nraw (ρ1.set gi .un) = true := nrC_ok hn1 (hs1.set (p := .is .un) rfl gi)
  have hs2 : St (ρ1.set gi (.raw 0)) Δ := (hs1.set (p := .is (.raw 0)) rfl gi).le l
  have e2 : sq (fun ρ => if isDt0 gi ρ = true ∧ nraw (ρ.set gi .un) = true then (grpL gi i g kfm (xs.map f) [] (ρ.set gi (.raw 0))).bind (grpFin gi) else .bad) s2 ρ1 = (grpL gi i g kfm (xs.map f) (grO kf f ([] : Dic κ (List α))) (ρ1.set gi (.raw 0))).bind fun γ ρ => sq (grpFin gi γ) s2 ρ := by
    unfold sq
    show Res.bind (if isDt0 gi ρ1 = true ∧ nraw (ρ1.set gi .un) = true then (grpL gi i g kfm (xs.map f) [] (ρ1.set gi (.raw 0))).bind (grpFin gi) else .bad) _ = _
    rw [if_pos ⟨a1, a2⟩, res_bind_assoc]; all_goals rfl
  rw [e2]
  refine (grp_good tk ht hx hg2 hk hl xs [] _ hs2).next (fun e he => by rw [he]; rfl) fun d ⟨ρ3, e3, hs3⟩ => ?_
  rw [e3]
  have b1 : isRaw0 gi ρ3 = true := by unfold isRaw0; rw [hs3.is hΔ]; all_goals rfl
  have b2 : nraw (ρ3.set gi .un) = true := nrC_ok hn2 (hs3.set (p := .is .un) rfl gi)
  have e4 : grpFin gi (grO kf f d) ρ3 = .ok .nx (ρ3.set gi (.ow (oM (obT kf) (eL f) d))) := by
    unfold grpFin
    rw [if_pos ⟨b1, b2⟩]
    congr 2
    unfold oM obT mK mV grO
    simp only [List.map_map]
    rfl
  show Good P (sq (grpFin gi (grO kf f d)) s2 ρ3) _
  rw [sq_nx (s := grpFin gi (grO kf f d)) e4]
  exact hn d _ (hs3.set (p := .is _) rfl gi)
end
end FL.NL

/-! NL33: any(row of ints); dict(zip(keys, values)). -/
namespace FL.NL
open PySem
end FL.NL

/-! NL34: sorted(set(x)), x a list of texts. -/
namespace FL.NL
open PySem
end FL.NL

/-! NL35: sorted(set(x)), x a list of tuples of numbers; sorted(d), d's keys tuples, one key at most too. -/
namespace FL.NL
open PySem
end FL.NL

set_option maxHeartbeats 2000000
/-! NL36: int(text); x.pop(). -/
namespace FL.NL
open PySem
variable {α β γ δ σ : Type} {Γ Γ' Γ'' : Ctx} {r : R γ}
end FL.NL

set_option maxHeartbeats 2000000
/-! NL37: a list of one's own walked by a comprehension, asked for an index. -/
namespace FL.NL
open PySem
section
variable {α β γ δ σ : Type} {Γ Γ' Γ'' : Ctx} {r : R γ} {vs : List Nat} {g : MG} {test : M Bool} {elt : M T} {fx : α → T} {fe : β → T} {sl : α → List (Nat × Sp)} {i : Nat} {xs : List α}
end
end FL.NL

/-! PD: typed data in order: sorted, min, max. -/
namespace FL.NL
open PySem PySem.W
section
variable {α β : Type}
/-- encoded data, all alike -/
structure Key (f : α → T) (d : α → PyData) (n : Nat) : Prop where
  td : ∀ a, toD (f a) = some (d a)
  al : ∀ a b, alike (d a) (d b) = true
  nn : ∀ a, d a ≠ .none
  dp : ∀ a, (d a).depth ≤ n
  pl : ∀ a, plT (f a) = true
structure KeyS (f : α → List T) (d : α → List PyData) (n : Nat) : Prop where
  td : ∀ a, toDs (f a) = some (d a)
  al : ∀ a b, alikeAll (d a) (d b) = true
  dp : ∀ a, PyData.depthAll (d a) ≤ n
  pl : ∀ a, plTs (f a) = true
theorem key_I : Key eI PyData.int 0 := ⟨fun _ => rfl, fun _ _ => rfl, fun _ => nofun, fun _ => Nat.le_refl _, fun _ => rfl⟩
theorem toDs_key {f : α → T} {d : α → PyData} (h : ∀ a, toD (f a) = some (d a)) : ∀ xs : List α, toDs (xs.map f) = some (xs.map d)
  | [] => by simp [toDs]
  | x :: xs => by simp only [List.map_cons, toDs, h x, toDs_key h xs]
theorem alikeAll_map {d : α → PyData} (h : ∀ a b, alike (d a) (d b) = true) : ∀ xs ys : List α, alikeAll (xs.map d) (ys.map d) = true
  | [], _ => by unfold alikeAll; rfl
  | _ :: _, [] => by unfold alikeAll; rfl
  | x :: xs, y :: ys => by simp only [List.map_cons, alikeAll, h x y, alikeAll_map h xs ys, Bool.and_self]
theorem depthAll_map {d : α → PyData} {n : Nat} (h : ∀ a, (d a).depth ≤ n) : ∀ xs : List α, PyData.depthAll (xs.map d) ≤ n
  | [] => by simp [PyData.depthAll]
  | x :: xs => by simp only [List.map_cons, PyData.depthAll]; have := h x; have := depthAll_map h xs; omega
theorem plTs_map {f : α → T} (h : ∀ a, plT (f a) = true) : ∀ xs : List α, plTs (xs.map f) = true
  | [] => rfl
  | x :: xs => by simp only [List.map_cons, plTs, h x, plTs_map h xs, Bool.and_self]
theorem keyS_map {f : α → T} {d : α → PyData} {n : Nat} (h : Key f d n) : KeyS (List.map f) (List.map d) n := ⟨toDs_key h.td, alikeAll_map h.al, depthAll_map h.dp, plTs_map h.pl⟩
theorem key_tup {f : α → List T} {d : α → List PyData} {n : Nat} (h : KeyS f d n) : Key (fun a => T.tup (f a)) (fun a => .tuple (d a)) (n + 1) :=
  ⟨fun a => by simp only [toD, h.td a, Option.map_some], fun a b => by simp only [alike, h.al a b], fun _ => nofun, fun a => by simp only [PyData.depth]; have := h.dp a; omega, fun a => by simp only [plT, h.pl a]⟩
theorem key_TI : Key (eT eI) (fun xs => .tuple (xs.map PyData.int)) 1 := key_tup (keyS_map key_I)
/-- in what order -/
def kLt (d : α → PyData) (a b : α) : Bool := dataLt (d a) (d b)
theorem kLt_irr {d : α → PyData} (a : α) : kLt d a a = false := PyProof.Rows.lex_irrefl _
theorem kLt_trans {d : α → PyData} {a b c : α} (h : kLt d a b = true) (h2 : kLt d b c = true) : kLt d a c = true := PyProof.Rows.lex_trans _ _ _ h h2
theorem kLt_asy {d : α → PyData} {a b : α} (h : kLt d a b = true) : kLt d b a = false := by
  cases e : kLt d b a with
  | false => rfl
  | true => have := kLt_trans h e; rw [kLt_irr] at this; cases this
theorem kLt_neg {d : α → PyData} {a b c : α} (h : kLt d a b = false) (h2 : kLt d b c = false) : kLt d a c = false := by
  cases e : kLt d a c with
  | false => rfl
  | true => rcases PyProof.Rows.lex_negTrans _ _ _ e with h3 | h3
            · exact absurd (h.symm.trans h3) nofun
            · exact absurd (h2.symm.trans h3) nofun
theorem kLt_tot {d : α → PyData} {a b : α} (h : kLt d a b = false) (h2 : kLt d b a = false) : keyToks (d a) = keyToks (d b) := PyProof.Rows.lex_total _ _ h h2
/-- different data have different keys -/
def Inj (d : α → PyData) : Prop := ∀ a b, keyToks (d a) = keyToks (d b) → a = b
theorem inj_I : Inj PyData.int := fun a b h => by simpa [keyToks] using h
theorem toksAll_int : ∀ {xs ys : List Int}, keyToksAll (xs.map PyData.int) = keyToksAll (ys.map PyData.int) → xs = ys
  | [], [], _ => rfl
  | [], y :: ys, h => by simp [keyToksAll, keyToks] at h
  | x :: xs, [], h => by simp [keyToksAll, keyToks] at h
  | x :: xs, y :: ys, h => by
    simp only [List.map_cons, keyToksAll, keyToks, List.cons_append, List.nil_append, List.cons.injEq, true_and] at h
    rw [toksAll_int h.2]
    have := Sum.inl.inj h.1
    rw [this]
theorem inj_TI : Inj fun xs : List Int => PyData.tuple (xs.map PyData.int) := fun a b h => toksAll_int (by simpa only [keyToks] using h)
/-! sorting -/
def kSort (d : α → PyData) (xs : List α) : List α := xs.mergeSort fun a b => !kLt d b a
theorem kSort_perm {d : α → PyData} {xs : List α} : (kSort d xs).Perm xs := List.mergeSort_perm _ _
def Asc (d : α → PyData) (xs : List α) : Prop := xs.Pairwise fun a b => kLt d b a = false
theorem kSort_asc {d : α → PyData} {xs : List α} : Asc d (kSort d xs) := by
  have := List.pairwise_mergeSort (le := fun a b => !kLt d b a) (fun a b c h1 h2 => by
    simp only [Bool.not_eq_true'] at h1 h2 ⊢
    exact kLt_neg h2 h1) (fun a b => by
    cases e : kLt d b a with
    | false => rfl
    | true => simp [kLt_asy e]) xs
  exact this.imp fun h => by simpa using h
theorem asc_one {d : α → PyData} (hi : Inj d) : ∀ {xs ys : List α}, xs.Perm ys → Asc d xs → Asc d ys → xs = ys
  | [], ys, hq, _, _ => by simpa using hq.symm.eq_nil
  | x :: xs, [], hq, _, _ => by simpa using hq.eq_nil
  | x :: xs, y :: ys, hq, h1, h2 => by
    obtain ⟨a1, a2⟩ := List.pairwise_cons.mp h1
    obtain ⟨b1, b2⟩ := List.pairwise_cons.mp h2
    have e : x = y := by
      have m1 := hq.mem_iff.mp (List.mem_cons_self (a := x) (l := xs))
      have m2 := hq.mem_iff.mpr (List.mem_cons_self (a := y) (l := ys))
      rcases List.mem_cons.mp m1 with e | m1
      · exact e
      · rcases List.mem_cons.mp m2 with e | m2
        · exact e.symm
        · exact hi _ _ (kLt_tot (b1 x m1) (a1 y m2))
    subst e
    rw [asc_one hi (List.Perm.cons_inv hq) a2 b2]
theorem kSort_one {d : α → PyData} (hi : Inj d) {xs ys : List α} (h : xs.Perm ys) : kSort d xs = kSort d ys := asc_one hi (kSort_perm.trans (h.trans kSort_perm.symm)) kSort_asc kSort_asc
theorem kSort_self {d : α → PyData} (hi : Inj d) {xs : List α} (h : Asc d xs) : kSort d xs = xs := asc_one hi kSort_perm kSort_asc h
theorem toksort {d : α → PyData} {f : α → T} : ∀ xs : List α, srt (dataLe false (Prod.snd : T × PyData → PyData)) ((xs.map f).zip (xs.map d)) = (kSort d xs).map fun a => (f a, d a) := fun xs => by
  rw [srt_eq]
  have e : (xs.map f).zip (xs.map d) = xs.map fun a => (f a, d a) := by
    induction xs with
    | nil => rfl
    | cons x xs ih => simp [ih]
  rw [e, kSort]
  exact (List.map_mergeSort (r := fun a b => !kLt d b a) (s := dataLe false (Prod.snd : T × PyData → PyData)) (f := fun a => (f a, d a)) (l := xs) (fun a _ b _ => rfl)).symm
theorem asAll_map {as : T → R α} {f : α → T} (h : ∀ a, as (f a) = .ok a) : ∀ xs : List α, asAll as (xs.map f) = .ok xs
  | [] => rfl
  | x :: xs => by simp only [List.map_cons, asAll, h x, R.bind_ok, asAll_map h xs]
def atomD (x : PyData) : Bool := match x with
  | .none => false
  | .tuple _ => false
  | _ => true
def tupD (x : PyData) : Bool := match x with
  | .tuple (_ :: _) => true
  | _ => false
theorem sort_ok {f : α → T} {d : α → PyData} {n : Nat} (K : Key f d n) (hn : n ≤ 64) {as : T → R α} (ha : ∀ a, as (f a) = .ok a) {xs : List α} (hs : (∀ a ∈ xs, tupD (d a) = true) ∨ ∀ a ∈ xs, atomD (d a) = true) {t : T} (ht : t = eL f xs ∨ t = eT f xs) : sortR as t = .ok (kSort d xs) := by
  have e0 : sortA [t] = sort1 [eL f xs] := by rcases ht with rfl | rfl <;> rfl
  have e : sort1 [eL f xs] = some (.l ((kSort d xs).map f)) := by
    unfold sort1 eL
    show (match toDs (xs.map f) with
      | some ds => if okSort ds then some (O.l (sortT (xs.map f) ds)) else none
      | none => none) = _
    rw [toDs_key K.td]
    have ok : okSort (xs.map d) = true := by
      unfold okSort
      simp only [Bool.and_eq_true, List.all_eq_true, List.mem_map, decide_eq_true_eq, Bool.or_eq_true]
      refine ⟨⟨?_, ?_⟩, ?_⟩
      · rintro _ ⟨a, _, rfl⟩ _ ⟨b, _, rfl⟩; exact K.al a b
      · rintro _ ⟨a, _, rfl⟩; have := K.dp a; omega
      · rcases hs with h | h
        · left; rintro _ ⟨a, ha, rfl⟩; exact h a ha
        · right; rintro _ ⟨a, ha, rfl⟩; exact h a ha
    simp only [ok, if_true]
    unfold sortT
    rw [toksort, List.map_map]; rfl
  unfold sortR
  rw [e0, e]
  unfold optL
  rw [R.bind_ok, asAll_map ha]
theorem sort_I {xs : List Int} : sortR asI (eL eI xs) = .ok (kSort PyData.int xs) := sort_ok key_I (by decide) (fun _ => rfl) (.inr fun _ _ => rfl) (.inl rfl)
theorem asTf_I (xs : List Int) : asTf asI (eT eI xs) = .ok xs := asAll_map (f := eI) (fun _ => rfl) xs
/-! the least, the greatest -/
def kMin (d : α → PyData) (x : α) (xs : List α) : α := xs.foldl (fun a y => if kLt d y a = true then y else a) x
theorem minD_map {d : α → PyData} : ∀ (xs : List α) (x : α), minD (d x) (xs.map d) = d (kMin d x xs)
  | [], x => rfl
  | y :: xs, x => by
    have := minD_map (d := d) xs (if kLt d y x = true then y else x)
    unfold minD kMin at this ⊢
    simp only [List.map_cons, List.foldl_cons]
    rw [← this]
    unfold kLt
    split <;> rfl
theorem mm_ok {pick : PyData → List PyData → PyData} {f : α → T} {d : α → PyData} {n : Nat} (K : Key f d n) (hn : n ≤ 60) {as : T → R α} (ha : ∀ a, as (f a) = .ok a) {x : α} {xs : List α} {b : α} (hp : pick (d x) (xs.map d) = d b) {t : T} (ht : seqT t = some ((x :: xs).map f)) : mmR pick as t = .ok b := by
  have e : mmO pick [t] = some (f b) := by
    unfold mmO
    have et := toDs_key K.td (x :: xs)
    rw [List.map_cons (f := d)] at et
    simp only [ht, et]
    have c1 : plTs ((x :: xs).map f) = true := plTs_map K.pl (x :: xs)
    have c2 : ((d x :: xs.map d).all fun a => (d x :: xs.map d).all fun b => alike a b) = true := by
      simp only [← List.map_cons, List.all_map, List.all_eq_true, Function.comp]
      exact fun a _ b _ => K.al a b
    have c3 : ((d x :: xs.map d).all fun a => match a with | .none => false | _ => true) = true := by
      simp only [← List.map_cons, List.all_map, List.all_eq_true, Function.comp]
      intro a _
      have := K.nn a
      split
      · rename_i h; exact absurd h this
      · rfl
    have c4 : PyData.depthAll (d x :: xs.map d) ≤ 60 := Nat.le_trans (depthAll_map K.dp (x :: xs)) hn
    rw [if_pos ⟨c1, c2, c3, c4⟩, hp, ofD_toD _ _ (K.pl b) (K.td b)]
  unfold mmR
  rw [e]
  unfold optR
  rw [R.bind_ok, ha]
theorem min_ok {f : α → T} {d : α → PyData} {n : Nat} (K : Key f d n) (hn : n ≤ 60) {as : T → R α} (ha : ∀ a, as (f a) = .ok a) {x : α} {xs : List α} : mmR minD as (eL f (x :: xs)) = .ok (kMin d x xs) := mm_ok K hn ha (minD_map xs x) rfl
theorem kMin_spec {d : α → PyData} : ∀ (xs : List α) (x : α), kMin d x xs ∈ x :: xs ∧ ∀ y ∈ x :: xs, kLt d y (kMin d x xs) = false
  | [], x => ⟨List.mem_singleton.mpr rfl, fun y hy => by rw [List.mem_singleton.mp hy]; exact kLt_irr x⟩
  | y :: xs, x => by
    obtain ⟨h1, h2⟩ := kMin_spec (d := d) xs (if kLt d y x = true then y else x)
    have e : kMin d x (y :: xs) = kMin d (if kLt d y x = true then y else x) xs := rfl
    rw [e]
    refine ⟨?_, fun z hz => ?_⟩
    · rcases List.mem_cons.mp h1 with h | h
      · rw [h]; split <;> simp
      · exact List.mem_cons_of_mem _ (List.mem_cons_of_mem _ h)
    · have h3 := h2 _ (List.mem_cons_self ..)
      rcases List.mem_cons.mp hz with rfl | hz
      · by_cases c : kLt d y z = true
        · rw [if_pos c] at h3 ⊢; exact kLt_neg (kLt_asy c) h3
        · rw [if_neg c] at h3 ⊢; exact h3
      · rcases List.mem_cons.mp hz with rfl | hz
        · by_cases c : kLt d z x = true
          · rw [if_pos c] at h3 ⊢; exact h3
          · rw [if_neg c] at h3 ⊢; exact kLt_neg (by simpa using c) h3
        · exact h2 z (List.mem_cons_of_mem _ hz)
theorem kLt_I {a b : Int} : kLt PyData.int a b = decide (a < b) := dataLt_int a b
/-- as rows of numbers are in order -/
def lexI : List Int → List Int → Bool
  | [], [] => false
  | [], _ :: _ => true
  | _ :: _, [] => false
  | x :: xs, y :: ys => decide (x < y) || (decide (x = y) && lexI xs ys)
theorem lex_int : ∀ xs ys : List Int, PyProof.Rows.lexLt PyProof.Rows.itemOrd (keyToksAll (xs.map PyData.int)) (keyToksAll (ys.map PyData.int)) = lexI xs ys
  | [], [] => by simp only [List.map_nil, lexI]; exact PyProof.Rows.lex_irrefl _
  | [], y :: ys => by
    simp only [List.map_nil, List.map_cons, keyToksAll, lexI]
    rw [PyProof.Rows.lex_diff (by simp)]; rfl
  | x :: xs, [] => by
    simp only [List.map_nil, List.map_cons, keyToksAll, lexI]
    rw [PyProof.Rows.lex_diff (by simp)]; rfl
  | x :: xs, y :: ys => by
    simp only [List.map_cons, keyToksAll, keyToks, lexI, List.cons_append, List.nil_append]
    rw [PyProof.Rows.lex_self]
    by_cases e : x = y
    · subst e
      rw [PyProof.Rows.lex_self, lex_int xs ys]
      simp
    · rw [PyProof.Rows.lex_diff (by simpa using e)]
      simp only [e, decide_false, Bool.false_and, Bool.or_false]
      rfl
theorem kLt_TI {a b : List Int} : kLt (fun xs : List Int => PyData.tuple (xs.map PyData.int)) a b = lexI a b := by
  unfold kLt
  rw [dataLt_tuple, lex_int]
end
end FL.NL

/-! PA: powers, quotients of intervals, loops (law-free; lines of MA .. MA4). -/
namespace FL.NL
open PySem
variable {α β σ : Type}
/-! MA: powers, quotients of intervals. -/
theorem forR_fold {body : α → σ → R σ} {g : σ → α → σ} (I : σ → Prop) : ∀ {xs : List α} {s : σ}, I s → (∀ x ∈ xs, ∀ s, I s → body x s = .ok (g s x) ∧ I (g s x)) → forR xs body s = .ok (xs.foldl g s) ∧ I (xs.foldl g s)
  | [], s, h, _ => ⟨rfl, h⟩
  | x :: xs, s, h, hb => by
    obtain ⟨e, h1⟩ := hb x (List.mem_cons_self ..) s h
    have := forR_fold (g := g) I (xs := xs) h1 fun x hx => hb x (List.mem_cons_of_mem _ hx)
    refine ⟨?_, this.2⟩
    show (body x s).bind _ = _
    rw [e, R.bind_ok, this.1]; rfl
theorem R.All_bind {Q : β → Prop} {r : R α} {k : α → R β} : R.All Q (r.bind k) ↔ R.All (fun a => R.All Q (k a)) r := by
  induction r with
  | bad => rw [R.bind_bad]; exact Iff.rfl
  | exc e => rw [R.bind_exc]; exact Iff.rfl
  | ok a => rw [R.bind_ok]; exact Iff.rfl
  | dr m f ih =>
    rw [R.bind_dr]
    exact ⟨fun h => ⟨h.1, h.2.1, fun v h0 h1 => (ih v).1 (h.2.2 v h0 h1)⟩, fun h => ⟨h.1, h.2.1, fun v h0 h1 => (ih v).2 (h.2.2 v h0 h1)⟩⟩
theorem sq_lt {b : Int} {s : Nat} (h : b.natAbs < 2 ^ s) : (b * b).natAbs < 2 ^ (2 * s) := by
  rw [Int.natAbs_mul, Nat.two_mul, Nat.pow_add]
  exact Nat.mul_lt_mul'' h h
theorem rg_len {lo : Int} {n : Nat} : (rg lo n).length = n := by simp [rg]
theorem rgR_0 {n : Int} (h0 : 0 ≤ n) (h : n < 4611686018427387904) : rgR 0 n = .ok (rg 0 n.toNat) := by
  unfold rgR b62
  rw [if_pos ⟨⟨by decide, by decide⟩, by omega, h⟩, Int.sub_zero]
theorem rg_succ {lo : Int} {n : Nat} : rg lo (n + 1) = lo :: rg (lo + 1) n := by
  unfold rg
  rw [List.range_succ_eq_map, List.map_cons, List.map_map]
  congr 1
  · simp
  · apply List.map_congr_left
    intro j _
    simp only [Function.comp, Nat.succ_eq_add_one]
    omega
theorem atR_nat {α : Type} {xs : List α} {i : Int} {n : Nat} {a : α} (h : xs[n]? = some a) (e : i = n) : atR xs i = .ok a := by
  subst e
  exact atR_pos (by omega) (by simpa using h)
theorem atR_app {α : Type} {pre : List α} {x : α} {xs : List α} {i : Int} (e : i = pre.length) : atR (pre ++ x :: xs) i = .ok x := atR_nat (n := pre.length) (by simp) e
/-- a quotient's numbers -/
def stp (p x : Int) (s : Int × Int) : Int × Int := if x > 0 then (s.1 * p ^ x.toNat, s.2) else (s.1, s.2 * p ^ (-x).toNat)
def nd : List Int → List Int → Int × Int → Int × Int
  | p :: L, x :: X, s => nd L X (stp p x s)
  | _, _, s => s
theorem pw_pos {p : Int} (h : 0 < p) (n : Nat) : 0 < p ^ n := Int.pow_pos h
structure LX (L X : List Int) : Prop where
  len : L.length = X.length
  few : L.length ≤ 8
  pr : ∀ p ∈ L, 0 < p ∧ p < 64
  ex : ∀ x ∈ X, -2500 ≤ x ∧ x ≤ 2500
theorem LX.tl {p x : Int} {L X : List Int} (h : LX (p :: L) (x :: X)) : LX L X := ⟨by simpa using h.len, by have := h.few; simp at this; omega, fun q hq => h.pr q (List.mem_cons_of_mem _ hq), fun q hq => h.ex q (List.mem_cons_of_mem _ hq)⟩
/-! MA2: intervals brought within the first prime. -/
/-- the numbers are those of the tail times the head's -/
theorem nd_mul : ∀ {L X : List Int} {s : Int × Int}, nd L X s = (s.1 * (nd L X (1, 1)).1, s.2 * (nd L X (1, 1)).2)
  | [], _, s => by simp [nd]
  | _ :: _, [], s => by simp [nd]
  | p :: L, x :: X, s => by
    show nd L X (stp p x s) = (s.1 * (nd L X (stp p x (1, 1))).1, s.2 * (nd L X (stp p x (1, 1))).2)
    rw [nd_mul (s := stp p x s), nd_mul (s := stp p x (1, 1))]
    unfold stp
    split <;> simp [Int.mul_assoc]
def up (x : Int) : Nat := x.toNat
theorem nd_cons {p x : Int} {L X : List Int} : nd (p :: L) (x :: X) (1, 1) = (p ^ x.toNat * (nd L X (1, 1)).1, p ^ (-x).toNat * (nd L X (1, 1)).2) := by
  show nd L X (stp p x (1, 1)) = _
  rw [nd_mul]
  unfold stp
  split
  · rename_i h
    have : (-x).toNat = 0 := by omega
    simp [this]
  · rename_i h
    have : x.toNat = 0 := by omega
    simp [this]
theorem pw_add {P : Int} (a b : Nat) : P ^ (a + b) = P ^ a * P ^ b := Int.pow_add ..
/-! the limits that are drawn -/
def lims : List (List Int) := [[2, 3, 5], [2, 3], [2, 3, 5, 7], [2, 3, 7], [3, 5, 7], [2, 5], [2, 3, 5, 7, 11], [2, 7, 11, 13], [2, 7]]
theorem R.All_nx {α : Type} {Q : α → Prop} {r : R α} : R.All Q r.noX ↔ R.All Q r := by
  induction r with
  | bad => exact Iff.rfl
  | exc e => exact Iff.rfl
  | ok a => exact Iff.rfl
  | dr m f ih => exact ⟨fun h => ⟨h.1, h.2.1, fun v h0 h1 => (ih v).1 (h.2.2 v h0 h1)⟩, fun h => ⟨h.1, h.2.1, fun v h0 h1 => (ih v).2 (h.2.2 v h0 h1)⟩⟩
theorem lims_pr : ∀ L ∈ lims, L.length ≤ 5 ∧ 2 ≤ L.length ∧ ∀ p ∈ L, 2 ≤ p ∧ p < 64 := by decide
theorem cmpR_ok {α β : Type} {e : α → R β} {g : α → β} {xs : List α} (hl : xs.length ≤ 16777216) (h : ∀ x ∈ xs, e x = .ok (g x)) : cmpR xs (fun _ => .ok true) e = .ok (xs.map g) := by
  have key : ∀ xs : List α, (∀ x ∈ xs, e x = .ok (g x)) → cmpGo (fun _ => .ok true) e xs = .ok (xs.map g) := fun xs => by
    induction xs with
    | nil => exact fun _ => rfl
    | cons x xs ih =>
      intro h
      show ((R.ok true).noX.bind _) = _
      rw [R.noX_ok, R.bind_ok, if_pos rfl, h x (List.mem_cons_self ..), R.noX_ok, R.bind_ok, ih fun x hx => h x (List.mem_cons_of_mem _ hx), R.bind_ok]; rfl
  unfold cmpR
  rw [if_pos hl]
  exact key xs h
/-! MA3: the exponents of a quotient. -/
theorem nd_pos : ∀ {L X : List Int}, (∀ p ∈ L, 2 ≤ p) → 0 < (nd L X (1, 1)).1 ∧ 0 < (nd L X (1, 1)).2
  | [], _, _ => by simp [nd]
  | _ :: _, [], _ => by simp [nd]
  | p :: L, x :: X, h => by
    rw [nd_cons]
    have ih := nd_pos (X := X) fun q hq => h q (List.mem_cons_of_mem _ hq)
    have hp := h p (List.mem_cons_self ..)
    exact ⟨Int.mul_pos (pw_pos (by omega) _) ih.1, Int.mul_pos (pw_pos (by omega) _) ih.2⟩
/-! MA4: differences, comparisons; loops of a law. -/
def subL : List Int → List Int → List Int
  | x :: X, y :: Y => (x - y) :: subL X Y
  | _, _ => []
theorem subL_len : ∀ {X Y : List Int}, X.length = Y.length → (subL X Y).length = X.length
  | [], _, _ => rfl
  | _ :: _, [], h => by simp at h
  | x :: X, y :: Y, h => by simp only [subL, List.length_cons]; rw [subL_len (by simpa using h)]
theorem subL_bd {A B : Int} : ∀ {X Y : List Int}, (∀ x ∈ X, -A ≤ x ∧ x ≤ A) → (∀ y ∈ Y, -B ≤ y ∧ y ≤ B) → ∀ z ∈ subL X Y, -(A + B) ≤ z ∧ z ≤ A + B
  | [], _, _, _, z, hz => by simp [subL] at hz
  | _ :: _, [], _, _, z, hz => by simp [subL] at hz
  | x :: X, y :: Y, h1, h2, z, hz => by
    simp only [subL, List.mem_cons] at hz
    have a := h1 x (List.mem_cons_self ..)
    have b := h2 y (List.mem_cons_self ..)
    rcases hz with rfl | hz
    · omega
    · exact subL_bd (fun q hq => h1 q (List.mem_cons_of_mem _ hq)) (fun q hq => h2 q (List.mem_cons_of_mem _ hq)) z hz
/-- the sign of an interval -/
def sg (L X : List Int) : Int := b01 (decide ((nd L X (1, 1)).1 > (nd L X (1, 1)).2)) - b01 (decide ((nd L X (1, 1)).1 < (nd L X (1, 1)).2))
end FL.NL

/-! PS: intervals by size. -/
namespace FL.NL
def nu (L X : List Int) : Int := (nd L X (1, 1)).1
def de (L X : List Int) : Int := (nd L X (1, 1)).2
theorem nu_cons {p x : Int} {L X : List Int} : nu (p :: L) (x :: X) = p ^ x.toNat * nu L X := by unfold nu; rw [nd_cons]
theorem de_cons {p x : Int} {L X : List Int} : de (p :: L) (x :: X) = p ^ (-x).toNat * de L X := by unfold de; rw [nd_cons]
theorem nu_pos {L X : List Int} (h : ∀ p ∈ L, 2 ≤ p) : 0 < nu L X := (nd_pos (X := X) h).1
theorem de_pos {L X : List Int} (h : ∀ p ∈ L, 2 ≤ p) : 0 < de L X := (nd_pos (X := X) h).2
theorem nu_nil {X : List Int} : nu [] X = 1 := by cases X <;> rfl
theorem de_nil {X : List Int} : de [] X = 1 := by cases X <;> rfl
/-- the numbers of a difference -/
theorem nd_sub : ∀ {L X Y : List Int}, X.length = L.length → Y.length = L.length → nu L (subL X Y) * (de L X * nu L Y) = de L (subL X Y) * (nu L X * de L Y)
  | [], X, Y, hx, hy => by simp [nu_nil, de_nil]
  | p :: L, [], Y, hx, hy => by simp at hx
  | p :: L, x :: X, [], hx, hy => by simp at hy
  | p :: L, x :: X, y :: Y, hx, hy => by
    have ih := nd_sub (L := L) (X := X) (Y := Y) (by simpa using hx) (by simpa using hy)
    simp only [subL, nu_cons, de_cons]
    have e : (x - y).toNat + (-x).toNat + y.toNat = (-(x - y)).toNat + x.toNat + (-y).toNat := by omega
    have e2 : p ^ (x - y).toNat * p ^ (-x).toNat * p ^ y.toNat = p ^ (-(x - y)).toNat * p ^ x.toNat * p ^ (-y).toNat := by
      rw [← pw_add, ← pw_add, ← pw_add, ← pw_add, e]
    generalize p ^ (x - y).toNat = a at *
    generalize p ^ (-x).toNat = b at *
    generalize p ^ y.toNat = c at *
    generalize p ^ (-(x - y)).toNat = a' at *
    generalize p ^ x.toNat = b' at *
    generalize p ^ (-y).toNat = c' at *
    generalize nu L (subL X Y) = n1 at *
    generalize de L (subL X Y) = d1 at *
    calc a * n1 * (b * de L X * (c * nu L Y)) = (a * b * c) * (n1 * (de L X * nu L Y)) := by simp only [Int.mul_assoc, Int.mul_left_comm, Int.mul_comm]
      _ = (a' * b' * c') * (d1 * (nu L X * de L Y)) := by rw [e2, ih]
      _ = _ := by simp only [Int.mul_assoc, Int.mul_left_comm, Int.mul_comm]
/-- narrower -/
def lt' (L X Y : List Int) : Bool := decide (nu L X * de L Y < nu L Y * de L X)
theorem sub_lt {L X Y : List Int} (hp : ∀ p ∈ L, 2 ≤ p) (hx : X.length = L.length) (hy : Y.length = L.length) : (nu L (subL X Y) < de L (subL X Y)) ↔ nu L X * de L Y < nu L Y * de L X := by
  have e := nd_sub hx hy
  have a := Int.mul_pos (de_pos (X := X) hp) (nu_pos (X := Y) hp)
  have b := Int.mul_pos (nu_pos (X := X) hp) (de_pos (X := Y) hp)
  have c := nu_pos (X := subL X Y) hp
  have d := de_pos (X := subL X Y) hp
  rw [show nu L Y * de L X = de L X * nu L Y from Int.mul_comm ..]
  generalize de L X * nu L Y = A at *
  generalize nu L X * de L Y = B at *
  generalize nu L (subL X Y) = n at *
  generalize de L (subL X Y) = k at *
  constructor
  · intro h
    by_cases hc : B < A
    · exact hc
    · exfalso
      have h1 : n * A ≤ n * B := Int.mul_le_mul_of_nonneg_left (by omega) (by omega)
      have h2 : n * B < k * B := Int.mul_lt_mul_of_pos_right h b
      omega
  · intro h
    by_cases hc : n < k
    · exact hc
    · exfalso
      have h1 : k * B < k * A := Int.mul_lt_mul_of_pos_left h (by omega)
      have h2 : k * A ≤ n * A := Int.mul_le_mul_of_nonneg_right (by omega) (by omega)
      omega
theorem sub_gt {L X Y : List Int} (hp : ∀ p ∈ L, 2 ≤ p) (hx : X.length = L.length) (hy : Y.length = L.length) : (de L (subL X Y) < nu L (subL X Y)) ↔ nu L Y * de L X < nu L X * de L Y := by
  have e := nd_sub hx hy
  have a := Int.mul_pos (de_pos (X := X) hp) (nu_pos (X := Y) hp)
  have b := Int.mul_pos (nu_pos (X := X) hp) (de_pos (X := Y) hp)
  have c := nu_pos (X := subL X Y) hp
  have d := de_pos (X := subL X Y) hp
  rw [show nu L Y * de L X = de L X * nu L Y from Int.mul_comm ..]
  generalize de L X * nu L Y = A at *
  generalize nu L X * de L Y = B at *
  generalize nu L (subL X Y) = n at *
  generalize de L (subL X Y) = k at *
  constructor
  · intro h
    by_cases hc : A < B
    · exact hc
    · exfalso
      have h1 : k * B ≤ k * A := Int.mul_le_mul_of_nonneg_left (by omega) (by omega)
      have h2 : k * A < n * A := Int.mul_lt_mul_of_pos_right h a
      omega
  · intro h
    by_cases hc : k < n
    · exact hc
    · exfalso
      have h1 : k * A < k * B := Int.mul_lt_mul_of_pos_left h (by omega)
      have h2 : n * A ≤ k * A := Int.mul_le_mul_of_nonneg_right (by omega) (by omega)
      omega
/-! the order -/
section
variable {L X Y Z : List Int}
theorem lt_irr : lt' L X X = false := by simp [lt']
end
/-! sorting by insertion -/
def ins (L x : List Int) : List (List Int) → List (List Int)
  | [] => [x]
  | y :: ys => if lt' L x y = true then x :: y :: ys else y :: ins L x ys
/-- rising -/
def Ris (L : List Int) (xs : List (List Int)) : Prop := xs.Pairwise fun a b => lt' L b a = false
theorem ins_perm {L x : List Int} : ∀ {ys : List (List Int)}, (ins L x ys).Perm (x :: ys)
  | [] => .refl _
  | y :: ys => by
    unfold ins
    split
    · exact .refl _
    · exact (List.Perm.cons y ins_perm).trans (.swap x y ys)
/-- where x goes in a rising list: behind `low` items that are not wider -/
theorem ins_at {L x : List Int} : ∀ {a b : List (List Int)}, (∀ y ∈ a, lt' L x y = false) → (∀ y ∈ b.head?, lt' L x y = true) → ins L x (a ++ b) = a ++ x :: b
  | [], [], _, _ => rfl
  | [], y :: b, _, h => by
    simp only [List.nil_append, ins]
    rw [if_pos (h y (by simp))]
  | y :: a, b, h, h2 => by
    have : lt' L x y = false := h y (List.mem_cons_self ..)
    simp only [List.cons_append, ins, this, Bool.false_eq_true, if_false]
    rw [ins_at (fun z hz => h z (List.mem_cons_of_mem _ hz)) h2]
end FL.NL

/-! PL: loops: the first that fits; common divisors; the least that fits. -/
namespace FL.NL
open PySem
section
variable {α β σ : Type}
theorem mem_rg {lo x : Int} {n : Nat} : x ∈ rg lo n ↔ lo ≤ x ∧ x < lo + n := by
  unfold rg
  simp only [List.mem_map, List.mem_range]
  constructor
  · rintro ⟨k, hk, rfl⟩; omega
  · rintro ⟨h0, h1⟩; exact ⟨(x - lo).toNat, by omega, by omega⟩
theorem cmp_fil {α β : Type} {p : α → R Bool} {q : α → Bool} {e : α → R β} {g : α → β} {xs : List α} (hl : xs.length ≤ 16777216) (hp : ∀ x ∈ xs, p x = .ok (q x)) (he : ∀ x ∈ xs, e x = .ok (g x)) : cmpR xs p e = .ok ((xs.filter q).map g) := by
  have key : ∀ xs : List α, (∀ x ∈ xs, p x = .ok (q x)) → (∀ x ∈ xs, e x = .ok (g x)) → cmpGo p e xs = .ok ((xs.filter q).map g) := fun xs => by
    induction xs with
    | nil => exact fun _ _ => rfl
    | cons x xs ih =>
      intro hp he
      have i := ih (fun y hy => hp y (List.mem_cons_of_mem _ hy)) (fun y hy => he y (List.mem_cons_of_mem _ hy))
      show ((p x).noX.bind _) = _
      rw [hp x (List.mem_cons_self ..), R.noX_ok, R.bind_ok]
      cases hq : q x with
      | false => simp only [Bool.false_eq_true, if_false, i, List.filter_cons, hq]
      | true => simp only [if_true, he x (List.mem_cons_self ..), R.noX_ok, R.bind_ok, i, List.filter_cons, hq, List.map_cons]
  unfold cmpR
  rw [if_pos hl]
  exact key xs hp he
end
end FL.NL

/-! PG3: three gaps. -/
namespace FL.NL
end FL.NL

/-! PT: tools: comprehensions, counts, sets of notes. -/
namespace FL.NL
open PySem PySem.W
section
variable {α α2 β σ : Type}
theorem cmpP_ok {xs : List α} {p : α → Bool} {e : α → β} (h : xs.length ≤ 16777216) : cmpP xs p e = .ok ((xs.filter p).map e) := by unfold cmpP; rw [if_pos h]
theorem cmpP_fil {xs : List α} {p : α → Bool} (h : xs.length ≤ 16777216) : cmpP xs p (fun x => x) = .ok (xs.filter p) := by rw [cmpP_ok h]; simp
theorem cmpR_fil {xs : List α} {p : α → R Bool} {q : α → Bool} (h : xs.length ≤ 16777216) (hp : ∀ x ∈ xs, p x = .ok (q x)) : cmpR xs p (fun x => .ok x) = .ok (xs.filter q) := by
  rw [cmp_fil (g := fun x => x) h hp fun _ _ => rfl]; simp
theorem cmpA_ok {e : α → R β} {g : α → β} : ∀ {xs : List α} {acc : List β}, acc.length + xs.length ≤ 16777216 → (∀ x ∈ xs, e x = .ok (g x)) → cmpA (fun _ => .ok true) e xs acc = .ok (acc ++ xs.map g)
  | [], acc, _, _ => by simp [cmpA]
  | x :: xs, acc, hl, h => by
    rw [List.length_cons] at hl
    show ((R.ok true).noX.bind _) = _
    rw [R.noX_ok, R.bind_ok, if_pos rfl, h x (List.mem_cons_self ..), R.noX_ok, R.bind_ok, if_pos (by omega), cmpA_ok (by simp; omega) fun y hy => h y (List.mem_cons_of_mem _ hy)]
    simp
theorem cmp2A_ok {sr : α → R (List α2)} {src : α → List α2} {e : α → α2 → R β} {g : α → α2 → β} : ∀ {xs : List α} {acc : List β}, acc.length + (xs.flatMap fun x => (src x).map (g x)).length ≤ 16777216 → (∀ x ∈ xs, sr x = .ok (src x)) → (∀ x ∈ xs, ∀ y ∈ src x, e x y = .ok (g x y)) →
    cmp2A (fun _ => .ok true) sr (fun _ _ => .ok true) e xs acc = .ok (acc ++ xs.flatMap fun x => (src x).map (g x))
  | [], acc, _, _, _ => by simp [cmp2A]
  | x :: xs, acc, hl, hs, h => by
    rw [List.flatMap_cons, List.length_append, List.length_map] at hl
    show ((R.ok true).noX.bind _) = _
    rw [R.noX_ok, R.bind_ok, if_pos rfl, hs x (List.mem_cons_self ..), R.noX_ok, R.bind_ok, cmpA_ok (g := g x) (by omega) (h x (List.mem_cons_self ..)), R.bind_ok,
      cmp2A_ok (by simp only [List.length_append, List.length_map]; omega) (fun y hy => hs y (List.mem_cons_of_mem _ hy)) (fun y hy => h y (List.mem_cons_of_mem _ hy)), List.flatMap_cons, List.append_assoc]
theorem augR_ok {xs : List Int} {j : Int} {w : Int → Int} (h0 : 0 ≤ j) (h1 : j < xs.length) : augR xs j w = .ok (xs.set j.toNat (w (xs.getD j.toNat 0))) := by
  unfold augR idx
  rw [if_pos h0, if_pos (by omega)]
theorem rep0_ok {n : Int} {a : Int} (h0 : 0 ≤ n) (h1 : n ≤ 1000000) : repL' [a] n = .ok (List.replicate n.toNat a) := by
  unfold repL'
  rw [if_pos ⟨by omega, by simp; omega, by omega⟩]
  congr 1
  generalize n.toNat = k
  induction k with
  | zero => rfl
  | succ k ih => rw [List.replicate_succ, List.flatten_cons, ih, List.replicate_succ]; rfl
theorem cut_from {xs : List α} {k : Int} (h0 : 0 ≤ k) (h1 : k ≤ xs.length) : cutL xs (some k) none = xs.drop k.toNat := by
  have := sy_cutFrom (xs := xs) (k := k.toNat) (by omega)
  rwa [Int.toNat_of_nonneg h0] at this
theorem rgR_ok {a b : Int} (h0 : -4611686018427387904 ≤ a) (h1 : a < 4611686018427387904) (h2 : -4611686018427387904 ≤ b) (h3 : b < 4611686018427387904) : rgR a b = .ok (rg a (b - a).toNat) := by
  unfold rgR b62
  rw [if_pos ⟨⟨h0, h1⟩, h2, h3⟩]
theorem rg_pair {a : Int} {n : Nat} : (rg a n).Pairwise (· < ·) := by
  unfold rg
  rw [List.pairwise_map]
  exact List.pairwise_lt_range.imp fun h => by omega
/-! counts of pairs -/
def bmp (s : List Int) (j : Int) : List Int := s.set j.toNat (s.getD j.toNat 0 + 1)
theorem bmp_len {s : List Int} {j : Int} : (bmp s j).length = s.length := by unfold bmp; simp
theorem bmp_comm {s : List Int} {i j : Int} : bmp (bmp s i) j = bmp (bmp s j) i := by
  unfold bmp
  apply List.ext_getElem?
  intro k
  simp only [List.getElem?_set, List.getD_eq_getElem?_getD, List.length_set]
  by_cases h : i.toNat = j.toNat
  · rw [h]
  · by_cases h1 : i.toNat = k <;> by_cases h2 : j.toNat = k <;> simp [h1, h2] <;> omega
def prs : List Int → List (Int × Int)
  | [] => []
  | x :: r => r.map (fun y => (x, y)) ++ prs r
def dst (m a b : Int) : Int := min ((b - a).natAbs : Int) (m - (b - a).natAbs)
theorem dst_sym {m a b : Int} : dst m a b = dst m b a := by unfold dst; rw [show (b - a).natAbs = (a - b).natAbs by omega]
def dsts (m : Int) (xs : List Int) : List Int := (prs xs).map fun p => dst m p.1 p.2
theorem dsts_cons {m x : Int} {xs : List Int} : dsts m (x :: xs) = xs.map (dst m x) ++ dsts m xs := by
  unfold dsts
  show List.map _ (xs.map (fun y => (x, y)) ++ prs xs) = _
  simp [Function.comp_def]
theorem dsts_perm {m : Int} {xs ys : List Int} (h : xs.Perm ys) : (dsts m xs).Perm (dsts m ys) := by
  induction h with
  | nil => exact .refl _
  | cons x h ih => rw [dsts_cons, dsts_cons]; exact (h.map _).append ih
  | swap x y l =>
    simp only [dsts_cons, List.map_cons, dst_sym (a := y) (b := x), List.cons_append]
    refine List.Perm.cons _ ?_
    rw [← List.append_assoc, ← List.append_assoc]
    exact List.perm_append_comm.append_right _
  | trans _ _ h1 h2 => exact h1.trans h2
theorem prs_map {g : Int → Int} : ∀ xs : List Int, prs (xs.map g) = (prs xs).map fun p => (g p.1, g p.2)
  | [] => rfl
  | x :: xs => by simp [prs, prs_map xs, Function.comp_def]
theorem prs_mem : ∀ {xs : List Int} {p : Int × Int}, p ∈ prs xs → p.1 ∈ xs ∧ p.2 ∈ xs
  | x :: xs, p, h => by
    unfold prs at h
    rcases List.mem_append.mp h with h | h
    · obtain ⟨y, hy, rfl⟩ := List.mem_map.mp h
      exact ⟨List.mem_cons_self .., List.mem_cons_of_mem _ hy⟩
    · have := prs_mem h
      exact ⟨List.mem_cons_of_mem _ this.1, List.mem_cons_of_mem _ this.2⟩
theorem dsts_map {m : Int} {g : Int → Int} {xs : List Int} (h : ∀ a ∈ xs, ∀ b ∈ xs, dst m (g a) (g b) = dst m a b) : dsts m (xs.map g) = dsts m xs := by
  unfold dsts
  rw [prs_map, List.map_map]
  exact List.map_congr_left fun p hp => h _ (prs_mem hp).1 _ (prs_mem hp).2
def cnts (n : Nat) (ds : List Int) : List Int := ds.foldl bmp (List.replicate n 0)
theorem cnts_perm {n : Nat} {xs ys : List Int} (h : xs.Perm ys) : cnts n xs = cnts n ys := h.foldl_eq' (fun x _ y _ z => bmp_comm) _
theorem foldl_len : ∀ {ds s : List Int}, (ds.foldl bmp s).length = s.length
  | [], s => rfl
  | d :: ds, s => by rw [List.foldl_cons, foldl_len, bmp_len]
/-- rising notes -/
structure NSet (m : Int) (xs : List Int) : Prop where
  up : xs.Pairwise (· < ·)
  bd : ∀ x ∈ xs, 0 ≤ x ∧ x < m
theorem NSet.sub {m : Int} {xs : List Int} (h : xs.Sublist (rg 0 m.toNat)) : NSet m xs := ⟨rg_pair.sublist h, fun x hx => by have := mem_rg.mp (h.subset hx); omega⟩
theorem NSet.len {m : Int} {xs : List Int} (h : NSet m xs) : xs.length ≤ m.toNat := by
  have : xs.Sublist (rg 0 m.toNat) := by
    have key : ∀ (n : Nat) (lo : Int) (xs : List Int), xs.Pairwise (· < ·) → (∀ x ∈ xs, lo ≤ x ∧ x < lo + n) → xs.Sublist (rg lo n) := fun n => by
      induction n with
      | zero =>
        intro lo xs _ hb
        cases xs with
        | nil => exact List.nil_sublist _
        | cons x xs => have := hb x (List.mem_cons_self ..); omega
      | succ n ih =>
        intro lo xs hp hb
        rw [rg_succ]
        cases xs with
        | nil => exact List.nil_sublist _
        | cons x xs =>
          obtain ⟨h1, h2⟩ := List.pairwise_cons.mp hp
          have hx := hb x (List.mem_cons_self ..)
          by_cases e : x = lo
          · subst e
            exact List.Sublist.cons₂ _ (ih _ _ h2 fun y hy => by have := h1 y hy; have := hb y (List.mem_cons_of_mem _ hy); omega)
          · refine List.Sublist.cons _ (ih _ _ hp fun y hy => ?_)
            have := hb y hy
            rcases List.mem_cons.mp hy with rfl | hy
            · omega
            · have := h1 y hy; omega
    exact key _ _ _ h.up fun x hx => by have := h.bd x hx; omega
  have := this.length_le
  rwa [rg_len] at this
theorem NSet.asc {m : Int} {xs : List Int} (h : NSet m xs) : Asc PyData.int xs := h.up.imp fun h => by rw [kLt_I]; exact decide_eq_false (by omega)
theorem emod_a {m z : Int} (h0 : 0 ≤ z) (h1 : z < m) : z % m = z := Int.emod_eq_of_lt h0 h1
theorem emod_b {m z : Int} (h0 : m ≤ z) (h1 : z < 2 * m) : z % m = z - m := by
  rw [← Int.sub_emod_right]; exact Int.emod_eq_of_lt (by omega) (by omega)
theorem emod_c {m z : Int} (h0 : -m ≤ z) (h1 : z < 0) : z % m = z + m := by
  rw [← Int.add_emod_right]; exact Int.emod_eq_of_lt (by omega) (by omega)
theorem emod_3 {m z : Int} (h0 : -m ≤ z) (h1 : z < 2 * m) : z % m = if z < 0 then z + m else if z < m then z else z - m := by
  split
  · exact emod_c h0 (by omega)
  · split
    · exact emod_a (by omega) (by omega)
    · exact emod_b (by omega) (by omega)
/-- an image of a set of notes -/
def turn (m s k x : Int) : Int := (s * x + k) % m
def img (m s k : Int) (xs : List Int) : List Int := kSort PyData.int (xs.map (turn m s k))
theorem turn_turn {m s k s' k' x : Int} : turn m s' k' (turn m s k x) = turn m (s' * s) ((s' * k + k') % m) x := by
  unfold turn
  have e : s' * (s * x + k) + k' = s' * s * x + (s' * k + k') := by rw [Int.mul_add, ← Int.mul_assoc, Int.add_assoc]
  rw [Int.add_emod_emod, ← e, Int.add_emod (s' * ((s * x + k) % m)), Int.mul_emod s' ((s * x + k) % m), Int.emod_emod, ← Int.mul_emod, ← Int.add_emod]
theorem turn_3 {m s k x : Int} (hs : s = 1 ∨ s = -1) (hk : 0 ≤ k ∧ k < m) (hx : 0 ≤ x ∧ x < m) : turn m s k x = if s * x + k < 0 then s * x + k + m else if s * x + k < m then s * x + k else s * x + k - m := by
  unfold turn
  rcases hs with rfl | rfl
  · exact emod_3 (by omega) (by omega)
  · exact emod_3 (by omega) (by omega)
theorem turn_dst {m s k a b : Int} (hs : s = 1 ∨ s = -1) (hk : 0 ≤ k ∧ k < m) (ha : 0 ≤ a ∧ a < m) (hb : 0 ≤ b ∧ b < m) : dst m (turn m s k a) (turn m s k b) = dst m a b := by
  rw [turn_3 hs hk ha, turn_3 hs hk hb]
  unfold dst
  rcases hs with rfl | rfl <;> (split <;> (try split) <;> (try split) <;> (try split) <;> omega)
theorem img_dsts {m s k : Int} {xs : List Int} (hs : s = 1 ∨ s = -1) (hk : 0 ≤ k ∧ k < m) (h : NSet m xs) : (dsts m (img m s k xs)).Perm (dsts m xs) := by
  have := dsts_map (m := m) (g := turn m s k) (xs := xs) fun a ha b hb => turn_dst hs hk (h.bd a ha) (h.bd b hb)
  rw [← this]
  exact dsts_perm kSort_perm
theorem img_img {m s k s' k' : Int} {xs : List Int} : img m s' k' (img m s k xs) = img m (s' * s) ((s' * k + k') % m) xs := by
  unfold img
  have : ((kSort PyData.int (xs.map (turn m s k))).map (turn m s' k')).Perm (xs.map (turn m (s' * s) ((s' * k + k') % m))) := by
    refine (kSort_perm.map _).trans ?_
    rw [List.map_map]
    exact .of_eq (List.map_congr_left fun x _ => turn_turn)
  exact kSort_one inj_I this
/-- all images: the moved ones, then the moved ones of it upside down -/
def imgs (m : Int) (xs : List Int) : List (List Int) := (rg 0 m.toNat).map (fun k => img m 1 k xs) ++ (rg 0 m.toNat).map (fun k => img m (-1) k xs)
theorem mem_imgs {m : Int} (hm : 0 < m) {xs w : List Int} : w ∈ imgs m xs ↔ ∃ s k, (s = 1 ∨ s = -1) ∧ (0 ≤ k ∧ k < m) ∧ w = img m s k xs := by
  unfold imgs
  rw [List.mem_append, List.mem_map, List.mem_map]
  constructor
  · rintro (⟨k, hk, rfl⟩ | ⟨k, hk, rfl⟩)
    · have := mem_rg.mp hk; exact ⟨1, k, .inl rfl, by omega, rfl⟩
    · have := mem_rg.mp hk; exact ⟨-1, k, .inr rfl, by omega, rfl⟩
  · rintro ⟨s, k, rfl | rfl, hk, rfl⟩
    · exact .inl ⟨k, mem_rg.mpr (by omega), rfl⟩
    · exact .inr ⟨k, mem_rg.mpr (by omega), rfl⟩
theorem imgs_sub {m : Int} (hm : 0 < m) {xs w : List Int} (h : w ∈ imgs m xs) : ∀ u ∈ imgs m w, u ∈ imgs m xs := by
  obtain ⟨s, k, hs, hk, rfl⟩ := (mem_imgs hm).mp h
  intro u hu
  obtain ⟨s', k', hs', hk', rfl⟩ := (mem_imgs hm).mp hu
  rw [img_img]
  exact (mem_imgs hm).mpr ⟨_, _, by rcases hs with rfl | rfl <;> rcases hs' with rfl | rfl <;> simp, ⟨Int.emod_nonneg _ (by omega), Int.emod_lt_of_pos _ hm⟩, rfl⟩
theorem img_id {m : Int} {xs : List Int} (h : NSet m xs) : img m 1 0 xs = xs := by
  unfold img
  have : xs.map (turn m 1 0) = xs := by
    conv => rhs; rw [← List.map_id xs]
    exact List.map_congr_left fun x hx => by
      unfold turn; have := h.bd x hx
      rw [emod_a (by omega) (by omega)]; simp
  rw [this, kSort_self inj_I h.asc]
theorem imgs_back {m : Int} (hm : 0 < m) {xs w : List Int} (hx : NSet m xs) (h : w ∈ imgs m xs) : xs ∈ imgs m w := by
  obtain ⟨s, k, hs, hk, rfl⟩ := (mem_imgs hm).mp h
  refine (mem_imgs hm).mpr ⟨s, (-(s * k)) % m, hs, ⟨Int.emod_nonneg _ (by omega), Int.emod_lt_of_pos _ hm⟩, ?_⟩
  rw [img_img]
  have e1 : s * s = 1 := by rcases hs with rfl | rfl <;> rfl
  have e2 : (s * k + (-(s * k)) % m) % m = 0 := by rw [Int.add_emod_emod, Int.add_right_neg, Int.zero_emod]
  rw [e1, e2, img_id hx]
theorem imgs_dsts {m : Int} (hm : 0 < m) {xs w : List Int} (hx : NSet m xs) (h : w ∈ imgs m xs) : (dsts m w).Perm (dsts m xs) := by
  obtain ⟨s, k, hs, hk, rfl⟩ := (mem_imgs hm).mp h
  exact img_dsts hs hk hx
theorem imgs_len {m : Int} {xs : List Int} : (imgs m xs).length = 2 * m.toNat := by unfold imgs; simp [rg_len]; omega
abbrev dTI : List Int → PyData := fun xs => PyData.tuple (xs.map PyData.int)
/-- the least image -/
def least (m : Int) (xs : List Int) : List Int := match imgs m xs with
  | [] => []
  | y :: ys => kMin dTI y ys
theorem least_min {m : Int} (hm : 0 < m) {xs : List Int} : mmR minD (asTf asI) (eL (eT eI) (imgs m xs)) = .ok (least m xs) := by
  unfold least
  have := imgs_len (m := m) (xs := xs)
  cases h : imgs m xs with
  | nil => rw [h] at this; simp at this; omega
  | cons y ys => exact min_ok key_TI (by decide) asTf_I
theorem least_spec {m : Int} (hm : 0 < m) {xs : List Int} : least m xs ∈ imgs m xs ∧ ∀ y ∈ imgs m xs, kLt dTI y (least m xs) = false := by
  unfold least
  have := imgs_len (m := m) (xs := xs)
  cases h : imgs m xs with
  | nil => rw [h] at this; simp at this; omega
  | cons y ys => exact kMin_spec ys y
theorem least_one {m : Int} (hm : 0 < m) {xs w : List Int} (hx : NSet m xs) (h : w ∈ imgs m xs) : least m w = least m xs := by
  obtain ⟨h1, h2⟩ := least_spec (m := m) hm (xs := w)
  obtain ⟨h3, h4⟩ := least_spec (m := m) hm (xs := xs)
  exact inj_TI _ _ (kLt_tot (h4 _ (imgs_sub hm h _ h1)) (h2 _ (imgs_sub hm (imgs_back hm hx h) _ h3))).symm ▸ rfl
end
end FL.NL

/-! PW: rows of intervals: sums, steps, opposites. -/
namespace FL.NL
open PySem
theorem sub_zero : ∀ {X : List Int}, subL X (List.replicate X.length 0) = X
  | [] => rfl
  | x :: X => by rw [List.length_cons, List.replicate_succ]; simp only [subL]; rw [sub_zero]; simp
end FL.NL

/-! PQ: loops that grow; numbers stripped of primes; within, bounded. -/
namespace FL.NL
open PySem PySem.W
section
variable {α β σ : Type}
end
/-! ### stripped of a prime -/
/-! ### within, bounded -/
end FL.NL

/-! PGR: groups of a list by a key, in the order of their first ones; products of rows. -/
namespace FL.NL
open PySem PySem.W
section
variable {α κ : Type} [DecidableEq κ] {st : α → κ}
def gr (st : α → κ) (xs : List α) : Dic κ (List α) := xs.foldl (fun d x => gPut (st x) x d) []
/-- so many at most -/
def Fits (n : Nat) (d : Dic κ (List α)) : Prop := d.length ≤ n ∧ ∀ p ∈ d, p.2.length ≤ n
theorem Fits.put {n : Nat} {k : κ} {x : α} : ∀ {d : Dic κ (List α)}, Fits n d → Fits (n + 1) (gPut k x d)
  | [], _ => ⟨by simp [gPut], fun p hp => by simp [gPut] at hp; subst hp; simp⟩
  | p :: d, h => by
    unfold gPut
    have hd : Fits n d := ⟨by have := h.1; simp at this; omega, fun q hq => h.2 q (List.mem_cons_of_mem _ hq)⟩
    have hp := h.2 p (List.mem_cons_self ..)
    split
    · refine ⟨by have := h.1; simp at this ⊢; omega, fun q hq => ?_⟩
      rcases List.mem_cons.mp hq with rfl | hq
      · simp; omega
      · have := hd.2 q hq; omega
    · have h0 := h.1
      simp only [List.length_cons] at h0
      have go : ∀ (d : Dic κ (List α)), (gPut k x d).length ≤ d.length + 1 := fun d => by
        induction d with
        | nil => simp [gPut]
        | cons p d ih => unfold gPut; split <;> simp; omega
      refine ⟨by have := go d; simp; omega, fun q hq => ?_⟩
      rcases List.mem_cons.mp hq with rfl | hq
      · omega
      · exact (Fits.put hd).2 q hq
theorem Fits.ok {n : Nat} {d : Dic κ (List α)} (h : Fits n d) (hn : n < 16777216) : gOk d = true := by
  unfold gOk
  simp only [Bool.and_eq_true, decide_eq_true_eq, List.all_eq_true]
  exact ⟨by have := h.1; omega, fun p hp => by have := h.2 p hp; omega⟩
theorem grp_fold {kr : α → R κ} : ∀ {xs : List α} {n : Nat} {d : Dic κ (List α)}, (∀ x ∈ xs, kr x = .ok (st x)) → Fits n d → n + xs.length < 16777216 → grpR kr xs d = .ok (xs.foldl (fun d x => gPut (st x) x d) d)
  | [], _, _, _, _, _ => rfl
  | x :: xs, n, d, hk, hf, hn => by
    simp only [List.length_cons] at hn
    unfold grpR
    rw [hk x (List.mem_cons_self ..), R.noX_ok, R.bind_ok, if_pos (hf.ok (by omega)), grp_fold (n := n + 1) (fun y hy => hk y (List.mem_cons_of_mem _ hy)) hf.put (by omega)]
    rfl
theorem grp_ok {kr : α → R κ} {xs : List α} (hk : ∀ x ∈ xs, kr x = .ok (st x)) (hn : xs.length < 16777216) : grpR kr xs [] = .ok (gr st xs) := grp_fold (n := 0) hk ⟨by simp, fun p hp => nomatch hp⟩ (by omega)
variable [DecidableEq α]
/-- those with the same key -/
def same (st : α → κ) (xs : List α) (y : α) : List α := xs.filter fun z => decide (st z = st y)
/-- whether y is the first one of its key -/
def fstB (st : α → κ) (xs : List α) (y : α) : Bool := decide ((same st xs y).head? = some y)
structure GInv (st : α → κ) (pre : List α) (d : Dic κ (List α)) (acc : List α) : Prop where
  di : d = acc.map fun y => (st y, same st pre y)
  ac : acc = pre.filter fun y => fstB st pre y
  al : ∀ y ∈ pre, ∃ z ∈ acc, st z = st y
  pw : acc.Pairwise fun a b => st a ≠ st b
theorem same_snoc {pre : List α} {x y : α} : same st (pre ++ [x]) y = same st pre y ++ (if st x = st y then [x] else []) := by
  unfold same
  rw [List.filter_append]
  congr 1
  by_cases h : st x = st y <;> simp [h]
theorem head_app {α : Type} {xs ys : List α} (h : xs ≠ []) : (xs ++ ys).head? = xs.head? := by
  cases xs with
  | nil => exact absurd rfl h
  | cons x xs => rfl
theorem same_self {pre : List α} {y : α} (h : y ∈ pre) : same st pre y ≠ [] := fun e => by
  have : y ∈ same st pre y := List.mem_filter.mpr ⟨h, by simp⟩
  rw [e] at this; cases this
theorem put_new {pre : List α} {x : α} : ∀ (as : List α), as.Pairwise (fun a b => st a ≠ st b) → gPut (st x) x (as.map fun y => (st y, same st pre y)) = (as.map fun y => (st y, same st (pre ++ [x]) y)) ++ (if ∃ y ∈ as, st y = st x then [] else [(st x, [x])])
  | [], _ => by simp [gPut]
  | a :: as, hp => by
    rw [List.pairwise_cons] at hp
    rw [List.map_cons]
    unfold gPut
    by_cases h : st a = st x
    · rw [if_pos h]
      have e1 : same st (pre ++ [x]) a = same st pre a ++ [x] := by rw [same_snoc, if_pos h.symm]
      have e2 : ∀ b ∈ as, same st (pre ++ [x]) b = same st pre b := fun b hb => by
        rw [same_snoc, if_neg (fun e => hp.1 b hb (h.trans e)), List.append_nil]
      rw [if_pos ⟨a, List.mem_cons_self .., h⟩, List.append_nil, List.map_cons, e1]
      congr 1
      exact List.map_congr_left fun b hb => by rw [e2 b hb]
    · rw [if_neg h, put_new as hp.2, List.map_cons, List.cons_append]
      have e1 : same st (pre ++ [x]) a = same st pre a := by rw [same_snoc, if_neg (fun e => h e.symm), List.append_nil]
      rw [e1]
      congr 2
      by_cases h2 : ∃ y ∈ as, st y = st x
      · obtain ⟨y, hy, e⟩ := h2
        rw [if_pos ⟨y, hy, e⟩, if_pos ⟨y, List.mem_cons_of_mem _ hy, e⟩]
      · rw [if_neg h2, if_neg]
        rintro ⟨y, hy, e⟩
        rcases List.mem_cons.mp hy with rfl | hy
        · exact h e
        · exact h2 ⟨y, hy, e⟩
theorem GInv.step {pre : List α} {d : Dic κ (List α)} {acc : List α} {x : α} (G : GInv st pre d acc) (hx : x ∉ pre) : GInv st (pre ++ [x]) (gPut (st x) x d) (acc ++ if ∃ y ∈ acc, st y = st x then [] else [x]) := by
  have sp : (∃ y ∈ acc, st y = st x) ↔ ∃ y ∈ pre, st y = st x := by
    constructor
    · rintro ⟨y, hy, e⟩
      rw [G.ac] at hy
      exact ⟨y, (List.mem_filter.mp hy).1, e⟩
    · rintro ⟨y, hy, e⟩
      obtain ⟨z, hz, e2⟩ := G.al y hy
      exact ⟨z, hz, e2.trans e⟩
  have xself : st x = st x := rfl
  refine ⟨?_, ?_, fun y hy => ?_, ?_⟩
  · rw [G.di, put_new acc G.pw]
    by_cases h : ∃ y ∈ acc, st y = st x
    · rw [if_pos h, if_pos h, List.append_nil, List.append_nil]
    · rw [if_neg h, if_neg h, List.map_append]
      congr 1
      have : same st pre x = [] := by
        unfold same
        rw [List.filter_eq_nil_iff]
        intro z hz e
        exact h (sp.mpr ⟨z, hz, of_decide_eq_true e⟩)
      simp only [List.map_cons, List.map_nil]
      rw [same_snoc, this, if_pos rfl]; rfl
  · rw [List.filter_append]
    congr 1
    · rw [G.ac]
      refine List.filter_congr fun y hy => ?_
      unfold fstB
      rw [same_snoc, head_app (same_self hy)]
    · by_cases h : ∃ y ∈ acc, st y = st x
      · rw [if_pos h]
        obtain ⟨y, hy, e⟩ := sp.mp h
        have hn : same st pre x ≠ [] := fun e2 => by
          have : y ∈ same st pre x := List.mem_filter.mpr ⟨hy, by simp [e]⟩
          rw [e2] at this; cases this
        have hf : fstB st (pre ++ [x]) x = false := by
          unfold fstB
          rw [same_snoc, head_app hn, decide_eq_false_iff_not]
          intro e2
          have : x ∈ same st pre x := List.mem_of_mem_head? (by rw [e2]; rfl)
          exact hx (List.mem_filter.mp this).1
        simp [hf]
      · rw [if_neg h]
        have : same st pre x = [] := by
          unfold same
          rw [List.filter_eq_nil_iff]
          intro z hz e
          exact h (sp.mpr ⟨z, hz, of_decide_eq_true e⟩)
        have hf : fstB st (pre ++ [x]) x = true := by
          unfold fstB
          rw [same_snoc, this, if_pos rfl]; simp
        simp [hf]
  · rcases List.mem_append.mp hy with hy | hy
    · obtain ⟨z, hz, e⟩ := G.al y hy
      exact ⟨z, List.mem_append_left _ hz, e⟩
    · rw [List.mem_singleton] at hy; subst hy
      by_cases h : ∃ z ∈ acc, st z = st y
      · obtain ⟨z, hz, e⟩ := h
        exact ⟨z, List.mem_append_left _ hz, e⟩
      · rw [if_neg h]
        exact ⟨y, by simp, rfl⟩
  · by_cases h : ∃ y ∈ acc, st y = st x
    · rw [if_pos h, List.append_nil]; exact G.pw
    · rw [if_neg h, List.pairwise_append]
      refine ⟨G.pw, List.pairwise_singleton _ _, fun a ha b hb e => ?_⟩
      rw [List.mem_singleton] at hb; subst hb
      exact h ⟨a, ha, e⟩
theorem gr_fold : ∀ {xs pre : List α} {d : Dic κ (List α)} {acc : List α}, GInv st pre d acc → (pre ++ xs).Nodup → ∃ acc', GInv st (pre ++ xs) (xs.foldl (fun d x => gPut (st x) x d) d) acc'
  | [], pre, d, acc, G, _ => ⟨acc, by rw [List.append_nil]; exact G⟩
  | x :: xs, pre, d, acc, G, hn => by
    have hx : x ∉ pre := fun m => by
      rw [List.nodup_append] at hn
      exact hn.2.2 x m x (List.mem_cons_self ..) rfl
    have e : pre ++ x :: xs = (pre ++ [x]) ++ xs := by simp
    rw [e] at hn ⊢
    exact gr_fold (G.step hx) hn
/-- the groups of a list without doubles -/
theorem gr_eq {xs : List α} (hn : xs.Nodup) : gr st xs = (xs.filter fun y => fstB st xs y).map fun y => (st y, same st xs y) := by
  obtain ⟨acc, G⟩ := gr_fold (st := st) (xs := xs) (pre := []) (d := []) (acc := []) ⟨rfl, rfl, (fun y hy => nomatch hy), List.Pairwise.nil⟩ (by simpa using hn)
  rw [List.nil_append] at G
  have := G.di
  unfold gr
  rw [this, G.ac]
/-- the groups of more than one -/
def bigG (st : α → κ) (xs : List α) : List (List α) := (xs.filter fun y => fstB st xs y && decide (((same st xs y).length : Int) > 1)).map (same st xs)
theorem big_gr {xs : List α} (hn : xs.Nodup) : ((vlL (gr st xs)).filter fun told => decide ((told.length : Int) > (1 : Int))) = bigG st xs := by
  rw [gr_eq hn]
  unfold vlL bigG
  rw [List.map_map, List.filter_map, List.filter_filter]
  congr 1
  refine List.filter_congr fun y _ => ?_
  show (decide _ && fstB st xs y) = _
  rw [Bool.and_comm]; rfl
end
end FL.NL

/-! PU: counts of pairs of a set of notes and of the others. -/
namespace FL.NL
open PySem PySem.W
section
variable {α β : Type}
end
/-- pairs told by one note -/
def row (m d a : Int) (ys : List Int) : Nat := ys.countP fun y => decide (dst m a y = d)
end FL.NL

/-! PZ: sets by dicts, sorted. -/
namespace FL.NL
open PySem PySem.W
abbrev dTk : List Int → PyData := fun xs => PyData.tuple (xs.map PyData.int)
theorem tupD_I (k : List Int) : FL.tupD (k.map kI) = dTk k := by
  unfold FL.tupD
  rw [List.map_map]; rfl
theorem srt_K (d : Ks) : srt (fun a b => dataLe false FL.tupD a b) (kkD d) = (kSort dTk d).map fun k => k.map kI := by
  rw [srt_eq]
  unfold kkD kSort
  exact (List.map_mergeSort (r := fun a b => !kLt dTk b a) (s := fun a b => dataLe false FL.tupD a b) (f := fun k : List Int => k.map kI) (l := d) (fun a _ b _ => by
    show (!dataLt (dTk b) (dTk a)) = (!dataLt (FL.tupD (b.map kI)) (FL.tupD (a.map kI)))
    rw [tupD_I, tupD_I])).symm
theorem sortKs_ok {d : Ks} (h : ∀ k ∈ d, k ≠ []) : sortKs d = .ok (kSort dTk d) := by
  have e : sortDtT (eKs d) = some (.l ((kSort dTk d).map (eT eI))) := by
    show (if (kkD d).length = (kvD d).length then (if okSort ((kkD d).map FL.tupD) = true then some (O.l ((srt (fun a b => dataLe false FL.tupD a b) (kkD d)).map tupKey)) else none) else none) = _
    have hl : (kkD d).length = (kvD d).length := by unfold kkD kvD; rw [List.length_map, List.length_map]
    have hm : (kkD d).map FL.tupD = d.map dTk := by
      unfold kkD
      rw [List.map_map]
      exact List.map_congr_left fun k _ => tupD_I k
    have ok : okSort (d.map dTk) = true := by
      unfold okSort
      simp only [Bool.and_eq_true, List.all_eq_true, List.mem_map, decide_eq_true_eq, Bool.or_eq_true]
      refine ⟨⟨?_, ?_⟩, .inl ?_⟩
      · rintro _ ⟨a, _, rfl⟩ _ ⟨b, _, rfl⟩; exact key_TI.al a b
      · rintro _ ⟨a, _, rfl⟩; exact Nat.le_trans (key_TI.dp a) (by decide)
      · rintro _ ⟨a, ha, rfl⟩
        have := h a ha
        cases a with
        | nil => exact absurd rfl this
        | cons _ _ => rfl
    rw [if_pos hl, hm, if_pos ok, srt_K, List.map_map]
    congr 2
    exact List.map_congr_left fun k _ => tupKey_I k
  unfold sortKs
  rw [e]
  unfold optL
  rw [R.bind_ok, asAll_map asTf_I]
theorem kPut_mem {d : Ks} {k x : List Int} : x ∈ kPut d k ↔ x ∈ d ∨ x = k := by
  unfold kPut
  split
  · rename_i h
    constructor
    · exact .inl
    · rintro (h2 | rfl)
      · exact h2
      · exact h
  · simp
theorem kPut_len {d : Ks} {k : List Int} : (kPut d k).length ≤ d.length + 1 := by
  unfold kPut; split <;> simp
theorem keys_loop {m notes : Int} (hm : 0 < m) {im : List Int → R (List (List Int))} : ∀ (xs : List (List Int)) (d : Ks), (∀ x ∈ xs, (x.length : Int) = notes → im x = .ok (imgs m x)) → d.length + xs.length ≤ 100000 →
    ∃ d', forR xs (fun (x2 : (List Int)) (st2 : Ks) => (if (decide ((x2.length : Int) = notes)) = true then (im x2).bind fun c5 => (mmR PySem.W.minD (asTf asI) ((eL (eT eI)) c5)).bind fun m => (kpR st2 m).bind fun found => .ok found else .ok st2 : R Ks).bind fun st3 => .ok st3) d = .ok d' ∧ (∀ k, k ∈ d' ↔ k ∈ d ∨ ∃ x ∈ xs, (x.length : Int) = notes ∧ k = least m x) := fun xs => by
  induction xs with
  | nil => intro d _ _; exact ⟨d, rfl, fun k => by simp⟩
  | cons x xs ih =>
    intro d h hl
    rw [List.length_cons] at hl
    unfold forR
    by_cases c : (x.length : Int) = notes
    · simp only [c, decide_true, if_true]
      have hk : kpR d (least m x) = .ok (kPut d (least m x)) := by unfold kpR; rw [if_pos (by omega)]
      rw [h x (List.mem_cons_self ..) c, R.bind_ok, least_min hm, R.bind_ok, hk, R.bind_ok, R.bind_ok, R.bind_ok]
      have := kPut_len (d := d) (k := least m x)
      obtain ⟨d', e1, e2⟩ := ih (kPut d (least m x)) (fun y hy => h y (List.mem_cons_of_mem _ hy)) (by omega)
      refine ⟨d', e1, fun k => ?_⟩
      rw [e2, kPut_mem]
      constructor
      · rintro ((h1 | h1) | ⟨y, y1, y2, y3⟩)
        · exact .inl h1
        · exact .inr ⟨x, List.mem_cons_self .., c, h1⟩
        · exact .inr ⟨y, List.mem_cons_of_mem _ y1, y2, y3⟩
      · rintro (h1 | ⟨y, y1, y2, y3⟩)
        · exact .inl (.inl h1)
        · rcases List.mem_cons.mp y1 with rfl | y1
          · exact .inl (.inr y3)
          · exact .inr ⟨y, y1, y2, y3⟩
    · simp only [c, decide_false, Bool.false_eq_true, if_false]
      rw [R.bind_ok, R.bind_ok]
      obtain ⟨d', e1, e2⟩ := ih d (fun y hy => h y (List.mem_cons_of_mem _ hy)) (by omega)
      refine ⟨d', e1, fun k => ?_⟩
      rw [e2]
      constructor
      · rintro (h1 | ⟨y, y1, y2, y3⟩)
        · exact .inl h1
        · exact .inr ⟨y, List.mem_cons_of_mem _ y1, y2, y3⟩
      · rintro (h1 | ⟨y, y1, y2, y3⟩)
        · exact .inl h1
        · rcases List.mem_cons.mp y1 with rfl | y1
          · exact absurd y2 c
          · exact .inr ⟨y, y1, y2, y3⟩
end FL.NL

/-! PV: triads of equal steps; texts of signs. -/
namespace FL.NL
open PySem PySem.W
theorem chS_len {z : Str} : (chS z).length = z.length := by
  unfold chS
  show (z.cps.toList.map _).length = z.cps.size
  simp
abbrev sP : Str := PySem.Str.ofString "P"
abbrev sL : Str := PySem.Str.ofString "L"
abbrev sR : Str := PySem.Str.ofString "R"
/-- moves: a text of the signs P, L, R -/
structure Mvs (z : Str) (n : Nat) : Prop where
  all : ∀ w ∈ chS z, w = sP ∨ w = sL ∨ w = sR
  len : z.length ≤ n
theorem Mvs.nil {n : Nat} : Mvs (PySem.Str.ofString "") n := ⟨fun w h => (by cases h), Nat.zero_le _⟩
theorem two_of {p : Int → Bool} {a b c : Int} (h : p a = true ∧ p b = true ∨ p a = true ∧ p c = true ∨ p b = true ∧ p c = true) : 2 ≤ ([a, b, c].filter p).length := by
  rcases h with ⟨h1, h2⟩ | ⟨h1, h2⟩ | ⟨h1, h2⟩ <;> simp only [List.filter_cons, h1, h2, if_true] <;> (split <;> simp)
end FL.NL

/-! PC: counts of one sign in a text (lines of FK), in a form that the kernel reckons quickly. -/
namespace FL.C1
open PySem FL FL.NL
noncomputable section
variable {α β γ : Type}
end
end FL.C1
namespace FL.NL
open PySem FL.C1
def sgL : Str := PySem.Str.ofString "L"
def sgS : Str := PySem.Str.ofString "s"
/-- a word of the letters L and s -/
def wdB (z : Str) : Bool := decide (1 ≤ z.cps.toList.length) && decide (z.cps.toList.length ≤ 40) && z.cps.toList.all fun c => decide (c = 76) || decide (c = 115)
structure Wd (z : Str) : Prop where
  l1 : 1 ≤ z.length
  l2 : z.length ≤ 40
  all : ∀ w ∈ chS z, w = sgL ∨ w = sgS
theorem len_cps {z : Str} : z.cps.toList.length = z.length := by rw [← chS_len]; unfold chS; rw [List.length_map]
theorem Wd.of {z : Str} (h : wdB z = true) : Wd z := by
  unfold wdB at h
  rw [Bool.and_eq_true, Bool.and_eq_true, decide_eq_true_eq, decide_eq_true_eq, List.all_eq_true, len_cps] at h
  refine ⟨h.1.1, h.1.2, fun w hw => ?_⟩
  unfold chS at hw
  obtain ⟨c, hc, rfl⟩ := List.mem_map.mp hw
  have := h.2 c hc
  rw [Bool.or_eq_true, decide_eq_true_eq, decide_eq_true_eq] at this
  rcases this with rfl | rfl
  · exact .inl rfl
  · exact .inr rfl
/-! least and greatest -/
end FL.NL

/-! PO: ratios as pairs in lowest terms. -/
namespace FL.NL
open PySem
abbrev Rat2 := Int × (Int × Unit)
/-- the lowest terms -/
def lw (x y : Int) : Rat2 := (x / (Int.gcd x y : Int), y / (Int.gcd x y : Int), ())
/-! insertion by ratios -/
abbrev RP := Rat2 × (Int × Unit)
end FL.NL

/-! PE: even sets: what they are, and that there is one alone. -/
namespace FL.NL
open PySem PySem.W
/-! ### floors -/
theorem fl_per {n Y q : Int} (hn : 0 < n) : (Y + n * q) / n = Y / n + q := Int.add_mul_ediv_left _ _ (by omega)
/-! ### a set, come round -/
def vx (m : Int) (S : List Int) (i : Int) : Int := S.getD (i % (S.length : Int)).toNat 0 + m * (i / (S.length : Int))
def Ev (m : Int) (S : List Int) : Prop := ∀ k : Int, 1 ≤ k → k < S.length → ∀ i j : Int, 0 ≤ i → i < S.length → 0 ≤ j → j < S.length → vx m S (i + k) - vx m S i - (vx m S (j + k) - vx m S j) ≤ 1
section
variable {m : Int} {S : List Int}
theorem vx_per (hn : 0 < S.length) (i q : Int) : vx m S (i + S.length * q) = vx m S i + m * q := by
  unfold vx
  rw [Int.add_mul_emod_self_left, fl_per (by omega), Int.mul_add]; omega
theorem vx_dif (hn : 0 < S.length) (i k : Int) : vx m S (i + k) - vx m S i = vx m S (i % S.length + k) - vx m S (i % S.length) := by
  have e := Int.mul_ediv_add_emod i S.length
  have h1 := vx_per (m := m) hn (i % S.length) (i / S.length)
  have h2 := vx_per (m := m) hn (i % S.length + k) (i / S.length)
  rw [show i % (S.length : Int) + S.length * (i / S.length) = i by omega] at h1
  rw [show i % (S.length : Int) + k + S.length * (i / S.length) = i + k by omega] at h2
  omega
theorem Ev.all (h : Ev m S) (hn : 0 < S.length) {k : Int} (k0 : 1 ≤ k) (k1 : k < S.length) (i j : Int) : vx m S (i + k) - vx m S i - (vx m S (j + k) - vx m S j) ≤ 1 := by
  rw [vx_dif hn i k, vx_dif hn j k]
  have p : (0 : Int) < S.length := by omega
  exact h k k0 k1 _ _ (Int.emod_nonneg _ (by omega)) (Int.emod_lt_of_pos _ p) (Int.emod_nonneg _ (by omega)) (Int.emod_lt_of_pos _ p)
end
/-! ### even sets -/
def es (m n s : Int) : List Int := (rg 0 n.toNat).map fun i => ((m * i + s) / n) % m
end FL.NL

/-! PB: chains whose number of notes is on the way to a fraction have two gaps. -/
namespace FL.NL
open PySem PySem.W
def rs (M s x : Int) : Int := (x * s) % M
/-! ### the list of gaps -/
end FL.NL

/-! PH: chains of ratios: insertion by keys, three kinds of gaps. -/
namespace FL.NL
open PySem
theorem nodup_le {α : Type} [DecidableEq α] : ∀ {xs ys : List α}, xs.Nodup → (∀ x ∈ xs, x ∈ ys) → xs.length ≤ ys.length
  | [], _, _, _ => by simp
  | x :: xs, ys, hn, h => by
    rw [List.nodup_cons] at hn
    have hx : x ∈ ys := h x (List.mem_cons_self ..)
    have := nodup_le (xs := xs) (ys := ys.erase x) hn.2 fun y hy => (List.mem_erase_of_ne fun (e : y = x) => hn.1 (e ▸ hy)).mpr (h y (List.mem_cons_of_mem _ hy))
    rw [List.length_erase_of_mem hx] at this
    have := List.length_pos_of_mem hx
    rw [List.length_cons]; omega
/-! insertion by keys -/
section
variable {κ : Int → Int} {L : List Int} {x : Int}
/-- the note i with its place -/
def pn (κ : Int → Int) (W : Int) (i : Int) : RP := (lw (κ i) W, i, ())
end
/-! gaps -/
end FL.NL

namespace TW
open PySem FL
-- is_int: 0:value
def limits.R_is_int : MS :=
  sRet (andV (op1 (isiO .int) (rdA 0)) (notV (op1 (isiO .bl) (rdA 0))))
def limits.F_is_int : Sg := fnF 1 1 limits.R_is_int
-- common: 0:one 1:other
def limits.C_common_1 : M Bool :=
  tst (op2 neO (rdA 1) (rdC (.int 0)))
def limits.B_common_1 : MS :=
  sPar 0 1 (xsCons (asT (rdA 1)) (xsCons (asT (op2 modO (rdA 0) (rdA 1))) (xsNil)))
def limits.R_common : MS :=
  sq (sPar 0 1 (xsCons (asT (calF abs1O (rdCons (rdA 0) (rdNil)))) (xsCons (asT (calF abs1O (rdCons (rdA 1) (rdNil)))) (xsNil))))
  (sq (whl (limits.C_common_1) (limits.B_common_1) 1000000)
  (sRet (rdA 0)))
def limits.F_common : Sg := fnF 2 2 limits.R_common
-- moved: 0:many 1:value 2:step 3:note
def sets.L_moved_1 : M T :=
  op2 modO (op2 addO (rdA 3) (rdA 2)) (rdA 0)
def sets.R_moved : MS :=
  sRet (calF tuple1O (rdCons (frzM (calO sortA (rdCons (frzM (lcM [3] (iSeqA (rdA 1)) (gN 3) (yes) (sets.L_moved_1))) (rdNil)))) (rdNil)))
def sets.F_moved : Sg := fnF 4 3 sets.R_moved
-- turned: 0:many 1:value 2:note
def sets.L_turned_1 : M T :=
  op2 modO (op1 negO (rdA 2)) (rdA 0)
def sets.R_turned : MS :=
  sRet (calF tuple1O (rdCons (frzM (calO sortA (rdCons (frzM (lcM [2] (iSeqA (rdA 1)) (gN 2) (yes) (sets.L_turned_1))) (rdNil)))) (rdNil)))
def sets.F_turned : Sg := fnF 3 2 sets.R_turned
-- ways: 0:many 1:notes 2:found 3:at
def sets.B_ways_1 : MS :=
  sSet 2 (asT (op2 divA (op2 mulA (rdA 2) (op2 subA (rdA 0) (rdA 3))) (op2 addO (rdA 3) (rdC (.int 1)))))
def sets.R_ways : MS :=
  sq (sSet 2 (asT (rdC (.int 1))))
  (sq (sFor (calI rg1 (rdCons (rdA 1) (rdNil))) (gN 3) (sets.B_ways_1))
  (sRet (rdA 2)))
def sets.F_ways : Sg := fnF 4 2 sets.R_ways
-- spectrum: 0:many 1:value 2:size 3:found 4:at 5:note 6:rounds 7:place
def sets.B_spectrum_1 : MS :=
  sq (sPar 6 7 (xsCons (asT (op2 divA (op2 addO (rdA 4) (rdA 2)) (lenA 1))) (xsCons (asT (op2 modO (op2 addO (rdA 4) (rdA 2)) (lenA 1))) (xsNil))))
  (sSetD 3 (op2 subA (op2 addO (ixA 1 (rdA 7)) (op2 mulA (rdA 6) (rdA 0))) (rdA 5)) (rdC (.bl true)))
def sets.R_spectrum : MS :=
  sq (sSet 3 (asO newDk))
  (sq (sFor (calI enum1 (rdCons (rdA 1) (rdNil))) (gT (gsCons (gN 4) (gsCons (gN 5) (gsNil)))) (sets.B_spectrum_1))
  (sRet (calF tuple1O (rdCons (frzM (calO (one1 sortDk) (rdCons (rdA 3) (rdNil)))) (rdNil)))))
def sets.F_spectrum : Sg := fnF 8 3 sets.R_spectrum
-- chain_of: 0:many 1:step 2:notes 3:at
def words.L_chain_of_1 : M T :=
  op2 modO (op2 mulA (rdA 3) (rdA 1)) (rdA 0)
def words.R_chain_of : MS :=
  sRet (frzM (calO sortA (rdCons (frzM (lcM [3] (calI rg1 (rdCons (rdA 2) (rdNil))) (gN 3) (yes) (words.L_chain_of_1))) (rdNil))))
def words.F_chain_of : Sg := fnF 4 3 words.R_chain_of
-- _law_taken: 0:_law_row 1:_law_many 2:_law_cell 3:_law_found
def lw.R__law_taken : MS :=
  sq (sIf (tst (op2 gtO (ixA 0 (rdC (.int 3))) (rdC (.int 0)))) (sq (sSet 3 (asT (op2 modO (calF intA (rdCons (ixA 0 (rdC (.int 3))) (rdNil))) (rdA 1))))
  (sq (sSetI 0 (rdC (.int 3)) (op2 divA (ixA 0 (rdC (.int 3))) (rdA 1)))
  (sRet (rdA 3)))) (skip))
  (sq (sSetI 0 (rdC (.int 1)) (op2 addO (ixA 0 (rdC (.int 1))) (rdC (.int 1))))
  (sq (sIf (tst (op2 gtO (ixA 0 (rdC (.int 1))) (calF lenO (rdCons (ixA 0 (rdC (.int 0))) (rdNil))))) (sq (sSetI 0 (rdC (.int 2)) (op2 modO (calF intA (rdCons (op2 addO (op2 mulA (ixA 0 (rdC (.int 2))) (rdC (.int 48271))) (rdC (.int 11))) (rdNil))) (rdC (.int 2147483647))))
  (sRet (op2 modO (calF intA (rdCons (op2 divA (ixA 0 (rdC (.int 2))) (rdC (.int 7))) (rdNil))) (rdA 1)))) (skip))
  (sq (sSet 2 (asT (op2 ixO (ixA 0 (rdC (.int 0))) (op2 subA (ixA 0 (rdC (.int 1))) (rdC (.int 1))))))
  (sq (sSetI 0 (rdC (.int 2)) (op2 modO (calF intA (rdCons (op2 addO (op2 addO (op2 mulA (ixA 0 (rdC (.int 2))) (rdC (.int 48271))) (rdA 2)) (rdC (.int 11))) (rdNil))) (rdC (.int 2147483647))))
  (sq (sIf (tst (op2 geO (rdA 2) (op2 powO (rdC (.int 10)) (rdC (.int 18))))) (sSetI 0 (rdC (.int 3)) (op2 divA (rdA 2) (rdA 1))) (skip))
  (sRet (op2 modO (calF intA (rdCons (rdA 2) (rdNil))) (rdA 1))))))))
def lw.F__law_taken : SgM := fnM 4 2 lw.R__law_taken
-- _law_common: 0:_law_one 1:_law_other
def lw.C__law_common_1 : M Bool :=
  tst (op2 neO (rdA 1) (rdC (.int 0)))
def lw.B__law_common_1 : MS :=
  sPar 0 1 (xsCons (asT (rdA 1)) (xsCons (asT (op2 modO (rdA 0) (rdA 1))) (xsNil)))
def lw.R__law_common : MS :=
  sq (sPar 0 1 (xsCons (asT (calF abs1O (rdCons (rdA 0) (rdNil)))) (xsCons (asT (calF abs1O (rdCons (rdA 1) (rdNil)))) (xsNil))))
  (sq (whl (lw.C__law_common_1) (lw.B__law_common_1) 1000000)
  (sRet (rdA 0)))
def lw.F__law_common : Sg := fnF 2 2 lw.R__law_common
-- is_in: 0:value 1:least 2:most
def limits.R_is_in : MS :=
  sRet (andV (calU limits.F_is_int (rdCons (rdA 0) (rdNil))) (chn leO leO (rdA 1) (rdA 0) (rdA 2)))
def limits.F_is_in : Sg := fnF 3 3 limits.R_is_in
-- images: 0:many 1:value 2:told 3:step
def sets.L_images_1 : M T :=
  calU sets.F_moved (rdCons (rdA 0) (rdCons (rdA 2) (rdCons (rdA 3) (rdNil))))
def sets.R_images : MS :=
  sRet (frzM (lcM2 [2, 3] [3] (iSeqA (calF tupO (rdCons (rdA 1) (rdCons (calU sets.F_turned (rdCons (rdA 0) (rdCons (rdA 1) (rdNil)))) (rdNil))))) (gN 2) (yes) (calI rg1 (rdCons (rdA 0) (rdNil))) (gN 3) (yes) (sets.L_images_1)))
def sets.F_images : Sg := fnF 4 2 sets.R_images
-- _law_pick: 0:_law_row 1:_law_things
def lw.R__law_pick : MS :=
  sRet (ixA 1 (calM lw.F__law_taken 0 (rdCons (lenA 1) (rdNil))))
def lw.F__law_pick : SgM := fnM 2 2 lw.R__law_pick
-- need_set: 0:many 1:value 2:at 3:note
def sets.L_need_set_1 : M T :=
  calU limits.F_is_in (rdCons (rdA 3) (rdCons (rdC (.int 0)) (rdCons (op2 subA (rdA 0) (rdC (.int 1))) (rdNil))))
def sets.L_need_set_2 : M T :=
  op2 ltO (ixA 1 (op2 subA (rdA 2) (rdC (.int 1)))) (ixA 1 (rdA 2))
def sets.R_need_set : MS :=
  sq (sIf (notT (truth (calU limits.F_is_in (rdCons (rdA 0) (rdCons (rdC (.int 1)) (rdCons (rdC (.int (60))) (rdNil))))))) (bad) (skip))
  (sq (sIf (orT (notT (truth (op1 (isiO .tup) (rdA 1)))) (notT (truth (calF all1O (rdCons (frzM (lcM [3] (iSeqA (rdA 1)) (gN 3) (yes) (sets.L_need_set_1))) (rdNil)))))) (bad) (skip))
  (sIf (notT (truth (calF all1O (rdCons (frzM (lcM [2] (calI rg2 (rdCons (rdC (.int 1)) (rdCons (lenA 1) (rdNil)))) (gN 2) (yes) (sets.L_need_set_2))) (rdNil))))) (bad) (skip)))
def sets.F_need_set : Sg := fnF 4 2 sets.R_need_set
-- set_classes: 0:many 1:notes 2:note 3:some 4:found 5:told
def sets.Q_set_classes_1 : M Bool :=
  tst (op2 ltO (lenA 3) (rdA 1))
def sets.L_set_classes_1 : M T :=
  op2 addO (rdA 3) (calF tupO (rdCons (rdA 2) (rdNil)))
def sets.B_set_classes_1 : MS :=
  sSet 5 (asT (op2 addO (rdA 5) (frzM (lcM [3] (iSeqA (rdA 5)) (gN 3) (sets.Q_set_classes_1) (sets.L_set_classes_1)))))
def sets.B_set_classes_2 : MS :=
  sIf (tst (op2 eqO (lenA 3) (rdA 1))) (sSetD 4 (calF (mmO PySem.W.minD) (rdCons (calU sets.F_images (rdCons (rdA 0) (rdCons (rdA 3) (rdNil)))) (rdNil))) (rdC (.bl true))) (skip)
def sets.R_set_classes : MS :=
  sq (sIf (orT (notT (truth (calU limits.F_is_in (rdCons (rdA 0) (rdCons (rdC (.int 1)) (rdCons (rdC (.int (60))) (rdNil))))))) (notT (truth (calU limits.F_is_in (rdCons (rdA 1) (rdCons (rdC (.int 0)) (rdCons (rdA 0) (rdNil)))))))) (bad) (skip))
  (sq (sIf (tst (op2 gtO (calU sets.F_ways (rdCons (rdA 0) (rdCons (rdA 1) (rdNil)))) (rdC (.int (2000))))) (bad) (skip))
  (sq (sPar 4 5 (xsCons (asO newDt) (xsCons (asT (frzM (calO newL (rdCons (calF tupO (rdNil)) (rdNil))))) (xsNil))))
  (sq (sFor (calI rg1 (rdCons (rdA 0) (rdNil))) (gN 2) (sets.B_set_classes_1))
  (sq (sFor (iSeqA (rdA 5)) (gN 3) (sets.B_set_classes_2))
  (sRet (frzM (calO (one1 sortDtT) (rdCons (rdA 4) (rdNil)))))))))
def sets.F_set_classes : Sg := fnF 6 2 sets.R_set_classes
-- even_set: 0:many 1:notes 2:shift 3:at
def sets.L_even_set_1 : M T :=
  op2 modO (op2 divA (op2 addO (op2 mulA (rdA 0) (rdA 3)) (rdA 2)) (rdA 1)) (rdA 0)
def sets.R_even_set : MS :=
  sq (sIf (orT (notT (truth (calU limits.F_is_in (rdCons (rdA 0) (rdCons (rdC (.int 1)) (rdCons (rdC (.int (60))) (rdNil))))))) (orT (notT (truth (calU limits.F_is_in (rdCons (rdA 1) (rdCons (rdC (.int 1)) (rdCons (rdA 0) (rdNil))))))) (notT (truth (calU limits.F_is_in (rdCons (rdA 2) (rdCons (rdC (.int 0)) (rdCons (op2 subA (rdA 0) (rdC (.int 1))) (rdNil))))))))) (bad) (skip))
  (sRet (calF tuple1O (rdCons (frzM (calO sortA (rdCons (frzM (lcM [3] (calI rg1 (rdCons (rdA 1) (rdNil))) (gN 3) (yes) (sets.L_even_set_1))) (rdNil)))) (rdNil))))
def sets.F_even_set : Sg := fnF 4 3 sets.R_even_set
-- need_chain: 0:many 1:step 2:notes
def words.R_need_chain : MS :=
  sq (sIf (orT (notT (truth (calU limits.F_is_in (rdCons (rdA 0) (rdCons (rdC (.int 1)) (rdCons (rdC (.int (200))) (rdNil))))))) (notT (truth (calU limits.F_is_in (rdCons (rdA 1) (rdCons (rdC (.int 0)) (rdCons (op2 subA (rdA 0) (rdC (.int 1))) (rdNil)))))))) (bad) (skip))
  (sIf (notT (truth (calU limits.F_is_in (rdCons (rdA 2) (rdCons (rdC (.int 1)) (rdCons (op2 divA (rdA 0) (calU limits.F_common (rdCons (rdA 0) (rdCons (rdA 1) (rdNil))))) (rdNil))))))) (bad) (skip))
def words.F_need_chain : Sg := fnF 3 3 words.R_need_chain
-- least_image: 0:many 1:value
def sets.R_least_image : MS :=
  sq (sExpr (calU sets.F_need_set (rdCons (rdA 0) (rdCons (rdA 1) (rdNil)))))
  (sRet (calF (mmO PySem.W.minD) (rdCons (calU sets.F_images (rdCons (rdA 0) (rdCons (rdA 1) (rdNil)))) (rdNil))))
def sets.F_least_image : Sg := fnF 2 2 sets.R_least_image
-- interval_counts: 0:many 1:value 2:found 3:at 4:one 5:other
def sets.B_interval_counts_1 : MS :=
  sAugI 2 (calF min2O (rdCons (op2 subA (rdA 5) (rdA 4)) (rdCons (op2 addO (op2 subA (rdA 0) (rdA 5)) (rdA 4)) (rdNil)))) (intO fun i j => .int (i + j)) (rdC (.int 1))
def sets.B_interval_counts_2 : MS :=
  sFor (iSeqA (slM (rdA 1) (poS (op2 addO (rdA 3) (rdC (.int 1)))) (poN))) (gN 5) (sets.B_interval_counts_1)
def sets.R_interval_counts : MS :=
  sq (sExpr (calU sets.F_need_set (rdCons (rdA 0) (rdCons (rdA 1) (rdNil)))))
  (sq (sSet 2 (asO (op2L repL (frzM (calO newL (rdCons (rdC (.int 0)) (rdNil)))) (op2 addO (op2 divA (rdA 0) (rdC (.int 2))) (rdC (.int 1))))))
  (sq (sFor (calI enum1 (rdCons (rdA 1) (rdNil))) (gT (gsCons (gN 3) (gsCons (gN 4) (gsNil)))) (sets.B_interval_counts_2))
  (sRet (calF tuple1O (rdCons (slM (rdA 2) (poS (rdC (.int 1))) (poN)) (rdNil))))))
def sets.F_interval_counts : Sg := fnF 6 2 sets.R_interval_counts
-- is_even: 0:many 1:value 2:told 3:size
def sets.L_is_even_1 : M T :=
  calU sets.F_spectrum (rdCons (rdA 0) (rdCons (rdA 1) (rdCons (rdA 3) (rdNil))))
def sets.L_is_even_2 : M T :=
  op2 ltO (op2 subA (ixA 2 (op1 negO (rdC (.int 1)))) (ixA 2 (rdC (.int 0)))) (rdC (.int 2))
def sets.R_is_even : MS :=
  sq (sExpr (calU sets.F_need_set (rdCons (rdA 0) (rdCons (rdA 1) (rdNil)))))
  (sRet (calF all1O (rdCons (frzM (lcM [2] (iSeqA (frzM (lcM [3] (calI rg2 (rdCons (rdC (.int 1)) (rdCons (lenA 1) (rdNil)))) (gN 3) (yes) (sets.L_is_even_1)))) (gN 2) (yes) (sets.L_is_even_2))) (rdNil))))
def sets.F_is_even : Sg := fnF 4 2 sets.R_is_even
-- symmetries: 0:many 1:value 2:back 3:same 4:step
def sets.Q_symmetries_1 : M Bool :=
  tst (op2 eqO (calU sets.F_moved (rdCons (rdA 0) (rdCons (rdA 1) (rdCons (rdA 4) (rdNil))))) (rdA 1))
def sets.L_symmetries_1 : M T :=
  rdA 4
def sets.Q_symmetries_2 : M Bool :=
  tst (op2 eqO (calU sets.F_moved (rdCons (rdA 0) (rdCons (rdA 2) (rdCons (rdA 4) (rdNil))))) (rdA 1))
def sets.L_symmetries_2 : M T :=
  rdA 4
def sets.R_symmetries : MS :=
  sq (sExpr (calU sets.F_need_set (rdCons (rdA 0) (rdCons (rdA 1) (rdNil)))))
  (sq (sSet 2 (asT (calU sets.F_turned (rdCons (rdA 0) (rdCons (rdA 1) (rdNil))))))
  (sq (sSet 3 (asT (calF lenO (rdCons (frzM (lcM [4] (calI rg1 (rdCons (rdA 0) (rdNil))) (gN 4) (sets.Q_symmetries_1) (sets.L_symmetries_1))) (rdNil)))))
  (sRet (calF tupO (rdCons (rdA 3) (rdCons (calF lenO (rdCons (frzM (lcM [4] (calI rg1 (rdCons (rdA 0) (rdNil))) (gN 4) (sets.Q_symmetries_2) (sets.L_symmetries_2))) (rdNil))) (rdNil)))))))
def sets.F_symmetries : Sg := fnF 5 2 sets.R_symmetries
-- chain_notes: 0:many 1:step 2:notes
def words.R_chain_notes : MS :=
  sq (sExpr (calU words.F_need_chain (rdCons (rdA 0) (rdCons (rdA 1) (rdCons (rdA 2) (rdNil))))))
  (sRet (calF tuple1O (rdCons (calU words.F_chain_of (rdCons (rdA 0) (rdCons (rdA 1) (rdCons (rdA 2) (rdNil))))) (rdNil))))
def words.F_chain_notes : Sg := fnF 3 3 words.R_chain_notes
-- is_deep: 0:many 1:value 2:counts
def sets.R_is_deep : MS :=
  sq (sSet 2 (asT (calU sets.F_interval_counts (rdCons (rdA 0) (rdCons (rdA 1) (rdNil))))))
  (sRet (op2 eqO (op1 lenSetX (rdA 2)) (lenA 2)))
def sets.F_is_deep : Sg := fnF 3 2 sets.R_is_deep
-- twins: 0:many 1:notes 2:groups 3:told
def sets.Q_twins_1 : M Bool :=
  tst (op2 gtO (lenA 3) (rdC (.int 1)))
def sets.L_twins_1 : M T :=
  rdA 3
def sets.R_twins : MS :=
  sq (sSet 2 (asO newDt))
  (sq (sGrp 2 3 (iSeqA (calU sets.F_set_classes (rdCons (rdA 0) (rdCons (rdA 1) (rdNil))))) (gN 3) (calU sets.F_interval_counts (rdCons (rdA 0) (rdCons (rdA 3) (rdNil)))))
  (sRet (frzM (lcM [3] (iVlT 2) (gN 3) (sets.Q_twins_1) (sets.L_twins_1)))))
def sets.F_twins : Sg := fnF 4 2 sets.R_twins
-- law: 0:_law_script 1:_law_row 2:_law_known 3:_law_many 4:_law_step 5:_law_notes 6:_law_told 7:_law_counts 8:_law_value 9:_law_deep 10:_law_even 11:_law_pair 12:_law_at
def lw.Q_law_1 : M Bool :=
  tst (op2 eqO (calU lw.F__law_common (rdCons (rdA 12) (rdCons (rdA 3) (rdNil)))) (rdC (.int 1)))
def lw.L_law_1 : M T :=
  rdA 12
def lw.S_law_1 : MS :=
  sSet 1 (asO (calO newL (rdCons (rdA 0) (rdCons (rdC (.int 0)) (rdCons (rdC (.int 4279)) (rdCons (rdC (.int 0)) (rdNil)))))))
def lw.S_law_2 : MS :=
  sSet 2 (asT (frzM (calO newL (rdCons (calF tupO (rdCons (calF tupO (rdCons (rdC (.int 0)) (rdCons (rdC (.int 2)) (rdCons (rdC (.int 4)) (rdCons (rdC (.int 5)) (rdCons (rdC (.int 7)) (rdCons (rdC (.int 9)) (rdCons (rdC (.int 11)) (rdNil))))))))) (rdCons (calF tupO (rdCons (rdC (.int 2)) (rdCons (rdC (.int 5)) (rdCons (rdC (.int 4)) (rdCons (rdC (.int 3)) (rdCons (rdC (.int 6)) (rdCons (rdC (.int 1)) (rdNil)))))))) (rdCons (rdC (.bl true)) (rdCons (rdC (.bl true)) (rdCons (calF tupO (rdCons (rdC (.int 1)) (rdCons (rdC (.int 1)) (rdNil)))) (rdNil))))))) (rdCons (calF tupO (rdCons (calF tupO (rdCons (rdC (.int 0)) (rdCons (rdC (.int 2)) (rdCons (rdC (.int 4)) (rdCons (rdC (.int 6)) (rdCons (rdC (.int 8)) (rdCons (rdC (.int 10)) (rdNil)))))))) (rdCons (calF tupO (rdCons (rdC (.int 0)) (rdCons (rdC (.int 6)) (rdCons (rdC (.int 0)) (rdCons (rdC (.int 6)) (rdCons (rdC (.int 0)) (rdCons (rdC (.int 3)) (rdNil)))))))) (rdCons (rdC (.bl false)) (rdCons (rdC (.bl true)) (rdCons (calF tupO (rdCons (rdC (.int 6)) (rdCons (rdC (.int 6)) (rdNil)))) (rdNil))))))) (rdNil))))))
def lw.S_law_3 : MS :=
  sSet 2 (asT (op2 addO (rdA 2) (frzM (calO newL (rdCons (calF tupO (rdCons (calF tupO (rdCons (rdC (.int 0)) (rdCons (rdC (.int 3)) (rdCons (rdC (.int 6)) (rdCons (rdC (.int 9)) (rdNil)))))) (rdCons (calF tupO (rdCons (rdC (.int 0)) (rdCons (rdC (.int 0)) (rdCons (rdC (.int 4)) (rdCons (rdC (.int 0)) (rdCons (rdC (.int 0)) (rdCons (rdC (.int 2)) (rdNil)))))))) (rdCons (rdC (.bl false)) (rdCons (rdC (.bl true)) (rdCons (calF tupO (rdCons (rdC (.int 4)) (rdCons (rdC (.int 4)) (rdNil)))) (rdNil))))))) (rdCons (calF tupO (rdCons (calF tupO (rdCons (rdC (.int 0)) (rdCons (rdC (.int 1)) (rdCons (rdC (.int 4)) (rdCons (rdC (.int 6)) (rdNil)))))) (rdCons (calF tupO (rdCons (rdC (.int 1)) (rdCons (rdC (.int 1)) (rdCons (rdC (.int 1)) (rdCons (rdC (.int 1)) (rdCons (rdC (.int 1)) (rdCons (rdC (.int 1)) (rdNil)))))))) (rdCons (rdC (.bl false)) (rdCons (rdC (.bl false)) (rdCons (calF tupO (rdCons (rdC (.int 1)) (rdCons (rdC (.int 0)) (rdNil)))) (rdNil))))))) (rdNil)))))))
def lw.S_law_4 : MS :=
  sSet 2 (asT (op2 addO (rdA 2) (frzM (calO newL (rdCons (calF tupO (rdCons (calF tupO (rdCons (rdC (.int 0)) (rdCons (rdC (.int 2)) (rdCons (rdC (.int 4)) (rdCons (rdC (.int 7)) (rdCons (rdC (.int 9)) (rdNil))))))) (rdCons (calF tupO (rdCons (rdC (.int 0)) (rdCons (rdC (.int 3)) (rdCons (rdC (.int 2)) (rdCons (rdC (.int 1)) (rdCons (rdC (.int 4)) (rdCons (rdC (.int 0)) (rdNil)))))))) (rdCons (rdC (.bl false)) (rdCons (rdC (.bl true)) (rdCons (calF tupO (rdCons (rdC (.int 1)) (rdCons (rdC (.int 1)) (rdNil)))) (rdNil))))))) (rdCons (calF tupO (rdCons (calF tupO (rdCons (rdC (.int 0)) (rdCons (rdC (.int 1)) (rdCons (rdC (.int 3)) (rdCons (rdC (.int 4)) (rdCons (rdC (.int 6)) (rdCons (rdC (.int 7)) (rdCons (rdC (.int 9)) (rdCons (rdC (.int 10)) (rdNil)))))))))) (rdCons (calF tupO (rdCons (rdC (.int 4)) (rdCons (rdC (.int 4)) (rdCons (rdC (.int 8)) (rdCons (rdC (.int 4)) (rdCons (rdC (.int 4)) (rdCons (rdC (.int 4)) (rdNil)))))))) (rdCons (rdC (.bl false)) (rdCons (rdC (.bl true)) (rdCons (calF tupO (rdCons (rdC (.int 4)) (rdCons (rdC (.int 4)) (rdNil)))) (rdNil))))))) (rdNil)))))))
def lw.S_law_5 : MS :=
  sAsg (gT (gsCons (gN 8) (gsCons (gN 7) (gsCons (gN 9) (gsCons (gN 10) (gsCons (gN 11) (gsNil))))))) (calM lw.F__law_pick 1 (rdCons (rdA 2) (rdNil)))
def lw.S_law_6 : MS :=
  sIf (orT (tst (op2 neO (calU sets.F_interval_counts (rdCons (rdC (.int 12)) (rdCons (rdA 8) (rdNil)))) (rdA 7))) (orT (tst (op2 neO (calU sets.F_is_deep (rdCons (rdC (.int 12)) (rdCons (rdA 8) (rdNil)))) (rdA 9))) (orT (tst (op2 neO (calU sets.F_is_even (rdCons (rdC (.int 12)) (rdCons (rdA 8) (rdNil)))) (rdA 10))) (tst (op2 neO (calU sets.F_symmetries (rdCons (rdC (.int 12)) (rdCons (rdA 8) (rdNil)))) (rdA 11)))))) (sRet (rdC (.bl false))) (skip)
def lw.S_law_7 : MS :=
  sSet 3 (asT (op2 addO (rdC (.int 5)) (calM lw.F__law_taken 1 (rdCons (rdC (.int 20)) (rdNil)))))
def lw.S_law_8 : MS :=
  sSet 4 (asT (calM lw.F__law_pick 1 (rdCons (frzM (lcM [12] (calI rg2 (rdCons (rdC (.int 1)) (rdCons (rdA 3) (rdNil)))) (gN 12) (lw.Q_law_1) (lw.L_law_1))) (rdNil))))
def lw.S_law_9 : MS :=
  sSet 5 (asT (op2 addO (op2 divA (rdA 3) (rdC (.int 2))) (calM lw.F__law_taken 1 (rdCons (rdC (.int 2)) (rdNil)))))
def lw.S_law_10 : MS :=
  sSet 6 (asT (calU words.F_chain_notes (rdCons (rdA 3) (rdCons (rdA 4) (rdCons (rdA 5) (rdNil))))))
def lw.S_law_11 : MS :=
  sSet 7 (asT (calU sets.F_interval_counts (rdCons (rdA 3) (rdCons (rdA 6) (rdNil)))))
def lw.S_law_12 : MS :=
  sIf (tst (op2 neO (calU sets.F_is_deep (rdCons (rdA 3) (rdCons (rdA 6) (rdNil)))) (op2 eqO (op1 lenSetX (rdA 7)) (lenA 7)))) (sRet (rdC (.bl false))) (skip)
def lw.S_law_13 : MS :=
  sIf (andT (tst (op2 eqO (op2 modO (rdA 3) (rdC (.int 2))) (rdC (.int 1)))) (andT (tst (op2 eqO (rdA 5) (op2 divA (rdA 3) (rdC (.int 2))))) (tst (op2 neO (op1 lenSetX (rdA 7)) (lenA 7))))) (sRet (rdC (.bl false))) (skip)
def lw.S_law_14 : MS :=
  sIf (orT (tst (op2 neO (calF lenO (rdCons (calU sets.F_twins (rdCons (rdC (.int 12)) (rdCons (rdC (.int 5)) (rdNil)))) (rdNil))) (rdC (.int 3)))) (orT (tst (op2 neO (calF lenO (rdCons (calU sets.F_set_classes (rdCons (rdC (.int 12)) (rdCons (rdC (.int 6)) (rdNil)))) (rdNil))) (rdC (.int 50)))) (tst (op2 neO (calU sets.F_least_image (rdCons (rdC (.int 12)) (rdCons (calF tupO (rdCons (rdC (.int 2)) (rdCons (rdC (.int 5)) (rdCons (rdC (.int 9)) (rdNil))))) (rdNil)))) (calF tupO (rdCons (rdC (.int 0)) (rdCons (rdC (.int 3)) (rdCons (rdC (.int 7)) (rdNil))))))))) (sRet (rdC (.bl false))) (skip)
def lw.S_law_15 : MS :=
  sRet (andV (op2 eqO (calU sets.F_even_set (rdCons (rdC (.int 12)) (rdCons (rdC (.int 7)) (rdCons (rdC (.int 5)) (rdNil))))) (calF tupO (rdCons (rdC (.int 0)) (rdCons (rdC (.int 2)) (rdCons (rdC (.int 4)) (rdCons (rdC (.int 5)) (rdCons (rdC (.int 7)) (rdCons (rdC (.int 9)) (rdCons (rdC (.int 11)) (rdNil)))))))))) (andV (op2 eqO (calU sets.F_even_set (rdCons (rdC (.int 12)) (rdCons (rdC (.int 5)) (rdCons (rdC (.int 0)) (rdNil))))) (calF tupO (rdCons (rdC (.int 0)) (rdCons (rdC (.int 2)) (rdCons (rdC (.int 4)) (rdCons (rdC (.int 7)) (rdCons (rdC (.int 9)) (rdNil)))))))) (op2 eqO (calU sets.F_even_set (rdCons (rdC (.int 8)) (rdCons (rdC (.int 3)) (rdCons (rdC (.int 2)) (rdNil))))) (calF tupO (rdCons (rdC (.int 0)) (rdCons (rdC (.int 3)) (rdCons (rdC (.int 6)) (rdNil))))))))
def lw.R_law : MS :=
  sq (lw.S_law_1)
  (sq (lw.S_law_2)
  (sq (lw.S_law_3)
  (sq (lw.S_law_4)
  (sq (lw.S_law_5)
  (sq (lw.S_law_6)
  (sq (lw.S_law_7)
  (sq (lw.S_law_8)
  (sq (lw.S_law_9)
  (sq (lw.S_law_10)
  (sq (lw.S_law_11)
  (sq (lw.S_law_12)
  (sq (lw.S_law_13)
  (sq (lw.S_law_14)
  (lw.S_law_15))))))))))))))
def lw.F_law : Sg := fnF 13 1 lw.R_law
end TW

/-! NLT: the laws' helpers that are done by hand. -/
namespace FL.NL
open PySem PySem.Spec TW
theorem mulA_int {i j : Int} : mulA (.int i) (.int j) = if mulC i j then some (.int (i * j)) else none := Eq.trans rfl rfl
theorem divA_e {i j : Int} (h : 0 < j) (h2 : j < 18446744073709551616) : divA (.int i) (.int j) = some (.int (i / j)) := by
  have := divR_pos (a := i) h h2
  have l := div_I i j
  rw [this] at l
  exact l
theorem intA_int {i : Int} : intA [.int i] = some (.int i) := Eq.trans rfl rfl
theorem subA_int {i j : Int} : subA (.int i) (.int j) = some (.int (i - j)) := Eq.trans rfl rfl
theorem p18 : powO (.int 10) (.int 18) = some (.int 1000000000000000000) := by rfl
theorem pc18 : powC 10 18 = true := by decide
theorem taken {o : O} (h : RowOk o) {m : Int} (h0 : 0 < m) (h1 : m < 18446744073709551616) : ∃ r o', lw.F__law_taken o [.int m] = .ok (.int r, o') [] ∧ 0 ≤ r ∧ r < m ∧ RowOk o' := by
  obtain ⟨cs, a, b, c, rfl, ha, hb, hb2⟩ := h
  have hm : ∀ i : Int, 0 ≤ i % m ∧ i % m < m := fun i => ⟨Int.emod_nonneg _ (by omega), Int.emod_lt_of_pos _ h0⟩
  have hd : ∀ i : Int, divA (.int i) (.int m) = some (.int (i / m)) := fun i => divA_e h0 h1
  have hmo : ∀ i : Int, modO (.int i) (.int m) = some (.int (i % m)) := fun i => modO_e h0
  have h2 : ∀ i : Int, modO (.int i) (.int 2147483647) = some (.int (i % 2147483647)) := fun i => modO_e (by decide)
  have h7 : ∀ i : Int, divA (.int i) (.int 7) = some (.int (i / 7)) := fun i => divA_e (by decide) (by decide)
  have hb3 : ∀ i : Int, 0 ≤ i % 2147483647 ∧ i % 2147483647 < 2147483647 := fun i => ⟨Int.emod_nonneg _ (by omega), Int.emod_lt_of_pos _ (by decide)⟩
  have hmu : mulA (.int b) (.int 48271) = some (.int (b * 48271)) := by
    rw [mulA_int, if_pos (mulC_of (m := 64) (n := 64) (by omega) (by decide) (by decide) (by decide) (by decide))]
  have i0 : ∀ {x y z w : T}, atT [x, y, z, w] 0 = some x := rfl
  have i1 : ∀ {x y z w : T}, atT [x, y, z, w] 1 = some y := rfl
  have i2 : ∀ {x y z w : T}, atT [x, y, z, w] 2 = some z := rfl
  have i3 : ∀ {x y z w : T}, atT [x, y, z, w] 3 = some w := rfl
  have d1 : idx 4 1 = some 1 := rfl
  have d2 : idx 4 2 = some 2 := rfl
  have d3 : idx 4 3 = some 3 := rfl
  by_cases hc : 0 < c
  · refine ⟨c % m, .l [.sl (cs.map T.int), .int a, .int b, .int (c / m)], ?_, (hm c).1, (hm c).2, cs, a, b, _, rfl, ha, hb, hb2⟩
    simp [lw.F__law_taken, fnM, lw.R__law_taken, has_e, rdOwn_e, setOwn_e, i0, i1, i2, i3, d3, hc, hmo, hd, rdA_e, intA_int, subA_int, -intC_e]
  · by_cases hl : (cs.length : Int) < a + 1
    · refine ⟨((b * 48271 + 11) % 2147483647) / 7 % m, .l [.sl (cs.map T.int), .int (a + 1), .int ((b * 48271 + 11) % 2147483647), .int c], ?_, (hm _).1, (hm _).2, cs, a + 1, _, _, rfl, by omega, (hb3 _).1, (hb3 _).2⟩
      simp [lw.F__law_taken, fnM, lw.R__law_taken, has_e, rdOwn_e, setOwn_e, i0, i1, i2, i3, d1, d2, d3, hc, hmo, hd, rdA_e, hl, h2, h7, hmu, intA_int, subA_int, -intC_e]
    · have hx : a.toNat < cs.length := by omega
      have hcell : atT (cs.map T.int) a = some (.int (cs[a.toNat]'hx)) := atT_pos ha (by simp [hx])
      generalize hz : cs[a.toNat]'hx = z at hcell
      by_cases hg : 1000000000000000000 ≤ z
      · refine ⟨z % m, .l [.sl (cs.map T.int), .int (a + 1), .int ((b * 48271 + z + 11) % 2147483647), .int (z / m)], ?_, (hm _).1, (hm _).2, cs, a + 1, _, _, rfl, by omega, (hb3 _).1, (hb3 _).2⟩
        simp [lw.F__law_taken, fnM, lw.R__law_taken, has_e, rdOwn_e, setOwn_e, i0, i1, i2, i3, d1, d2, d3, hc, hmo, hd, rdA_e, hl, h2, h7, hmu, hcell, p18, hg, intA_int, subA_int, -intC_e]
      · refine ⟨z % m, .l [.sl (cs.map T.int), .int (a + 1), .int ((b * 48271 + z + 11) % 2147483647), .int c], ?_, (hm _).1, (hm _).2, cs, a + 1, _, _, rfl, by omega, (hb3 _).1, (hb3 _).2⟩
        simp [lw.F__law_taken, fnM, lw.R__law_taken, has_e, rdOwn_e, setOwn_e, i0, i1, i2, i3, d1, d2, d3, hc, hmo, hd, rdA_e, hl, h2, h7, hmu, hcell, p18, hg, intA_int, subA_int, -intC_e]
/-- a drawn number -/
def N._law_taken (m : Int) : R Int := .dr m fun v => .ok v
theorem n__law_taken (m : Int) : FnM lw.F__law_taken (aC eI aN (m, ())) (N._law_taken m) eI := fun o ho h0 h1 => by
  obtain ⟨r, o', e, r0, r1, ho'⟩ := taken ho h0 h1
  exact ⟨r, r0, r1, o', [], ho', e⟩
end FL.NL

set_option maxHeartbeats 4000000
namespace FL.NL
open PySem TW
def N._law_pick (things : (List ((List Int) × ((Int × (Int × (Int × (Int × (Int × (Int × Unit)))))) × (Bool × (Bool × ((Int × (Int × Unit)) × Unit))))))) : R ((List Int) × ((Int × (Int × (Int × (Int × (Int × (Int × Unit)))))) × (Bool × (Bool × ((Int × (Int × Unit)) × Unit))))) :=
  ((N._law_taken (things.length : Int)).noX).bind fun d => (atR things d).bind fun t => .ok t
def N.limits_is_int (value : Int) : R Bool :=
  .ok (true && (!false))
def N.limits_is_in (value : Int) (least : Int) (most : Int) : R Bool :=
  (N.limits_is_int value).bind fun c => .ok (c && (decide (least ≤ value) && decide (value ≤ most)))
def N.sets_need_set (many : Int) (value : (List Int)) : R Unit :=
  (N.limits_is_in many (1 : Int) (60 : Int)).bind fun c => if (!c) = true then .bad else (if (!true) = true then .ok true else (cmpR value (fun _ => .ok true) fun (note : Int) => (N.limits_is_in note (0 : Int) (many - (1 : Int))).bind fun c2 => .ok c2).bind fun l => .ok (!(l.all idB))).bind fun t => if t = true then .bad else (rgR (1 : Int) (value.length : Int)).bind fun r => (cmpR r (fun _ => .ok true) fun (at1 : Int) => (atR value (at1 - (1 : Int))).bind fun t2 => (atR value at1).bind fun t3 => .ok (decide (t2 < t3))).bind fun l2 => if (!(l2.all idB)) = true then .bad else .ok ()
def N.sets_interval_counts (many : Int) (value : (List Int)) : R (List Int) :=
  (N.sets_need_set many value).bind fun _ => (repL' [(0 : Int)] ((many / (2 : Int)) + (1 : Int))).bind fun found => (forR (enumL 0 value) (fun (x : (Int × (Int × Unit))) (st1 : (List Int)) => (forR (cutL value (some (x.1 + (1 : Int))) none) (fun (x2 : Int) (st2 : (List Int)) => ((.ok (minI (x2 - x.2.1) ((many - x2) + x.2.1)) : R Int)).bind fun w => (augR st2 w fun a => a + (1 : Int)).bind fun found2 => .ok found2) st1).bind fun so => .ok so) found).bind fun so2 => .ok (cutL so2 (some (1 : Int)) none)
def N.sets_is_deep (many : Int) (value : (List Int)) : R Bool :=
  (N.sets_interval_counts many value).bind fun counts => (lsetXR ((eT eI) counts)).bind fun n => .ok (decide (n = (counts.length : Int)))
def N.sets_spectrum (many : Int) (value : (List Int)) (size : Int) : R (List Int) :=
  (forR (enumL 0 value) (fun (x : (Int × (Int × Unit))) (st1 : ((List Int) × (Dic Int Bool))) => (divR (x.1 + size) (st1.1.length : Int)).bind fun t => (modR (x.1 + size) (st1.1.length : Int)).bind fun t2 => (atR st1.1 t2).bind fun t3 => (mulR t many).bind fun t4 => (msR st1.2 ((t3 + t4) - x.2.1) true).bind fun found => .ok (st1.1, found)) (value, ([] : (Dic Int Bool)))).bind fun so => (sMR sortDk asI ((eM (obK kfI) eB) so.2)).bind fun l => .ok l
def N.sets_is_even (many : Int) (value : (List Int)) : R Bool :=
  (N.sets_need_set many value).bind fun _ => (rgR (1 : Int) (value.length : Int)).bind fun r => (cmpR r (fun _ => .ok true) fun (size : Int) => (N.sets_spectrum many value size).bind fun c2 => .ok c2).bind fun l => (cmpR l (fun _ => .ok true) fun (told : (List Int)) => (atR told (-(1 : Int))).bind fun t => (atR told (0 : Int)).bind fun t2 => .ok (decide ((t - t2) < (2 : Int)))).bind fun l2 => .ok (l2.all idB)
def N.sets_turned (many : Int) (value : (List Int)) : R (List Int) :=
  (cmpR value (fun _ => .ok true) fun (note : Int) => (modR (-note) many).bind fun t => .ok t).bind fun l => (sortR asI ((eL eI) l)).bind fun l2 => .ok l2
def N.sets_moved (many : Int) (value : (List Int)) (step : Int) : R (List Int) :=
  (cmpR value (fun _ => .ok true) fun (note : Int) => (modR (note + step) many).bind fun t => .ok t).bind fun l => (sortR asI ((eL eI) l)).bind fun l2 => .ok l2
def N.sets_symmetries (many : Int) (value : (List Int)) : R (Int × (Int × Unit)) :=
  (N.sets_need_set many value).bind fun _ => (N.sets_turned many value).bind fun back => (rgR (0 : Int) many).bind fun r => (cmpR r (fun (step : Int) => (N.sets_moved many value step).bind fun c3 => .ok (decide (c3 = value))) fun (step : Int) => .ok step).bind fun l => ((.ok (l.length : Int) : R Int)).bind fun same => (rgR (0 : Int) many).bind fun r2 => (cmpR r2 (fun (step2 : Int) => (N.sets_moved many back step2).bind fun c4 => .ok (decide (c4 = value))) fun (step2 : Int) => .ok step2).bind fun l2 => .ok (same, (l2.length : Int), ())
def N._law_common (one1 : Int) (other1 : Int) : R Int :=
  (whileR 1000000 (fun (st1 : (Int × Int)) => .ok (!decide (st1.2 = (0 : Int)))) (fun (st1 : (Int × Int)) => (modR st1.1 st1.2).bind fun t => .ok (st1.2, t)) ((absI one1), (absI other1))).bind fun so => .ok so.1
def N._law_pick_v2 (things : (List Int)) : R Int :=
  ((N._law_taken (things.length : Int)).noX).bind fun d => (atR things d).bind fun t => .ok t
def N.limits_common (one1 : Int) (other1 : Int) : R Int :=
  (whileR 1000000 (fun (st1 : (Int × Int)) => .ok (!decide (st1.2 = (0 : Int)))) (fun (st1 : (Int × Int)) => (modR st1.1 st1.2).bind fun t => .ok (st1.2, t)) ((absI one1), (absI other1))).bind fun so => .ok so.1
def N.words_need_chain (many : Int) (step : Int) (notes : Int) : R Unit :=
  (N.limits_is_in many (1 : Int) (200 : Int)).bind fun c => (if (!c) = true then .ok true else (N.limits_is_in step (0 : Int) (many - (1 : Int))).bind fun c2 => .ok (!c2)).bind fun t => if t = true then .bad else (N.limits_common many step).bind fun c3 => (divR many c3).bind fun t2 => (N.limits_is_in notes (1 : Int) t2).bind fun c4 => if (!c4) = true then .bad else .ok ()
def N.words_chain_of (many : Int) (step : Int) (notes : Int) : R (List Int) :=
  (rgR (0 : Int) notes).bind fun r => (cmpR r (fun _ => .ok true) fun (at1 : Int) => (mulR at1 step).bind fun t => (modR t many).bind fun t2 => .ok t2).bind fun l => (sortR asI ((eL eI) l)).bind fun l2 => .ok l2
def N.words_chain_notes (many : Int) (step : Int) (notes : Int) : R (List Int) :=
  (N.words_need_chain many step notes).bind fun _ => (N.words_chain_of many step notes).bind fun c2 => .ok c2
def N.sets_ways (many : Int) (notes : Int) : R Int :=
  (rgR (0 : Int) notes).bind fun r => (forR r (fun (x : Int) (st1 : Int) => (mulR st1 (many - x)).bind fun t => (divR t (x + (1 : Int))).bind fun found => .ok found) (1 : Int)).bind fun so => .ok so
def N.sets_images (many : Int) (value : (List Int)) : R (List (List Int)) :=
  (N.sets_turned many value).bind fun c => (cmp2A (fun (told : (List Int)) => .ok true) (fun (told : (List Int)) => (rgR (0 : Int) many).bind fun r => .ok r) (fun (told : (List Int)) (step : Int) => .ok true) (fun (told : (List Int)) (step : Int) => (N.sets_moved many told step).bind fun c2 => .ok c2) [value, c] []).bind fun l => .ok l
def N.sets_set_classes (many : Int) (notes : Int) : R (List (List Int)) :=
  (N.limits_is_in many (1 : Int) (60 : Int)).bind fun c => (if (!c) = true then .ok true else (N.limits_is_in notes (0 : Int) many).bind fun c2 => .ok (!c2)).bind fun t => if t = true then .bad else (N.sets_ways many notes).bind fun c3 => if (decide (c3 > (2000 : Int))) = true then .bad else (rgR (0 : Int) many).bind fun r => (forR r (fun (x : Int) (st1 : (List (List Int))) => (cmpR st1 (fun (some1 : (List Int)) => .ok (decide ((some1.length : Int) < notes))) fun (some1 : (List Int)) => (catR some1 [x]).bind fun t2 => .ok t2).bind fun l => (catR st1 l).bind fun told => .ok told) (List.map (fun (z : Unit) => []) [()])).bind fun so => (forR so (fun (x2 : (List Int)) (st2 : Ks) => (if (decide ((x2.length : Int) = notes)) = true then (N.sets_images many x2).bind fun c5 => (mmR PySem.W.minD (asTf asI) ((eL (eT eI)) c5)).bind fun m => (kpR st2 m).bind fun found => .ok found else .ok st2 : R Ks).bind fun st3 => .ok st3) ([] : Ks)).bind fun so2 => (sortKs so2).bind fun l2 => .ok l2
def N.sets_twins (many : Int) (notes : Int) : R (List (List (List Int))) :=
  (N.sets_set_classes many notes).bind fun c => ((grpR (fun (x : (List Int)) => (N.sets_interval_counts many x).bind fun c2 => .ok c2) c [])).bind fun groups => (cmpP (vlL groups) (fun (told : (List (List Int))) => (decide ((told.length : Int) > (1 : Int)))) fun (told : (List (List Int))) => told).bind fun l => .ok l
def N.sets_least_image (many : Int) (value : (List Int)) : R (List Int) :=
  (N.sets_need_set many value).bind fun _ => (N.sets_images many value).bind fun c3 => (mmR PySem.W.minD (asTf asI) ((eL (eT eI)) c3)).bind fun m => .ok m
def N.sets_even_set (many : Int) (notes : Int) (shift : Int) : R (List Int) :=
  (N.limits_is_in many (1 : Int) (60 : Int)).bind fun c => (if (!c) = true then .ok true else (N.limits_is_in notes (1 : Int) many).bind fun c2 => (if (!c2) = true then .ok true else (N.limits_is_in shift (0 : Int) (many - (1 : Int))).bind fun c3 => .ok (!c3)).bind fun t => .ok t).bind fun t2 => if t2 = true then .bad else (rgR (0 : Int) notes).bind fun r => (cmpR r (fun _ => .ok true) fun (at1 : Int) => (mulR many at1).bind fun t3 => (divR (t3 + shift) notes).bind fun t4 => (modR t4 many).bind fun t5 => .ok t5).bind fun l => (sortR asI ((eL eI) l)).bind fun l2 => .ok l2
def N.law (script : (List Int)) : R Bool :=
  (catR [([(0 : Int), (2 : Int), (4 : Int), (5 : Int), (7 : Int), (9 : Int), (11 : Int)], ((2 : Int), (5 : Int), (4 : Int), (3 : Int), (6 : Int), (1 : Int), ()), true, true, ((1 : Int), (1 : Int), ()), ()), ([(0 : Int), (2 : Int), (4 : Int), (6 : Int), (8 : Int), (10 : Int)], ((0 : Int), (6 : Int), (0 : Int), (6 : Int), (0 : Int), (3 : Int), ()), false, true, ((6 : Int), (6 : Int), ()), ())] [([(((0 : Int), (3 : Int), (6 : Int), (9 : Int), ()), ((0 : Int), (0 : Int), (4 : Int), (0 : Int), (0 : Int), (2 : Int), ()), false, true, ((4 : Int), (4 : Int), ()), ()).1.1, (((0 : Int), (3 : Int), (6 : Int), (9 : Int), ()), ((0 : Int), (0 : Int), (4 : Int), (0 : Int), (0 : Int), (2 : Int), ()), false, true, ((4 : Int), (4 : Int), ()), ()).1.2.1, (((0 : Int), (3 : Int), (6 : Int), (9 : Int), ()), ((0 : Int), (0 : Int), (4 : Int), (0 : Int), (0 : Int), (2 : Int), ()), false, true, ((4 : Int), (4 : Int), ()), ()).1.2.2.1, (((0 : Int), (3 : Int), (6 : Int), (9 : Int), ()), ((0 : Int), (0 : Int), (4 : Int), (0 : Int), (0 : Int), (2 : Int), ()), false, true, ((4 : Int), (4 : Int), ()), ()).1.2.2.2.1], (((0 : Int), (3 : Int), (6 : Int), (9 : Int), ()), ((0 : Int), (0 : Int), (4 : Int), (0 : Int), (0 : Int), (2 : Int), ()), false, true, ((4 : Int), (4 : Int), ()), ()).2.1, (((0 : Int), (3 : Int), (6 : Int), (9 : Int), ()), ((0 : Int), (0 : Int), (4 : Int), (0 : Int), (0 : Int), (2 : Int), ()), false, true, ((4 : Int), (4 : Int), ()), ()).2.2.1, (((0 : Int), (3 : Int), (6 : Int), (9 : Int), ()), ((0 : Int), (0 : Int), (4 : Int), (0 : Int), (0 : Int), (2 : Int), ()), false, true, ((4 : Int), (4 : Int), ()), ()).2.2.2.1, (((0 : Int), (3 : Int), (6 : Int), (9 : Int), ()), ((0 : Int), (0 : Int), (4 : Int), (0 : Int), (0 : Int), (2 : Int), ()), false, true, ((4 : Int), (4 : Int), ()), ()).2.2.2.2.1, ()), ([(((0 : Int), (1 : Int), (4 : Int), (6 : Int), ()), ((1 : Int), (1 : Int), (1 : Int), (1 : Int), (1 : Int), (1 : Int), ()), false, false, ((1 : Int), (0 : Int), ()), ()).1.1, (((0 : Int), (1 : Int), (4 : Int), (6 : Int), ()), ((1 : Int), (1 : Int), (1 : Int), (1 : Int), (1 : Int), (1 : Int), ()), false, false, ((1 : Int), (0 : Int), ()), ()).1.2.1, (((0 : Int), (1 : Int), (4 : Int), (6 : Int), ()), ((1 : Int), (1 : Int), (1 : Int), (1 : Int), (1 : Int), (1 : Int), ()), false, false, ((1 : Int), (0 : Int), ()), ()).1.2.2.1, (((0 : Int), (1 : Int), (4 : Int), (6 : Int), ()), ((1 : Int), (1 : Int), (1 : Int), (1 : Int), (1 : Int), (1 : Int), ()), false, false, ((1 : Int), (0 : Int), ()), ()).1.2.2.2.1], (((0 : Int), (1 : Int), (4 : Int), (6 : Int), ()), ((1 : Int), (1 : Int), (1 : Int), (1 : Int), (1 : Int), (1 : Int), ()), false, false, ((1 : Int), (0 : Int), ()), ()).2.1, (((0 : Int), (1 : Int), (4 : Int), (6 : Int), ()), ((1 : Int), (1 : Int), (1 : Int), (1 : Int), (1 : Int), (1 : Int), ()), false, false, ((1 : Int), (0 : Int), ()), ()).2.2.1, (((0 : Int), (1 : Int), (4 : Int), (6 : Int), ()), ((1 : Int), (1 : Int), (1 : Int), (1 : Int), (1 : Int), (1 : Int), ()), false, false, ((1 : Int), (0 : Int), ()), ()).2.2.2.1, (((0 : Int), (1 : Int), (4 : Int), (6 : Int), ()), ((1 : Int), (1 : Int), (1 : Int), (1 : Int), (1 : Int), (1 : Int), ()), false, false, ((1 : Int), (0 : Int), ()), ()).2.2.2.2.1, ())]).bind fun known => (catR known [([(0 : Int), (2 : Int), (4 : Int), (7 : Int), (9 : Int)], ((0 : Int), (3 : Int), (2 : Int), (1 : Int), (4 : Int), (0 : Int), ()), false, true, ((1 : Int), (1 : Int), ()), ()), ([(0 : Int), (1 : Int), (3 : Int), (4 : Int), (6 : Int), (7 : Int), (9 : Int), (10 : Int)], ((4 : Int), (4 : Int), (8 : Int), (4 : Int), (4 : Int), (4 : Int), ()), false, true, ((4 : Int), (4 : Int), ()), ())]).bind fun known2 => ((N._law_pick known2).noX).bind fun p1 => (N.sets_interval_counts (12 : Int) p1.1).bind fun c2 => (if (!decide (c2 = [p1.2.1.1, p1.2.1.2.1, p1.2.1.2.2.1, p1.2.1.2.2.2.1, p1.2.1.2.2.2.2.1, p1.2.1.2.2.2.2.2.1])) = true then .ok true else (N.sets_is_deep (12 : Int) p1.1).bind fun c3 => (if (!decide (c3 = p1.2.2.1)) = true then .ok true else (N.sets_is_even (12 : Int) p1.1).bind fun c4 => (if (!decide (c4 = p1.2.2.2.1)) = true then .ok true else (N.sets_symmetries (12 : Int) p1.1).bind fun c5 => .ok (!decide (c5 = p1.2.2.2.2.1))).bind fun t3 => .ok t3).bind fun t4 => .ok t4).bind fun t5 => if t5 = true then .ok false else ((N._law_taken (20 : Int)).noX).bind fun d => ((.ok ((5 : Int) + d) : R Int)).bind fun many => (rgR (1 : Int) many).bind fun r => (cmpR r (fun (at1 : Int) => (N._law_common at1 many).bind fun c6 => .ok (decide (c6 = (1 : Int)))) fun (at1 : Int) => .ok at1).bind fun l => ((N._law_pick_v2 l).noX).bind fun step => ((N._law_taken (2 : Int)).noX).bind fun d2 => ((.ok ((many / (2 : Int)) + d2) : R Int)).bind fun notes => (N.words_chain_notes many step notes).bind fun told => (N.sets_interval_counts many told).bind fun counts => (N.sets_is_deep many told).bind fun c10 => (lsetXR ((eT eI) counts)).bind fun n => if (!decide (c10 = (decide (n = (counts.length : Int))))) = true then .ok false else (if (decide ((many % (2 : Int)) = (1 : Int))) = true then (if (decide (notes = (many / (2 : Int)))) = true then (lsetXR ((eT eI) counts)).bind fun n2 => .ok (!decide (n2 = (counts.length : Int))) else .ok false).bind fun t6 => .ok t6 else .ok false).bind fun t7 => if t7 = true then .ok false else (N.sets_twins (12 : Int) (5 : Int)).bind fun c11 => (if (!decide ((c11.length : Int) = (3 : Int))) = true then .ok true else (N.sets_set_classes (12 : Int) (6 : Int)).bind fun c12 => (if (!decide ((c12.length : Int) = (50 : Int))) = true then .ok true else (N.sets_least_image (12 : Int) [(2 : Int), (5 : Int), (9 : Int)]).bind fun c13 => .ok (!decide (c13 = [(0 : Int), (3 : Int), (7 : Int)]))).bind fun t8 => .ok t8).bind fun t9 => if t9 = true then .ok false else (N.sets_even_set (12 : Int) (7 : Int) (5 : Int)).bind fun c14 => (if (decide (c14 = [(0 : Int), (2 : Int), (4 : Int), (5 : Int), (7 : Int), (9 : Int), (11 : Int)])) = true then (N.sets_even_set (12 : Int) (5 : Int) (0 : Int)).bind fun c15 => (if (decide (c15 = [(0 : Int), (2 : Int), (4 : Int), (7 : Int), (9 : Int)])) = true then (N.sets_even_set (8 : Int) (3 : Int) (2 : Int)).bind fun c16 => .ok (decide (c16 = [(0 : Int), (3 : Int), (6 : Int)])) else .ok false).bind fun t10 => .ok t10 else .ok false).bind fun t11 => .ok t11
theorem n_N__law_pick (things : (List ((List Int) × ((Int × (Int × (Int × (Int × (Int × (Int × Unit)))))) × (Bool × (Bool × ((Int × (Int × Unit)) × Unit))))))) : FnM lw.F__law_pick ((aC (eL (eP (aC (eT eI) (aC (eP (aC eI (aC eI (aC eI (aC eI (aC eI (aC eI aN))))))) (aC eB (aC eB (aC (eP (aC eI (aC eI aN))) aN))))))) aN) (things, ())) (N._law_pick things) (eP (aC (eT eI) (aC (eP (aC eI (aC eI (aC eI (aC eI (aC eI (aC eI aN))))))) (aC eB (aC eB (aC (eP (aC eI (aC eI aN))) aN)))))) := fm_of (show SW (ctxM 2 2 ((aC (eL (eP (aC (eT eI) (aC (eP (aC eI (aC eI (aC eI (aC eI (aC eI (aC eI aN))))))) (aC eB (aC eB (aC (eP (aC eI (aC eI aN))) aN))))))) aN) (things, ()))) lw.R__law_pick (((N._law_taken (things.length : Int)).noX).bind fun d => (atR things d).bind fun t => .ok t) (PM (eP (aC (eT eI) (aC (eP (aC eI (aC eI (aC eI (aC eI (aC eI (aC eI aN))))))) (aC eB (aC eB (aC (eP (aC eI (aC eI aN))) aN))))))) from
  sw_re (Γ0 := [.row true, .is (.fz ((eL (eP (aC (eT eI) (aC (eP (aC eI (aC eI (aC eI (aC eI (aC eI (aC eI aN))))))) (aC eB (aC eB (aC (eP (aC eI (aC eI aN))) aN))))))) things))]) (sw_last (sw_retM (ew_ixA (i := 1) (t := (eL (eP (aC (eT eI) (aC (eP (aC eI (aC eI (aC eI (aC eI (aC eI (aC eI aN))))))) (aC eB (aC eB (aC (eP (aC eI (aC eI aN))) aN))))))) things) (ix_L (eP (aC (eT eI) (aC (eP (aC eI (aC eI (aC eI (aC eI (aC eI (aC eI aN))))))) (aC eB (aC eB (aC (eP (aC eI (aC eI aN))) aN)))))) things) (ew_callM (i := 0) (fun (a : Int × Unit) => n__law_taken a.1) (ew_consp (f1 := eI) (things.length : Int) (fun _ => ew_lenA (i := 1) (t := (eL (eP (aC (eT eI) (aC (eP (aC eI (aC eI (aC eI (aC eI (aC eI (aC eI aN))))))) (aC eB (aC eB (aC (eP (aC eI (aC eI aN))) aN))))))) things) things.length (len_L (eP (aC (eT eI) (aC (eP (aC eI (aC eI (aC eI (aC eI (aC eI (aC eI aN))))))) (aC eB (aC eB (aC (eP (aC eI (aC eI aN))) aN)))))) (things, ()))) (ew_nil)))))))
theorem n_N_limits_is_int (value : Int) : Fn limits.F_is_int ((aC eI aN) (value, ())) (N.limits_is_int value) eB := fn_of (show SW (ctx0 1 1 ((aC eI aN) (value, ()))) limits.R_is_int (.ok (true && (!false))) (PF eB) from
  sw_re (Γ0 := [.is (.fz (eI value))]) (sw_last (sw_retF (ew_andV (b2 := (!false)) (ew_op1 (w := fun _ => true) (f := eB) (fun _ => rfl) (ew_var (i := 0) value eI)) (fun _ => ew_notV (ew_op1 (w := fun _ => false) (f := eB) (fun _ => rfl) (ew_var (i := 0) value eI)))))))
theorem n_N_limits_is_in (value : Int) (least : Int) (most : Int) : Fn limits.F_is_in ((aC eI (aC eI (aC eI aN))) (value, (least, (most, ())))) (N.limits_is_in value least most) eB := fn_of (show SW (ctx0 3 3 ((aC eI (aC eI (aC eI aN))) (value, (least, (most, ()))))) limits.R_is_in ((N.limits_is_int value).bind fun c => .ok (c && (decide (least ≤ value) && decide (value ≤ most)))) (PF eB) from
  sw_re (Γ0 := [.is (.fz (eI value)), .is (.fz (eI least)), .is (.fz (eI most))]) (sw_last (sw_retF (ew_andV (b2 := (decide (least ≤ value) && decide (value ≤ most))) (ew_call (fun (a : Int × Unit) => n_N_limits_is_int a.1) (ew_consv (i := 0) value eI (ew_nil))) (fun _ => ew_chn le_Ib le_Ib (ew_var (i := 1) least eI) (fun _ => ew_var (i := 0) value eI) (fun _ => ew_var (i := 2) most eI))))))
theorem n_N_sets_need_set (many : Int) (value : (List Int)) : Fn sets.F_need_set ((aC eI (aC (eT eI) aN)) (many, (value, ()))) (N.sets_need_set many value) eU := fn_of (show SW (ctx0 4 2 ((aC eI (aC (eT eI) aN)) (many, (value, ())))) sets.R_need_set ((N.limits_is_in many (1 : Int) (60 : Int)).bind fun c => if (!c) = true then .bad else (if (!true) = true then .ok true else (cmpR value (fun _ => .ok true) fun (note : Int) => (N.limits_is_in note (0 : Int) (many - (1 : Int))).bind fun c2 => .ok c2).bind fun l => .ok (!(l.all idB))).bind fun t => if t = true then .bad else (rgR (1 : Int) (value.length : Int)).bind fun r => (cmpR r (fun _ => .ok true) fun (at1 : Int) => (atR value (at1 - (1 : Int))).bind fun t2 => (atR value at1).bind fun t3 => .ok (decide (t2 < t3))).bind fun l2 => if (!(l2.all idB)) = true then .bad else .ok ()) (PF eU) from
  sw_re (Γ0 := [.is (.fz (eI many)), .is (.fz ((eT eI) value)), .is .un, .is .un]) (sw_if (ew_notT (ew_truth (f1 := eB) (w := fun z => z) (fun _ => rfl) (ew_call (fun (a : Int × Int × Int × Unit) => n_N_limits_is_in a.1 a.2.1 a.2.2.1) (ew_consv (i := 0) many eI (ew_consc (1 : Int) eI (ew_consc (60 : Int) eI (ew_nil))))))) (sw_re (Γ0 := [.is (.fz (eI many)), .is (.fz ((eT eI) value)), .is .un, .is .un]) (sw_bad)) (sw_skip (sw_re (Γ0 := [.is (.fz (eI many)), .is (.fz ((eT eI) value)), .is .un, .is .un]) (sw_if (ew_orTxp (!true) (fun _ => ew_notT (ew_truth (f1 := eB) (w := fun z => z) (fun _ => rfl) (ew_op1 (w := fun _ => true) (f := eB) (fun _ => rfl) (ew_var (i := 1) value (eT eI))))) (ew_notT (ew_truth (f1 := eB) (w := fun z => z) (fun _ => rfl) (ew_calF all_L (ew_cons (ew_frzM (ew_lcX (fx := eI) (fe := eB) (e := fun (note : Int) => (N.limits_is_in note (0 : Int) (many - (1 : Int))).bind fun c2 => .ok c2) (Γ' := [.is (.fz (eI many)), .is (.fz ((eT eI) value)), .is .un, .is .un]) (sl := fun (note : Int) => [(3, .is (.fz (eI note)))]) (ew_iTA (ew_var (i := 1) value (eT eI))) (by rfl) (fun note => gw_n) (fun _ => by rfl) (fun note => ew_call (fun (a : Int × Int × Int × Unit) => n_N_limits_is_in a.1 a.2.1 a.2.2.1) (ew_consv (i := 3) note eI (ew_consc (0 : Int) eI (ew_consp (f1 := eI) (many - (1 : Int)) (fun _ => ew_op2b (sub_I) many (fun _ => ew_var (i := 0) many eI) (1 : Int) (fun _ => ew_con (1 : Int) eI)) (ew_nil))))))) (fun _ => ew_nil)))))) (sw_re (Γ0 := [.is (.fz (eI many)), .is (.fz ((eT eI) value)), .is .un, .is .un]) (sw_bad)) (sw_skip (sw_re (Γ0 := [.is (.fz (eI many)), .is (.fz ((eT eI) value)), .is .un, .is .un]) (sw_last (sw_if (ew_notT (ew_truth (f1 := eB) (w := fun z => z) (fun _ => rfl) (ew_calF all_L (ew_cons (ew_frzM (ew_lcX (fx := eI) (fe := eB) (e := fun (at1 : Int) => (atR value (at1 - (1 : Int))).bind fun t2 => (atR value at1).bind fun t3 => .ok (decide (t2 < t3))) (Γ' := [.is (.fz (eI many)), .is (.fz ((eT eI) value)), .is .un, .is .un]) (sl := fun (at1 : Int) => [(2, .is (.fz (eI at1)))]) (ew_calIp rg_2 (ew_consc (1 : Int) eI (ew_consp (f1 := eI) (value.length : Int) (fun _ => ew_lenA (i := 1) (t := (eT eI) value) value.length (len_T eI (value, ()))) (ew_nil)))) (by rfl) (fun at1 => gw_n) (fun _ => by rfl) (fun at1 => ew_op2 (lt_I) (ew_ixA (i := 1) (t := (eT eI) value) (ix_T eI value) (ew_op2b (sub_I) at1 (fun _ => ew_var (i := 2) at1 eI) (1 : Int) (fun _ => ew_con (1 : Int) eI))) (fun _ => ew_ixA (i := 1) (t := (eT eI) value) (ix_T eI value) (ew_var (i := 2) at1 eI))))) (fun _ => ew_nil))))) (sw_re (Γ0 := [.is (.fz (eI many)), .is (.fz ((eT eI) value)), .is .un, .is .un]) (sw_bad)) (sw_skip (sw_endF ())))))))))))
theorem n_N_sets_interval_counts (many : Int) (value : (List Int)) : Fn sets.F_interval_counts ((aC eI (aC (eT eI) aN)) (many, (value, ()))) (N.sets_interval_counts many value) (eT eI) := fn_of (show SW (ctx0 6 2 ((aC eI (aC (eT eI) aN)) (many, (value, ())))) sets.R_interval_counts ((N.sets_need_set many value).bind fun _ => (repL' [(0 : Int)] ((many / (2 : Int)) + (1 : Int))).bind fun found => (forR (enumL 0 value) (fun (x : (Int × (Int × Unit))) (st1 : (List Int)) => (forR (cutL value (some (x.1 + (1 : Int))) none) (fun (x2 : Int) (st2 : (List Int)) => ((.ok (minI (x2 - x.2.1) ((many - x2) + x.2.1)) : R Int)).bind fun w => (augR st2 w fun a => a + (1 : Int)).bind fun found2 => .ok found2) st1).bind fun so => .ok so) found).bind fun so2 => .ok (cutL so2 (some (1 : Int)) none)) (PF (eT eI)) from
  sw_re (Γ0 := [.is (.fz (eI many)), .is (.fz ((eT eI) value)), .is .un, .is .un, .is .un, .is .un]) (sw_expr (ew_call (fun (a : Int × (List Int) × Unit) => n_N_sets_need_set a.1 a.2.1) (ew_consv (i := 0) many eI (ew_consv (i := 1) value (eT eI) (ew_nil)))) (fun _ => sw_re (Γ0 := [.is (.fz (eI many)), .is (.fz ((eT eI) value)), .is .un, .is .un, .is .un, .is .un]) (sw_setO (f := oL eI) (ew_op2Lp (rep_O _) (ew_cst ([(0 : Int)] : (List Int)) (eL eI)) (fun _ => ew_op2b (add_I) (many / (2 : Int)) (fun _ => op2c (div_c 2 (by decide)) (ew_var (i := 0) many eI)) (1 : Int) (fun _ => ew_con (1 : Int) eI))) (fun found => sw_re (Γ0 := [.is (.fz (eI many)), .is (.fz ((eT eI) value)), .is (.ow (oL eI found)), .is .un, .is .un, .is .un]) (sw_for (fx := (eP (aC eI (aC eI aN)))) (Δ := fun (st : (List Int)) => [.is (.fz (eI many)), .is (.fz ((eT eI) value)), .is (.ow (oL eI st)), .nf, .nf, .nf]) (Γ1 := fun (x : (Int × (Int × Unit))) (st1 : (List Int)) => [.is (.fz (eI many)), .is (.fz ((eT eI) value)), .is (.ow (oL eI st1)), .is (.fz (eI x.1)), .is (.fz (eI x.2.1)), .nf]) (body := fun (x : (Int × (Int × Unit))) (st1 : (List Int)) => (forR (cutL value (some (x.1 + (1 : Int))) none) (fun (x2 : Int) (st2 : (List Int)) => ((.ok (minI (x2 - x.2.1) ((many - x2) + x.2.1)) : R Int)).bind fun w => (augR st2 w fun a => a + (1 : Int)).bind fun found2 => .ok found2) st1).bind fun so => .ok so) found (ew_calI (enum_T _) (ew_consv (i := 1) value (eT eI) (ew_nil))) (by exact (Le.k (Le.k (Le.k (Le.u (Le.u (Le.u Le.nil))))))) (fun x st1 => gw_t (gs_cons (gw_n) (gs_cons (gw_n) (gs_nil)))) (fun x st1 => sw_re (Γ0 := [.is (.fz (eI many)), .is (.fz ((eT eI) value)), .is (.ow (oL eI st1)), .is (.fz (eI x.1)), .is (.fz (eI x.2.1)), .nf]) (sw_last (sw_for (fx := eI) (Δ := fun (st : (List Int)) => [.is (.fz (eI many)), .is (.fz ((eT eI) value)), .is (.ow (oL eI st)), .is (.fz (eI x.1)), .is (.fz (eI x.2.1)), .nf]) (Γ1 := fun (x2 : Int) (st2 : (List Int)) => [.is (.fz (eI many)), .is (.fz ((eT eI) value)), .is (.ow (oL eI st2)), .is (.fz (eI x.1)), .is (.fz (eI x.2.1)), .is (.fz (eI x2))]) (body := fun (x2 : Int) (st2 : (List Int)) => ((.ok (minI (x2 - x.2.1) ((many - x2) + x.2.1)) : R Int)).bind fun w => (augR st2 w fun a => a + (1 : Int)).bind fun found2 => .ok found2) st1 (ew_iTA (ew_sl (sl_T _) (ew_var (i := 1) value (eT eI)) (fun _ => ew_poS (ew_op2b (add_I) x.1 (fun _ => ew_var (i := 3) x.1 eI) (1 : Int) (fun _ => ew_con (1 : Int) eI))) (fun _ _ => ew_poN))) (by exact (Le.k (Le.k (Le.k (Le.k (Le.k (Le.k Le.nil))))))) (fun x2 st2 => gw_n) (fun x2 st2 => sw_re (Γ0 := [.is (.fz (eI many)), .is (.fz ((eT eI) value)), .is (.ow (oL eI st2)), .is (.fz (eI x.1)), .is (.fz (eI x.2.1)), .is (.fz (eI x2))]) (sw_last (sw_augI (i := 2) (xs := st2) (w := fun a b => a + b) rfl (ew_bindv (ew_calF min_I (ew_consp (f1 := eI) (x2 - x.2.1) (fun _ => ew_op2b (sub_I) x2 (fun _ => ew_var (i := 5) x2 eI) x.2.1 (fun _ => ew_var (i := 4) x.2.1 eI)) (ew_consp (f1 := eI) ((many - x2) + x.2.1) (fun _ => ew_op2b (add_I) (many - x2) (fun _ => ew_op2b (sub_I) many (fun _ => ew_var (i := 0) many eI) x2 (fun _ => ew_var (i := 5) x2 eI)) x.2.1 (fun _ => ew_var (i := 4) x.2.1 eI)) (ew_nil))))) rfl (fun _ => ew_con (1 : Int) eI) (fun found2 => sw_endL (Δ := fun (st : (List Int)) => [.is (.fz (eI many)), .is (.fz ((eT eI) value)), .is (.ow (oL eI st)), .is (.fz (eI x.1)), .is (.fz (eI x.2.1)), .nf]) found2 (by exact (Le.k (Le.k (Le.k (Le.k (Le.k (Le.n Le.nil))))))))))) (fun so => sw_endL (Δ := fun (st : (List Int)) => [.is (.fz (eI many)), .is (.fz ((eT eI) value)), .is (.ow (oL eI st)), .nf, .nf, .nf]) so (by exact (Le.k (Le.k (Le.k (Le.n (Le.n (Le.k Le.nil))))))))))) (fun so2 => sw_re (Γ0 := [.is (.fz (eI many)), .is (.fz ((eT eI) value)), .is (.ow (oL eI so2)), .nf, .nf, .nf]) (sw_last (sw_retF (ew_calF (tuple_L _) (ew_consp (f1 := (eL eI)) (cutL so2 (some (1 : Int)) none) (fun _ => ew_sl (sl_L _) (ew_frz (i := 2) so2 (eL eI)) (fun _ => ew_poS (ew_con (1 : Int) eI)) (fun _ _ => ew_poN)) (ew_nil))))))))))))
theorem n_N_sets_is_deep (many : Int) (value : (List Int)) : Fn sets.F_is_deep ((aC eI (aC (eT eI) aN)) (many, (value, ()))) (N.sets_is_deep many value) eB := fn_of (show SW (ctx0 3 2 ((aC eI (aC (eT eI) aN)) (many, (value, ())))) sets.R_is_deep ((N.sets_interval_counts many value).bind fun counts => (lsetXR ((eT eI) counts)).bind fun n => .ok (decide (n = (counts.length : Int)))) (PF eB) from
  sw_re (Γ0 := [.is (.fz (eI many)), .is (.fz ((eT eI) value)), .is .un]) (sw_set (ew_call (fun (a : Int × (List Int) × Unit) => n_N_sets_interval_counts a.1 a.2.1) (ew_consv (i := 0) many eI (ew_consv (i := 1) value (eT eI) (ew_nil)))) (fun counts => sw_re (Γ0 := [.is (.fz (eI many)), .is (.fz ((eT eI) value)), .is (.fz ((eT eI) counts))]) (sw_last (sw_retF (ew_op2r (eq_of eqc_I) (counts.length : Int) (fun _ => ew_lenA (i := 2) (t := (eT eI) counts) counts.length (len_T eI (counts, ()))) (ew_lsetX (f1 := (eT eI)) (ew_var (i := 2) counts (eT eI)))))))))
theorem n_N_sets_spectrum (many : Int) (value : (List Int)) (size : Int) : Fn sets.F_spectrum ((aC eI (aC (eT eI) (aC eI aN))) (many, (value, (size, ())))) (N.sets_spectrum many value size) (eT eI) := fn_of (show SW (ctx0 8 3 ((aC eI (aC (eT eI) (aC eI aN))) (many, (value, (size, ()))))) sets.R_spectrum ((forR (enumL 0 value) (fun (x : (Int × (Int × Unit))) (st1 : ((List Int) × (Dic Int Bool))) => (divR (x.1 + size) (st1.1.length : Int)).bind fun t => (modR (x.1 + size) (st1.1.length : Int)).bind fun t2 => (atR st1.1 t2).bind fun t3 => (mulR t many).bind fun t4 => (msR st1.2 ((t3 + t4) - x.2.1) true).bind fun found => .ok (st1.1, found)) (value, ([] : (Dic Int Bool)))).bind fun so => (sMR sortDk asI ((eM (obK kfI) eB) so.2)).bind fun l => .ok l) (PF (eT eI)) from
  sw_re (Γ0 := [.is (.fz (eI many)), .is (.fz ((eT eI) value)), .is (.fz (eI size)), .is .un, .is .un, .is .un, .is .un, .is .un]) (sw_setOp (f := oM (obK kfI) eB) ([] : (Dic Int Bool)) (fun _ => ew_newMK) (sw_re (Γ0 := [.is (.fz (eI many)), .is (.fz ((eT eI) value)), .is (.fz (eI size)), .is (.ow (oM (obK kfI) eB ([] : (Dic Int Bool)))), .is .un, .is .un, .is .un, .is .un]) (sw_for (fx := (eP (aC eI (aC eI aN)))) (Δ := fun (st : ((List Int) × (Dic Int Bool))) => [.is (.fz (eI many)), .is (.fz ((eT eI) st.1)), .is (.fz (eI size)), .is (.ow (oM (obK kfI) eB st.2)), .nf, .nf, .nf, .nf]) (Γ1 := fun (x : (Int × (Int × Unit))) (st1 : ((List Int) × (Dic Int Bool))) => [.is (.fz (eI many)), .is (.fz ((eT eI) st1.1)), .is (.fz (eI size)), .is (.ow (oM (obK kfI) eB st1.2)), .is (.fz (eI x.1)), .is (.fz (eI x.2.1)), .nf, .nf]) (body := fun (x : (Int × (Int × Unit))) (st1 : ((List Int) × (Dic Int Bool))) => (divR (x.1 + size) (st1.1.length : Int)).bind fun t => (modR (x.1 + size) (st1.1.length : Int)).bind fun t2 => (atR st1.1 t2).bind fun t3 => (mulR t many).bind fun t4 => (msR st1.2 ((t3 + t4) - x.2.1) true).bind fun found => .ok (st1.1, found)) (value, ([] : (Dic Int Bool))) (ew_calI (enum_T _) (ew_consv (i := 1) value (eT eI) (ew_nil))) (by exact (Le.k (Le.k (Le.k (Le.k (Le.u (Le.u (Le.u (Le.u Le.nil))))))))) (fun x st1 => gw_t (gs_cons (gw_n) (gs_cons (gw_n) (gs_nil)))) (fun x st1 => sw_re (Γ0 := [.is (.fz (eI many)), .is (.fz ((eT eI) st1.1)), .is (.fz (eI size)), .is (.ow (oM (obK kfI) eB st1.2)), .is (.fz (eI x.1)), .is (.fz (eI x.2.1)), .nf, .nf]) (sw_par (ew_xcons (ew_asT (ew_op2pb (div_I) (x.1 + size) (fun _ => ew_op2b (add_I) x.1 (fun _ => ew_var (i := 4) x.1 eI) size (fun _ => ew_var (i := 2) size eI)) (st1.1.length : Int) (fun _ => ew_lenA (i := 1) (t := (eT eI) st1.1) st1.1.length (len_T eI (st1.1, ()))))) (fun _ => ew_xcons (ew_asT (ew_op2pb (mod_I) (x.1 + size) (fun _ => ew_op2b (add_I) x.1 (fun _ => ew_var (i := 4) x.1 eI) size (fun _ => ew_var (i := 2) size eI)) (st1.1.length : Int) (fun _ => ew_lenA (i := 1) (t := (eT eI) st1.1) st1.1.length (len_T eI (st1.1, ()))))) (fun _ => ew_xnil))) (fun rounds place => sw_re (Γ0 := [.is (.fz (eI many)), .is (.fz ((eT eI) st1.1)), .is (.fz (eI size)), .is (.ow (oM (obK kfI) eB st1.2)), .is (.fz (eI x.1)), .is (.fz (eI x.2.1)), .is (.fz (eI rounds)), .is (.fz (eI place))]) (sw_last (sw_setMv (i := 3) (d := st1.2) (f := eB) (kok_K fk_I) true (fun _ => ew_con true eB) rfl (ew_op2r (sub_I) x.2.1 (fun _ => ew_var (i := 5) x.2.1 eI) (ew_op2 (add_I) (ew_ixA (i := 1) (t := (eT eI) st1.1) (ix_T eI st1.1) (ew_var (i := 7) place eI)) (fun _ => ew_op2pb (mul_I) rounds (fun _ => ew_var (i := 6) rounds eI) many (fun _ => ew_var (i := 0) many eI)))) rfl (fun found => sw_endL (Δ := fun (st : ((List Int) × (Dic Int Bool))) => [.is (.fz (eI many)), .is (.fz ((eT eI) st.1)), .is (.fz (eI size)), .is (.ow (oM (obK kfI) eB st.2)), .nf, .nf, .nf, .nf]) (st1.1, found) (by exact (Le.k (Le.k (Le.k (Le.k (Le.n (Le.n (Le.n (Le.n Le.nil))))))))))))))) (fun so => sw_re (Γ0 := [.is (.fz (eI many)), .is (.fz ((eT eI) so.1)), .is (.fz (eI size)), .is (.ow (oM (obK kfI) eB so.2)), .nf, .nf, .nf, .nf]) (sw_last (sw_retF (ew_calF (tuple_L _) (ew_cons (ew_frzM (ew_sortM (ek := eI) (ob := (obK kfI)) (f := eB) as_I (o := sortDk) (ew_consp (f1 := (eM (obK kfI) eB)) so.2 (fun _ => ew_frz (i := 3) so.2 (eM (obK kfI) eB)) (ew_nil)))) (fun _ => ew_nil))))))))))
theorem n_N_sets_is_even (many : Int) (value : (List Int)) : Fn sets.F_is_even ((aC eI (aC (eT eI) aN)) (many, (value, ()))) (N.sets_is_even many value) eB := fn_of (show SW (ctx0 4 2 ((aC eI (aC (eT eI) aN)) (many, (value, ())))) sets.R_is_even ((N.sets_need_set many value).bind fun _ => (rgR (1 : Int) (value.length : Int)).bind fun r => (cmpR r (fun _ => .ok true) fun (size : Int) => (N.sets_spectrum many value size).bind fun c2 => .ok c2).bind fun l => (cmpR l (fun _ => .ok true) fun (told : (List Int)) => (atR told (-(1 : Int))).bind fun t => (atR told (0 : Int)).bind fun t2 => .ok (decide ((t - t2) < (2 : Int)))).bind fun l2 => .ok (l2.all idB)) (PF eB) from
  sw_re (Γ0 := [.is (.fz (eI many)), .is (.fz ((eT eI) value)), .is .un, .is .un]) (sw_expr (ew_call (fun (a : Int × (List Int) × Unit) => n_N_sets_need_set a.1 a.2.1) (ew_consv (i := 0) many eI (ew_consv (i := 1) value (eT eI) (ew_nil)))) (fun _ => sw_re (Γ0 := [.is (.fz (eI many)), .is (.fz ((eT eI) value)), .is .un, .is .un]) (sw_last (sw_retF (ew_calF all_L (ew_cons (ew_frzM (ew_lcX (fx := (eT eI)) (fe := eB) (e := fun (told : (List Int)) => (atR told (-(1 : Int))).bind fun t => (atR told (0 : Int)).bind fun t2 => .ok (decide ((t - t2) < (2 : Int)))) (Γ' := [.is (.fz (eI many)), .is (.fz ((eT eI) value)), .is .un, .is .un]) (sl := fun (told : (List Int)) => [(2, .is (.fz ((eT eI) told)))]) (ew_iLA (ew_frzM (ew_lcX (fx := eI) (fe := (eT eI)) (e := fun (size : Int) => (N.sets_spectrum many value size).bind fun c2 => .ok c2) (Γ' := [.is (.fz (eI many)), .is (.fz ((eT eI) value)), .is .un, .is .un]) (sl := fun (size : Int) => [(3, .is (.fz (eI size)))]) (ew_calIp rg_2 (ew_consc (1 : Int) eI (ew_consp (f1 := eI) (value.length : Int) (fun _ => ew_lenA (i := 1) (t := (eT eI) value) value.length (len_T eI (value, ()))) (ew_nil)))) (by rfl) (fun size => gw_n) (fun _ => by rfl) (fun size => ew_call (fun (a : Int × (List Int) × Int × Unit) => n_N_sets_spectrum a.1 a.2.1 a.2.2.1) (ew_consv (i := 0) many eI (ew_consv (i := 1) value (eT eI) (ew_consv (i := 3) size eI (ew_nil)))))))) (by rfl) (fun told => gw_n) (fun _ => by rfl) (fun told => ew_op2r (lt_I) (2 : Int) (fun _ => ew_con (2 : Int) eI) (ew_op2 (sub_I) (ew_ixA (i := 2) (t := (eT eI) told) (ix_T eI told) (ew_op1 neg_I (ew_con (1 : Int) eI))) (fun _ => ew_ixA (i := 2) (t := (eT eI) told) (ix_T eI told) (ew_con (0 : Int) eI)))))) (fun _ => ew_nil))))))))
theorem n_N_sets_turned (many : Int) (value : (List Int)) : Fn sets.F_turned ((aC eI (aC (eT eI) aN)) (many, (value, ()))) (N.sets_turned many value) (eT eI) := fn_of (show SW (ctx0 3 2 ((aC eI (aC (eT eI) aN)) (many, (value, ())))) sets.R_turned ((cmpR value (fun _ => .ok true) fun (note : Int) => (modR (-note) many).bind fun t => .ok t).bind fun l => (sortR asI ((eL eI) l)).bind fun l2 => .ok l2) (PF (eT eI)) from
  sw_re (Γ0 := [.is (.fz (eI many)), .is (.fz ((eT eI) value)), .is .un]) (sw_last (sw_retF (ew_calF (tuple_L _) (ew_cons (ew_frzM (ew_sort (f1 := (eL eI)) as_I (ew_cons (ew_frzM (ew_lcX (fx := eI) (fe := eI) (e := fun (note : Int) => (modR (-note) many).bind fun t => .ok t) (Γ' := [.is (.fz (eI many)), .is (.fz ((eT eI) value)), .is .un]) (sl := fun (note : Int) => [(2, .is (.fz (eI note)))]) (ew_iTA (ew_var (i := 1) value (eT eI))) (by rfl) (fun note => gw_n) (fun _ => by rfl) (fun note => ew_op2pb (mod_I) (-note) (fun _ => ew_op1 neg_I (ew_var (i := 2) note eI)) many (fun _ => ew_var (i := 0) many eI)))) (fun _ => ew_nil)))) (fun _ => ew_nil))))))
theorem n_N_sets_moved (many : Int) (value : (List Int)) (step : Int) : Fn sets.F_moved ((aC eI (aC (eT eI) (aC eI aN))) (many, (value, (step, ())))) (N.sets_moved many value step) (eT eI) := fn_of (show SW (ctx0 4 3 ((aC eI (aC (eT eI) (aC eI aN))) (many, (value, (step, ()))))) sets.R_moved ((cmpR value (fun _ => .ok true) fun (note : Int) => (modR (note + step) many).bind fun t => .ok t).bind fun l => (sortR asI ((eL eI) l)).bind fun l2 => .ok l2) (PF (eT eI)) from
  sw_re (Γ0 := [.is (.fz (eI many)), .is (.fz ((eT eI) value)), .is (.fz (eI step)), .is .un]) (sw_last (sw_retF (ew_calF (tuple_L _) (ew_cons (ew_frzM (ew_sort (f1 := (eL eI)) as_I (ew_cons (ew_frzM (ew_lcX (fx := eI) (fe := eI) (e := fun (note : Int) => (modR (note + step) many).bind fun t => .ok t) (Γ' := [.is (.fz (eI many)), .is (.fz ((eT eI) value)), .is (.fz (eI step)), .is .un]) (sl := fun (note : Int) => [(3, .is (.fz (eI note)))]) (ew_iTA (ew_var (i := 1) value (eT eI))) (by rfl) (fun note => gw_n) (fun _ => by rfl) (fun note => ew_op2pb (mod_I) (note + step) (fun _ => ew_op2b (add_I) note (fun _ => ew_var (i := 3) note eI) step (fun _ => ew_var (i := 2) step eI)) many (fun _ => ew_var (i := 0) many eI)))) (fun _ => ew_nil)))) (fun _ => ew_nil))))))
theorem n_N_sets_symmetries (many : Int) (value : (List Int)) : Fn sets.F_symmetries ((aC eI (aC (eT eI) aN)) (many, (value, ()))) (N.sets_symmetries many value) (eP (aC eI (aC eI aN))) := fn_of (show SW (ctx0 5 2 ((aC eI (aC (eT eI) aN)) (many, (value, ())))) sets.R_symmetries ((N.sets_need_set many value).bind fun _ => (N.sets_turned many value).bind fun back => (rgR (0 : Int) many).bind fun r => (cmpR r (fun (step : Int) => (N.sets_moved many value step).bind fun c3 => .ok (decide (c3 = value))) fun (step : Int) => .ok step).bind fun l => ((.ok (l.length : Int) : R Int)).bind fun same => (rgR (0 : Int) many).bind fun r2 => (cmpR r2 (fun (step2 : Int) => (N.sets_moved many back step2).bind fun c4 => .ok (decide (c4 = value))) fun (step2 : Int) => .ok step2).bind fun l2 => .ok (same, (l2.length : Int), ())) (PF (eP (aC eI (aC eI aN)))) from
  sw_re (Γ0 := [.is (.fz (eI many)), .is (.fz ((eT eI) value)), .is .un, .is .un, .is .un]) (sw_expr (ew_call (fun (a : Int × (List Int) × Unit) => n_N_sets_need_set a.1 a.2.1) (ew_consv (i := 0) many eI (ew_consv (i := 1) value (eT eI) (ew_nil)))) (fun _ => sw_re (Γ0 := [.is (.fz (eI many)), .is (.fz ((eT eI) value)), .is .un, .is .un, .is .un]) (sw_set (ew_call (fun (a : Int × (List Int) × Unit) => n_N_sets_turned a.1 a.2.1) (ew_consv (i := 0) many eI (ew_consv (i := 1) value (eT eI) (ew_nil)))) (fun back => sw_re (Γ0 := [.is (.fz (eI many)), .is (.fz ((eT eI) value)), .is (.fz ((eT eI) back)), .is .un, .is .un]) (sw_set (ew_bindv (ew_calF (len_L _) (ew_cons (ew_frzM (ew_lc (fx := eI) (fe := eI) (p := fun (step : Int) => (N.sets_moved many value step).bind fun c3 => .ok (decide (c3 = value))) (e := fun (step : Int) => .ok step) (Γ' := [.is (.fz (eI many)), .is (.fz ((eT eI) value)), .is (.fz ((eT eI) back)), .is .un, .is .un]) (sl := fun (step : Int) => [(4, .is (.fz (eI step)))]) (ew_calIp rg_1 (ew_consv (i := 0) many eI (ew_nil))) (by rfl) (fun step => gw_n) (fun _ => by rfl) (fun step => ew_tst (ew_op2r (eq_of (eqc_dat (dat_T dat_I))) value (fun _ => ew_var (i := 1) value (eT eI)) (ew_call (fun (a : Int × (List Int) × Int × Unit) => n_N_sets_moved a.1 a.2.1 a.2.2.1) (ew_consv (i := 0) many eI (ew_consv (i := 1) value (eT eI) (ew_consv (i := 4) step eI (ew_nil))))))) (fun step => ew_var (i := 4) step eI))) (fun _ => ew_nil)))) (fun same => sw_re (Γ0 := [.is (.fz (eI many)), .is (.fz ((eT eI) value)), .is (.fz ((eT eI) back)), .is (.fz (eI same)), .is .un]) (sw_last (sw_retF (ew_calF (tup_P (by intro _; rfl)) (ew_consv (i := 3) same eI (ew_cons (ew_calF (len_L _) (ew_cons (ew_frzM (ew_lc (fx := eI) (fe := eI) (p := fun (step2 : Int) => (N.sets_moved many back step2).bind fun c4 => .ok (decide (c4 = value))) (e := fun (step2 : Int) => .ok step2) (Γ' := [.is (.fz (eI many)), .is (.fz ((eT eI) value)), .is (.fz ((eT eI) back)), .is (.fz (eI same)), .is .un]) (sl := fun (step2 : Int) => [(4, .is (.fz (eI step2)))]) (ew_calIp rg_1 (ew_consv (i := 0) many eI (ew_nil))) (by rfl) (fun step2 => gw_n) (fun _ => by rfl) (fun step2 => ew_tst (ew_op2r (eq_of (eqc_dat (dat_T dat_I))) value (fun _ => ew_var (i := 1) value (eT eI)) (ew_call (fun (a : Int × (List Int) × Int × Unit) => n_N_sets_moved a.1 a.2.1 a.2.2.1) (ew_consv (i := 0) many eI (ew_consv (i := 2) back (eT eI) (ew_consv (i := 4) step2 eI (ew_nil))))))) (fun step2 => ew_var (i := 4) step2 eI))) (fun _ => ew_nil))) (fun _ => ew_nil)))))))))))))
theorem n_N__law_common (one1 : Int) (other1 : Int) : Fn lw.F__law_common ((aC eI (aC eI aN)) (one1, (other1, ()))) (N._law_common one1 other1) eI := fn_of (show SW (ctx0 2 2 ((aC eI (aC eI aN)) (one1, (other1, ())))) lw.R__law_common ((whileR 1000000 (fun (st1 : (Int × Int)) => .ok (!decide (st1.2 = (0 : Int)))) (fun (st1 : (Int × Int)) => (modR st1.1 st1.2).bind fun t => .ok (st1.2, t)) ((absI one1), (absI other1))).bind fun so => .ok so.1) (PF eI) from
  sw_re (Γ0 := [.is (.fz (eI one1)), .is (.fz (eI other1))]) (sw_parp (absI one1) (absI other1) (fun _ => ew_xcons (ew_asT (ew_calF abs_I (ew_consv (i := 0) one1 eI (ew_nil)))) (fun _ => ew_xcons (ew_asT (ew_calF abs_I (ew_consv (i := 1) other1 eI (ew_nil)))) (fun _ => ew_xnil))) (sw_re (Γ0 := [.is (.fz (eI (absI one1))), .is (.fz (eI (absI other1)))]) (sw_while (Δ := fun (st : (Int × Int)) => [.is (.fz (eI st.1)), .is (.fz (eI st.2))]) (cr := fun (st1 : (Int × Int)) => .ok (!decide (st1.2 = (0 : Int)))) (body := fun (st1 : (Int × Int)) => (modR st1.1 st1.2).bind fun t => .ok (st1.2, t)) ((absI one1), (absI other1)) (by exact (Le.k (Le.k Le.nil))) (fun st1 => ew_tst (ew_op2b (ne_of' eqc_I) st1.2 (fun _ => ew_var (i := 1) st1.2 eI) (0 : Int) (fun _ => ew_con (0 : Int) eI))) (fun st1 => sw_re (Γ0 := [.is (.fz (eI st1.1)), .is (.fz (eI st1.2))]) (sw_last (sw_par (ew_xcons (ew_asT (ew_var (i := 1) st1.2 eI)) (fun _ => ew_xcons (ew_asT (ew_op2pb (mod_I) st1.1 (fun _ => ew_var (i := 0) st1.1 eI) st1.2 (fun _ => ew_var (i := 1) st1.2 eI))) (fun _ => ew_xnil))) (fun one2 other2 => sw_endL (Δ := fun (st : (Int × Int)) => [.is (.fz (eI st.1)), .is (.fz (eI st.2))]) (one2, other2) (by exact (Le.k (Le.k Le.nil))))))) (fun so => sw_re (Γ0 := [.is (.fz (eI so.1)), .is (.fz (eI so.2))]) (sw_last (sw_retF (ew_var (i := 0) so.1 eI))))))))
theorem n_N__law_pick_v2 (things : (List Int)) : FnM lw.F__law_pick ((aC (eL eI) aN) (things, ())) (N._law_pick_v2 things) eI := fm_of (show SW (ctxM 2 2 ((aC (eL eI) aN) (things, ()))) lw.R__law_pick (((N._law_taken (things.length : Int)).noX).bind fun d => (atR things d).bind fun t => .ok t) (PM eI) from
  sw_re (Γ0 := [.row true, .is (.fz ((eL eI) things))]) (sw_last (sw_retM (ew_ixA (i := 1) (t := (eL eI) things) (ix_L eI things) (ew_callM (i := 0) (fun (a : Int × Unit) => n__law_taken a.1) (ew_consp (f1 := eI) (things.length : Int) (fun _ => ew_lenA (i := 1) (t := (eL eI) things) things.length (len_L eI (things, ()))) (ew_nil)))))))
theorem n_N_limits_common (one1 : Int) (other1 : Int) : Fn limits.F_common ((aC eI (aC eI aN)) (one1, (other1, ()))) (N.limits_common one1 other1) eI := fn_of (show SW (ctx0 2 2 ((aC eI (aC eI aN)) (one1, (other1, ())))) limits.R_common ((whileR 1000000 (fun (st1 : (Int × Int)) => .ok (!decide (st1.2 = (0 : Int)))) (fun (st1 : (Int × Int)) => (modR st1.1 st1.2).bind fun t => .ok (st1.2, t)) ((absI one1), (absI other1))).bind fun so => .ok so.1) (PF eI) from
  sw_re (Γ0 := [.is (.fz (eI one1)), .is (.fz (eI other1))]) (sw_parp (absI one1) (absI other1) (fun _ => ew_xcons (ew_asT (ew_calF abs_I (ew_consv (i := 0) one1 eI (ew_nil)))) (fun _ => ew_xcons (ew_asT (ew_calF abs_I (ew_consv (i := 1) other1 eI (ew_nil)))) (fun _ => ew_xnil))) (sw_re (Γ0 := [.is (.fz (eI (absI one1))), .is (.fz (eI (absI other1)))]) (sw_while (Δ := fun (st : (Int × Int)) => [.is (.fz (eI st.1)), .is (.fz (eI st.2))]) (cr := fun (st1 : (Int × Int)) => .ok (!decide (st1.2 = (0 : Int)))) (body := fun (st1 : (Int × Int)) => (modR st1.1 st1.2).bind fun t => .ok (st1.2, t)) ((absI one1), (absI other1)) (by exact (Le.k (Le.k Le.nil))) (fun st1 => ew_tst (ew_op2b (ne_of' eqc_I) st1.2 (fun _ => ew_var (i := 1) st1.2 eI) (0 : Int) (fun _ => ew_con (0 : Int) eI))) (fun st1 => sw_re (Γ0 := [.is (.fz (eI st1.1)), .is (.fz (eI st1.2))]) (sw_last (sw_par (ew_xcons (ew_asT (ew_var (i := 1) st1.2 eI)) (fun _ => ew_xcons (ew_asT (ew_op2pb (mod_I) st1.1 (fun _ => ew_var (i := 0) st1.1 eI) st1.2 (fun _ => ew_var (i := 1) st1.2 eI))) (fun _ => ew_xnil))) (fun one2 other2 => sw_endL (Δ := fun (st : (Int × Int)) => [.is (.fz (eI st.1)), .is (.fz (eI st.2))]) (one2, other2) (by exact (Le.k (Le.k Le.nil))))))) (fun so => sw_re (Γ0 := [.is (.fz (eI so.1)), .is (.fz (eI so.2))]) (sw_last (sw_retF (ew_var (i := 0) so.1 eI))))))))
theorem n_N_words_need_chain (many : Int) (step : Int) (notes : Int) : Fn words.F_need_chain ((aC eI (aC eI (aC eI aN))) (many, (step, (notes, ())))) (N.words_need_chain many step notes) eU := fn_of (show SW (ctx0 3 3 ((aC eI (aC eI (aC eI aN))) (many, (step, (notes, ()))))) words.R_need_chain ((N.limits_is_in many (1 : Int) (200 : Int)).bind fun c => (if (!c) = true then .ok true else (N.limits_is_in step (0 : Int) (many - (1 : Int))).bind fun c2 => .ok (!c2)).bind fun t => if t = true then .bad else (N.limits_common many step).bind fun c3 => (divR many c3).bind fun t2 => (N.limits_is_in notes (1 : Int) t2).bind fun c4 => if (!c4) = true then .bad else .ok ()) (PF eU) from
  sw_re (Γ0 := [.is (.fz (eI many)), .is (.fz (eI step)), .is (.fz (eI notes))]) (sw_if (ew_orTx (ew_notT (ew_truth (f1 := eB) (w := fun z => z) (fun _ => rfl) (ew_call (fun (a : Int × Int × Int × Unit) => n_N_limits_is_in a.1 a.2.1 a.2.2.1) (ew_consv (i := 0) many eI (ew_consc (1 : Int) eI (ew_consc (200 : Int) eI (ew_nil))))))) (ew_notT (ew_truth (f1 := eB) (w := fun z => z) (fun _ => rfl) (ew_call (fun (a : Int × Int × Int × Unit) => n_N_limits_is_in a.1 a.2.1 a.2.2.1) (ew_consv (i := 1) step eI (ew_consc (0 : Int) eI (ew_consp (f1 := eI) (many - (1 : Int)) (fun _ => ew_op2b (sub_I) many (fun _ => ew_var (i := 0) many eI) (1 : Int) (fun _ => ew_con (1 : Int) eI)) (ew_nil)))))))) (sw_re (Γ0 := [.is (.fz (eI many)), .is (.fz (eI step)), .is (.fz (eI notes))]) (sw_bad)) (sw_skip (sw_re (Γ0 := [.is (.fz (eI many)), .is (.fz (eI step)), .is (.fz (eI notes))]) (sw_last (sw_if (ew_notT (ew_truth (f1 := eB) (w := fun z => z) (fun _ => rfl) (ew_call (fun (a : Int × Int × Int × Unit) => n_N_limits_is_in a.1 a.2.1 a.2.2.1) (ew_consv (i := 2) notes eI (ew_consc (1 : Int) eI (ew_cons (ew_op2pl (div_I) many (fun _ => ew_var (i := 0) many eI) (ew_call (fun (a : Int × Int × Unit) => n_N_limits_common a.1 a.2.1) (ew_consv (i := 0) many eI (ew_consv (i := 1) step eI (ew_nil))))) (fun _ => ew_nil))))))) (sw_re (Γ0 := [.is (.fz (eI many)), .is (.fz (eI step)), .is (.fz (eI notes))]) (sw_bad)) (sw_skip (sw_endF ()))))))))
theorem n_N_words_chain_of (many : Int) (step : Int) (notes : Int) : Fn words.F_chain_of ((aC eI (aC eI (aC eI aN))) (many, (step, (notes, ())))) (N.words_chain_of many step notes) (eL eI) := fn_of (show SW (ctx0 4 3 ((aC eI (aC eI (aC eI aN))) (many, (step, (notes, ()))))) words.R_chain_of ((rgR (0 : Int) notes).bind fun r => (cmpR r (fun _ => .ok true) fun (at1 : Int) => (mulR at1 step).bind fun t => (modR t many).bind fun t2 => .ok t2).bind fun l => (sortR asI ((eL eI) l)).bind fun l2 => .ok l2) (PF (eL eI)) from
  sw_re (Γ0 := [.is (.fz (eI many)), .is (.fz (eI step)), .is (.fz (eI notes)), .is .un]) (sw_last (sw_retF (ew_frzM (ew_sort (f1 := (eL eI)) as_I (ew_cons (ew_frzM (ew_lcX (fx := eI) (fe := eI) (e := fun (at1 : Int) => (mulR at1 step).bind fun t => (modR t many).bind fun t2 => .ok t2) (Γ' := [.is (.fz (eI many)), .is (.fz (eI step)), .is (.fz (eI notes)), .is .un]) (sl := fun (at1 : Int) => [(3, .is (.fz (eI at1)))]) (ew_calIp rg_1 (ew_consv (i := 2) notes eI (ew_nil))) (by rfl) (fun at1 => gw_n) (fun _ => by rfl) (fun at1 => ew_op2pr (mod_I) many (fun _ => ew_var (i := 0) many eI) (ew_op2pb (mul_I) at1 (fun _ => ew_var (i := 3) at1 eI) step (fun _ => ew_var (i := 1) step eI))))) (fun _ => ew_nil)))))))
theorem n_N_words_chain_notes (many : Int) (step : Int) (notes : Int) : Fn words.F_chain_notes ((aC eI (aC eI (aC eI aN))) (many, (step, (notes, ())))) (N.words_chain_notes many step notes) (eT eI) := fn_of (show SW (ctx0 3 3 ((aC eI (aC eI (aC eI aN))) (many, (step, (notes, ()))))) words.R_chain_notes ((N.words_need_chain many step notes).bind fun _ => (N.words_chain_of many step notes).bind fun c2 => .ok c2) (PF (eT eI)) from
  sw_re (Γ0 := [.is (.fz (eI many)), .is (.fz (eI step)), .is (.fz (eI notes))]) (sw_expr (ew_call (fun (a : Int × Int × Int × Unit) => n_N_words_need_chain a.1 a.2.1 a.2.2.1) (ew_consv (i := 0) many eI (ew_consv (i := 1) step eI (ew_consv (i := 2) notes eI (ew_nil))))) (fun _ => sw_re (Γ0 := [.is (.fz (eI many)), .is (.fz (eI step)), .is (.fz (eI notes))]) (sw_last (sw_retF (ew_calF (tuple_L _) (ew_cons (ew_call (fun (a : Int × Int × Int × Unit) => n_N_words_chain_of a.1 a.2.1 a.2.2.1) (ew_consv (i := 0) many eI (ew_consv (i := 1) step eI (ew_consv (i := 2) notes eI (ew_nil))))) (fun _ => ew_nil))))))))
theorem n_N_sets_ways (many : Int) (notes : Int) : Fn sets.F_ways ((aC eI (aC eI aN)) (many, (notes, ()))) (N.sets_ways many notes) eI := fn_of (show SW (ctx0 4 2 ((aC eI (aC eI aN)) (many, (notes, ())))) sets.R_ways ((rgR (0 : Int) notes).bind fun r => (forR r (fun (x : Int) (st1 : Int) => (mulR st1 (many - x)).bind fun t => (divR t (x + (1 : Int))).bind fun found => .ok found) (1 : Int)).bind fun so => .ok so) (PF eI) from
  sw_re (Γ0 := [.is (.fz (eI many)), .is (.fz (eI notes)), .is .un, .is .un]) (sw_setp (1 : Int) (fun _ => ew_con (1 : Int) eI) (sw_re (Γ0 := [.is (.fz (eI many)), .is (.fz (eI notes)), .is (.fz (eI (1 : Int))), .is .un]) (sw_for (fx := eI) (Δ := fun (st : Int) => [.is (.fz (eI many)), .is (.fz (eI notes)), .is (.fz (eI st)), .nf]) (Γ1 := fun (x : Int) (st1 : Int) => [.is (.fz (eI many)), .is (.fz (eI notes)), .is (.fz (eI st1)), .is (.fz (eI x))]) (body := fun (x : Int) (st1 : Int) => (mulR st1 (many - x)).bind fun t => (divR t (x + (1 : Int))).bind fun found => .ok found) (1 : Int) (ew_calIp rg_1 (ew_consv (i := 1) notes eI (ew_nil))) (by exact (Le.k (Le.k (Le.k (Le.u Le.nil))))) (fun x st1 => gw_n) (fun x st1 => sw_re (Γ0 := [.is (.fz (eI many)), .is (.fz (eI notes)), .is (.fz (eI st1)), .is (.fz (eI x))]) (sw_last (sw_set (ew_op2pr (div_I) (x + (1 : Int)) (fun _ => ew_op2b (add_I) x (fun _ => ew_var (i := 3) x eI) (1 : Int) (fun _ => ew_con (1 : Int) eI)) (ew_op2pb (mul_I) st1 (fun _ => ew_var (i := 2) st1 eI) (many - x) (fun _ => ew_op2b (sub_I) many (fun _ => ew_var (i := 0) many eI) x (fun _ => ew_var (i := 3) x eI)))) (fun found => sw_endL (Δ := fun (st : Int) => [.is (.fz (eI many)), .is (.fz (eI notes)), .is (.fz (eI st)), .nf]) found (by exact (Le.k (Le.k (Le.k (Le.n Le.nil))))))))) (fun so => sw_re (Γ0 := [.is (.fz (eI many)), .is (.fz (eI notes)), .is (.fz (eI so)), .nf]) (sw_last (sw_retF (ew_var (i := 2) so eI))))))))
theorem n_N_sets_images (many : Int) (value : (List Int)) : Fn sets.F_images ((aC eI (aC (eT eI) aN)) (many, (value, ()))) (N.sets_images many value) (eL (eT eI)) := fn_of (show SW (ctx0 4 2 ((aC eI (aC (eT eI) aN)) (many, (value, ())))) sets.R_images ((N.sets_turned many value).bind fun c => (cmp2A (fun (told : (List Int)) => .ok true) (fun (told : (List Int)) => (rgR (0 : Int) many).bind fun r => .ok r) (fun (told : (List Int)) (step : Int) => .ok true) (fun (told : (List Int)) (step : Int) => (N.sets_moved many told step).bind fun c2 => .ok c2) [value, c] []).bind fun l => .ok l) (PF (eL (eT eI))) from
  sw_re (Γ0 := [.is (.fz (eI many)), .is (.fz ((eT eI) value)), .is .un, .is .un]) (sw_last (sw_retF (ew_frzM (ew_lc2 (fx := (eT eI)) (fx1 := eI) (fe := (eT eI)) (sl := fun (told : (List Int)) => [(3, .is .un), (2, .is (.fz ((eT eI) told)))]) (sl1 := fun (told : (List Int)) (step : Int) => [(3, .is (.fz (eI step)))]) (p := fun (told : (List Int)) => .ok true) (sr := fun (told : (List Int)) => (rgR (0 : Int) many).bind fun r => .ok r) (p1 := fun (told : (List Int)) (step : Int) => .ok true) (e := fun (told : (List Int)) (step : Int) => (N.sets_moved many told step).bind fun c2 => .ok c2) (ew_iTA (ew_co (fun (z : ((List Int) × ((List Int) × Unit))) => [z.1, z.2.1]) (fun _ => rfl) (ew_calF (tup_P (by intro _; rfl)) (ew_consv (i := 1) value (eT eI) (ew_cons (ew_call (fun (a : Int × (List Int) × Unit) => n_N_sets_turned a.1 a.2.1) (ew_consv (i := 0) many eI (ew_consv (i := 1) value (eT eI) (ew_nil)))) (fun _ => ew_nil)))))) (by rfl) (fun told => gw_n) (fun _ => by rfl) (fun told => ew_yes) (fun told => ew_calIp rg_1 (ew_consv (i := 0) many eI (ew_nil))) (fun _ => by rfl) (fun told step => gw_n) (fun _ _ => by rfl) (fun told step => ew_yes) (fun told step => ew_call (fun (a : Int × (List Int) × Int × Unit) => n_N_sets_moved a.1 a.2.1 a.2.2.1) (ew_consv (i := 0) many eI (ew_consv (i := 2) told (eT eI) (ew_consv (i := 3) step eI (ew_nil))))))))))
theorem n_N_sets_set_classes (many : Int) (notes : Int) : Fn sets.F_set_classes ((aC eI (aC eI aN)) (many, (notes, ()))) (N.sets_set_classes many notes) (eL (eT eI)) := fn_of (show SW (ctx0 6 2 ((aC eI (aC eI aN)) (many, (notes, ())))) sets.R_set_classes ((N.limits_is_in many (1 : Int) (60 : Int)).bind fun c => (if (!c) = true then .ok true else (N.limits_is_in notes (0 : Int) many).bind fun c2 => .ok (!c2)).bind fun t => if t = true then .bad else (N.sets_ways many notes).bind fun c3 => if (decide (c3 > (2000 : Int))) = true then .bad else (rgR (0 : Int) many).bind fun r => (forR r (fun (x : Int) (st1 : (List (List Int))) => (cmpR st1 (fun (some1 : (List Int)) => .ok (decide ((some1.length : Int) < notes))) fun (some1 : (List Int)) => (catR some1 [x]).bind fun t2 => .ok t2).bind fun l => (catR st1 l).bind fun told => .ok told) (List.map (fun (z : Unit) => []) [()])).bind fun so => (forR so (fun (x2 : (List Int)) (st2 : Ks) => (if (decide ((x2.length : Int) = notes)) = true then (N.sets_images many x2).bind fun c5 => (mmR PySem.W.minD (asTf asI) ((eL (eT eI)) c5)).bind fun m => (kpR st2 m).bind fun found => .ok found else .ok st2 : R Ks).bind fun st3 => .ok st3) ([] : Ks)).bind fun so2 => (sortKs so2).bind fun l2 => .ok l2) (PF (eL (eT eI))) from
  sw_re (Γ0 := [.is (.fz (eI many)), .is (.fz (eI notes)), .is .un, .is .un, .is .un, .is .un]) (sw_if (ew_orTx (ew_notT (ew_truth (f1 := eB) (w := fun z => z) (fun _ => rfl) (ew_call (fun (a : Int × Int × Int × Unit) => n_N_limits_is_in a.1 a.2.1 a.2.2.1) (ew_consv (i := 0) many eI (ew_consc (1 : Int) eI (ew_consc (60 : Int) eI (ew_nil))))))) (ew_notT (ew_truth (f1 := eB) (w := fun z => z) (fun _ => rfl) (ew_call (fun (a : Int × Int × Int × Unit) => n_N_limits_is_in a.1 a.2.1 a.2.2.1) (ew_consv (i := 1) notes eI (ew_consc (0 : Int) eI (ew_consv (i := 0) many eI (ew_nil)))))))) (sw_re (Γ0 := [.is (.fz (eI many)), .is (.fz (eI notes)), .is .un, .is .un, .is .un, .is .un]) (sw_bad)) (sw_skip (sw_re (Γ0 := [.is (.fz (eI many)), .is (.fz (eI notes)), .is .un, .is .un, .is .un, .is .un]) (sw_if (ew_tst (ew_op2r (gt_I) (2000 : Int) (fun _ => ew_con (2000 : Int) eI) (ew_call (fun (a : Int × Int × Unit) => n_N_sets_ways a.1 a.2.1) (ew_consv (i := 0) many eI (ew_consv (i := 1) notes eI (ew_nil)))))) (sw_re (Γ0 := [.is (.fz (eI many)), .is (.fz (eI notes)), .is .un, .is .un, .is .un, .is .un]) (sw_bad)) (sw_skip (sw_re (Γ0 := [.is (.fz (eI many)), .is (.fz (eI notes)), .is .un, .is .un, .is .un, .is .un]) (sw_parp ([] : Ks) [()] (fun _ => ew_xcons (ew_asO (f := oKs) (ew_newKs)) (fun _ => ew_xcons (ew_asT (ew_cst ([()] : (List Unit)) (eL (eP aN)))) (fun _ => ew_xnil))) (sw_re (Γ0 := [.is (.fz (eI many)), .is (.fz (eI notes)), .is .un, .is .un, .is (.ow (oKs ([] : Ks))), .is (.fz ((eL (eP aN)) [()]))]) (sw_for (fx := eI) (Δ := fun (st : (List (List Int))) => [.is (.fz (eI many)), .is (.fz (eI notes)), .nf, .nf, .is (.ow (oKs ([] : Ks))), .is (.fz ((eL (eT eI)) st))]) (Γ1 := fun (x : Int) (st1 : (List (List Int))) => [.is (.fz (eI many)), .is (.fz (eI notes)), .is (.fz (eI x)), .nf, .is (.ow (oKs ([] : Ks))), .is (.fz ((eL (eT eI)) st1))]) (body := fun (x : Int) (st1 : (List (List Int))) => (cmpR st1 (fun (some1 : (List Int)) => .ok (decide ((some1.length : Int) < notes))) fun (some1 : (List Int)) => (catR some1 [x]).bind fun t2 => .ok t2).bind fun l => (catR st1 l).bind fun told => .ok told) (List.map (fun (z : Unit) => []) [()]) (ew_calIp rg_1 (ew_consv (i := 0) many eI (ew_nil))) (by exact (Le.k (Le.k (Le.u (Le.u (Le.k (Le.k Le.nil))))))) (fun x st1 => gw_n) (fun x st1 => sw_re (Γ0 := [.is (.fz (eI many)), .is (.fz (eI notes)), .is (.fz (eI x)), .nf, .is (.ow (oKs ([] : Ks))), .is (.fz ((eL (eT eI)) st1))]) (sw_last (sw_set (ew_op2pl (add_L _) st1 (fun _ => ew_var (i := 5) st1 (eL (eT eI))) (ew_frzM (ew_lc (fx := (eT eI)) (fe := (eT eI)) (p := fun (some1 : (List Int)) => .ok (decide ((some1.length : Int) < notes))) (e := fun (some1 : (List Int)) => (catR some1 [x]).bind fun t2 => .ok t2) (sl := fun (some1 : (List Int)) => [(3, .is (.fz ((eT eI) some1)))]) (ew_iLA (ew_var (i := 5) st1 (eL (eT eI)))) (by rfl) (fun some1 => gw_n) (fun _ => by rfl) (fun some1 => ew_tst (ew_op2b (lt_I) (some1.length : Int) (fun _ => ew_lenA (i := 3) (t := (eT eI) some1) some1.length (len_T eI (some1, ()))) notes (fun _ => ew_var (i := 1) notes eI))) (fun some1 => ew_op2pb (add_T _) some1 (fun _ => ew_var (i := 3) some1 (eT eI)) [x] (fun _ => ew_co (fun (z : (Int × Unit)) => [z.1]) (fun _ => rfl) (ew_calF (tup_P (by intro _; rfl)) (ew_consv (i := 2) x eI (ew_nil)))))))) (fun told => sw_endL (Δ := fun (st : (List (List Int))) => [.is (.fz (eI many)), .is (.fz (eI notes)), .nf, .nf, .is (.ow (oKs ([] : Ks))), .is (.fz ((eL (eT eI)) st))]) told (by exact (Le.k (Le.k (Le.n (Le.k (Le.k (Le.k Le.nil))))))))))) (fun so => sw_re (Γ0 := [.is (.fz (eI many)), .is (.fz (eI notes)), .nf, .nf, .is (.ow (oKs ([] : Ks))), .is (.fz ((eL (eT eI)) so))]) (sw_for (fx := (eT eI)) (Δ := fun (st : Ks) => [.is (.fz (eI many)), .is (.fz (eI notes)), .nf, .nf, .is (.ow (oKs st)), .is (.fz ((eL (eT eI)) so))]) (Γ1 := fun (x2 : (List Int)) (st2 : Ks) => [.is (.fz (eI many)), .is (.fz (eI notes)), .nf, .is (.fz ((eT eI) x2)), .is (.ow (oKs st2)), .is (.fz ((eL (eT eI)) so))]) (body := fun (x2 : (List Int)) (st2 : Ks) => (if (decide ((x2.length : Int) = notes)) = true then (N.sets_images many x2).bind fun c5 => (mmR PySem.W.minD (asTf asI) ((eL (eT eI)) c5)).bind fun m => (kpR st2 m).bind fun found => .ok found else .ok st2 : R Ks).bind fun st3 => .ok st3) ([] : Ks) (ew_iLA (ew_var (i := 5) so (eL (eT eI)))) (by exact (Le.k (Le.k (Le.k (Le.k (Le.k (Le.k Le.nil))))))) (fun x2 st2 => gw_n) (fun x2 st2 => sw_re (Γ0 := [.is (.fz (eI many)), .is (.fz (eI notes)), .nf, .is (.fz ((eT eI) x2)), .is (.ow (oKs st2)), .is (.fz ((eL (eT eI)) so))]) (sw_last (sw_ifjp (decide ((x2.length : Int) = notes)) (fun _ => ew_tst (ew_op2b (eq_of eqc_I) (x2.length : Int) (fun _ => ew_lenA (i := 3) (t := (eT eI) x2) x2.length (len_T eI (x2, ()))) notes (fun _ => ew_var (i := 1) notes eI))) (sw_re (Γ0 := [.is (.fz (eI many)), .is (.fz (eI notes)), .nf, .is (.fz ((eT eI) x2)), .is (.ow (oKs st2)), .is (.fz ((eL (eT eI)) so))]) (sw_last (sw_setK (i := 4) (d := st2) rfl (ew_mm (f1 := (eL (eT eI))) (as_Tf as_I) (ew_cons (ew_call (fun (a : Int × (List Int) × Unit) => n_N_sets_images a.1 a.2.1) (ew_consv (i := 0) many eI (ew_consv (i := 3) x2 (eT eI) (ew_nil)))) (fun _ => ew_nil))) rfl (fun found => sw_endN (Δ := fun (st : Ks) => [.is (.fz (eI many)), .is (.fz (eI notes)), .nf, .is (.fz ((eT eI) x2)), .is (.ow (oKs st)), .is (.fz ((eL (eT eI)) so))]) found (by exact (Le.k (Le.k (Le.k (Le.k (Le.k (Le.k Le.nil))))))))))) (sw_endN (Δ := fun (st : Ks) => [.is (.fz (eI many)), .is (.fz (eI notes)), .nf, .is (.fz ((eT eI) x2)), .is (.ow (oKs st)), .is (.fz ((eL (eT eI)) so))]) st2 (by exact (Le.k (Le.k (Le.k (Le.k (Le.k (Le.k Le.nil)))))))) (fun st3 => sw_endL (Δ := fun (st : Ks) => [.is (.fz (eI many)), .is (.fz (eI notes)), .nf, .nf, .is (.ow (oKs st)), .is (.fz ((eL (eT eI)) so))]) st3 (by exact (Le.k (Le.k (Le.k (Le.n (Le.k (Le.k Le.nil))))))))))) (fun so2 => sw_re (Γ0 := [.is (.fz (eI many)), .is (.fz (eI notes)), .nf, .nf, .is (.ow (oKs so2)), .is (.fz ((eL (eT eI)) so))]) (sw_last (sw_retF (ew_frzM (ew_sortK (ew_consp (f1 := eKs) so2 (fun _ => ew_frz (i := 4) so2 eKs) (ew_nil)))))))))))))))))))
theorem n_N_sets_twins (many : Int) (notes : Int) : Fn sets.F_twins ((aC eI (aC eI aN)) (many, (notes, ()))) (N.sets_twins many notes) (eL (eL (eT eI))) := fn_of (show SW (ctx0 4 2 ((aC eI (aC eI aN)) (many, (notes, ())))) sets.R_twins ((N.sets_set_classes many notes).bind fun c => ((grpR (fun (x : (List Int)) => (N.sets_interval_counts many x).bind fun c2 => .ok c2) c [])).bind fun groups => (cmpP (vlL groups) (fun (told : (List (List Int))) => (decide ((told.length : Int) > (1 : Int)))) fun (told : (List (List Int))) => told).bind fun l => .ok l) (PF (eL (eL (eT eI)))) from
  sw_re (Γ0 := [.is (.fz (eI many)), .is (.fz (eI notes)), .is .un, .is .un]) (sw_setOp (f := oM (obT (kfT kfI)) (eL (eT eI))) ([] : (Dic (List Int) (List (List Int)))) (fun _ => ew_newMT) (sw_re (Γ0 := [.is (.fz (eI many)), .is (.fz (eI notes)), .is (.ow (oM (obT (kfT kfI)) (eL (eT eI)) ([] : (Dic (List Int) (List (List Int)))))), .is .un]) (sw_grp (gi := 2) (i := 3) (kf := (kfT kfI)) (f := (eT eI)) (ek := (eT eI)) (Γ1 := [.is (.fz (eI many)), .is (.fz (eI notes)), .is (.ow (oM (obT (kfT kfI)) (eL (eT eI)) ([] : (Dic (List Int) (List (List Int)))))), .is .un]) (Δ := [.is (.fz (eI many)), .is (.fz (eI notes)), .is (.raw 0), .nf]) (Γ2 := fun (x : (List Int)) => [.is (.fz (eI many)), .is (.fz (eI notes)), .is (.raw 0), .is (.fz ((eT eI) x))]) (kr := fun (x : (List Int)) => (N.sets_interval_counts many x).bind fun c2 => .ok c2) (ew_iLA (ew_call (fun (a : Int × Int × Unit) => n_N_sets_set_classes a.1 a.2.1) (ew_consv (i := 0) many eI (ew_consv (i := 1) notes eI (ew_nil))))) (tk_T fk_I) rfl (by rfl) (by exact (Le.k (Le.k (Le.k (Le.u Le.nil))))) rfl (by rfl) (fun x => gw_n) (fun _ => rfl) (fun _ => rfl) (fun x => ew_call (fun (a : Int × (List Int) × Unit) => n_N_sets_interval_counts a.1 a.2.1) (ew_consv (i := 0) many eI (ew_consv (i := 3) x (eT eI) (ew_nil)))) (fun x => (by exact (Le.k (Le.k (Le.k (Le.n Le.nil)))))) (fun groups => sw_re (Γ0 := [.is (.fz (eI many)), .is (.fz (eI notes)), .is (.ow (oM (obT (kfT kfI)) (eL (eT eI)) groups)), .nf]) (sw_last (sw_retF (ew_frzM (ew_lcP (fx := (eL (eT eI))) (fe := (eL (eT eI))) (p := fun (told : (List (List Int))) => (decide ((told.length : Int) > (1 : Int)))) (e := fun (told : (List (List Int))) => told) (sl := fun (told : (List (List Int))) => [(3, .is (.fz ((eL (eT eI)) told)))]) (ew_vlM (i := 2) groups) (by rfl) (fun told => gw_n) (fun _ => by rfl) (fun told => ew_tst (ew_op2b (gt_I) (told.length : Int) (fun _ => ew_lenA (i := 3) (t := (eL (eT eI)) told) told.length (len_L (eT eI) (told, ()))) (1 : Int) (fun _ => ew_con (1 : Int) eI))) (fun told => ew_var (i := 3) told (eL (eT eI))))))))))))
theorem n_N_sets_least_image (many : Int) (value : (List Int)) : Fn sets.F_least_image ((aC eI (aC (eT eI) aN)) (many, (value, ()))) (N.sets_least_image many value) (eT eI) := fn_of (show SW (ctx0 2 2 ((aC eI (aC (eT eI) aN)) (many, (value, ())))) sets.R_least_image ((N.sets_need_set many value).bind fun _ => (N.sets_images many value).bind fun c3 => (mmR PySem.W.minD (asTf asI) ((eL (eT eI)) c3)).bind fun m => .ok m) (PF (eT eI)) from
  sw_re (Γ0 := [.is (.fz (eI many)), .is (.fz ((eT eI) value))]) (sw_expr (ew_call (fun (a : Int × (List Int) × Unit) => n_N_sets_need_set a.1 a.2.1) (ew_consv (i := 0) many eI (ew_consv (i := 1) value (eT eI) (ew_nil)))) (fun _ => sw_re (Γ0 := [.is (.fz (eI many)), .is (.fz ((eT eI) value))]) (sw_last (sw_retF (ew_mm (f1 := (eL (eT eI))) (as_Tf as_I) (ew_cons (ew_call (fun (a : Int × (List Int) × Unit) => n_N_sets_images a.1 a.2.1) (ew_consv (i := 0) many eI (ew_consv (i := 1) value (eT eI) (ew_nil)))) (fun _ => ew_nil))))))))
theorem n_N_sets_even_set (many : Int) (notes : Int) (shift : Int) : Fn sets.F_even_set ((aC eI (aC eI (aC eI aN))) (many, (notes, (shift, ())))) (N.sets_even_set many notes shift) (eT eI) := fn_of (show SW (ctx0 4 3 ((aC eI (aC eI (aC eI aN))) (many, (notes, (shift, ()))))) sets.R_even_set ((N.limits_is_in many (1 : Int) (60 : Int)).bind fun c => (if (!c) = true then .ok true else (N.limits_is_in notes (1 : Int) many).bind fun c2 => (if (!c2) = true then .ok true else (N.limits_is_in shift (0 : Int) (many - (1 : Int))).bind fun c3 => .ok (!c3)).bind fun t => .ok t).bind fun t2 => if t2 = true then .bad else (rgR (0 : Int) notes).bind fun r => (cmpR r (fun _ => .ok true) fun (at1 : Int) => (mulR many at1).bind fun t3 => (divR (t3 + shift) notes).bind fun t4 => (modR t4 many).bind fun t5 => .ok t5).bind fun l => (sortR asI ((eL eI) l)).bind fun l2 => .ok l2) (PF (eT eI)) from
  sw_re (Γ0 := [.is (.fz (eI many)), .is (.fz (eI notes)), .is (.fz (eI shift)), .is .un]) (sw_if (ew_orTx (ew_notT (ew_truth (f1 := eB) (w := fun z => z) (fun _ => rfl) (ew_call (fun (a : Int × Int × Int × Unit) => n_N_limits_is_in a.1 a.2.1 a.2.2.1) (ew_consv (i := 0) many eI (ew_consc (1 : Int) eI (ew_consc (60 : Int) eI (ew_nil))))))) (ew_orTx (ew_notT (ew_truth (f1 := eB) (w := fun z => z) (fun _ => rfl) (ew_call (fun (a : Int × Int × Int × Unit) => n_N_limits_is_in a.1 a.2.1 a.2.2.1) (ew_consv (i := 1) notes eI (ew_consc (1 : Int) eI (ew_consv (i := 0) many eI (ew_nil))))))) (ew_notT (ew_truth (f1 := eB) (w := fun z => z) (fun _ => rfl) (ew_call (fun (a : Int × Int × Int × Unit) => n_N_limits_is_in a.1 a.2.1 a.2.2.1) (ew_consv (i := 2) shift eI (ew_consc (0 : Int) eI (ew_consp (f1 := eI) (many - (1 : Int)) (fun _ => ew_op2b (sub_I) many (fun _ => ew_var (i := 0) many eI) (1 : Int) (fun _ => ew_con (1 : Int) eI)) (ew_nil))))))))) (sw_re (Γ0 := [.is (.fz (eI many)), .is (.fz (eI notes)), .is (.fz (eI shift)), .is .un]) (sw_bad)) (sw_skip (sw_re (Γ0 := [.is (.fz (eI many)), .is (.fz (eI notes)), .is (.fz (eI shift)), .is .un]) (sw_last (sw_retF (ew_calF (tuple_L _) (ew_cons (ew_frzM (ew_sort (f1 := (eL eI)) as_I (ew_cons (ew_frzM (ew_lcX (fx := eI) (fe := eI) (e := fun (at1 : Int) => (mulR many at1).bind fun t3 => (divR (t3 + shift) notes).bind fun t4 => (modR t4 many).bind fun t5 => .ok t5) (Γ' := [.is (.fz (eI many)), .is (.fz (eI notes)), .is (.fz (eI shift)), .is .un]) (sl := fun (at1 : Int) => [(3, .is (.fz (eI at1)))]) (ew_calIp rg_1 (ew_consv (i := 1) notes eI (ew_nil))) (by rfl) (fun at1 => gw_n) (fun _ => by rfl) (fun at1 => ew_op2pr (mod_I) many (fun _ => ew_var (i := 0) many eI) (ew_op2pr (div_I) notes (fun _ => ew_var (i := 1) notes eI) (ew_op2r (add_I) shift (fun _ => ew_var (i := 2) shift eI) (ew_op2pb (mul_I) many (fun _ => ew_var (i := 0) many eI) at1 (fun _ => ew_var (i := 3) at1 eI))))))) (fun _ => ew_nil)))) (fun _ => ew_nil)))))))))
theorem n_N_law (script : (List Int)) : Fn lw.F_law ((aC (eZ eI) aN) (script, ())) (N.law script) eB := fn_of (show SW (ctx0 13 1 ((aC (eZ eI) aN) (script, ()))) lw.R_law ((catR [([(0 : Int), (2 : Int), (4 : Int), (5 : Int), (7 : Int), (9 : Int), (11 : Int)], ((2 : Int), (5 : Int), (4 : Int), (3 : Int), (6 : Int), (1 : Int), ()), true, true, ((1 : Int), (1 : Int), ()), ()), ([(0 : Int), (2 : Int), (4 : Int), (6 : Int), (8 : Int), (10 : Int)], ((0 : Int), (6 : Int), (0 : Int), (6 : Int), (0 : Int), (3 : Int), ()), false, true, ((6 : Int), (6 : Int), ()), ())] [([(((0 : Int), (3 : Int), (6 : Int), (9 : Int), ()), ((0 : Int), (0 : Int), (4 : Int), (0 : Int), (0 : Int), (2 : Int), ()), false, true, ((4 : Int), (4 : Int), ()), ()).1.1, (((0 : Int), (3 : Int), (6 : Int), (9 : Int), ()), ((0 : Int), (0 : Int), (4 : Int), (0 : Int), (0 : Int), (2 : Int), ()), false, true, ((4 : Int), (4 : Int), ()), ()).1.2.1, (((0 : Int), (3 : Int), (6 : Int), (9 : Int), ()), ((0 : Int), (0 : Int), (4 : Int), (0 : Int), (0 : Int), (2 : Int), ()), false, true, ((4 : Int), (4 : Int), ()), ()).1.2.2.1, (((0 : Int), (3 : Int), (6 : Int), (9 : Int), ()), ((0 : Int), (0 : Int), (4 : Int), (0 : Int), (0 : Int), (2 : Int), ()), false, true, ((4 : Int), (4 : Int), ()), ()).1.2.2.2.1], (((0 : Int), (3 : Int), (6 : Int), (9 : Int), ()), ((0 : Int), (0 : Int), (4 : Int), (0 : Int), (0 : Int), (2 : Int), ()), false, true, ((4 : Int), (4 : Int), ()), ()).2.1, (((0 : Int), (3 : Int), (6 : Int), (9 : Int), ()), ((0 : Int), (0 : Int), (4 : Int), (0 : Int), (0 : Int), (2 : Int), ()), false, true, ((4 : Int), (4 : Int), ()), ()).2.2.1, (((0 : Int), (3 : Int), (6 : Int), (9 : Int), ()), ((0 : Int), (0 : Int), (4 : Int), (0 : Int), (0 : Int), (2 : Int), ()), false, true, ((4 : Int), (4 : Int), ()), ()).2.2.2.1, (((0 : Int), (3 : Int), (6 : Int), (9 : Int), ()), ((0 : Int), (0 : Int), (4 : Int), (0 : Int), (0 : Int), (2 : Int), ()), false, true, ((4 : Int), (4 : Int), ()), ()).2.2.2.2.1, ()), ([(((0 : Int), (1 : Int), (4 : Int), (6 : Int), ()), ((1 : Int), (1 : Int), (1 : Int), (1 : Int), (1 : Int), (1 : Int), ()), false, false, ((1 : Int), (0 : Int), ()), ()).1.1, (((0 : Int), (1 : Int), (4 : Int), (6 : Int), ()), ((1 : Int), (1 : Int), (1 : Int), (1 : Int), (1 : Int), (1 : Int), ()), false, false, ((1 : Int), (0 : Int), ()), ()).1.2.1, (((0 : Int), (1 : Int), (4 : Int), (6 : Int), ()), ((1 : Int), (1 : Int), (1 : Int), (1 : Int), (1 : Int), (1 : Int), ()), false, false, ((1 : Int), (0 : Int), ()), ()).1.2.2.1, (((0 : Int), (1 : Int), (4 : Int), (6 : Int), ()), ((1 : Int), (1 : Int), (1 : Int), (1 : Int), (1 : Int), (1 : Int), ()), false, false, ((1 : Int), (0 : Int), ()), ()).1.2.2.2.1], (((0 : Int), (1 : Int), (4 : Int), (6 : Int), ()), ((1 : Int), (1 : Int), (1 : Int), (1 : Int), (1 : Int), (1 : Int), ()), false, false, ((1 : Int), (0 : Int), ()), ()).2.1, (((0 : Int), (1 : Int), (4 : Int), (6 : Int), ()), ((1 : Int), (1 : Int), (1 : Int), (1 : Int), (1 : Int), (1 : Int), ()), false, false, ((1 : Int), (0 : Int), ()), ()).2.2.1, (((0 : Int), (1 : Int), (4 : Int), (6 : Int), ()), ((1 : Int), (1 : Int), (1 : Int), (1 : Int), (1 : Int), (1 : Int), ()), false, false, ((1 : Int), (0 : Int), ()), ()).2.2.2.1, (((0 : Int), (1 : Int), (4 : Int), (6 : Int), ()), ((1 : Int), (1 : Int), (1 : Int), (1 : Int), (1 : Int), (1 : Int), ()), false, false, ((1 : Int), (0 : Int), ()), ()).2.2.2.2.1, ())]).bind fun known => (catR known [([(0 : Int), (2 : Int), (4 : Int), (7 : Int), (9 : Int)], ((0 : Int), (3 : Int), (2 : Int), (1 : Int), (4 : Int), (0 : Int), ()), false, true, ((1 : Int), (1 : Int), ()), ()), ([(0 : Int), (1 : Int), (3 : Int), (4 : Int), (6 : Int), (7 : Int), (9 : Int), (10 : Int)], ((4 : Int), (4 : Int), (8 : Int), (4 : Int), (4 : Int), (4 : Int), ()), false, true, ((4 : Int), (4 : Int), ()), ())]).bind fun known2 => ((N._law_pick known2).noX).bind fun p1 => (N.sets_interval_counts (12 : Int) p1.1).bind fun c2 => (if (!decide (c2 = [p1.2.1.1, p1.2.1.2.1, p1.2.1.2.2.1, p1.2.1.2.2.2.1, p1.2.1.2.2.2.2.1, p1.2.1.2.2.2.2.2.1])) = true then .ok true else (N.sets_is_deep (12 : Int) p1.1).bind fun c3 => (if (!decide (c3 = p1.2.2.1)) = true then .ok true else (N.sets_is_even (12 : Int) p1.1).bind fun c4 => (if (!decide (c4 = p1.2.2.2.1)) = true then .ok true else (N.sets_symmetries (12 : Int) p1.1).bind fun c5 => .ok (!decide (c5 = p1.2.2.2.2.1))).bind fun t3 => .ok t3).bind fun t4 => .ok t4).bind fun t5 => if t5 = true then .ok false else ((N._law_taken (20 : Int)).noX).bind fun d => ((.ok ((5 : Int) + d) : R Int)).bind fun many => (rgR (1 : Int) many).bind fun r => (cmpR r (fun (at1 : Int) => (N._law_common at1 many).bind fun c6 => .ok (decide (c6 = (1 : Int)))) fun (at1 : Int) => .ok at1).bind fun l => ((N._law_pick_v2 l).noX).bind fun step => ((N._law_taken (2 : Int)).noX).bind fun d2 => ((.ok ((many / (2 : Int)) + d2) : R Int)).bind fun notes => (N.words_chain_notes many step notes).bind fun told => (N.sets_interval_counts many told).bind fun counts => (N.sets_is_deep many told).bind fun c10 => (lsetXR ((eT eI) counts)).bind fun n => if (!decide (c10 = (decide (n = (counts.length : Int))))) = true then .ok false else (if (decide ((many % (2 : Int)) = (1 : Int))) = true then (if (decide (notes = (many / (2 : Int)))) = true then (lsetXR ((eT eI) counts)).bind fun n2 => .ok (!decide (n2 = (counts.length : Int))) else .ok false).bind fun t6 => .ok t6 else .ok false).bind fun t7 => if t7 = true then .ok false else (N.sets_twins (12 : Int) (5 : Int)).bind fun c11 => (if (!decide ((c11.length : Int) = (3 : Int))) = true then .ok true else (N.sets_set_classes (12 : Int) (6 : Int)).bind fun c12 => (if (!decide ((c12.length : Int) = (50 : Int))) = true then .ok true else (N.sets_least_image (12 : Int) [(2 : Int), (5 : Int), (9 : Int)]).bind fun c13 => .ok (!decide (c13 = [(0 : Int), (3 : Int), (7 : Int)]))).bind fun t8 => .ok t8).bind fun t9 => if t9 = true then .ok false else (N.sets_even_set (12 : Int) (7 : Int) (5 : Int)).bind fun c14 => (if (decide (c14 = [(0 : Int), (2 : Int), (4 : Int), (5 : Int), (7 : Int), (9 : Int), (11 : Int)])) = true then (N.sets_even_set (12 : Int) (5 : Int) (0 : Int)).bind fun c15 => (if (decide (c15 = [(0 : Int), (2 : Int), (4 : Int), (7 : Int), (9 : Int)])) = true then (N.sets_even_set (8 : Int) (3 : Int) (2 : Int)).bind fun c16 => .ok (decide (c16 = [(0 : Int), (3 : Int), (6 : Int)])) else .ok false).bind fun t10 => .ok t10 else .ok false).bind fun t11 => .ok t11) (PF eB) from
  sw_re (Γ0 := [.is (.fz ((eZ eI) script)), .is .un, .is .un, .is .un, .is .un, .is .un, .is .un, .is .un, .is .un, .is .un, .is .un, .is .un, .is .un]) (sw_row (j := 0) (cs := script) rfl (by decide) (by decide) (by rfl) (sw_re (Γ0 := [.is (.fz ((eZ eI) script)), .row false, .is .un, .is .un, .is .un, .is .un, .is .un, .is .un, .is .un, .is .un, .is .un, .is .un, .is .un]) (sw_setp [([(0 : Int), (2 : Int), (4 : Int), (5 : Int), (7 : Int), (9 : Int), (11 : Int)], ((2 : Int), (5 : Int), (4 : Int), (3 : Int), (6 : Int), (1 : Int), ()), true, true, ((1 : Int), (1 : Int), ()), ()), ([(0 : Int), (2 : Int), (4 : Int), (6 : Int), (8 : Int), (10 : Int)], ((0 : Int), (6 : Int), (0 : Int), (6 : Int), (0 : Int), (3 : Int), ()), false, true, ((6 : Int), (6 : Int), ()), ())] (fun _ => ew_cst ([([(0 : Int), (2 : Int), (4 : Int), (5 : Int), (7 : Int), (9 : Int), (11 : Int)], ((2 : Int), (5 : Int), (4 : Int), (3 : Int), (6 : Int), (1 : Int), ()), true, true, ((1 : Int), (1 : Int), ()), ()), ([(0 : Int), (2 : Int), (4 : Int), (6 : Int), (8 : Int), (10 : Int)], ((0 : Int), (6 : Int), (0 : Int), (6 : Int), (0 : Int), (3 : Int), ()), false, true, ((6 : Int), (6 : Int), ()), ())] : (List ((List Int) × ((Int × (Int × (Int × (Int × (Int × (Int × Unit)))))) × (Bool × (Bool × ((Int × (Int × Unit)) × Unit))))))) (eL (eP (aC (eT eI) (aC (eP (aC eI (aC eI (aC eI (aC eI (aC eI (aC eI aN))))))) (aC eB (aC eB (aC (eP (aC eI (aC eI aN))) aN)))))))) (sw_re (Γ0 := [.is (.fz ((eZ eI) script)), .row false, .is (.fz ((eL (eP (aC (eT eI) (aC (eP (aC eI (aC eI (aC eI (aC eI (aC eI (aC eI aN))))))) (aC eB (aC eB (aC (eP (aC eI (aC eI aN))) aN))))))) [([(0 : Int), (2 : Int), (4 : Int), (5 : Int), (7 : Int), (9 : Int), (11 : Int)], ((2 : Int), (5 : Int), (4 : Int), (3 : Int), (6 : Int), (1 : Int), ()), true, true, ((1 : Int), (1 : Int), ()), ()), ([(0 : Int), (2 : Int), (4 : Int), (6 : Int), (8 : Int), (10 : Int)], ((0 : Int), (6 : Int), (0 : Int), (6 : Int), (0 : Int), (3 : Int), ()), false, true, ((6 : Int), (6 : Int), ()), ())])), .is .un, .is .un, .is .un, .is .un, .is .un, .is .un, .is .un, .is .un, .is .un, .is .un]) (sw_set (ew_op2pb (add_L _) [([(0 : Int), (2 : Int), (4 : Int), (5 : Int), (7 : Int), (9 : Int), (11 : Int)], ((2 : Int), (5 : Int), (4 : Int), (3 : Int), (6 : Int), (1 : Int), ()), true, true, ((1 : Int), (1 : Int), ()), ()), ([(0 : Int), (2 : Int), (4 : Int), (6 : Int), (8 : Int), (10 : Int)], ((0 : Int), (6 : Int), (0 : Int), (6 : Int), (0 : Int), (3 : Int), ()), false, true, ((6 : Int), (6 : Int), ()), ())] (fun _ => ew_var (i := 2) [([(0 : Int), (2 : Int), (4 : Int), (5 : Int), (7 : Int), (9 : Int), (11 : Int)], ((2 : Int), (5 : Int), (4 : Int), (3 : Int), (6 : Int), (1 : Int), ()), true, true, ((1 : Int), (1 : Int), ()), ()), ([(0 : Int), (2 : Int), (4 : Int), (6 : Int), (8 : Int), (10 : Int)], ((0 : Int), (6 : Int), (0 : Int), (6 : Int), (0 : Int), (3 : Int), ()), false, true, ((6 : Int), (6 : Int), ()), ())] (eL (eP (aC (eT eI) (aC (eP (aC eI (aC eI (aC eI (aC eI (aC eI (aC eI aN))))))) (aC eB (aC eB (aC (eP (aC eI (aC eI aN))) aN)))))))) [([(((0 : Int), (3 : Int), (6 : Int), (9 : Int), ()), ((0 : Int), (0 : Int), (4 : Int), (0 : Int), (0 : Int), (2 : Int), ()), false, true, ((4 : Int), (4 : Int), ()), ()).1.1, (((0 : Int), (3 : Int), (6 : Int), (9 : Int), ()), ((0 : Int), (0 : Int), (4 : Int), (0 : Int), (0 : Int), (2 : Int), ()), false, true, ((4 : Int), (4 : Int), ()), ()).1.2.1, (((0 : Int), (3 : Int), (6 : Int), (9 : Int), ()), ((0 : Int), (0 : Int), (4 : Int), (0 : Int), (0 : Int), (2 : Int), ()), false, true, ((4 : Int), (4 : Int), ()), ()).1.2.2.1, (((0 : Int), (3 : Int), (6 : Int), (9 : Int), ()), ((0 : Int), (0 : Int), (4 : Int), (0 : Int), (0 : Int), (2 : Int), ()), false, true, ((4 : Int), (4 : Int), ()), ()).1.2.2.2.1], (((0 : Int), (3 : Int), (6 : Int), (9 : Int), ()), ((0 : Int), (0 : Int), (4 : Int), (0 : Int), (0 : Int), (2 : Int), ()), false, true, ((4 : Int), (4 : Int), ()), ()).2.1, (((0 : Int), (3 : Int), (6 : Int), (9 : Int), ()), ((0 : Int), (0 : Int), (4 : Int), (0 : Int), (0 : Int), (2 : Int), ()), false, true, ((4 : Int), (4 : Int), ()), ()).2.2.1, (((0 : Int), (3 : Int), (6 : Int), (9 : Int), ()), ((0 : Int), (0 : Int), (4 : Int), (0 : Int), (0 : Int), (2 : Int), ()), false, true, ((4 : Int), (4 : Int), ()), ()).2.2.2.1, (((0 : Int), (3 : Int), (6 : Int), (9 : Int), ()), ((0 : Int), (0 : Int), (4 : Int), (0 : Int), (0 : Int), (2 : Int), ()), false, true, ((4 : Int), (4 : Int), ()), ()).2.2.2.2.1, ()), ([(((0 : Int), (1 : Int), (4 : Int), (6 : Int), ()), ((1 : Int), (1 : Int), (1 : Int), (1 : Int), (1 : Int), (1 : Int), ()), false, false, ((1 : Int), (0 : Int), ()), ()).1.1, (((0 : Int), (1 : Int), (4 : Int), (6 : Int), ()), ((1 : Int), (1 : Int), (1 : Int), (1 : Int), (1 : Int), (1 : Int), ()), false, false, ((1 : Int), (0 : Int), ()), ()).1.2.1, (((0 : Int), (1 : Int), (4 : Int), (6 : Int), ()), ((1 : Int), (1 : Int), (1 : Int), (1 : Int), (1 : Int), (1 : Int), ()), false, false, ((1 : Int), (0 : Int), ()), ()).1.2.2.1, (((0 : Int), (1 : Int), (4 : Int), (6 : Int), ()), ((1 : Int), (1 : Int), (1 : Int), (1 : Int), (1 : Int), (1 : Int), ()), false, false, ((1 : Int), (0 : Int), ()), ()).1.2.2.2.1], (((0 : Int), (1 : Int), (4 : Int), (6 : Int), ()), ((1 : Int), (1 : Int), (1 : Int), (1 : Int), (1 : Int), (1 : Int), ()), false, false, ((1 : Int), (0 : Int), ()), ()).2.1, (((0 : Int), (1 : Int), (4 : Int), (6 : Int), ()), ((1 : Int), (1 : Int), (1 : Int), (1 : Int), (1 : Int), (1 : Int), ()), false, false, ((1 : Int), (0 : Int), ()), ()).2.2.1, (((0 : Int), (1 : Int), (4 : Int), (6 : Int), ()), ((1 : Int), (1 : Int), (1 : Int), (1 : Int), (1 : Int), (1 : Int), ()), false, false, ((1 : Int), (0 : Int), ()), ()).2.2.2.1, (((0 : Int), (1 : Int), (4 : Int), (6 : Int), ()), ((1 : Int), (1 : Int), (1 : Int), (1 : Int), (1 : Int), (1 : Int), ()), false, false, ((1 : Int), (0 : Int), ()), ()).2.2.2.2.1, ())] (fun _ => ew_cst ([([(((0 : Int), (3 : Int), (6 : Int), (9 : Int), ()), ((0 : Int), (0 : Int), (4 : Int), (0 : Int), (0 : Int), (2 : Int), ()), false, true, ((4 : Int), (4 : Int), ()), ()).1.1, (((0 : Int), (3 : Int), (6 : Int), (9 : Int), ()), ((0 : Int), (0 : Int), (4 : Int), (0 : Int), (0 : Int), (2 : Int), ()), false, true, ((4 : Int), (4 : Int), ()), ()).1.2.1, (((0 : Int), (3 : Int), (6 : Int), (9 : Int), ()), ((0 : Int), (0 : Int), (4 : Int), (0 : Int), (0 : Int), (2 : Int), ()), false, true, ((4 : Int), (4 : Int), ()), ()).1.2.2.1, (((0 : Int), (3 : Int), (6 : Int), (9 : Int), ()), ((0 : Int), (0 : Int), (4 : Int), (0 : Int), (0 : Int), (2 : Int), ()), false, true, ((4 : Int), (4 : Int), ()), ()).1.2.2.2.1], (((0 : Int), (3 : Int), (6 : Int), (9 : Int), ()), ((0 : Int), (0 : Int), (4 : Int), (0 : Int), (0 : Int), (2 : Int), ()), false, true, ((4 : Int), (4 : Int), ()), ()).2.1, (((0 : Int), (3 : Int), (6 : Int), (9 : Int), ()), ((0 : Int), (0 : Int), (4 : Int), (0 : Int), (0 : Int), (2 : Int), ()), false, true, ((4 : Int), (4 : Int), ()), ()).2.2.1, (((0 : Int), (3 : Int), (6 : Int), (9 : Int), ()), ((0 : Int), (0 : Int), (4 : Int), (0 : Int), (0 : Int), (2 : Int), ()), false, true, ((4 : Int), (4 : Int), ()), ()).2.2.2.1, (((0 : Int), (3 : Int), (6 : Int), (9 : Int), ()), ((0 : Int), (0 : Int), (4 : Int), (0 : Int), (0 : Int), (2 : Int), ()), false, true, ((4 : Int), (4 : Int), ()), ()).2.2.2.2.1, ()), ([(((0 : Int), (1 : Int), (4 : Int), (6 : Int), ()), ((1 : Int), (1 : Int), (1 : Int), (1 : Int), (1 : Int), (1 : Int), ()), false, false, ((1 : Int), (0 : Int), ()), ()).1.1, (((0 : Int), (1 : Int), (4 : Int), (6 : Int), ()), ((1 : Int), (1 : Int), (1 : Int), (1 : Int), (1 : Int), (1 : Int), ()), false, false, ((1 : Int), (0 : Int), ()), ()).1.2.1, (((0 : Int), (1 : Int), (4 : Int), (6 : Int), ()), ((1 : Int), (1 : Int), (1 : Int), (1 : Int), (1 : Int), (1 : Int), ()), false, false, ((1 : Int), (0 : Int), ()), ()).1.2.2.1, (((0 : Int), (1 : Int), (4 : Int), (6 : Int), ()), ((1 : Int), (1 : Int), (1 : Int), (1 : Int), (1 : Int), (1 : Int), ()), false, false, ((1 : Int), (0 : Int), ()), ()).1.2.2.2.1], (((0 : Int), (1 : Int), (4 : Int), (6 : Int), ()), ((1 : Int), (1 : Int), (1 : Int), (1 : Int), (1 : Int), (1 : Int), ()), false, false, ((1 : Int), (0 : Int), ()), ()).2.1, (((0 : Int), (1 : Int), (4 : Int), (6 : Int), ()), ((1 : Int), (1 : Int), (1 : Int), (1 : Int), (1 : Int), (1 : Int), ()), false, false, ((1 : Int), (0 : Int), ()), ()).2.2.1, (((0 : Int), (1 : Int), (4 : Int), (6 : Int), ()), ((1 : Int), (1 : Int), (1 : Int), (1 : Int), (1 : Int), (1 : Int), ()), false, false, ((1 : Int), (0 : Int), ()), ()).2.2.2.1, (((0 : Int), (1 : Int), (4 : Int), (6 : Int), ()), ((1 : Int), (1 : Int), (1 : Int), (1 : Int), (1 : Int), (1 : Int), ()), false, false, ((1 : Int), (0 : Int), ()), ()).2.2.2.2.1, ())] : (List ((List Int) × ((Int × (Int × (Int × (Int × (Int × (Int × Unit)))))) × (Bool × (Bool × ((Int × (Int × Unit)) × Unit))))))) (eL (eP (aC (eT eI) (aC (eP (aC eI (aC eI (aC eI (aC eI (aC eI (aC eI aN))))))) (aC eB (aC eB (aC (eP (aC eI (aC eI aN))) aN))))))))) (fun known => sw_re (Γ0 := [.is (.fz ((eZ eI) script)), .row false, .is (.fz ((eL (eP (aC (eT eI) (aC (eP (aC eI (aC eI (aC eI (aC eI (aC eI (aC eI aN))))))) (aC eB (aC eB (aC (eP (aC eI (aC eI aN))) aN))))))) known)), .is .un, .is .un, .is .un, .is .un, .is .un, .is .un, .is .un, .is .un, .is .un, .is .un]) (sw_set (ew_op2pb (add_L _) known (fun _ => ew_var (i := 2) known (eL (eP (aC (eT eI) (aC (eP (aC eI (aC eI (aC eI (aC eI (aC eI (aC eI aN))))))) (aC eB (aC eB (aC (eP (aC eI (aC eI aN))) aN)))))))) [([(0 : Int), (2 : Int), (4 : Int), (7 : Int), (9 : Int)], ((0 : Int), (3 : Int), (2 : Int), (1 : Int), (4 : Int), (0 : Int), ()), false, true, ((1 : Int), (1 : Int), ()), ()), ([(0 : Int), (1 : Int), (3 : Int), (4 : Int), (6 : Int), (7 : Int), (9 : Int), (10 : Int)], ((4 : Int), (4 : Int), (8 : Int), (4 : Int), (4 : Int), (4 : Int), ()), false, true, ((4 : Int), (4 : Int), ()), ())] (fun _ => ew_cst ([([(0 : Int), (2 : Int), (4 : Int), (7 : Int), (9 : Int)], ((0 : Int), (3 : Int), (2 : Int), (1 : Int), (4 : Int), (0 : Int), ()), false, true, ((1 : Int), (1 : Int), ()), ()), ([(0 : Int), (1 : Int), (3 : Int), (4 : Int), (6 : Int), (7 : Int), (9 : Int), (10 : Int)], ((4 : Int), (4 : Int), (8 : Int), (4 : Int), (4 : Int), (4 : Int), ()), false, true, ((4 : Int), (4 : Int), ()), ())] : (List ((List Int) × ((Int × (Int × (Int × (Int × (Int × (Int × Unit)))))) × (Bool × (Bool × ((Int × (Int × Unit)) × Unit))))))) (eL (eP (aC (eT eI) (aC (eP (aC eI (aC eI (aC eI (aC eI (aC eI (aC eI aN))))))) (aC eB (aC eB (aC (eP (aC eI (aC eI aN))) aN))))))))) (fun known2 => sw_re (Γ0 := [.is (.fz ((eZ eI) script)), .row false, .is (.fz ((eL (eP (aC (eT eI) (aC (eP (aC eI (aC eI (aC eI (aC eI (aC eI (aC eI aN))))))) (aC eB (aC eB (aC (eP (aC eI (aC eI aN))) aN))))))) known2)), .is .un, .is .un, .is .un, .is .un, .is .un, .is .un, .is .un, .is .un, .is .un, .is .un]) (sw_asg (ew_callM (i := 1) (fun (a : (List ((List Int) × ((Int × (Int × (Int × (Int × (Int × (Int × Unit)))))) × (Bool × (Bool × ((Int × (Int × Unit)) × Unit)))))) × Unit) => n_N__law_pick a.1) (ew_consv (i := 2) known2 (eL (eP (aC (eT eI) (aC (eP (aC eI (aC eI (aC eI (aC eI (aC eI (aC eI aN))))))) (aC eB (aC eB (aC (eP (aC eI (aC eI aN))) aN))))))) (ew_nil))) (fun p1 => gw_t (gs_cons (gw_n) (gs_cons (gw_n) (gs_cons (gw_n) (gs_cons (gw_n) (gs_cons (gw_n) (gs_nil))))))) (fun p1 => sw_re (Γ0 := [.is (.fz ((eZ eI) script)), .row false, .is (.fz ((eL (eP (aC (eT eI) (aC (eP (aC eI (aC eI (aC eI (aC eI (aC eI (aC eI aN))))))) (aC eB (aC eB (aC (eP (aC eI (aC eI aN))) aN))))))) known2)), .is .un, .is .un, .is .un, .is .un, .is (.fz ((eP (aC eI (aC eI (aC eI (aC eI (aC eI (aC eI aN))))))) p1.2.1)), .is (.fz ((eT eI) p1.1)), .is (.fz (eB p1.2.2.1)), .is (.fz (eB p1.2.2.2.1)), .is (.fz ((eP (aC eI (aC eI aN))) p1.2.2.2.2.1)), .is .un]) (sw_if (ew_orTx (ew_tst (ew_op2r (ne_of' (eqc_dat (dat_T dat_I))) [p1.2.1.1, p1.2.1.2.1, p1.2.1.2.2.1, p1.2.1.2.2.2.1, p1.2.1.2.2.2.2.1, p1.2.1.2.2.2.2.2.1] (fun _ => ew_co (fun (z : (Int × (Int × (Int × (Int × (Int × (Int × Unit))))))) => [z.1, z.2.1, z.2.2.1, z.2.2.2.1, z.2.2.2.2.1, z.2.2.2.2.2.1]) (fun _ => rfl) (ew_var (i := 7) p1.2.1 (eP (aC eI (aC eI (aC eI (aC eI (aC eI (aC eI aN))))))))) (ew_call (fun (a : Int × (List Int) × Unit) => n_N_sets_interval_counts a.1 a.2.1) (ew_consc (12 : Int) eI (ew_consv (i := 8) p1.1 (eT eI) (ew_nil)))))) (ew_orTx (ew_tst (ew_op2r (ne_of' eqc_B) p1.2.2.1 (fun _ => ew_var (i := 9) p1.2.2.1 eB) (ew_call (fun (a : Int × (List Int) × Unit) => n_N_sets_is_deep a.1 a.2.1) (ew_consc (12 : Int) eI (ew_consv (i := 8) p1.1 (eT eI) (ew_nil)))))) (ew_orTx (ew_tst (ew_op2r (ne_of' eqc_B) p1.2.2.2.1 (fun _ => ew_var (i := 10) p1.2.2.2.1 eB) (ew_call (fun (a : Int × (List Int) × Unit) => n_N_sets_is_even a.1 a.2.1) (ew_consc (12 : Int) eI (ew_consv (i := 8) p1.1 (eT eI) (ew_nil)))))) (ew_tst (ew_op2r (ne_of' (eqc_dat (dat_P (dats_C dat_I (dats_C dat_I dats_N))))) p1.2.2.2.2.1 (fun _ => ew_var (i := 11) p1.2.2.2.2.1 (eP (aC eI (aC eI aN)))) (ew_call (fun (a : Int × (List Int) × Unit) => n_N_sets_symmetries a.1 a.2.1) (ew_consc (12 : Int) eI (ew_consv (i := 8) p1.1 (eT eI) (ew_nil))))))))) (sw_re (Γ0 := [.is (.fz ((eZ eI) script)), .row false, .is (.fz ((eL (eP (aC (eT eI) (aC (eP (aC eI (aC eI (aC eI (aC eI (aC eI (aC eI aN))))))) (aC eB (aC eB (aC (eP (aC eI (aC eI aN))) aN))))))) known2)), .is .un, .is .un, .is .un, .is .un, .is (.fz ((eP (aC eI (aC eI (aC eI (aC eI (aC eI (aC eI aN))))))) p1.2.1)), .is (.fz ((eT eI) p1.1)), .is (.fz (eB p1.2.2.1)), .is (.fz (eB p1.2.2.2.1)), .is (.fz ((eP (aC eI (aC eI aN))) p1.2.2.2.2.1)), .is .un]) (sw_retF (ew_con false eB))) (sw_skip (sw_re (Γ0 := [.is (.fz ((eZ eI) script)), .row false, .is (.fz ((eL (eP (aC (eT eI) (aC (eP (aC eI (aC eI (aC eI (aC eI (aC eI (aC eI aN))))))) (aC eB (aC eB (aC (eP (aC eI (aC eI aN))) aN))))))) known2)), .is .un, .is .un, .is .un, .is .un, .is (.fz ((eP (aC eI (aC eI (aC eI (aC eI (aC eI (aC eI aN))))))) p1.2.1)), .is (.fz ((eT eI) p1.1)), .is (.fz (eB p1.2.2.1)), .is (.fz (eB p1.2.2.2.1)), .is (.fz ((eP (aC eI (aC eI aN))) p1.2.2.2.2.1)), .is .un]) (sw_set (ew_bindv (ew_op2l (add_I) (5 : Int) (fun _ => ew_con (5 : Int) eI) (ew_callM (i := 1) (fun (a : Int × Unit) => n__law_taken a.1) (ew_consc (20 : Int) eI (ew_nil))))) (fun many => sw_re (Γ0 := [.is (.fz ((eZ eI) script)), .row false, .is (.fz ((eL (eP (aC (eT eI) (aC (eP (aC eI (aC eI (aC eI (aC eI (aC eI (aC eI aN))))))) (aC eB (aC eB (aC (eP (aC eI (aC eI aN))) aN))))))) known2)), .is (.fz (eI many)), .is .un, .is .un, .is .un, .is (.fz ((eP (aC eI (aC eI (aC eI (aC eI (aC eI (aC eI aN))))))) p1.2.1)), .is (.fz ((eT eI) p1.1)), .is (.fz (eB p1.2.2.1)), .is (.fz (eB p1.2.2.2.1)), .is (.fz ((eP (aC eI (aC eI aN))) p1.2.2.2.2.1)), .is .un]) (sw_set (ew_callM (i := 1) (fun (a : (List Int) × Unit) => n_N__law_pick_v2 a.1) (ew_cons (ew_frzM (ew_lc (fx := eI) (fe := eI) (p := fun (at1 : Int) => (N._law_common at1 many).bind fun c6 => .ok (decide (c6 = (1 : Int)))) (e := fun (at1 : Int) => .ok at1) (sl := fun (at1 : Int) => [(12, .is (.fz (eI at1)))]) (ew_calIp rg_2 (ew_consc (1 : Int) eI (ew_consv (i := 3) many eI (ew_nil)))) (by rfl) (fun at1 => gw_n) (fun _ => by rfl) (fun at1 => ew_tst (ew_op2r (eq_of eqc_I) (1 : Int) (fun _ => ew_con (1 : Int) eI) (ew_call (fun (a : Int × Int × Unit) => n_N__law_common a.1 a.2.1) (ew_consv (i := 12) at1 eI (ew_consv (i := 3) many eI (ew_nil)))))) (fun at1 => ew_var (i := 12) at1 eI))) (fun _ => ew_nil))) (fun step => sw_re (Γ0 := [.is (.fz ((eZ eI) script)), .row false, .is (.fz ((eL (eP (aC (eT eI) (aC (eP (aC eI (aC eI (aC eI (aC eI (aC eI (aC eI aN))))))) (aC eB (aC eB (aC (eP (aC eI (aC eI aN))) aN))))))) known2)), .is (.fz (eI many)), .is (.fz (eI step)), .is .un, .is .un, .is (.fz ((eP (aC eI (aC eI (aC eI (aC eI (aC eI (aC eI aN))))))) p1.2.1)), .is (.fz ((eT eI) p1.1)), .is (.fz (eB p1.2.2.1)), .is (.fz (eB p1.2.2.2.1)), .is (.fz ((eP (aC eI (aC eI aN))) p1.2.2.2.2.1)), .is .un]) (sw_set (ew_bindv (ew_op2l (add_I) (many / (2 : Int)) (fun _ => op2c (div_c 2 (by decide)) (ew_var (i := 3) many eI)) (ew_callM (i := 1) (fun (a : Int × Unit) => n__law_taken a.1) (ew_consc (2 : Int) eI (ew_nil))))) (fun notes => sw_re (Γ0 := [.is (.fz ((eZ eI) script)), .row false, .is (.fz ((eL (eP (aC (eT eI) (aC (eP (aC eI (aC eI (aC eI (aC eI (aC eI (aC eI aN))))))) (aC eB (aC eB (aC (eP (aC eI (aC eI aN))) aN))))))) known2)), .is (.fz (eI many)), .is (.fz (eI step)), .is (.fz (eI notes)), .is .un, .is (.fz ((eP (aC eI (aC eI (aC eI (aC eI (aC eI (aC eI aN))))))) p1.2.1)), .is (.fz ((eT eI) p1.1)), .is (.fz (eB p1.2.2.1)), .is (.fz (eB p1.2.2.2.1)), .is (.fz ((eP (aC eI (aC eI aN))) p1.2.2.2.2.1)), .is .un]) (sw_set (ew_call (fun (a : Int × Int × Int × Unit) => n_N_words_chain_notes a.1 a.2.1 a.2.2.1) (ew_consv (i := 3) many eI (ew_consv (i := 4) step eI (ew_consv (i := 5) notes eI (ew_nil))))) (fun told => sw_re (Γ0 := [.is (.fz ((eZ eI) script)), .row false, .is (.fz ((eL (eP (aC (eT eI) (aC (eP (aC eI (aC eI (aC eI (aC eI (aC eI (aC eI aN))))))) (aC eB (aC eB (aC (eP (aC eI (aC eI aN))) aN))))))) known2)), .is (.fz (eI many)), .is (.fz (eI step)), .is (.fz (eI notes)), .is (.fz ((eT eI) told)), .is (.fz ((eP (aC eI (aC eI (aC eI (aC eI (aC eI (aC eI aN))))))) p1.2.1)), .is (.fz ((eT eI) p1.1)), .is (.fz (eB p1.2.2.1)), .is (.fz (eB p1.2.2.2.1)), .is (.fz ((eP (aC eI (aC eI aN))) p1.2.2.2.2.1)), .is .un]) (sw_set (ew_call (fun (a : Int × (List Int) × Unit) => n_N_sets_interval_counts a.1 a.2.1) (ew_consv (i := 3) many eI (ew_consv (i := 6) told (eT eI) (ew_nil)))) (fun counts => sw_re (Γ0 := [.is (.fz ((eZ eI) script)), .row false, .is (.fz ((eL (eP (aC (eT eI) (aC (eP (aC eI (aC eI (aC eI (aC eI (aC eI (aC eI aN))))))) (aC eB (aC eB (aC (eP (aC eI (aC eI aN))) aN))))))) known2)), .is (.fz (eI many)), .is (.fz (eI step)), .is (.fz (eI notes)), .is (.fz ((eT eI) told)), .is (.fz ((eT eI) counts)), .is (.fz ((eT eI) p1.1)), .is (.fz (eB p1.2.2.1)), .is (.fz (eB p1.2.2.2.1)), .is (.fz ((eP (aC eI (aC eI aN))) p1.2.2.2.2.1)), .is .un]) (sw_if (ew_tst (ew_op2 (ne_of' eqc_B) (ew_call (fun (a : Int × (List Int) × Unit) => n_N_sets_is_deep a.1 a.2.1) (ew_consv (i := 3) many eI (ew_consv (i := 6) told (eT eI) (ew_nil)))) (fun _ => ew_op2r (eq_of eqc_I) (counts.length : Int) (fun _ => ew_lenA (i := 7) (t := (eT eI) counts) counts.length (len_T eI (counts, ()))) (ew_lsetX (f1 := (eT eI)) (ew_var (i := 7) counts (eT eI)))))) (sw_re (Γ0 := [.is (.fz ((eZ eI) script)), .row false, .is (.fz ((eL (eP (aC (eT eI) (aC (eP (aC eI (aC eI (aC eI (aC eI (aC eI (aC eI aN))))))) (aC eB (aC eB (aC (eP (aC eI (aC eI aN))) aN))))))) known2)), .is (.fz (eI many)), .is (.fz (eI step)), .is (.fz (eI notes)), .is (.fz ((eT eI) told)), .is (.fz ((eT eI) counts)), .is (.fz ((eT eI) p1.1)), .is (.fz (eB p1.2.2.1)), .is (.fz (eB p1.2.2.2.1)), .is (.fz ((eP (aC eI (aC eI aN))) p1.2.2.2.2.1)), .is .un]) (sw_retF (ew_con false eB))) (sw_skip (sw_re (Γ0 := [.is (.fz ((eZ eI) script)), .row false, .is (.fz ((eL (eP (aC (eT eI) (aC (eP (aC eI (aC eI (aC eI (aC eI (aC eI (aC eI aN))))))) (aC eB (aC eB (aC (eP (aC eI (aC eI aN))) aN))))))) known2)), .is (.fz (eI many)), .is (.fz (eI step)), .is (.fz (eI notes)), .is (.fz ((eT eI) told)), .is (.fz ((eT eI) counts)), .is (.fz ((eT eI) p1.1)), .is (.fz (eB p1.2.2.1)), .is (.fz (eB p1.2.2.2.1)), .is (.fz ((eP (aC eI (aC eI aN))) p1.2.2.2.2.1)), .is .un]) (sw_if (ew_andTxp (decide ((many % (2 : Int)) = (1 : Int))) (fun _ => ew_tst (ew_op2b (eq_of eqc_I) (many % (2 : Int)) (fun _ => op2c (mod_c 2 (by decide)) (ew_var (i := 3) many eI)) (1 : Int) (fun _ => ew_con (1 : Int) eI))) (ew_andTxp (decide (notes = (many / (2 : Int)))) (fun _ => ew_tst (ew_op2b (eq_of eqc_I) notes (fun _ => ew_var (i := 5) notes eI) (many / (2 : Int)) (fun _ => op2c (div_c 2 (by decide)) (ew_var (i := 3) many eI)))) (ew_tst (ew_op2r (ne_of' eqc_I) (counts.length : Int) (fun _ => ew_lenA (i := 7) (t := (eT eI) counts) counts.length (len_T eI (counts, ()))) (ew_lsetX (f1 := (eT eI)) (ew_var (i := 7) counts (eT eI))))))) (sw_re (Γ0 := [.is (.fz ((eZ eI) script)), .row false, .is (.fz ((eL (eP (aC (eT eI) (aC (eP (aC eI (aC eI (aC eI (aC eI (aC eI (aC eI aN))))))) (aC eB (aC eB (aC (eP (aC eI (aC eI aN))) aN))))))) known2)), .is (.fz (eI many)), .is (.fz (eI step)), .is (.fz (eI notes)), .is (.fz ((eT eI) told)), .is (.fz ((eT eI) counts)), .is (.fz ((eT eI) p1.1)), .is (.fz (eB p1.2.2.1)), .is (.fz (eB p1.2.2.2.1)), .is (.fz ((eP (aC eI (aC eI aN))) p1.2.2.2.2.1)), .is .un]) (sw_retF (ew_con false eB))) (sw_skip (sw_re (Γ0 := [.is (.fz ((eZ eI) script)), .row false, .is (.fz ((eL (eP (aC (eT eI) (aC (eP (aC eI (aC eI (aC eI (aC eI (aC eI (aC eI aN))))))) (aC eB (aC eB (aC (eP (aC eI (aC eI aN))) aN))))))) known2)), .is (.fz (eI many)), .is (.fz (eI step)), .is (.fz (eI notes)), .is (.fz ((eT eI) told)), .is (.fz ((eT eI) counts)), .is (.fz ((eT eI) p1.1)), .is (.fz (eB p1.2.2.1)), .is (.fz (eB p1.2.2.2.1)), .is (.fz ((eP (aC eI (aC eI aN))) p1.2.2.2.2.1)), .is .un]) (sw_if (ew_orTx (ew_tst (ew_op2r (ne_of' eqc_I) (3 : Int) (fun _ => ew_con (3 : Int) eI) (ew_calF (len_L _) (ew_cons (ew_call (fun (a : Int × Int × Unit) => n_N_sets_twins a.1 a.2.1) (ew_consc (12 : Int) eI (ew_consc (5 : Int) eI (ew_nil)))) (fun _ => ew_nil))))) (ew_orTx (ew_tst (ew_op2r (ne_of' eqc_I) (50 : Int) (fun _ => ew_con (50 : Int) eI) (ew_calF (len_L _) (ew_cons (ew_call (fun (a : Int × Int × Unit) => n_N_sets_set_classes a.1 a.2.1) (ew_consc (12 : Int) eI (ew_consc (6 : Int) eI (ew_nil)))) (fun _ => ew_nil))))) (ew_tst (ew_op2r (ne_of' (eqc_dat (dat_T dat_I))) [(0 : Int), (3 : Int), (7 : Int)] (fun _ => ew_cst ([(0 : Int), (3 : Int), (7 : Int)] : (List Int)) (eT eI)) (ew_call (fun (a : Int × (List Int) × Unit) => n_N_sets_least_image a.1 a.2.1) (ew_consc (12 : Int) eI (ew_consp (f1 := (eT eI)) [(2 : Int), (5 : Int), (9 : Int)] (fun _ => ew_cst ([(2 : Int), (5 : Int), (9 : Int)] : (List Int)) (eT eI)) (ew_nil)))))))) (sw_re (Γ0 := [.is (.fz ((eZ eI) script)), .row false, .is (.fz ((eL (eP (aC (eT eI) (aC (eP (aC eI (aC eI (aC eI (aC eI (aC eI (aC eI aN))))))) (aC eB (aC eB (aC (eP (aC eI (aC eI aN))) aN))))))) known2)), .is (.fz (eI many)), .is (.fz (eI step)), .is (.fz (eI notes)), .is (.fz ((eT eI) told)), .is (.fz ((eT eI) counts)), .is (.fz ((eT eI) p1.1)), .is (.fz (eB p1.2.2.1)), .is (.fz (eB p1.2.2.2.1)), .is (.fz ((eP (aC eI (aC eI aN))) p1.2.2.2.2.1)), .is .un]) (sw_retF (ew_con false eB))) (sw_skip (sw_re (Γ0 := [.is (.fz ((eZ eI) script)), .row false, .is (.fz ((eL (eP (aC (eT eI) (aC (eP (aC eI (aC eI (aC eI (aC eI (aC eI (aC eI aN))))))) (aC eB (aC eB (aC (eP (aC eI (aC eI aN))) aN))))))) known2)), .is (.fz (eI many)), .is (.fz (eI step)), .is (.fz (eI notes)), .is (.fz ((eT eI) told)), .is (.fz ((eT eI) counts)), .is (.fz ((eT eI) p1.1)), .is (.fz (eB p1.2.2.1)), .is (.fz (eB p1.2.2.2.1)), .is (.fz ((eP (aC eI (aC eI aN))) p1.2.2.2.2.1)), .is .un]) (sw_last (sw_retF (ew_andVx (ew_op2r (eq_of (eqc_dat (dat_T dat_I))) [(0 : Int), (2 : Int), (4 : Int), (5 : Int), (7 : Int), (9 : Int), (11 : Int)] (fun _ => ew_cst ([(0 : Int), (2 : Int), (4 : Int), (5 : Int), (7 : Int), (9 : Int), (11 : Int)] : (List Int)) (eT eI)) (ew_call (fun (a : Int × Int × Int × Unit) => n_N_sets_even_set a.1 a.2.1 a.2.2.1) (ew_consc (12 : Int) eI (ew_consc (7 : Int) eI (ew_consc (5 : Int) eI (ew_nil)))))) (ew_andVx (ew_op2r (eq_of (eqc_dat (dat_T dat_I))) [(0 : Int), (2 : Int), (4 : Int), (7 : Int), (9 : Int)] (fun _ => ew_cst ([(0 : Int), (2 : Int), (4 : Int), (7 : Int), (9 : Int)] : (List Int)) (eT eI)) (ew_call (fun (a : Int × Int × Int × Unit) => n_N_sets_even_set a.1 a.2.1 a.2.2.1) (ew_consc (12 : Int) eI (ew_consc (5 : Int) eI (ew_consc (0 : Int) eI (ew_nil)))))) (ew_op2r (eq_of (eqc_dat (dat_T dat_I))) [(0 : Int), (3 : Int), (6 : Int)] (fun _ => ew_cst ([(0 : Int), (3 : Int), (6 : Int)] : (List Int)) (eT eI)) (ew_call (fun (a : Int × Int × Int × Unit) => n_N_sets_even_set a.1 a.2.1 a.2.2.1) (ew_consc (8 : Int) eI (ew_consc (3 : Int) eI (ew_consc (2 : Int) eI (ew_nil)))))))))))))))))))))))))))))))))))))))))))
end FL.NL

/-! MB: the program's own defs (lines of MA .. MA4); prune.py drops what a law does not reach. -/
namespace FL.NL
open PySem
variable {α β σ : Type}
theorem All_taken {m : Int} {Q : Int → Prop} (h0 : 0 < m) (h1 : m < 18446744073709551616) (h : ∀ v, 0 ≤ v → v < m → Q v) : R.All Q (N._law_taken m) := ⟨h0, h1, h⟩
theorem pick_all {xs} {Q} (h0 : 0 < List.length xs) (h1 : List.length xs < 1000000) (h : ∀ x ∈ xs, Q x) : R.All Q (N._law_pick xs) := by
  unfold N._law_pick
  rw [R.All_bind, R.All_nx]
  refine All_taken (by omega) (by omega) fun v v0 v1 => ?_
  have hl : v.toNat < xs.length := by omega
  rw [atR_pos (a := xs[v.toNat]'hl) v0 (by simp [hl])]
  rw [R.bind_ok]; exact h _ (List.getElem_mem hl)
theorem is_in_ok {i a b : Int} (h1 : a ≤ i) (h2 : i ≤ b) : N.limits_is_in i a b = .ok true := by
  unfold N.limits_is_in N.limits_is_int
  simp [h1, h2]
/-! lists by size -/
structure IvB (L X : List Int) : Prop where
  len : X.length = L.length
  bd : ∀ x ∈ X, -1000 ≤ x ∧ x ≤ 1000
structure LimOk (L : List Int) : Prop where
  few : L.length ≤ 8
  pr : ∀ p ∈ L, 2 ≤ p ∧ p < 64
theorem LimOk.two {L : List Int} (h : LimOk L) : ∀ p ∈ L, 2 ≤ p := fun p hp => (h.pr p hp).1
theorem sub_lx {L X Y : List Int} (hL : LimOk L) (hx : IvB L X) (hy : IvB L Y) : LX L (subL X Y) :=
  ⟨by rw [subL_len (by rw [hx.len, hy.len]), hx.len], hL.few, fun p hp => by have := hL.pr p hp; omega, fun z hz => by have := subL_bd hx.bd hy.bd z hz; omega⟩
theorem IvB.lx {L X : List Int} (hL : LimOk L) (hx : IvB L X) : LX L X := ⟨hx.len.symm, hL.few, fun p hp => by have := hL.pr p hp; omega, fun z hz => by have := hx.bd z hz; omega⟩
theorem sgn_lt {L X Y : List Int} (hL : LimOk L) (hx : IvB L X) (hy : IvB L Y) : decide (sg L (subL X Y) < 0) = lt' L X Y := by
  have h := sub_lt hL.two hx.len hy.len
  have hp1 := nu_pos (X := subL X Y) hL.two
  have e1 : (nd L (subL X Y) (1, 1)).1 = nu L (subL X Y) := rfl
  have e2 : (nd L (subL X Y) (1, 1)).2 = de L (subL X Y) := rfl
  unfold sg lt'
  rw [e1, e2]
  by_cases c : nu L (subL X Y) < de L (subL X Y)
  · have c2 := h.mp c
    have c3 : ¬ de L (subL X Y) < nu L (subL X Y) := by omega
    simp [c, c2, c3, b01]
  · have c2 : ¬ nu L X * de L Y < nu L Y * de L X := fun e => c (h.mpr e)
    by_cases c3 : de L (subL X Y) < nu L (subL X Y) <;> simp [c, c2, c3, b01]
theorem sgn_gt {L X Y : List Int} (hL : LimOk L) (hx : IvB L X) (hy : IvB L Y) : decide (sg L (subL X Y) > 0) = lt' L Y X := by
  have h := sub_gt hL.two hx.len hy.len
  have e1 : (nd L (subL X Y) (1, 1)).1 = nu L (subL X Y) := rfl
  have e2 : (nd L (subL X Y) (1, 1)).2 = de L (subL X Y) := rfl
  unfold sg lt'
  rw [e1, e2]
  by_cases c : de L (subL X Y) < nu L (subL X Y)
  · have c2 := h.mp c
    have c3 : ¬ nu L (subL X Y) < de L (subL X Y) := by omega
    simp [c, c2, c3, b01]
  · have c2 : ¬ nu L Y * de L X < nu L X * de L Y := fun e => c (h.mpr e)
    by_cases c3 : nu L (subL X Y) < de L (subL X Y) <;> simp [c, c2, c3, b01]
theorem ris_get {L : List Int} {S : List (List Int)} (h : Ris L S) {i j : Nat} {a b : List Int} (hi : S[i]? = some a) (hj : S[j]? = some b) (hij : i ≤ j) : lt' L b a = false := by
  by_cases e : i = j
  · subst e; rw [hi] at hj; cases hj; exact lt_irr
  · obtain ⟨h1, e1⟩ := List.getElem?_eq_some_iff.mp hi
    obtain ⟨h2, e2⟩ := List.getElem?_eq_some_iff.mp hj
    have := (List.pairwise_iff_getElem.mp h) i j h1 h2 (by omega)
    rw [e1, e2] at this; exact this
/-- where to put x: before all that are wider -/
structure Spot (L x : List Int) (S : List (List Int)) (k : Nat) : Prop where
  le : k ≤ S.length
  lo : ∀ i y, i < k → S[i]? = some y → lt' L x y = false
  hi : ∀ i y, k ≤ i → S[i]? = some y → lt' L x y = true
theorem Spot.ins {L x : List Int} {S : List (List Int)} {k : Nat} (h : Spot L x S k) : S.take k ++ x :: S.drop k = FL.NL.ins L x S := by
  have := ins_at (L := L) (x := x) (a := S.take k) (b := S.drop k) (fun y hy => by
    obtain ⟨i, hi, e⟩ := List.mem_take_iff_getElem.mp hy
    exact h.lo i y (by omega) (by rw [← e]; simp)) (fun y hy => by
    rw [List.head?_drop] at hy
    exact h.hi k y (Nat.le_refl _) hy)
  rw [List.take_append_drop] at this
  exact this.symm
theorem ins_mem {L x : List Int} {S : List (List Int)} {P : List Int → Prop} (hx : P x) (hS : ∀ y ∈ S, P y) : ∀ y ∈ FL.NL.ins L x S, P y := fun y hy => by
  rcases List.mem_cons.mp (ins_perm.mem_iff.mp hy) with rfl | h
  · exact hx
  · exact hS y h
theorem lims_lim : ∀ L ∈ lims, LimOk L := fun L h => ⟨by have := (lims_pr L h).1; omega, (lims_pr L h).2.2⟩
end FL.NL


/-! MS: sets of notes: the program's own defs. -/
namespace FL.NL
open PySem PySem.W
theorem min_e {a b : Int} : minI a b = min a b := by unfold minI; omega
theorem need_set_ok {m : Int} {xs : List Int} (h0 : 1 ≤ m) (h1 : m ≤ 60) (h : NSet m xs) : N.sets_need_set m xs = .ok () := by
  have hl := h.len
  unfold N.sets_need_set
  rw [is_in_ok h0 h1, R.bind_ok]
  simp only [Bool.not_true, Bool.false_eq_true, if_false]
  rw [cmpR_ok (g := fun _ => true) (by omega) (fun x hx => by
    have := h.bd x hx
    rw [is_in_ok (by omega) (by omega)]; simp), R.bind_ok]
  have : ((xs.map fun _ => true).all idB) = true := by simp [idB]
  rw [this, R.bind_ok]
  simp only [Bool.not_true, Bool.false_eq_true, if_false]
  rw [rgR_ok (by decide) (by decide) (by omega) (by omega), R.bind_ok, cmpR_ok (g := fun _ => true) (by rw [rg_len]; omega) (fun x hx => by
    obtain ⟨x0, x1⟩ := mem_rg.mp hx
    have a1 : atR xs (x - 1) = .ok (xs[(x - 1).toNat]'(by omega)) := atR_pos (by omega) (by simp)
    have a2 : atR xs x = .ok (xs[x.toNat]'(by omega)) := atR_pos (by omega) (by simp)
    have := (List.pairwise_iff_getElem.mp h.up) (x - 1).toNat x.toNat (by omega) (by omega) (by omega)
    simp only [a1, a2, R.bind_ok, this, decide_true]), R.bind_ok]
  have : (((rg 1 ((xs.length : Int) - 1).toNat).map fun _ => true).all idB) = true := by simp [idB]
  rw [this]; rfl
theorem inner_ok {m : Int} {n : Nat} {x : Int} : ∀ {ys s : List Int}, s.length = n → (∀ y ∈ ys, 0 ≤ dst m x y ∧ dst m x y < n) → ∀ (body : Int → List Int → R (List Int)), (∀ y ∈ ys, ∀ s : List Int, s.length = n → body y s = .ok (bmp s (dst m x y))) → forR ys body s = .ok ((ys.map (dst m x)).foldl bmp s) ∧ ((ys.map (dst m x)).foldl bmp s).length = n := fun {ys s} hs hb body hy => by
  have := forR_fold (g := fun s y => bmp s (dst m x y)) (fun s => s.length = n) (xs := ys) hs fun y hm s h => ⟨hy y hm s h, by rw [bmp_len, h]⟩
  rwa [← List.foldl_map] at this
theorem bmp_ok {s : List Int} {j : Int} (h0 : 0 ≤ j) (h1 : j < s.length) : augR s j (fun a => a + 1) = .ok (bmp s j) := by
  rw [augR_ok h0 h1]; rfl
theorem dst_bd {m a b : Int} (ha : 0 ≤ a ∧ a < m) (hb : 0 ≤ b ∧ b < m) : 0 ≤ dst m a b ∧ dst m a b < ((m / 2 + 1).toNat : Nat) := by unfold dst; omega
/-- the program's counts -/
theorem counts_loop {m : Int} {n : Nat} (hn : n = (m / 2 + 1).toNat) (vs : List Int) : ∀ (xs pre : List Int) (s : List Int), vs = pre ++ xs → NSet m xs → s.length = n →
    forR (enumL pre.length xs) (fun (x : (Int × (Int × Unit))) (st1 : (List Int)) => (forR (cutL vs (some (x.1 + (1 : Int))) none) (fun (x2 : Int) (st2 : (List Int)) => ((.ok (minI (x2 - x.2.1) ((m - x2) + x.2.1)) : R Int)).bind fun w => (augR st2 w fun a => a + (1 : Int)).bind fun found2 => .ok found2) st1).bind fun so => .ok so) s = .ok ((dsts m xs).foldl bmp s)
  | [], _, _, _, _, _ => rfl
  | x :: xs, pre, s, hv, h, hs => by
    obtain ⟨u1, u2⟩ := List.pairwise_cons.mp h.up
    have hx := h.bd x (List.mem_cons_self ..)
    have hc : cutL vs (some ((pre.length : Int) + 1)) none = xs := by
      rw [cut_from (by omega) (by rw [hv]; simp; omega), hv, show ((pre.length : Int) + 1).toNat = pre.length + 1 by omega]
      rw [← List.drop_drop]
      simp
    obtain ⟨e1, e2⟩ := inner_ok (m := m) (n := n) (x := x) (ys := xs) (s := s) hs (fun y hy => by rw [hn]; exact dst_bd hx (h.bd y (List.mem_cons_of_mem _ hy))) (fun (x2 : Int) (st2 : (List Int)) => ((.ok (minI (x2 - x) ((m - x2) + x)) : R Int)).bind fun w => (augR st2 w fun a => a + (1 : Int)).bind fun found2 => .ok found2) (fun y hy s hs => by
      have hy1 := u1 y hy
      have hy2 := h.bd y (List.mem_cons_of_mem _ hy)
      have hd : minI (y - x) (m - y + x) = dst m x y := by rw [min_e]; unfold dst; omega
      have := dst_bd hx hy2
      rw [R.bind_ok, hd, bmp_ok (by omega) (by omega), R.bind_ok])
    have ih := counts_loop hn vs xs (pre ++ [x]) ((xs.map (dst m x)).foldl bmp s) (by simp [hv]) ⟨u2, fun y hy => h.bd y (List.mem_cons_of_mem _ hy)⟩ e2
    rw [List.length_append, List.length_singleton] at ih
    show R.bind (R.bind _ _) _ = _
    rw [hc, e1, R.bind_ok, R.bind_ok, dsts_cons, List.foldl_append]
    exact ih
theorem lcounts_loop {m : Int} {n : Nat} (hn : n = (m / 2 + 1).toNat) (vs : List Int) (hvl : vs.length ≤ 1000) : ∀ (xs pre : List Int) (s : List Int), vs = pre ++ xs → NSet m xs → s.length = n →
    forR (rg pre.length xs.length) (fun (x : Int) (st1 : (List Int)) => (rgR (x + (1 : Int)) (vs.length : Int)).bind fun r2 => (forR r2 (fun (x2 : Int) (st2 : (List Int)) => (atR vs x2).bind fun t => (atR vs x).bind fun t2 => ((.ok (t - t2) : R Int)).bind fun gap => ((.ok (minI gap (m - gap)) : R Int)).bind fun w => (augR st2 w fun a => a + (1 : Int)).bind fun counts2 => .ok counts2) st1).bind fun so => .ok so) s = .ok ((dsts m xs).foldl bmp s)
  | [], _, _, _, _, _ => rfl
  | x :: xs, pre, s, hv, h, hs => by
    obtain ⟨u1, u2⟩ := List.pairwise_cons.mp h.up
    have hx := h.bd x (List.mem_cons_self ..)
    have hlen : vs.length = pre.length + 1 + xs.length := by rw [hv]; simp; omega
    have hr : rgR ((pre.length : Int) + 1) (vs.length : Int) = .ok (rg (((pre ++ [x]).length : Nat) : Int) xs.length) := by
      rw [rgR_ok (by omega) (by omega) (by omega) (by omega), hlen]
      have e1 : ((((pre.length + 1 + xs.length : Nat)) : Int) - ((pre.length : Int) + 1)).toNat = xs.length := by omega
      rw [e1]; simp
    have key : ∀ (ys pre2 : List Int) (s : List Int), vs = pre2 ++ ys → s.length = n → (∀ y ∈ ys, x < y ∧ 0 ≤ y ∧ y < m) → forR (rg (pre2.length : Int) ys.length) (fun (x2 : Int) (st2 : (List Int)) => (atR vs x2).bind fun t => (atR vs (pre.length : Int)).bind fun t2 => ((.ok (t - t2) : R Int)).bind fun gap => ((.ok (minI gap (m - gap)) : R Int)).bind fun w => (augR st2 w fun a => a + (1 : Int)).bind fun counts2 => .ok counts2) s = .ok ((ys.map (dst m x)).foldl bmp s) := fun ys => by
      induction ys with
      | nil => intro _ _ _ _ _; rfl
      | cons y ys ih =>
        intro pre2 s hv2 hs hy
        obtain ⟨y0, y1⟩ := hy y (List.mem_cons_self ..)
        have hd : minI (y - x) (m - (y - x)) = dst m x y := by rw [min_e]; unfold dst; omega
        have hb := dst_bd hx y1
        rw [List.length_cons, rg_succ]
        show R.bind (R.bind (atR vs (pre2.length : Int)) _) _ = _
        have a1 : atR vs (pre2.length : Int) = .ok y := by rw [hv2]; exact atR_app rfl
        have a2 : atR vs (pre.length : Int) = .ok x := by rw [hv]; exact atR_app rfl
        rw [a1, R.bind_ok, a2, R.bind_ok, R.bind_ok, hd, R.bind_ok, bmp_ok (by omega) (by omega), R.bind_ok, R.bind_ok]
        have := ih (pre2 ++ [y]) (bmp s (dst m x y)) (by simp [hv2]) (by rw [bmp_len, hs]) fun z hz => hy z (List.mem_cons_of_mem _ hz)
        simp only [List.length_append, List.length_singleton, Int.natCast_add, a2] at this
        exact this
    have ih := lcounts_loop hn vs hvl xs (pre ++ [x]) ((xs.map (dst m x)).foldl bmp s) (by simp [hv]) ⟨u2, fun y hy => h.bd y (List.mem_cons_of_mem _ hy)⟩ (by rw [foldl_len, hs])
    rw [List.length_cons, rg_succ]
    show R.bind (R.bind _ _) _ = _
    rw [hr, R.bind_ok, key xs (pre ++ [x]) s (by simp [hv]) hs (fun y hy => ⟨u1 y hy, h.bd y (List.mem_cons_of_mem _ hy)⟩), R.bind_ok, R.bind_ok, dsts_cons, List.foldl_append]
    rw [List.length_append, List.length_singleton, Int.natCast_add] at ih
    exact ih
/-- what the counts are -/
def ic (m : Int) (xs : List Int) : List Int := cutL (cnts (m / 2 + 1).toNat (dsts m xs)) (some 1) none
theorem ic_img {m : Int} (hm : 0 < m) {xs w : List Int} (hx : NSet m xs) (h : w ∈ imgs m xs) : ic m w = ic m xs := by unfold ic; rw [cnts_perm (imgs_dsts hm hx h)]
theorem interval_counts_ok {m : Int} {xs : List Int} (h0 : 1 ≤ m) (h1 : m ≤ 60) (h : NSet m xs) : N.sets_interval_counts m xs = .ok (ic m xs) := by
  have := counts_loop (n := (m / 2 + 1).toNat) rfl xs xs [] (List.replicate (m / 2 + 1).toNat 0) rfl h (by simp)
  unfold N.sets_interval_counts
  rw [need_set_ok h0 h1 h, R.bind_ok, rep0_ok (by omega) (by omega), R.bind_ok]
  rw [show (0 : Nat) = ([] : List Int).length from rfl, this, R.bind_ok]; rfl
theorem moved_ok {m : Int} {xs : List Int} {k : Int} (hm : 0 < m) (hl : xs.length ≤ 1000) : N.sets_moved m xs k = .ok (img m 1 k xs) := by
  unfold N.sets_moved
  rw [cmpR_ok (g := fun x => turn m 1 k x) (by omega) (fun x hx => by rw [modR_pos hm, R.bind_ok]; unfold turn; rw [Int.one_mul]), R.bind_ok, sort_I, R.bind_ok]; rfl
theorem turned_ok {m : Int} {xs : List Int} (hm : 0 < m) (hl : xs.length ≤ 1000) : N.sets_turned m xs = .ok (img m (-1) 0 xs) := by
  unfold N.sets_turned
  rw [cmpR_ok (g := fun x => turn m (-1) 0 x) (by omega) (fun x hx => by rw [modR_pos hm, R.bind_ok]; unfold turn; congr 1; rw [Int.add_zero, Int.neg_one_mul]), R.bind_ok, sort_I, R.bind_ok]; rfl
theorem img_len {m s k : Int} {xs : List Int} : (img m s k xs).length = xs.length := by unfold img; rw [kSort_perm.length_eq, List.length_map]
theorem back_e {m k : Int} {xs : List Int} (hk : 0 ≤ k ∧ k < m) : img m 1 k (img m (-1) 0 xs) = img m (-1) k xs := by
  rw [img_img, Int.one_mul, Int.mul_zero, Int.zero_add, emod_a hk.1 hk.2]
theorem images_ok {m : Int} {xs : List Int} (h0 : 1 ≤ m) (h1 : m ≤ 60) (hl : xs.length ≤ 1000) : N.sets_images m xs = .ok (imgs m xs) := by
  have e : ([xs, img m (-1) 0 xs].flatMap fun ys => (rg 0 m.toNat).map fun k => img m 1 k ys) = imgs m xs := by
    unfold imgs
    simp only [List.flatMap_cons, List.flatMap_nil, List.append_nil]
    congr 1
    exact List.map_congr_left fun k hk => by
      have := mem_rg.mp hk
      exact back_e (by omega)
  unfold N.sets_images
  rw [turned_ok (by omega) hl, R.bind_ok, cmp2A_ok (src := fun _ => rg 0 m.toNat) (g := fun ys k => img m 1 k ys) (by rw [e, imgs_len]; simp; omega) (fun x hx => by rw [rgR_0 (by omega) (by omega), R.bind_ok]) (fun ys hy k hk => by
    rw [moved_ok (by omega) (by
      simp only [List.mem_cons, List.not_mem_nil, or_false] at hy
      rcases hy with rfl | rfl
      · exact hl
      · rw [img_len]; exact hl), R.bind_ok]), R.bind_ok, e]; rfl
theorem least_image_ok {m : Int} {xs : List Int} (h0 : 1 ≤ m) (h1 : m ≤ 60) (h : NSet m xs) : N.sets_least_image m xs = .ok (least m xs) := by
  have hl := h.len
  unfold N.sets_least_image
  rw [need_set_ok h0 h1 h, R.bind_ok, images_ok h0 h1 (by omega), R.bind_ok, least_min (by omega), R.bind_ok]
theorem symmetries_ok {m : Int} {xs : List Int} (h0 : 1 ≤ m) (h1 : m ≤ 60) (h : NSet m xs) : N.sets_symmetries m xs = .ok ((((rg 0 m.toNat).filter fun k => decide (img m 1 k xs = xs)).length : Int), (((rg 0 m.toNat).filter fun k => decide (img m (-1) k xs = xs)).length : Int), ()) := by
  have hl := h.len
  unfold N.sets_symmetries
  rw [need_set_ok h0 h1 h, R.bind_ok, turned_ok (by omega) (by omega), R.bind_ok, rgR_0 (by omega) (by omega), R.bind_ok,
    cmpR_fil (q := fun k => decide (img m 1 k xs = xs)) (by rw [rg_len]; omega) (fun k hk => by rw [moved_ok (by omega) (by omega), R.bind_ok]), R.bind_ok, R.bind_ok, R.bind_ok,
    cmpR_fil (q := fun k => decide (img m (-1) k xs = xs)) (by rw [rg_len]; omega) (fun k hk => by
      have := mem_rg.mp hk
      rw [moved_ok (by omega) (by rw [img_len]; omega), R.bind_ok, back_e (by omega)]), R.bind_ok]
end FL.NL


set_option maxHeartbeats 4000000
namespace Law
open PySem PySem.Spec FL FL.NL TW PySem.W
/-! all ascending lists -/
def sub (n : Int) : Nat → List (List Int)
  | 0 => [[]]
  | k + 1 => sub n k ++ ((sub n k).filter fun y => decide ((y.length : Int) < n)).map fun y => y ++ [(k : Int)]
def nxt (p : List Int) : Int := match p.getLast? with
  | some a => a + 1
  | none => 0
def cols (m : Int) : Nat → List (List Int)
  | 0 => [[]]
  | j + 1 => (cols m j).flatMap fun p => (rg (nxt p) (m - nxt p).toNat).map fun a => p ++ [a]
theorem nset_snoc {m : Int} {y : List Int} {a : Int} : NSet m (y ++ [a]) ↔ NSet m y ∧ (∀ x ∈ y, x < a) ∧ 0 ≤ a ∧ a < m := by
  constructor
  · intro h
    have up := List.pairwise_append.mp h.up
    exact ⟨⟨up.1, fun x hx => h.bd x (List.mem_append_left _ hx)⟩, fun x hx => up.2.2 x hx a (List.mem_singleton.mpr rfl), h.bd a (by simp)⟩
  · rintro ⟨h, h1, h2⟩
    refine ⟨List.pairwise_append.mpr ⟨h.up, List.pairwise_singleton .., fun x hx b hb => by rw [List.mem_singleton.mp hb]; exact h1 x hx⟩, fun x hx => ?_⟩
    rcases List.mem_append.mp hx with hx | hx
    · exact h.bd x hx
    · rw [List.mem_singleton.mp hx]; exact h2
theorem nset_wide {m m' : Int} {y : List Int} (h : NSet m y) (hm : m ≤ m') : NSet m' y := ⟨h.up, fun x hx => by have := h.bd x hx; omega⟩
theorem sub_mem {n : Int} (hn : 0 ≤ n) : ∀ {k : Nat} {x : List Int}, x ∈ sub n k ↔ NSet k x ∧ (x.length : Int) ≤ n
  | 0, x => by
    unfold sub
    rw [List.mem_singleton]
    constructor
    · rintro rfl; exact ⟨⟨List.Pairwise.nil, fun _ h => nomatch h⟩, hn⟩
    · rintro ⟨h, _⟩
      cases x with
      | nil => rfl
      | cons a x => have := h.bd a (List.mem_cons_self ..); omega
  | k + 1, x => by
    unfold sub
    rw [List.mem_append, sub_mem hn, List.mem_map]
    constructor
    · rintro (⟨h, l⟩ | ⟨y, hy, rfl⟩)
      · exact ⟨nset_wide h (by omega), l⟩
      · obtain ⟨h1, h2⟩ := List.mem_filter.mp hy
        obtain ⟨h3, h4⟩ := (sub_mem hn).mp h1
        have h2 := of_decide_eq_true h2
        refine ⟨nset_snoc.mpr ⟨nset_wide h3 (by omega), fun a ha => (h3.bd a ha).2, by omega, by omega⟩, by rw [List.length_append, List.length_singleton]; omega⟩
    · rintro ⟨h, l⟩
      rcases List.eq_nil_or_concat x with rfl | ⟨y, a, rfl⟩
      · exact .inl ⟨⟨List.Pairwise.nil, fun _ h => nomatch h⟩, hn⟩
      · rw [List.concat_eq_append] at h l ⊢
        obtain ⟨h1, h2, h3, h4⟩ := nset_snoc.mp h
        rw [List.length_append, List.length_singleton] at l
        by_cases c : a = k
        · subst c
          exact .inr ⟨y, List.mem_filter.mpr ⟨(sub_mem hn).mpr ⟨⟨h1.up, fun x hx => ⟨(h1.bd x hx).1, h2 x hx⟩⟩, by omega⟩, decide_eq_true (by omega)⟩, rfl⟩
        · refine .inl ⟨nset_snoc.mpr ⟨⟨h1.up, fun x hx => ⟨(h1.bd x hx).1, by have := h2 x hx; omega⟩⟩, h2, h3, by omega⟩, by rw [List.length_append, List.length_singleton]; omega⟩
theorem nxt_le {y : List Int} {m a : Int} (h : NSet m y) (ha : 0 ≤ a) : (∀ x ∈ y, x < a) ↔ nxt y ≤ a := by
  unfold nxt
  rcases List.eq_nil_or_concat y with rfl | ⟨z, b, rfl⟩
  · simp; exact ha
  · rw [List.concat_eq_append] at h ⊢
    obtain ⟨_, h2, _⟩ := nset_snoc.mp h
    rw [List.getLast?_append, List.getLast?_singleton]
    show _ ↔ b + 1 ≤ a
    constructor
    · intro q; have := q b (by simp); omega
    · intro q x hx
      rcases List.mem_append.mp hx with hx | hx
      · have := h2 x hx; omega
      · rw [List.mem_singleton.mp hx]; omega
theorem nxt_0 {y : List Int} {m : Int} (h : NSet m y) (hm : 0 ≤ m) : 0 ≤ nxt y ∧ nxt y ≤ m := by
  unfold nxt
  rcases List.eq_nil_or_concat y with rfl | ⟨z, b, rfl⟩
  · exact ⟨Int.le_refl _, hm⟩
  · rw [List.concat_eq_append] at h ⊢
    rw [List.getLast?_append, List.getLast?_singleton]
    have := h.bd b (by simp)
    show 0 ≤ b + 1 ∧ b + 1 ≤ m
    omega
theorem cols_mem {m : Int} (hm : 0 ≤ m) : ∀ {j : Nat} {x : List Int}, x ∈ cols m j ↔ NSet m x ∧ x.length = j
  | 0, x => by
    unfold cols
    rw [List.mem_singleton]
    constructor
    · rintro rfl; exact ⟨⟨List.Pairwise.nil, fun _ h => nomatch h⟩, rfl⟩
    · rintro ⟨_, h⟩; exact List.eq_nil_of_length_eq_zero h
  | j + 1, x => by
    unfold cols
    rw [List.mem_flatMap]
    constructor
    · rintro ⟨p, hp, hx⟩
      obtain ⟨h1, h2⟩ := (cols_mem hm).mp hp
      obtain ⟨a, ha, rfl⟩ := List.mem_map.mp hx
      have := nxt_0 h1 hm
      obtain ⟨a0, a1⟩ := mem_rg.mp ha
      exact ⟨nset_snoc.mpr ⟨h1, (nxt_le h1 (by omega)).mpr a0, by omega, by omega⟩, by rw [List.length_append, List.length_singleton, h2]⟩
    · rintro ⟨h, l⟩
      rcases List.eq_nil_or_concat x with rfl | ⟨y, a, rfl⟩
      · cases l
      · rw [List.concat_eq_append] at h l ⊢
        obtain ⟨h1, h2, h3, h4⟩ := nset_snoc.mp h
        rw [List.length_append, List.length_singleton] at l
        have := (nxt_le h1 h3).mp h2
        exact ⟨y, (cols_mem hm).mpr ⟨h1, by omega⟩, List.mem_map.mpr ⟨a, mem_rg.mpr (by omega), rfl⟩⟩
/-! the program's lists -/
theorem nset_len {m : Int} {x : List Int} (h : NSet m x) (h1 : m ≤ 12) : x.length ≤ 12 := by have := h.len; omega
theorem forR_ind {α σ : Type} {body : α → σ → R σ} (g : Nat → σ) : ∀ {xs : List α} {k : Nat}, (∀ i (h : i < xs.length), body xs[i] (g (k + i)) = .ok (g (k + i + 1))) → forR xs body (g k) = .ok (g (k + xs.length))
  | [], k, _ => rfl
  | x :: xs, k, h => by
    show (body x (g k)).bind _ = _
    have h0 := h 0 (by simp)
    simp only [List.getElem_cons_zero, Nat.add_zero] at h0
    rw [h0, R.bind_ok]
    rw [forR_ind g (xs := xs) (k := k + 1) fun i hi => by
      have := h (i + 1) (by simpa using hi)
      simp only [List.getElem_cons_succ] at this
      rw [show k + 1 + i = k + (i + 1) by omega]
      exact this]
    rw [List.length_cons, show k + 1 + xs.length = k + (xs.length + 1) by omega]
theorem sub_len {n : Int} : ∀ k : Nat, (sub n k).length ≤ 2 ^ k
  | 0 => by simp [sub]
  | k + 1 => by
    unfold sub
    rw [List.length_append, List.length_map]
    have := sub_len (n := n) k
    have := List.length_filter_le (fun y : List Int => decide ((y.length : Int) < n)) (sub n k)
    omega
theorem rg_at {a : Int} {n i : Nat} (h : i < (rg a n).length) : (rg a n)[i] = a + i := by simp [rg]
theorem sub_loop {m n : Int} (m0 : 0 ≤ m) (m1 : m ≤ 12) (hn : 0 ≤ n) : forR (rg 0 m.toNat) (fun (x : Int) (st1 : (List (List Int))) => (cmpR st1 (fun (some1 : (List Int)) => .ok (decide ((some1.length : Int) < n))) fun (some1 : (List Int)) => (catR some1 [x]).bind fun t2 => .ok t2).bind fun l => (catR st1 l).bind fun told => .ok told) [[]] = .ok (sub n m.toNat) := by
  have := forR_ind (sub n) (k := 0) (xs := rg 0 m.toNat) (body := fun (x : Int) (st1 : (List (List Int))) => (cmpR st1 (fun (some1 : (List Int)) => .ok (decide ((some1.length : Int) < n))) fun (some1 : (List Int)) => (catR some1 [x]).bind fun t2 => .ok t2).bind fun l => (catR st1 l).bind fun told => .ok told) (fun i hi => by
    rw [rg_at, Nat.zero_add, Int.zero_add]
    rw [rg_len] at hi
    have hl := sub_len (n := n) i
    have h2 : 2 ^ i ≤ 2 ^ 12 := Nat.pow_le_pow_right (by decide) (by omega)
    have mem : ∀ y ∈ sub n i, y.length ≤ 12 := fun y hy => nset_len ((sub_mem hn).mp hy).1 (by omega)
    rw [cmp_fil (q := fun y : List Int => decide ((y.length : Int) < n)) (g := fun y => y ++ [(i : Int)]) (by omega) (fun y _ => rfl) (fun y hy => by
      have := mem y hy
      rw [sy_cat (by simp; omega), R.bind_ok]), R.bind_ok, sy_cat (by
      rw [List.length_map]
      have := List.length_filter_le (fun y : List Int => decide ((y.length : Int) < n)) (sub n i)
      omega), R.bind_ok]
    rfl)
  rw [rg_len, Nat.zero_add] at this
  exact this
/-- C: the least images of all sets of n of m notes -/
structure Cls (m n : Int) (C : List (List Int)) : Prop where
  m0 : 1 ≤ m
  m1 : m ≤ 12
  n0 : 0 ≤ n
  n1 : n ≤ m
  few : C.length < 63
  el : ∀ c ∈ C, NSet m c ∧ (c.length : Int) = n
  lst : ∀ c ∈ C, least m c = c
  nd : C.Nodup
  up : C.mergeSort leT = C
  cov : ∀ x ∈ cols m n.toNat, ∃ c ∈ C, x ∈ imgs m c
  ways : ∃ w, N.sets_ways m n = .ok w ∧ ¬ w > 2000
  lim : ∀ j : Nat, j ≤ n.toNat → (cols m j).length ≤ 1000
theorem kSort_leT (d : List (List Int)) : kSort dTk d = d.mergeSort leT := rfl
theorem keys_nd {m notes : Int} (hm : 0 < m) {im : List Int → R (List (List Int))} : ∀ (xs : List (List Int)) (d : Ks), (∀ x ∈ xs, (x.length : Int) = notes → im x = .ok (imgs m x)) → d.length + xs.length ≤ 100000 → d.Nodup →
    ∀ d', forR xs (fun (x2 : (List Int)) (st2 : Ks) => (if (decide ((x2.length : Int) = notes)) = true then (im x2).bind fun c5 => (mmR PySem.W.minD (asTf asI) ((eL (eT eI)) c5)).bind fun m => (kpR st2 m).bind fun found => .ok found else .ok st2 : R Ks).bind fun st3 => .ok st3) d = .ok d' → d'.Nodup := fun xs => by
  induction xs with
  | nil =>
    intro d _ _ nd d' e
    injection e with e
    rw [← e]; exact nd
  | cons x xs ih =>
    intro d h hl nd d' e
    rw [List.length_cons] at hl
    unfold forR at e
    by_cases c : (x.length : Int) = notes
    · simp only [c, decide_true, if_true] at e
      have hk : kpR d (least m x) = .ok (kPut d (least m x)) := by unfold kpR; rw [if_pos (by omega)]
      rw [h x (List.mem_cons_self ..) c, R.bind_ok, least_min hm, R.bind_ok, hk, R.bind_ok, R.bind_ok, R.bind_ok] at e
      have := kPut_len (d := d) (k := least m x)
      refine ih _ (fun y hy => h y (List.mem_cons_of_mem _ hy)) (by omega) ?_ d' e
      unfold kPut
      split
      · exact nd
      · rename_i hn
        exact List.nodup_append.mpr ⟨nd, List.nodup_cons.mpr ⟨nofun, List.nodup_nil⟩, fun a ha b hb e => by
          rw [List.mem_singleton.mp hb] at e
          exact hn (e ▸ ha)⟩
    · simp only [c, decide_false, Bool.false_eq_true, if_false] at e
      rw [R.bind_ok, R.bind_ok] at e
      exact ih d (fun y hy => h y (List.mem_cons_of_mem _ hy)) (by omega) nd d' e
namespace Cls
variable {m n : Int} {C : List (List Int)}
theorem one (K : Cls m n C) {x : List Int} (h : NSet m x) (l : (x.length : Int) = n) : least m x ∈ C := by
  have hx : x ∈ cols m n.toNat := (cols_mem (by have := K.m0; omega)).mpr ⟨h, by omega⟩
  obtain ⟨c, hc, hi⟩ := K.cov x hx
  rw [least_one (by have := K.m0; omega) (K.el c hc).1 hi, K.lst c hc]
  exact hc
theorem nonempty (K : Cls m n C) : C.length ≤ 1 ∨ ∀ k ∈ C, k ≠ [] := by
  by_cases h : n = 0
  · refine .inl ?_
    have : ∀ c ∈ C, c ∈ [([] : List Int)] := fun c hc => by
      have := (K.el c hc).2
      rw [List.mem_singleton]
      exact List.eq_nil_of_length_eq_zero (by omega)
    exact nodup_le K.nd this
  · exact .inr fun k hk e => by
      have := (K.el k hk).2
      rw [e] at this
      simp at this
      omega
theorem classes (K : Cls m n C) (hn : 1 ≤ n) : N.sets_set_classes m n = .ok C := by
  have m0 := K.m0; have m1 := K.m1; have n0 := K.n0; have n1 := K.n1
  obtain ⟨w, hw, hw2⟩ := K.ways
  unfold N.sets_set_classes
  rw [is_in_ok (by omega) (by omega), R.bind_ok]
  simp only [Bool.not_true, Bool.false_eq_true, if_false]
  rw [is_in_ok n0 n1, R.bind_ok, R.bind_ok]
  simp only [Bool.not_true, Bool.false_eq_true, if_false]
  rw [hw, R.bind_ok, if_neg (by simpa using hw2), rgR_0 (by omega) (by omega), R.bind_ok]
  have hs := sub_loop (m := m) (by omega) m1 n0
  refine (congrArg (fun r => R.bind r _) hs).trans ?_
  rw [R.bind_ok]
  have hl := sub_len (n := n) m.toNat
  have h2 : 2 ^ m.toNat ≤ 2 ^ 12 := Nat.pow_le_pow_right (by decide) (by omega)
  obtain ⟨d, e, hd⟩ := keys_loop (m := m) (notes := n) (by omega) (im := fun x => N.sets_images m x) (sub n m.toNat) [] (fun x hx _ => images_ok (by omega) (by omega) (by have := nset_len ((sub_mem n0).mp hx).1 (by omega); omega)) (by simp; omega)
  have nd : d.Nodup := keys_nd (m := m) (notes := n) (by omega) (im := fun x => N.sets_images m x) (sub n m.toNat) [] (fun x hx _ => images_ok (by omega) (by omega) (by have := nset_len ((sub_mem n0).mp hx).1 (by omega); omega)) (by simp; omega) List.nodup_nil d e
  rw [e, R.bind_ok]
  have mem : ∀ k, k ∈ d ↔ k ∈ C := fun k => by
    rw [hd]
    constructor
    · rintro (h | ⟨x, hx, l, rfl⟩)
      · cases h
      · have := ((sub_mem n0).mp hx).1
        exact K.one (nset_wide this (by omega)) l
    · intro hk
      obtain ⟨h1, h3⟩ := K.el k hk
      exact .inr ⟨k, (sub_mem n0).mpr ⟨nset_wide h1 (by omega), by omega⟩, h3, (K.lst k hk).symm⟩
  have pm : d.Perm C := (List.perm_ext_iff_of_nodup nd K.nd).mpr mem
  rw [sortKs_ok (fun k hk e => by
    have := (K.el k ((mem k).mp hk)).2
    rw [e] at this
    simp at this
    omega), kSort_leT, R.bind_ok, sorted_oneT pm, K.up]
theorem twins (K : Cls m n C) (hn : 1 ≤ n) : N.sets_twins m n = .ok (bigG (ic m) C) := by
  have m0 := K.m0; have m1 := K.m1; have few := K.few
  unfold N.sets_twins
  rw [K.classes hn, R.bind_ok, grp_ok (st := ic m) (fun x hx => by rw [interval_counts_ok m0 (by omega) (K.el x hx).1, R.bind_ok]) (by omega), R.bind_ok, cmpP_fil, R.bind_ok, big_gr K.nd]
  have : (vlL (gr (ic m) C)).length ≤ C.length := by
    rw [gr_eq K.nd]
    unfold vlL
    rw [List.length_map, List.length_map]
    exact List.length_filter_le _ _
  omega
end Cls
/-! closed facts -/
def imF (m s k : Int) (c : List Int) : List Int := srt (fun a b => decide (a ≤ b)) (c.map (turn m s k))
theorem img_F {m s k : Int} {c : List Int} : img m s k c = imF m s k c := by
  unfold img imF kSort
  rw [srt_eq]
  refine congrArg (fun f => (c.map (turn m s k)).mergeSort f) ?_
  funext a b
  rw [kLt_I]
  by_cases h : a ≤ b
  · rw [decide_eq_true h, decide_eq_false (by omega)]; rfl
  · rw [decide_eq_false h, decide_eq_true (by omega)]; rfl
theorem kLt_list {a b : List Int} : kLt dTI a b = lexI a b := kLt_TI
def lB (m : Int) (c : List Int) : Bool := (rg 0 m.toNat).all fun k => !lexI (imF m 1 k c) c && !lexI (imF m (-1) k c) c
theorem least_of {m : Int} {c : List Int} (m0 : 1 ≤ m) (h : NSet m c) (hB : lB m c = true) : least m c = c := by
  obtain ⟨h1, h2⟩ := least_spec (m := m) (by omega) (xs := c)
  have hc : c ∈ imgs m c := (mem_imgs (by omega)).mpr ⟨1, 0, .inl rfl, ⟨by omega, by omega⟩, (img_id h).symm⟩
  have a1 := h2 c hc
  have a2 : kLt dTI (least m c) c = false := by
    obtain ⟨s, k, hs, hk, e⟩ := (mem_imgs (by omega)).mp h1
    unfold lB at hB
    have := List.all_eq_true.mp hB k (mem_rg.mpr (by omega))
    simp only [Bool.and_eq_true, Bool.not_eq_true'] at this
    rw [kLt_list, e, img_F]
    rcases hs with rfl | rfl
    · exact this.1
    · exact this.2
  exact inj_TI _ _ (kLt_tot a2 a1)
def covB (m : Int) (C : List (List Int)) : List (List Int) → List (Nat × Bool × Nat) → Bool
  | [], [] => true
  | x :: xs, w :: ws => Nat.blt w.2.2 m.toNat && Nat.blt w.1 C.length && decide (imF m (bif w.2.1 then 1 else -1) (w.2.2 : Int) (C.getD w.1 []) = x) && covB m C xs ws
  | _, _ => false
theorem covB_ok {m : Int} {C : List (List Int)} (m0 : 1 ≤ m) : ∀ {xs : List (List Int)} {ws : List (Nat × Bool × Nat)}, covB m C xs ws = true → ∀ x ∈ xs, ∃ c ∈ C, x ∈ imgs m c
  | [], _, _ => fun x h => nomatch h
  | _ :: _, [], h => nomatch h
  | x :: xs, w :: ws, h => by
    unfold covB at h
    simp only [Bool.and_eq_true, decide_eq_true_eq] at h
    obtain ⟨⟨⟨h1, h2⟩, h3⟩, h4⟩ := h
    have h1 := Nat.blt_eq.mp h1
    have h2 := Nat.blt_eq.mp h2
    intro y hy
    rcases List.mem_cons.mp hy with rfl | hy
    · refine ⟨C.getD w.1 [], ?_, (mem_imgs (by omega)).mpr ⟨bif w.2.1 then 1 else -1, (w.2.2 : Int), ?_, by omega, ?_⟩⟩
      · rw [List.getD_eq_getElem?_getD, List.getElem?_eq_getElem h2]
        exact List.getElem_mem h2
      · cases w.2.1
        · exact .inr rfl
        · exact .inl rfl
      · rw [img_F]; exact h3.symm
    · exact covB_ok m0 h4 y hy
def elB (m : Int) (n : Nat) (c : List Int) : Bool := decide (c.Pairwise (· < ·)) && (c.all fun x => decide (0 ≤ x) && decide (x < m)) && Nat.beq c.length n && lB m c
def chk (m : Int) (n : Nat) (C : List (List Int)) (W : List (Nat × Bool × Nat)) : Bool :=
  C.all (elB m n) && decide (dd C = C) && decide (srt leT C = C) && Nat.ble C.length 62 && covB m C (cols m n) W
theorem cls_of {m : Int} {n : Nat} {C : List (List Int)} {W : List (Nat × Bool × Nat)} {w : Int} (m0 : 1 ≤ m) (m1 : m ≤ 12) (n1 : (n : Int) ≤ m) (hw : N.sets_ways m n = .ok w) (w2 : ¬ w > 2000) (lim : ∀ j : Nat, j ≤ 12 → (cols m j).length ≤ 1000) (h : chk m n C W = true) : Cls m n C := by
  unfold chk at h
  simp only [Bool.and_eq_true, decide_eq_true_eq, List.all_eq_true] at h
  obtain ⟨⟨⟨⟨h1, h2⟩, h3⟩, h4⟩, h5⟩ := h
  have h4 := Nat.ble_eq.mp h4
  have en : ((n : Int)).toNat = n := Int.toNat_natCast n
  have el : ∀ c ∈ C, NSet m c ∧ c.length = n ∧ lB m c = true := fun c hc => by
    have := h1 c hc
    unfold elB at this
    simp only [Bool.and_eq_true, decide_eq_true_eq, List.all_eq_true] at this
    obtain ⟨⟨⟨a1, a2⟩, a3⟩, a4⟩ := this
    exact ⟨⟨a1, a2⟩, Nat.beq_eq.mp a3, a4⟩
  refine ⟨m0, m1, by omega, n1, by omega, fun c hc => ⟨(el c hc).1, by rw [(el c hc).2.1]⟩, fun c hc => least_of m0 (el c hc).1 (el c hc).2.2, by rw [← h2]; exact dd_nodup C, by rw [← srt_eq]; exact h3, ?_, ⟨w, hw, w2⟩, fun j hj => lim j (by omega)⟩
  · rw [en]; exact covB_ok m0 h5
theorem lim_of {m : Int} (h : ((List.range 13).all fun j => Nat.ble (cols m j).length 1000) = true) : ∀ j : Nat, j ≤ 12 → (cols m j).length ≤ 1000 := fun j hj => Nat.ble_eq.mp (List.all_eq_true.mp h j (List.mem_range.mpr (by omega)))
theorem lim_12 : ∀ j : Nat, j ≤ 12 → (cols 12 j).length ≤ 1000 := lim_of (by kernel_rfl)
def C_12_5 : List (List Int) := [[0, 1, 2, 3, 4], [0, 1, 2, 3, 5], [0, 1, 2, 3, 6], [0, 1, 2, 3, 7], [0, 1, 2, 4, 5], [0, 1, 2, 4, 6], [0, 1, 2, 4, 7], [0, 1, 2, 4, 8], [0, 1, 2, 4, 9], [0, 1, 2, 4, 10], [0, 1, 2, 5, 6], [0, 1, 2, 5, 7], [0, 1, 2, 5, 8], [0, 1, 2, 5, 9], [0, 1, 2, 6, 7], [0, 1, 2, 6, 8], [0, 1, 3, 4, 6], [0, 1, 3, 4, 7], [0, 1, 3, 4, 8], [0, 1, 3, 5, 6], [0, 1, 3, 5, 7], [0, 1, 3, 5, 8], [0, 1, 3, 5, 9], [0, 1, 3, 5, 10], [0, 1, 3, 6, 7], [0, 1, 3, 6, 8], [0, 1, 3, 6, 9], [0, 1, 3, 6, 10], [0, 1, 3, 7, 8], [0, 1, 3, 7, 9], [0, 1, 3, 8, 9], [0, 1, 4, 5, 8], [0, 1, 4, 6, 8], [0, 1, 4, 6, 9], [0, 1, 4, 7, 8], [0, 2, 4, 6, 8], [0, 2, 4, 6, 9], [0, 2, 4, 7, 9]]
theorem K_12_5 : Cls 12 5 C_12_5 := cls_of (n := 5) (w := 792) (W := [(0, true, 0), (1, true, 0), (2, true, 0), (3, true, 0), (3, false, 3), (2, false, 3), (1, false, 3), (0, true, 11), (4, true, 0), (5, true, 0), (6, true, 0), (7, true, 0), (8, true, 0), (9, true, 0), (1, true, 11), (10, true, 0), (11, true, 0), (12, true, 0), (13, true, 0), (8, false, 2), (2, true, 11), (14, true, 0), (15, true, 0), (12, false, 2), (7, false, 2), (3, true, 11), (14, false, 2), (11, false, 2), (6, false, 2), (3, false, 2), (10, false, 2), (5, false, 2), (2, false, 2), (4, false, 2), (1, false, 2), (0, true, 10), (4, false, 5), (16, true, 0), (17, true, 0), (18, true, 0), (17, false, 4), (16, false, 4), (4, true, 11), (19, true, 0), (20, true, 0), (21, true, 0), (22, true, 0), (23, true, 0), (5, true, 11), (24, true, 0), (25, true, 0), (26, true, 0), (27, true, 0), (6, true, 11), (28, true, 0), (29, true, 0), (27, false, 1), (7, true, 11), (30, true, 0), (23, false, 1), (8, true, 11), (16, true, 9), (9, true, 11), (1, true, 10), (10, false, 6), (30, true, 4), (31, true, 0), (31, false, 5), (30, false, 1), (10, true, 11), (24, false, 7), (32, true, 0), (33, true, 0), (29, false, 1), (11, true, 11), (34, true, 0), (33, false, 1), (26, false, 1), (12, true, 11), (31, true, 8), (22, false, 1), (13, true, 11), (17, true, 9), (8, false, 1), (2, true, 10), (14, false, 7), (28, true, 5), (34, true, 5), (28, false, 1), (14, true, 11), (28, false, 8), (32, false, 1), (25, false, 1), (15, true, 11), (31, false, 1), (21, false, 1), (12, false, 1), (18, true, 9), (7, false, 1), (3, true, 10), (14, true, 6), (24, true, 6), (24, false, 1), (14, false, 1), (30, false, 9), (20, false, 1), (11, false, 1), (17, false, 1), (6, false, 1), (3, false, 1), (10, true, 7), (19, true, 7), (10, false, 1), (16, false, 1), (5, false, 1), (2, false, 1), (4, true, 8), (4, false, 1), (1, false, 1), (0, true, 9), (1, false, 5), (9, true, 2), (8, false, 4), (7, false, 4), (6, false, 4), (5, false, 4), (4, false, 4), (16, false, 6), (23, true, 2), (27, true, 2), (27, false, 3), (23, false, 3), (16, true, 11), (30, false, 3), (29, false, 3), (26, false, 3), (22, false, 3), (17, true, 11), (28, false, 3), (25, false, 3), (21, false, 3), (18, true, 11), (24, false, 3), (20, false, 3), (17, false, 3), (19, true, 9), (16, false, 3), (4, true, 10), (5, false, 6), (23, false, 5), (22, false, 5), (21, false, 5), (20, false, 5), (19, true, 11), (20, false, 7), (35, true, 0), (36, true, 0), (35, true, 10), (20, true, 11), (32, false, 8), (37, true, 0), (36, true, 10), (21, true, 11), (32, true, 8), (35, true, 8), (22, true, 11), (20, true, 9), (23, true, 11), (5, true, 10), (11, false, 7), (29, true, 5), (33, false, 6), (32, false, 6), (24, true, 11), (25, false, 8), (37, true, 5), (37, true, 10), (25, true, 11), (33, true, 8), (36, true, 8), (26, true, 11), (21, true, 9), (27, true, 11), (6, true, 10), (15, true, 6), (25, true, 6), (32, true, 6), (28, true, 11), (29, false, 9), (35, true, 6), (29, true, 11), (22, true, 9), (27, false, 0), (7, true, 10), (11, true, 7), (20, true, 7), (30, true, 11), (23, true, 9), (23, false, 0), (8, true, 10), (5, true, 8), (16, true, 8), (9, true, 10), (1, true, 9), (2, false, 6), (8, true, 3), (13, true, 3), (12, false, 5), (11, false, 5), (10, false, 5), (17, false, 7), (22, true, 3), (26, true, 3), (29, true, 3), (30, true, 3), (31, false, 8), (33, true, 3), (33, false, 4), (31, true, 11), (34, true, 8), (32, false, 4), (31, false, 4), (24, true, 9), (30, false, 0), (10, true, 10), (6, false, 7), (27, false, 6), (26, false, 6), (25, false, 6), (24, false, 6), (21, false, 8), (36, true, 3), (37, true, 3), (32, true, 11), (33, false, 9), (37, true, 8), (33, true, 11), (25, true, 9), (29, false, 0), (11, true, 10), (12, false, 8), (26, true, 6), (33, true, 6), (34, true, 11), (26, false, 9), (36, true, 6), (33, false, 0), (26, true, 9), (26, false, 0), (12, true, 10), (12, true, 7), (21, true, 7), (31, true, 7), (27, true, 9), (22, false, 0), (13, true, 10), (6, true, 8), (17, true, 8), (8, false, 0), (2, true, 9), (3, false, 7), (7, true, 4), (12, true, 4), (15, true, 4), (14, false, 6), (18, true, 4), (21, true, 4), (25, true, 4), (28, true, 4), (31, true, 4), (32, true, 4), (34, true, 4), (28, true, 9), (28, false, 0), (14, true, 10), (7, false, 8), (27, true, 6), (29, false, 7), (28, false, 7), (22, false, 9), (35, true, 4), (32, false, 0), (29, true, 9), (25, false, 0), (15, true, 10), (13, true, 7), (22, true, 7), (31, false, 0), (27, false, 10), (21, false, 0), (12, false, 0), (7, true, 8), (18, true, 8), (7, false, 0), (3, true, 9), (3, true, 5), (6, true, 5), (11, true, 5), (14, true, 5), (17, true, 5), (20, true, 5), (24, true, 5), (30, true, 9), (24, false, 0), (14, false, 0), (8, false, 9), (23, true, 7), (30, false, 8), (23, false, 10), (20, false, 0), (11, false, 0), (8, true, 8), (17, false, 0), (6, false, 0), (3, false, 0), (2, true, 6), (5, true, 6), (10, true, 6), (16, true, 6), (19, true, 6), (10, false, 0), (9, true, 8), (16, false, 0), (5, false, 0), (2, false, 0), (1, true, 7), (4, true, 7), (4, false, 0), (1, false, 0), (0, true, 8), (0, true, 1), (1, true, 1), (2, true, 1), (3, true, 1), (3, false, 4), (2, false, 4), (1, false, 4), (4, true, 1), (5, true, 1), (6, true, 1), (7, true, 1), (8, true, 1), (9, true, 1), (10, true, 1), (11, true, 1), (12, true, 1), (13, true, 1), (8, false, 3), (14, true, 1), (15, true, 1), (12, false, 3), (7, false, 3), (14, false, 3), (11, false, 3), (6, false, 3), (10, false, 3), (5, false, 3), (4, false, 3), (4, false, 6), (16, true, 1), (17, true, 1), (18, true, 1), (17, false, 5), (16, false, 5), (19, true, 1), (20, true, 1), (21, true, 1), (22, true, 1), (23, true, 1), (24, true, 1), (25, true, 1), (26, true, 1), (27, true, 1), (28, true, 1), (29, true, 1), (27, false, 2), (30, true, 1), (23, false, 2), (16, true, 10), (10, false, 7), (30, true, 5), (31, true, 1), (31, false, 6), (30, false, 2), (24, false, 8), (32, true, 1), (33, true, 1), (29, false, 2), (34, true, 1), (33, false, 2), (26, false, 2), (31, true, 9), (22, false, 2), (17, true, 10), (14, false, 8), (28, true, 6), (34, true, 6), (28, false, 2), (28, false, 9), (32, false, 2), (25, false, 2), (31, false, 2), (21, false, 2), (18, true, 10), (14, true, 7), (24, true, 7), (24, false, 2), (30, false, 10), (20, false, 2), (17, false, 2), (10, true, 8), (19, true, 8), (16, false, 2), (4, true, 9), (1, false, 6), (9, true, 3), (8, false, 5), (7, false, 5), (6, false, 5), (5, false, 5), (16, false, 7), (23, true, 3), (27, true, 3), (27, false, 4), (23, false, 4), (30, false, 4), (29, false, 4), (26, false, 4), (22, false, 4), (28, false, 4), (25, false, 4), (21, false, 4), (24, false, 4), (20, false, 4), (19, true, 10), (5, false, 7), (23, false, 6), (22, false, 6), (21, false, 6), (20, false, 6), (20, false, 8), (35, true, 1), (36, true, 1), (35, true, 11), (32, false, 9), (37, true, 1), (36, true, 11), (32, true, 9), (35, true, 9), (20, true, 10), (11, false, 8), (29, true, 6), (33, false, 7), (32, false, 7), (25, false, 9), (37, true, 6), (37, true, 11), (33, true, 9), (36, true, 9), (21, true, 10), (15, true, 7), (25, true, 7), (32, true, 7), (29, false, 10), (35, true, 7), (22, true, 10), (11, true, 8), (20, true, 8), (23, true, 10), (5, true, 9), (2, false, 7), (8, true, 4), (13, true, 4), (12, false, 6), (11, false, 6), (17, false, 8), (22, true, 4), (26, true, 4), (29, true, 4), (31, false, 9), (33, true, 4), (33, false, 5), (34, true, 9), (32, false, 5), (24, true, 10), (6, false, 8), (27, false, 7), (26, false, 7), (25, false, 7), (21, false, 9), (36, true, 4), (37, true, 4), (33, false, 10), (37, true, 9), (25, true, 10), (12, false, 9), (26, true, 7), (33, true, 7), (26, false, 10), (36, true, 7), (26, true, 10), (12, true, 8), (21, true, 8), (27, true, 10), (6, true, 9), (3, false, 8), (7, true, 5), (12, true, 5), (15, true, 5), (18, true, 5), (21, true, 5), (25, true, 5), (31, true, 5), (32, true, 5), (28, true, 10), (7, false, 9), (27, true, 7), (29, false, 8), (22, false, 10), (35, true, 5), (29, true, 10), (13, true, 8), (22, true, 8), (27, false, 11), (7, true, 9), (3, true, 6), (6, true, 6), (11, true, 6), (17, true, 6), (20, true, 6), (30, true, 10), (8, false, 10), (23, true, 8), (23, false, 11), (8, true, 9), (2, true, 7), (5, true, 7), (16, true, 7), (9, true, 9), (1, true, 8), (0, true, 2), (1, true, 2), (2, true, 2), (3, true, 2), (3, false, 5), (2, false, 5), (4, true, 2), (5, true, 2), (6, true, 2), (7, true, 2), (8, true, 2), (10, true, 2), (11, true, 2), (12, true, 2), (13, true, 2), (14, true, 2), (15, true, 2), (12, false, 4), (14, false, 4), (11, false, 4), (10, false, 4), (4, false, 7), (16, true, 2), (17, true, 2), (18, true, 2), (17, false, 6), (19, true, 2), (20, true, 2), (21, true, 2), (22, true, 2), (24, true, 2), (25, true, 2), (26, true, 2), (28, true, 2), (29, true, 2), (30, true, 2), (10, false, 8), (30, true, 6), (31, true, 2), (31, false, 7), (24, false, 9), (32, true, 2), (33, true, 2), (34, true, 2), (33, false, 3), (31, true, 10), (14, false, 9), (28, true, 7), (34, true, 7), (28, false, 10), (32, false, 3), (31, false, 3), (14, true, 8), (24, true, 8), (30, false, 11), (10, true, 9), (1, false, 7), (9, true, 4), (8, false, 6), (7, false, 6), (6, false, 6), (16, false, 8), (23, true, 4), (27, true, 4), (27, false, 5), (30, false, 5), (29, false, 5), (26, false, 5), (28, false, 5), (25, false, 5), (24, false, 5), (5, false, 8), (23, false, 7), (22, false, 7), (21, false, 7), (20, false, 9), (35, true, 2), (36, true, 2), (32, false, 10), (37, true, 2), (32, true, 10), (11, false, 9), (29, true, 7), (33, false, 8), (25, false, 10), (37, true, 7), (33, true, 10), (15, true, 8), (25, true, 8), (29, false, 11), (11, true, 9), (2, false, 8), (8, true, 5), (13, true, 5), (12, false, 7), (17, false, 9), (22, true, 5), (26, true, 5), (31, false, 10), (33, true, 5), (34, true, 10), (6, false, 9), (27, false, 8), (26, false, 8), (21, false, 10), (36, true, 5), (33, false, 11), (12, false, 10), (26, true, 8), (26, false, 11), (12, true, 9), (3, false, 9), (7, true, 6), (12, true, 6), (18, true, 6), (21, true, 6), (31, true, 6), (7, false, 10), (27, true, 8), (22, false, 11), (13, true, 9), (3, true, 7), (6, true, 7), (17, true, 7), (8, false, 11), (2, true, 8), (0, true, 3), (1, true, 3), (2, true, 3), (3, true, 3), (3, false, 6), (4, true, 3), (5, true, 3), (6, true, 3), (7, true, 3), (10, true, 3), (11, true, 3), (12, true, 3), (14, true, 3), (15, true, 3), (14, false, 5), (4, false, 8), (16, true, 3), (17, true, 3), (18, true, 3), (19, true, 3), (20, true, 3), (21, true, 3), (24, true, 3), (25, true, 3), (28, true, 3), (10, false, 9), (30, true, 7), (31, true, 3), (24, false, 10), (32, true, 3), (34, true, 3), (14, false, 10), (28, true, 8), (28, false, 11), (14, true, 9), (1, false, 8), (9, true, 5), (8, false, 7), (7, false, 7), (16, false, 9), (23, true, 5), (27, true, 5), (30, false, 6), (29, false, 6), (28, false, 6), (5, false, 9), (23, false, 8), (22, false, 8), (20, false, 10), (35, true, 3), (32, false, 11), (11, false, 10), (29, true, 8), (25, false, 11), (15, true, 9), (2, false, 9), (8, true, 6), (13, true, 6), (17, false, 10), (22, true, 6), (31, false, 11), (6, false, 10), (27, false, 9), (21, false, 11), (12, false, 11), (3, false, 10), (7, true, 7), (18, true, 7), (7, false, 11), (3, true, 8), (0, true, 4), (1, true, 4), (2, true, 4), (3, true, 4), (4, true, 4), (5, true, 4), (6, true, 4), (10, true, 4), (11, true, 4), (14, true, 4), (4, false, 9), (16, true, 4), (17, true, 4), (19, true, 4), (20, true, 4), (24, true, 4), (10, false, 10), (30, true, 8), (24, false, 11), (14, false, 11), (1, false, 9), (9, true, 6), (8, false, 8), (16, false, 10), (23, true, 6), (30, false, 7), (5, false, 10), (23, false, 9), (20, false, 11), (11, false, 11), (2, false, 10), (8, true, 7), (17, false, 11), (6, false, 11), (3, false, 11), (0, true, 5), (1, true, 5), (2, true, 5), (4, true, 5), (5, true, 5), (10, true, 5), (4, false, 10), (16, true, 5), (19, true, 5), (10, false, 11), (1, false, 10), (9, true, 7), (16, false, 11), (5, false, 11), (2, false, 11), (0, true, 6), (1, true, 6), (4, true, 6), (4, false, 11), (1, false, 11), (0, true, 7)]) (by decide) (by decide) (by decide) (by kernel_rfl) (by decide) lim_12 (by kernel_rfl)
def C_12_6 : List (List Int) := [[0, 1, 2, 3, 4, 5], [0, 1, 2, 3, 4, 6], [0, 1, 2, 3, 4, 7], [0, 1, 2, 3, 4, 8], [0, 1, 2, 3, 5, 6], [0, 1, 2, 3, 5, 7], [0, 1, 2, 3, 5, 8], [0, 1, 2, 3, 5, 9], [0, 1, 2, 3, 5, 10], [0, 1, 2, 3, 6, 7], [0, 1, 2, 3, 6, 8], [0, 1, 2, 3, 6, 9], [0, 1, 2, 3, 7, 8], [0, 1, 2, 4, 5, 6], [0, 1, 2, 4, 5, 7], [0, 1, 2, 4, 5, 8], [0, 1, 2, 4, 5, 9], [0, 1, 2, 4, 5, 10], [0, 1, 2, 4, 6, 7], [0, 1, 2, 4, 6, 8], [0, 1, 2, 4, 6, 9], [0, 1, 2, 4, 6, 10], [0, 1, 2, 4, 7, 8], [0, 1, 2, 4, 7, 9], [0, 1, 2, 4, 7, 10], [0, 1, 2, 4, 8, 9], [0, 1, 2, 5, 6, 7], [0, 1, 2, 5, 6, 8], [0, 1, 2, 5, 6, 9], [0, 1, 2, 5, 7, 8], [0, 1, 2, 5, 7, 9], [0, 1, 2, 6, 7, 8], [0, 1, 3, 4, 6, 7], [0, 1, 3, 4, 6, 8], [0, 1, 3, 4, 6, 9], [0, 1, 3, 4, 6, 10], [0, 1, 3, 4, 7, 8], [0, 1, 3, 4, 7, 9], [0, 1, 3, 5, 6, 8], [0, 1, 3, 5, 6, 9], [0, 1, 3, 5, 7, 8], [0, 1, 3, 5, 7, 9], [0, 1, 3, 5, 7, 10], [0, 1, 3, 5, 8, 9], [0, 1, 3, 5, 8, 10], [0, 1, 3, 6, 7, 9], [0, 1, 3, 6, 7, 10], [0, 1, 3, 6, 8, 9], [0, 1, 4, 5, 8, 9], [0, 2, 4, 6, 8, 10]]
theorem K_12_6 : Cls 12 6 C_12_6 := cls_of (n := 6) (w := 924) (W := [(0, true, 0), (1, true, 0), (2, true, 0), (3, true, 0), (2, false, 4), (1, false, 4), (0, true, 11), (4, true, 0), (5, true, 0), (6, true, 0), (7, true, 0), (8, true, 0), (1, true, 11), (9, true, 0), (10, true, 0), (11, true, 0), (7, false, 3), (2, true, 11), (12, true, 0), (10, false, 3), (6, false, 3), (3, true, 11), (9, false, 3), (5, false, 3), (2, false, 3), (4, false, 3), (1, false, 3), (0, true, 10), (13, true, 0), (14, true, 0), (15, true, 0), (16, true, 0), (17, true, 0), (4, true, 11), (18, true, 0), (19, true, 0), (20, true, 0), (21, true, 0), (5, true, 11), (22, true, 0), (23, true, 0), (24, true, 0), (6, true, 11), (25, true, 0), (21, false, 2), (7, true, 11), (17, false, 2), (8, true, 11), (1, true, 10), (26, true, 0), (27, true, 0), (28, true, 0), (25, false, 2), (9, true, 11), (29, true, 0), (30, true, 0), (23, false, 2), (10, true, 11), (28, false, 2), (20, false, 2), (11, true, 11), (16, false, 2), (7, false, 2), (2, true, 10), (31, true, 0), (29, false, 2), (22, false, 2), (12, true, 11), (27, false, 2), (19, false, 2), (10, false, 2), (15, false, 2), (6, false, 2), (3, true, 10), (26, true, 7), (18, false, 2), (9, false, 2), (14, false, 2), (5, false, 2), (2, false, 2), (13, true, 8), (4, false, 2), (1, false, 2), (0, true, 9), (4, false, 6), (17, false, 5), (16, false, 5), (15, false, 5), (14, false, 5), (13, true, 11), (32, true, 0), (33, true, 0), (34, true, 0), (35, true, 0), (14, true, 11), (36, true, 0), (37, true, 0), (34, false, 4), (15, true, 11), (36, false, 4), (33, false, 4), (16, true, 11), (32, true, 9), (17, true, 11), (4, true, 10), (18, false, 7), (38, true, 0), (39, true, 0), (38, false, 6), (18, true, 11), (40, true, 0), (41, true, 0), (42, true, 0), (19, true, 11), (43, true, 0), (44, true, 0), (20, true, 11), (33, true, 9), (21, true, 11), (5, true, 10), (29, false, 8), (45, true, 0), (46, true, 0), (22, true, 11), (47, true, 0), (42, false, 1), (23, true, 11), (34, true, 9), (24, true, 11), (6, true, 10), (27, true, 7), (38, true, 7), (25, true, 11), (35, true, 9), (21, false, 1), (7, true, 10), (14, true, 8), (17, false, 1), (8, true, 10), (1, true, 9), (9, false, 7), (25, true, 4), (28, false, 6), (27, false, 6), (26, true, 11), (36, false, 8), (43, true, 4), (47, true, 4), (27, true, 11), (48, true, 0), (43, false, 1), (28, true, 11), (36, true, 9), (25, false, 1), (9, true, 10), (22, false, 8), (46, true, 6), (45, false, 1), (29, true, 11), (43, false, 9), (41, false, 1), (30, true, 11), (37, true, 9), (23, false, 1), (10, true, 10), (28, true, 7), (39, true, 7), (28, false, 1), (34, false, 1), (20, false, 1), (11, true, 10), (15, true, 8), (16, false, 1), (7, false, 1), (2, true, 9), (12, true, 5), (22, true, 5), (29, true, 5), (31, true, 5), (36, true, 5), (40, true, 5), (29, false, 1), (36, false, 1), (22, false, 1), (12, true, 10), (25, false, 9), (38, false, 1), (27, false, 1), (33, false, 1), (19, false, 1), (10, false, 1), (16, true, 8), (15, false, 1), (6, false, 1), (3, true, 9), (9, true, 6), (18, true, 6), (26, true, 6), (32, true, 6), (18, false, 1), (9, false, 1), (17, true, 8), (14, false, 1), (5, false, 1), (2, false, 1), (4, true, 7), (13, true, 7), (4, false, 1), (1, false, 1), (0, true, 8), (1, false, 6), (8, true, 2), (7, false, 5), (6, false, 5), (5, false, 5), (4, false, 5), (17, true, 2), (21, true, 2), (24, true, 2), (21, false, 4), (17, false, 4), (25, false, 4), (23, false, 4), (20, false, 4), (16, false, 4), (22, false, 4), (19, false, 4), (15, false, 4), (18, false, 4), (14, false, 4), (13, true, 10), (14, false, 7), (35, true, 2), (34, false, 6), (33, false, 6), (32, true, 11), (38, false, 8), (42, true, 2), (44, true, 2), (33, true, 11), (46, true, 2), (42, false, 3), (34, true, 11), (38, true, 9), (35, true, 11), (14, true, 10), (27, false, 8), (47, true, 6), (43, false, 3), (36, true, 11), (45, false, 3), (41, false, 3), (37, true, 11), (39, true, 9), (34, false, 3), (15, true, 10), (29, true, 7), (40, true, 7), (36, false, 3), (38, false, 3), (33, false, 3), (16, true, 10), (18, true, 8), (32, true, 8), (17, true, 10), (4, true, 9), (5, false, 7), (21, false, 6), (20, false, 6), (19, false, 6), (18, false, 6), (33, false, 8), (44, true, 4), (42, false, 5), (38, true, 11), (43, false, 5), (41, false, 5), (39, true, 11), (40, true, 9), (38, false, 5), (18, true, 10), (19, false, 8), (42, false, 7), (41, false, 7), (40, true, 11), (41, false, 9), (49, true, 0), (41, true, 11), (41, true, 9), (42, true, 11), (19, true, 10), (30, true, 7), (41, true, 7), (43, true, 11), (42, true, 9), (44, true, 11), (20, true, 10), (19, true, 8), (33, true, 8), (21, true, 10), (5, true, 9), (10, false, 8), (23, true, 5), (30, true, 5), (29, false, 7), (37, true, 5), (41, true, 5), (45, true, 5), (43, true, 9), (46, true, 11), (22, true, 10), (23, false, 9), (42, true, 7), (47, true, 11), (44, true, 9), (42, false, 0), (23, true, 10), (20, true, 8), (34, true, 8), (24, true, 10), (6, true, 9), (10, true, 6), (19, true, 6), (27, true, 6), (33, true, 6), (38, true, 6), (25, true, 10), (21, true, 8), (35, true, 8), (21, false, 0), (7, true, 9), (5, true, 7), (14, true, 7), (17, false, 0), (8, true, 9), (1, true, 8), (2, false, 7), (7, true, 3), (11, true, 3), (10, false, 6), (9, false, 6), (16, true, 3), (20, true, 3), (23, true, 3), (25, true, 3), (28, true, 3), (30, true, 3), (28, false, 5), (29, false, 5), (27, false, 5), (26, true, 10), (15, false, 8), (34, true, 3), (37, true, 3), (36, false, 7), (39, true, 3), (41, true, 3), (43, true, 3), (45, true, 3), (47, true, 3), (27, true, 10), (28, false, 9), (43, true, 7), (48, true, 3), (46, true, 9), (43, false, 0), (28, true, 10), (22, true, 8), (36, true, 8), (25, false, 0), (9, true, 9), (6, false, 8), (24, true, 5), (23, false, 7), (22, false, 7), (34, false, 9), (42, true, 5), (46, true, 5), (47, true, 9), (45, false, 0), (29, true, 10), (20, false, 9), (44, true, 7), (43, false, 8), (42, false, 10), (41, false, 0), (30, true, 10), (23, true, 8), (37, true, 8), (23, false, 0), (10, true, 9), (11, true, 6), (20, true, 6), (28, true, 6), (34, true, 6), (39, true, 6), (28, false, 0), (24, true, 8), (34, false, 0), (20, false, 0), (11, true, 9), (6, true, 7), (15, true, 7), (16, false, 0), (7, false, 0), (2, true, 8), (3, true, 4), (6, true, 4), (10, true, 4), (12, true, 4), (15, true, 4), (19, true, 4), (22, true, 4), (27, true, 4), (29, true, 4), (31, true, 4), (16, false, 9), (33, true, 4), (36, true, 4), (38, true, 4), (40, true, 4), (29, false, 0), (25, true, 8), (36, false, 0), (22, false, 0), (12, true, 9), (7, false, 9), (21, true, 6), (25, false, 8), (35, true, 6), (38, false, 0), (27, false, 0), (21, false, 10), (33, false, 0), (19, false, 0), (10, false, 0), (7, true, 7), (16, true, 7), (15, false, 0), (6, false, 0), (3, true, 8), (2, true, 5), (5, true, 5), (9, true, 5), (14, true, 5), (18, true, 5), (26, true, 5), (17, false, 10), (32, true, 5), (18, false, 0), (9, false, 0), (8, true, 7), (17, true, 7), (14, false, 0), (5, false, 0), (2, false, 0), (1, true, 6), (4, true, 6), (13, true, 6), (4, false, 0), (1, false, 0), (0, true, 7), (0, true, 1), (1, true, 1), (2, true, 1), (3, true, 1), (2, false, 5), (1, false, 5), (4, true, 1), (5, true, 1), (6, true, 1), (7, true, 1), (8, true, 1), (9, true, 1), (10, true, 1), (11, true, 1), (7, false, 4), (12, true, 1), (10, false, 4), (6, false, 4), (9, false, 4), (5, false, 4), (4, false, 4), (13, true, 1), (14, true, 1), (15, true, 1), (16, true, 1), (17, true, 1), (18, true, 1), (19, true, 1), (20, true, 1), (21, true, 1), (22, true, 1), (23, true, 1), (24, true, 1), (25, true, 1), (21, false, 3), (17, false, 3), (26, true, 1), (27, true, 1), (28, true, 1), (25, false, 3), (29, true, 1), (30, true, 1), (23, false, 3), (28, false, 3), (20, false, 3), (16, false, 3), (31, true, 1), (29, false, 3), (22, false, 3), (27, false, 3), (19, false, 3), (15, false, 3), (26, true, 8), (18, false, 3), (14, false, 3), (13, true, 9), (4, false, 7), (17, false, 6), (16, false, 6), (15, false, 6), (14, false, 6), (32, true, 1), (33, true, 1), (34, true, 1), (35, true, 1), (36, true, 1), (37, true, 1), (34, false, 5), (36, false, 5), (33, false, 5), (32, true, 10), (18, false, 8), (38, true, 1), (39, true, 1), (38, false, 7), (40, true, 1), (41, true, 1), (42, true, 1), (43, true, 1), (44, true, 1), (33, true, 10), (29, false, 9), (45, true, 1), (46, true, 1), (47, true, 1), (42, false, 2), (34, true, 10), (27, true, 8), (38, true, 8), (35, true, 10), (14, true, 9), (9, false, 8), (25, true, 5), (28, false, 7), (27, false, 7), (36, false, 9), (43, true, 5), (47, true, 5), (48, true, 1), (43, false, 2), (36, true, 10), (22, false, 9), (46, true, 7), (45, false, 2), (43, false, 10), (41, false, 2), (37, true, 10), (28, true, 8), (39, true, 8), (34, false, 2), (15, true, 9), (12, true, 6), (22, true, 6), (29, true, 6), (36, true, 6), (40, true, 6), (36, false, 2), (25, false, 10), (38, false, 2), (33, false, 2), (16, true, 9), (9, true, 7), (18, true, 7), (32, true, 7), (17, true, 9), (4, true, 8), (1, false, 7), (8, true, 3), (7, false, 6), (6, false, 6), (5, false, 6), (17, true, 3), (21, true, 3), (24, true, 3), (21, false, 5), (25, false, 5), (23, false, 5), (20, false, 5), (22, false, 5), (19, false, 5), (18, false, 5), (14, false, 8), (35, true, 3), (34, false, 7), (33, false, 7), (38, false, 9), (42, true, 3), (44, true, 3), (46, true, 3), (42, false, 4), (38, true, 10), (27, false, 9), (47, true, 7), (43, false, 4), (45, false, 4), (41, false, 4), (39, true, 10), (29, true, 8), (40, true, 8), (38, false, 4), (18, true, 9), (5, false, 8), (21, false, 7), (20, false, 7), (19, false, 7), (33, false, 9), (44, true, 5), (42, false, 6), (43, false, 6), (41, false, 6), (40, true, 10), (19, false, 9), (42, false, 8), (41, false, 8), (41, false, 10), (49, true, 1), (41, true, 10), (30, true, 8), (41, true, 8), (42, true, 10), (19, true, 9), (10, false, 9), (23, true, 6), (30, true, 6), (37, true, 6), (41, true, 6), (43, true, 10), (23, false, 10), (42, true, 8), (44, true, 10), (20, true, 9), (10, true, 7), (19, true, 7), (33, true, 7), (21, true, 9), (5, true, 8), (2, false, 8), (7, true, 4), (11, true, 4), (10, false, 7), (16, true, 4), (20, true, 4), (23, true, 4), (28, true, 4), (30, true, 4), (29, false, 6), (15, false, 9), (34, true, 4), (37, true, 4), (39, true, 4), (41, true, 4), (45, true, 4), (28, false, 10), (43, true, 8), (46, true, 10), (22, true, 9), (6, false, 9), (24, true, 6), (23, false, 8), (34, false, 10), (42, true, 6), (47, true, 10), (20, false, 10), (44, true, 8), (42, false, 11), (23, true, 9), (11, true, 7), (20, true, 7), (34, true, 7), (24, true, 9), (6, true, 8), (3, true, 5), (6, true, 5), (10, true, 5), (15, true, 5), (19, true, 5), (27, true, 5), (16, false, 10), (33, true, 5), (38, true, 5), (25, true, 9), (7, false, 10), (21, true, 7), (35, true, 7), (21, false, 11), (7, true, 8), (2, true, 6), (5, true, 6), (14, true, 6), (17, false, 11), (8, true, 8), (1, true, 7), (0, true, 2), (1, true, 2), (2, true, 2), (3, true, 2), (2, false, 6), (4, true, 2), (5, true, 2), (6, true, 2), (7, true, 2), (9, true, 2), (10, true, 2), (11, true, 2), (12, true, 2), (10, false, 5), (9, false, 5), (13, true, 2), (14, true, 2), (15, true, 2), (16, true, 2), (18, true, 2), (19, true, 2), (20, true, 2), (22, true, 2), (23, true, 2), (25, true, 2), (26, true, 2), (27, true, 2), (28, true, 2), (29, true, 2), (30, true, 2), (28, false, 4), (31, true, 2), (29, false, 4), (27, false, 4), (26, true, 9), (4, false, 8), (17, false, 7), (16, false, 7), (15, false, 7), (32, true, 2), (33, true, 2), (34, true, 2), (36, true, 2), (37, true, 2), (36, false, 6), (18, false, 9), (38, true, 2), (39, true, 2), (40, true, 2), (41, true, 2), (43, true, 2), (29, false, 10), (45, true, 2), (47, true, 2), (27, true, 9), (9, false, 9), (25, true, 6), (28, false, 8), (36, false, 10), (43, true, 6), (48, true, 2), (22, false, 10), (46, true, 8), (43, false, 11), (28, true, 9), (12, true, 7), (22, true, 7), (36, true, 7), (25, false, 11), (9, true, 8), (1, false, 8), (8, true, 4), (7, false, 7), (6, false, 7), (17, true, 4), (21, true, 4), (24, true, 4), (25, false, 6), (23, false, 6), (22, false, 6), (14, false, 9), (35, true, 4), (34, false, 8), (38, false, 10), (42, true, 4), (46, true, 4), (27, false, 10), (47, true, 8), (45, false, 5), (29, true, 9), (5, false, 9), (21, false, 8), (20, false, 8), (33, false, 10), (44, true, 6), (43, false, 7), (19, false, 10), (42, false, 9), (41, false, 11), (30, true, 9), (10, false, 10), (23, true, 7), (37, true, 7), (23, false, 11), (10, true, 8), (2, false, 9), (7, true, 5), (11, true, 5), (16, true, 5), (20, true, 5), (28, true, 5), (15, false, 10), (34, true, 5), (39, true, 5), (28, false, 11), (6, false, 10), (24, true, 7), (34, false, 11), (20, false, 11), (11, true, 8), (3, true, 6), (6, true, 6), (15, true, 6), (16, false, 11), (7, false, 11), (2, true, 7), (0, true, 3), (1, true, 3), (2, true, 3), (3, true, 3), (4, true, 3), (5, true, 3), (6, true, 3), (9, true, 3), (10, true, 3), (12, true, 3), (13, true, 3), (14, true, 3), (15, true, 3), (18, true, 3), (19, true, 3), (22, true, 3), (26, true, 3), (27, true, 3), (29, true, 3), (31, true, 3), (4, false, 9), (17, false, 8), (16, false, 8), (32, true, 3), (33, true, 3), (36, true, 3), (18, false, 10), (38, true, 3), (40, true, 3), (29, false, 11), (9, false, 10), (25, true, 7), (36, false, 11), (22, false, 11), (12, true, 8), (1, false, 9), (8, true, 5), (7, false, 8), (17, true, 5), (21, true, 5), (25, false, 7), (14, false, 10), (35, true, 5), (38, false, 11), (27, false, 11), (5, false, 10), (21, false, 9), (33, false, 11), (19, false, 11), (10, false, 11), (2, false, 10), (7, true, 6), (16, true, 6), (15, false, 11), (6, false, 11), (3, true, 7), (0, true, 4), (1, true, 4), (2, true, 4), (4, true, 4), (5, true, 4), (9, true, 4), (13, true, 4), (14, true, 4), (18, true, 4), (26, true, 4), (4, false, 10), (17, false, 9), (32, true, 4), (18, false, 11), (9, false, 11), (1, false, 10), (8, true, 6), (17, true, 6), (14, false, 11), (5, false, 11), (2, false, 11), (0, true, 5), (1, true, 5), (4, true, 5), (13, true, 5), (4, false, 11), (1, false, 11), (0, true, 6)]) (by decide) (by decide) (by decide) (by kernel_rfl) (by decide) lim_12 (by kernel_rfl)
def tailP : R Bool := (N.sets_twins (12 : Int) (5 : Int)).bind fun c11 => (if (!decide ((c11.length : Int) = (3 : Int))) = true then .ok true else (N.sets_set_classes (12 : Int) (6 : Int)).bind fun c12 => (if (!decide ((c12.length : Int) = (50 : Int))) = true then .ok true else (N.sets_least_image (12 : Int) [(2 : Int), (5 : Int), (9 : Int)]).bind fun c13 => .ok (!decide (c13 = [(0 : Int), (3 : Int), (7 : Int)]))).bind fun t8 => .ok t8).bind fun t9 => if t9 = true then .ok false else (N.sets_even_set (12 : Int) (7 : Int) (5 : Int)).bind fun c14 => (if (decide (c14 = [(0 : Int), (2 : Int), (4 : Int), (5 : Int), (7 : Int), (9 : Int), (11 : Int)])) = true then (N.sets_even_set (12 : Int) (5 : Int) (0 : Int)).bind fun c15 => (if (decide (c15 = [(0 : Int), (2 : Int), (4 : Int), (7 : Int), (9 : Int)])) = true then (N.sets_even_set (8 : Int) (3 : Int) (2 : Int)).bind fun c16 => .ok (decide (c16 = [(0 : Int), (3 : Int), (6 : Int)])) else .ok false).bind fun t10 => .ok t10 else .ok false).bind fun t11 => .ok t11
def midP (L : R Bool) : R Bool := ((N._law_taken (20 : Int)).noX).bind fun d => ((.ok ((5 : Int) + d) : R Int)).bind fun many => (rgR (1 : Int) many).bind fun r => (cmpR r (fun (at1 : Int) => (N._law_common at1 many).bind fun c6 => .ok (decide (c6 = (1 : Int)))) fun (at1 : Int) => .ok at1).bind fun l => ((N._law_pick_v2 l).noX).bind fun step => ((N._law_taken (2 : Int)).noX).bind fun d2 => ((.ok ((many / (2 : Int)) + d2) : R Int)).bind fun notes => (N.words_chain_notes many step notes).bind fun told => (N.sets_interval_counts many told).bind fun counts => (N.sets_is_deep many told).bind fun c10 => (lsetXR ((eT eI) counts)).bind fun n => if (!decide (c10 = (decide (n = (counts.length : Int))))) = true then .ok false else (if (decide ((many % (2 : Int)) = (1 : Int))) = true then (if (decide (notes = (many / (2 : Int)))) = true then (lsetXR ((eT eI) counts)).bind fun n2 => .ok (!decide (n2 = (counts.length : Int))) else .ok false).bind fun t6 => .ok t6 else .ok false).bind fun t7 => if t7 = true then .ok false else L
def chkP (p1 : ((List Int) × ((Int × (Int × (Int × (Int × (Int × (Int × Unit)))))) × (Bool × (Bool × ((Int × (Int × Unit)) × Unit)))))) (L : R Bool) : R Bool := (N.sets_interval_counts (12 : Int) p1.1).bind fun c2 => (if (!decide (c2 = [p1.2.1.1, p1.2.1.2.1, p1.2.1.2.2.1, p1.2.1.2.2.2.1, p1.2.1.2.2.2.2.1, p1.2.1.2.2.2.2.2.1])) = true then .ok true else (N.sets_is_deep (12 : Int) p1.1).bind fun c3 => (if (!decide (c3 = p1.2.2.1)) = true then .ok true else (N.sets_is_even (12 : Int) p1.1).bind fun c4 => (if (!decide (c4 = p1.2.2.2.1)) = true then .ok true else (N.sets_symmetries (12 : Int) p1.1).bind fun c5 => .ok (!decide (c5 = p1.2.2.2.2.1))).bind fun t3 => .ok t3).bind fun t4 => .ok t4).bind fun t5 => if t5 = true then .ok false else L
theorem law_e (ns : List Int) : N.law ns = (catR [([(0 : Int), (2 : Int), (4 : Int), (5 : Int), (7 : Int), (9 : Int), (11 : Int)], ((2 : Int), (5 : Int), (4 : Int), (3 : Int), (6 : Int), (1 : Int), ()), true, true, ((1 : Int), (1 : Int), ()), ()), ([(0 : Int), (2 : Int), (4 : Int), (6 : Int), (8 : Int), (10 : Int)], ((0 : Int), (6 : Int), (0 : Int), (6 : Int), (0 : Int), (3 : Int), ()), false, true, ((6 : Int), (6 : Int), ()), ())] [([(((0 : Int), (3 : Int), (6 : Int), (9 : Int), ()), ((0 : Int), (0 : Int), (4 : Int), (0 : Int), (0 : Int), (2 : Int), ()), false, true, ((4 : Int), (4 : Int), ()), ()).1.1, (((0 : Int), (3 : Int), (6 : Int), (9 : Int), ()), ((0 : Int), (0 : Int), (4 : Int), (0 : Int), (0 : Int), (2 : Int), ()), false, true, ((4 : Int), (4 : Int), ()), ()).1.2.1, (((0 : Int), (3 : Int), (6 : Int), (9 : Int), ()), ((0 : Int), (0 : Int), (4 : Int), (0 : Int), (0 : Int), (2 : Int), ()), false, true, ((4 : Int), (4 : Int), ()), ()).1.2.2.1, (((0 : Int), (3 : Int), (6 : Int), (9 : Int), ()), ((0 : Int), (0 : Int), (4 : Int), (0 : Int), (0 : Int), (2 : Int), ()), false, true, ((4 : Int), (4 : Int), ()), ()).1.2.2.2.1], (((0 : Int), (3 : Int), (6 : Int), (9 : Int), ()), ((0 : Int), (0 : Int), (4 : Int), (0 : Int), (0 : Int), (2 : Int), ()), false, true, ((4 : Int), (4 : Int), ()), ()).2.1, (((0 : Int), (3 : Int), (6 : Int), (9 : Int), ()), ((0 : Int), (0 : Int), (4 : Int), (0 : Int), (0 : Int), (2 : Int), ()), false, true, ((4 : Int), (4 : Int), ()), ()).2.2.1, (((0 : Int), (3 : Int), (6 : Int), (9 : Int), ()), ((0 : Int), (0 : Int), (4 : Int), (0 : Int), (0 : Int), (2 : Int), ()), false, true, ((4 : Int), (4 : Int), ()), ()).2.2.2.1, (((0 : Int), (3 : Int), (6 : Int), (9 : Int), ()), ((0 : Int), (0 : Int), (4 : Int), (0 : Int), (0 : Int), (2 : Int), ()), false, true, ((4 : Int), (4 : Int), ()), ()).2.2.2.2.1, ()), ([(((0 : Int), (1 : Int), (4 : Int), (6 : Int), ()), ((1 : Int), (1 : Int), (1 : Int), (1 : Int), (1 : Int), (1 : Int), ()), false, false, ((1 : Int), (0 : Int), ()), ()).1.1, (((0 : Int), (1 : Int), (4 : Int), (6 : Int), ()), ((1 : Int), (1 : Int), (1 : Int), (1 : Int), (1 : Int), (1 : Int), ()), false, false, ((1 : Int), (0 : Int), ()), ()).1.2.1, (((0 : Int), (1 : Int), (4 : Int), (6 : Int), ()), ((1 : Int), (1 : Int), (1 : Int), (1 : Int), (1 : Int), (1 : Int), ()), false, false, ((1 : Int), (0 : Int), ()), ()).1.2.2.1, (((0 : Int), (1 : Int), (4 : Int), (6 : Int), ()), ((1 : Int), (1 : Int), (1 : Int), (1 : Int), (1 : Int), (1 : Int), ()), false, false, ((1 : Int), (0 : Int), ()), ()).1.2.2.2.1], (((0 : Int), (1 : Int), (4 : Int), (6 : Int), ()), ((1 : Int), (1 : Int), (1 : Int), (1 : Int), (1 : Int), (1 : Int), ()), false, false, ((1 : Int), (0 : Int), ()), ()).2.1, (((0 : Int), (1 : Int), (4 : Int), (6 : Int), ()), ((1 : Int), (1 : Int), (1 : Int), (1 : Int), (1 : Int), (1 : Int), ()), false, false, ((1 : Int), (0 : Int), ()), ()).2.2.1, (((0 : Int), (1 : Int), (4 : Int), (6 : Int), ()), ((1 : Int), (1 : Int), (1 : Int), (1 : Int), (1 : Int), (1 : Int), ()), false, false, ((1 : Int), (0 : Int), ()), ()).2.2.2.1, (((0 : Int), (1 : Int), (4 : Int), (6 : Int), ()), ((1 : Int), (1 : Int), (1 : Int), (1 : Int), (1 : Int), (1 : Int), ()), false, false, ((1 : Int), (0 : Int), ()), ()).2.2.2.2.1, ())]).bind fun known => (catR known [([(0 : Int), (2 : Int), (4 : Int), (7 : Int), (9 : Int)], ((0 : Int), (3 : Int), (2 : Int), (1 : Int), (4 : Int), (0 : Int), ()), false, true, ((1 : Int), (1 : Int), ()), ()), ([(0 : Int), (1 : Int), (3 : Int), (4 : Int), (6 : Int), (7 : Int), (9 : Int), (10 : Int)], ((4 : Int), (4 : Int), (8 : Int), (4 : Int), (4 : Int), (4 : Int), ()), false, true, ((4 : Int), (4 : Int), ()), ())]).bind fun known2 => ((N._law_pick known2).noX).bind fun p1 => chkP p1 (midP tailP) := rfl
def knP : R (List ((List Int) × ((Int × (Int × (Int × (Int × (Int × (Int × Unit)))))) × (Bool × (Bool × ((Int × (Int × Unit)) × Unit)))))) := (catR [([(0 : Int), (2 : Int), (4 : Int), (5 : Int), (7 : Int), (9 : Int), (11 : Int)], ((2 : Int), (5 : Int), (4 : Int), (3 : Int), (6 : Int), (1 : Int), ()), true, true, ((1 : Int), (1 : Int), ()), ()), ([(0 : Int), (2 : Int), (4 : Int), (6 : Int), (8 : Int), (10 : Int)], ((0 : Int), (6 : Int), (0 : Int), (6 : Int), (0 : Int), (3 : Int), ()), false, true, ((6 : Int), (6 : Int), ()), ())] [([(((0 : Int), (3 : Int), (6 : Int), (9 : Int), ()), ((0 : Int), (0 : Int), (4 : Int), (0 : Int), (0 : Int), (2 : Int), ()), false, true, ((4 : Int), (4 : Int), ()), ()).1.1, (((0 : Int), (3 : Int), (6 : Int), (9 : Int), ()), ((0 : Int), (0 : Int), (4 : Int), (0 : Int), (0 : Int), (2 : Int), ()), false, true, ((4 : Int), (4 : Int), ()), ()).1.2.1, (((0 : Int), (3 : Int), (6 : Int), (9 : Int), ()), ((0 : Int), (0 : Int), (4 : Int), (0 : Int), (0 : Int), (2 : Int), ()), false, true, ((4 : Int), (4 : Int), ()), ()).1.2.2.1, (((0 : Int), (3 : Int), (6 : Int), (9 : Int), ()), ((0 : Int), (0 : Int), (4 : Int), (0 : Int), (0 : Int), (2 : Int), ()), false, true, ((4 : Int), (4 : Int), ()), ()).1.2.2.2.1], (((0 : Int), (3 : Int), (6 : Int), (9 : Int), ()), ((0 : Int), (0 : Int), (4 : Int), (0 : Int), (0 : Int), (2 : Int), ()), false, true, ((4 : Int), (4 : Int), ()), ()).2.1, (((0 : Int), (3 : Int), (6 : Int), (9 : Int), ()), ((0 : Int), (0 : Int), (4 : Int), (0 : Int), (0 : Int), (2 : Int), ()), false, true, ((4 : Int), (4 : Int), ()), ()).2.2.1, (((0 : Int), (3 : Int), (6 : Int), (9 : Int), ()), ((0 : Int), (0 : Int), (4 : Int), (0 : Int), (0 : Int), (2 : Int), ()), false, true, ((4 : Int), (4 : Int), ()), ()).2.2.2.1, (((0 : Int), (3 : Int), (6 : Int), (9 : Int), ()), ((0 : Int), (0 : Int), (4 : Int), (0 : Int), (0 : Int), (2 : Int), ()), false, true, ((4 : Int), (4 : Int), ()), ()).2.2.2.2.1, ()), ([(((0 : Int), (1 : Int), (4 : Int), (6 : Int), ()), ((1 : Int), (1 : Int), (1 : Int), (1 : Int), (1 : Int), (1 : Int), ()), false, false, ((1 : Int), (0 : Int), ()), ()).1.1, (((0 : Int), (1 : Int), (4 : Int), (6 : Int), ()), ((1 : Int), (1 : Int), (1 : Int), (1 : Int), (1 : Int), (1 : Int), ()), false, false, ((1 : Int), (0 : Int), ()), ()).1.2.1, (((0 : Int), (1 : Int), (4 : Int), (6 : Int), ()), ((1 : Int), (1 : Int), (1 : Int), (1 : Int), (1 : Int), (1 : Int), ()), false, false, ((1 : Int), (0 : Int), ()), ()).1.2.2.1, (((0 : Int), (1 : Int), (4 : Int), (6 : Int), ()), ((1 : Int), (1 : Int), (1 : Int), (1 : Int), (1 : Int), (1 : Int), ()), false, false, ((1 : Int), (0 : Int), ()), ()).1.2.2.2.1], (((0 : Int), (1 : Int), (4 : Int), (6 : Int), ()), ((1 : Int), (1 : Int), (1 : Int), (1 : Int), (1 : Int), (1 : Int), ()), false, false, ((1 : Int), (0 : Int), ()), ()).2.1, (((0 : Int), (1 : Int), (4 : Int), (6 : Int), ()), ((1 : Int), (1 : Int), (1 : Int), (1 : Int), (1 : Int), (1 : Int), ()), false, false, ((1 : Int), (0 : Int), ()), ()).2.2.1, (((0 : Int), (1 : Int), (4 : Int), (6 : Int), ()), ((1 : Int), (1 : Int), (1 : Int), (1 : Int), (1 : Int), (1 : Int), ()), false, false, ((1 : Int), (0 : Int), ()), ()).2.2.2.1, (((0 : Int), (1 : Int), (4 : Int), (6 : Int), ()), ((1 : Int), (1 : Int), (1 : Int), (1 : Int), (1 : Int), (1 : Int), ()), false, false, ((1 : Int), (0 : Int), ()), ()).2.2.2.2.1, ())]).bind fun known => (catR known [([(0 : Int), (2 : Int), (4 : Int), (7 : Int), (9 : Int)], ((0 : Int), (3 : Int), (2 : Int), (1 : Int), (4 : Int), (0 : Int), ()), false, true, ((1 : Int), (1 : Int), ()), ()), ([(0 : Int), (1 : Int), (3 : Int), (4 : Int), (6 : Int), (7 : Int), (9 : Int), (10 : Int)], ((4 : Int), (4 : Int), (8 : Int), (4 : Int), (4 : Int), (4 : Int), ()), false, true, ((4 : Int), (4 : Int), ()), ())]).bind fun known2 => .ok known2
theorem tail_ok : tailP = .ok true := by
  unfold tailP
  rw [K_12_5.twins (by decide), R.bind_ok, K_12_6.classes (by decide), R.bind_ok]
  kernel_rfl
theorem mid_ok : R.All (fun b => b = true) (midP tailP) := by
  rw [tail_ok]
  exact All_chk (q := fun b => b) (by kernel_rfl)
def allP : List ((List Int) × ((Int × (Int × (Int × (Int × (Int × (Int × Unit)))))) × (Bool × (Bool × ((Int × (Int × Unit)) × Unit))))) := (match knP with | .ok l => l | _ => [])
theorem len_ok : allP.length = 6 := by kernel_rfl
theorem kn_ok : knP = .ok allP := by kernel_rfl
theorem chk_ok : ∀ p ∈ allP, ∀ L, chkP p L = L := by
  intro p hp L
  have e : allP = [allP.getD 0 p, allP.getD 1 p, allP.getD 2 p, allP.getD 3 p, allP.getD 4 p, allP.getD 5 p] := by kernel_rfl
  rw [e] at hp
  simp only [List.mem_cons, List.not_mem_nil, or_false] at hp
  rcases hp with h | h | h | h | h | h <;> (rw [h]; kernel_rfl)
theorem plain (ns : List Int) : R.All (fun b => b = true) (N.law ns) := by
  have e : N.law ns = knP.bind fun l => ((N._law_pick l).noX).bind fun p1 => chkP p1 (midP tailP) := by
    rw [law_e]; unfold knP; simp only [R.bind_assoc, R.bind_ok]
  rw [e, kn_ok, R.bind_ok]
  refine R.All.bind (R.All_noX (pick_all (by rw [len_ok]; decide) (by rw [len_ok]; decide) fun p hp => ?_))
  rw [chk_ok p hp]
  exact mid_ok
theorem law_true : ∀ ns : List Int, ns.length ≤ 63 → lw.F_law [.sl (ns.map T.int)] = .ok (.bl true) [] := fun ns _ => by
  obtain ⟨v, h1, h2⟩ := (n_N_law ns).ok.all (plain ns)
  have h1 : v = true := h1
  subst h1
  exact h2
end Law

set_option maxHeartbeats 4000000
namespace Law
open PySem PySem.Spec L2 FL TW
def topS (i : Nat) : Stmt := PySem.Challenge.pw_temperworks_k79_known_sets.main.body.getD i (.Pass ⟨0, 0, 0, 0⟩)
def initS (i : Nat) : Stmt := match topS i with
  | .ClassDef _ _ _ b .. => b.getD 0 (.Pass ⟨0, 0, 0, 0⟩)
  | s => s

structure Top (K : PySem.W.Frag) (mg : Str → Option Value) : Prop where
  b_abs : mg "abs" = none
  b_all : mg "all" = none
  b_bool : mg "bool" = none
  b_enumerate : mg "enumerate" = none
  b_int : mg "int" = none
  b_isinstance : mg "isinstance" = none
  b_len : mg "len" = none
  b_min : mg "min" = none
  b_range : mg "range" = none
  b_set : mg "set" = none
  b_sorted : mg "sorted" = none
  b_tuple : mg "tuple" = none
  c_MOST_STEPS_sets : ∃ t, mg "MOST_STEPS_sets" = some (.int (60) t)
  c_MOST_CLASSES : ∃ t, mg "MOST_CLASSES" = some (.int (2000) t)
  c_MOST_STEPS_words : ∃ t, mg "MOST_STEPS_words" = some (.int (200) t)
  f_is_int : ∃ f fd, Fun K "is_int" "is_int" (topS 6) f fd ∧ mg "is_int" = some (.ref f)
  f_common : ∃ f fd, Fun K "common" "common" (topS 8) f fd ∧ mg "common" = some (.ref f)
  f_moved : ∃ f fd, Fun K "moved" "moved" (topS 13) f fd ∧ mg "moved" = some (.ref f)
  f_turned : ∃ f fd, Fun K "turned" "turned" (topS 14) f fd ∧ mg "turned" = some (.ref f)
  f_ways : ∃ f fd, Fun K "ways" "ways" (topS 19) f fd ∧ mg "ways" = some (.ref f)
  f_spectrum : ∃ f fd, Fun K "spectrum" "spectrum" (topS 21) f fd ∧ mg "spectrum" = some (.ref f)
  f_chain_of : ∃ f fd, Fun K "chain_of" "chain_of" (topS 29) f fd ∧ mg "chain_of" = some (.ref f)
  f__law_taken : ∃ f fd, Fun K "_law_taken" "_law_taken" (topS 32) f fd ∧ mg "_law_taken" = some (.ref f)
  f__law_common : ∃ f fd, Fun K "_law_common" "_law_common" (topS 34) f fd ∧ mg "_law_common" = some (.ref f)
  f_is_in : ∃ f fd, Fun K "is_in" "is_in" (topS 7) f fd ∧ mg "is_in" = some (.ref f)
  f_images : ∃ f fd, Fun K "images" "images" (topS 15) f fd ∧ mg "images" = some (.ref f)
  f__law_pick : ∃ f fd, Fun K "_law_pick" "_law_pick" (topS 33) f fd ∧ mg "_law_pick" = some (.ref f)
  f_need_set : ∃ f fd, Fun K "need_set" "need_set" (topS 12) f fd ∧ mg "need_set" = some (.ref f)
  f_set_classes : ∃ f fd, Fun K "set_classes" "set_classes" (topS 18) f fd ∧ mg "set_classes" = some (.ref f)
  f_even_set : ∃ f fd, Fun K "even_set" "even_set" (topS 20) f fd ∧ mg "even_set" = some (.ref f)
  f_need_chain : ∃ f fd, Fun K "need_chain" "need_chain" (topS 28) f fd ∧ mg "need_chain" = some (.ref f)
  f_least_image : ∃ f fd, Fun K "least_image" "least_image" (topS 16) f fd ∧ mg "least_image" = some (.ref f)
  f_interval_counts : ∃ f fd, Fun K "interval_counts" "interval_counts" (topS 17) f fd ∧ mg "interval_counts" = some (.ref f)
  f_is_even : ∃ f fd, Fun K "is_even" "is_even" (topS 22) f fd ∧ mg "is_even" = some (.ref f)
  f_symmetries : ∃ f fd, Fun K "symmetries" "symmetries" (topS 24) f fd ∧ mg "symmetries" = some (.ref f)
  f_chain_notes : ∃ f fd, Fun K "chain_notes" "chain_notes" (topS 30) f fd ∧ mg "chain_notes" = some (.ref f)
  f_is_deep : ∃ f fd, Fun K "is_deep" "is_deep" (topS 23) f fd ∧ mg "is_deep" = some (.ref f)
  f_twins : ∃ f fd, Fun K "twins" "twins" (topS 25) f fd ∧ mg "twins" = some (.ref f)
  f_law : ∃ f fd, Fun K "law" "law" (topS 35) f fd ∧ mg "law" = some (.ref f)
theorem sc_is_int : FnScope ["value"] ["value"] (defScope (topS 6)) := ⟨rfl, rfl, rfl, by decide +kernel, rfl, by decide +kernel, by decide +kernel⟩
theorem k_is_int {P : Program} {w : World} {K : PySem.W.Frag} {mg : Str → Option Value} {base : Heap} (G : Top K mg) : Known P w K mg base 1 "is_int" limits.F_is_int := by
  obtain ⟨f, fd, F, hm⟩ := G.f_is_int
  have b_bool := G.b_bool
  have b_int := G.b_int
  have b_isinstance := G.b_isinstance
  refine ⟨f, fd, ["value"], hm, F.kp, F.binds (fun _ _ _ _ _ _ us hl => match us, hl with | [_], _ => rfl), fn_ok F sc_is_int fun cdv A outer s H E hr => ?_⟩
  have SC := sc_is_int
  exact fs_one (fs_ret (fe_and (fe_isi .int (by rfl) b_isinstance bt_isinstance (by rfl) b_int bt_int (fe_varA (i := 0))) (fe_one (fe_not (fe_isi .bl (by rfl) b_isinstance bt_isinstance (by rfl) b_bool bt_bool (fe_varA (i := 0)))))))
theorem sc_common : FnScope ["one", "other"] ["one", "other"] (defScope (topS 8)) := ⟨rfl, rfl, rfl, by decide +kernel, rfl, by decide +kernel, by decide +kernel⟩
theorem k_common {P : Program} {w : World} {K : PySem.W.Frag} {mg : Str → Option Value} {base : Heap} (G : Top K mg) : Known P w K mg base 1 "common" limits.F_common := by
  obtain ⟨f, fd, F, hm⟩ := G.f_common
  have b_abs := G.b_abs
  refine ⟨f, fd, ["one", "other"], hm, F.kp, F.binds (fun _ _ _ _ _ _ us hl => match us, hl with | [_, _], _ => rfl), fn_ok F sc_common fun cdv A outer s H E hr => ?_⟩
  have SC := sc_common
  exact fs_cons (fs_par rfl SC.nd (i := 0) (j := 1) rfl rfl (by decide) rfl rfl (fxs_cons (fx_t (fe_callB call_abs ct_abs (by rfl) b_abs bt_abs (fa_cons (fe_varA (i := 0)) (fa_nil)))) (fxs_cons (fx_t (fe_callB call_abs ct_abs (by rfl) b_abs bt_abs (fa_cons (fe_varA (i := 1)) (fa_nil)))) (fxs_nil))) rfl)
    (fs_cons (fs_while 1000000 (passes_of rfl) (ft_cmp (op_neT hr.units) ot_ne (fe_varA (i := 1)) (fe_int)) (fs_one (fs_par rfl SC.nd (i := 0) (j := 1) rfl rfl (by decide) rfl rfl (fxs_cons (fx_t (fe_varA (i := 1))) (fxs_cons (fx_t (fe_bin op_modN ot_mod (fe_varA (i := 0)) (fe_varA (i := 1)))) (fxs_nil))) rfl)))
    (fs_one (fs_ret (fe_varA (i := 0)))))
theorem sc_moved : FnScope ["many", "value", "step", "note"] ["many", "value", "step"] (defScope (topS 13)) := ⟨rfl, rfl, rfl, by decide +kernel, rfl, by decide +kernel, by decide +kernel⟩
theorem k_moved {P : Program} {w : World} {K : PySem.W.Frag} {mg : Str → Option Value} {base : Heap} (G : Top K mg) : Known P w K mg base 1 "moved" sets.F_moved := by
  obtain ⟨f, fd, F, hm⟩ := G.f_moved
  have b_sorted := G.b_sorted
  have b_tuple := G.b_tuple
  refine ⟨f, fd, ["many", "value", "step"], hm, F.kp, F.binds (fun _ _ _ _ _ _ us hl => match us, hl with | [_, _, _], _ => rfl), fn_ok F sc_moved fun cdv A outer s H E hr => ?_⟩
  have SC := sc_moved
  exact fs_one (fs_ret (fe_callTy call_tuple_of ct_tuple (by rfl) b_tuple bt_tuple (fa_cons (fe_new (fo_sortedX (units66 hr) (by rfl) b_sorted bt_sorted (fa_cons (fe_new (fo_lc (own := [("note", 3)]) rfl SC.nd (fi_seqA (fe_varA (i := 1))) (blkOk_by (by kernel_rfl)) (fun _ _ _ _ _ => fg_name SC.nd rfl (Or.inl rfl)) (by decide) (fun _ _ _ _ _ => fts_nil) (fun _ _ _ _ _ => fe_bin op_modN ot_mod (fe_bin op_addT ot_add (fe_varA (i := 3)) (fe_varA (i := 2))) (fe_varA (i := 0))))) (fa_nil)))) (fa_nil))))
theorem sc_turned : FnScope ["many", "value", "note"] ["many", "value"] (defScope (topS 14)) := ⟨rfl, rfl, rfl, by decide +kernel, rfl, by decide +kernel, by decide +kernel⟩
theorem k_turned {P : Program} {w : World} {K : PySem.W.Frag} {mg : Str → Option Value} {base : Heap} (G : Top K mg) : Known P w K mg base 1 "turned" sets.F_turned := by
  obtain ⟨f, fd, F, hm⟩ := G.f_turned
  have b_sorted := G.b_sorted
  have b_tuple := G.b_tuple
  refine ⟨f, fd, ["many", "value"], hm, F.kp, F.binds (fun _ _ _ _ _ _ us hl => match us, hl with | [_, _], _ => rfl), fn_ok F sc_turned fun cdv A outer s H E hr => ?_⟩
  have SC := sc_turned
  exact fs_one (fs_ret (fe_callTy call_tuple_of ct_tuple (by rfl) b_tuple bt_tuple (fa_cons (fe_new (fo_sortedX (units66 hr) (by rfl) b_sorted bt_sorted (fa_cons (fe_new (fo_lc (own := [("note", 2)]) rfl SC.nd (fi_seqA (fe_varA (i := 1))) (blkOk_by (by kernel_rfl)) (fun _ _ _ _ _ => fg_name SC.nd rfl (Or.inl rfl)) (by decide) (fun _ _ _ _ _ => fts_nil) (fun _ _ _ _ _ => fe_bin op_modN ot_mod (fe_neg (fe_varA (i := 2))) (fe_varA (i := 0))))) (fa_nil)))) (fa_nil))))
theorem sc_ways : FnScope ["many", "notes", "found", "at"] ["many", "notes"] (defScope (topS 19)) := ⟨rfl, rfl, rfl, by decide +kernel, rfl, by decide +kernel, by decide +kernel⟩
theorem k_ways {P : Program} {w : World} {K : PySem.W.Frag} {mg : Str → Option Value} {base : Heap} (G : Top K mg) : Known P w K mg base 1 "ways" sets.F_ways := by
  obtain ⟨f, fd, F, hm⟩ := G.f_ways
  have b_range := G.b_range
  refine ⟨f, fd, ["many", "notes"], hm, F.kp, F.binds (fun _ _ _ _ _ _ us hl => match us, hl with | [_, _], _ => rfl), fn_ok F sc_ways fun cdv A outer s H E hr => ?_⟩
  have SC := sc_ways
  exact fs_cons (fs_set SC.nd rfl (Or.inl rfl) (fx_t (fe_int)))
    (fs_cons (fs_for (passes_of rfl) rfl (fi_range1 (by rfl) b_range (fa_cons (fe_varA (i := 1)) (fa_nil))) (fg_name SC.nd rfl (Or.inl rfl)) (fs_one (fs_set SC.nd rfl (Or.inl rfl) (fx_t (fe_bin op_divA ot_divA (fe_bin op_mulA ot_mulA (fe_varA (i := 2)) (fe_bin op_subA ot_subA (fe_varA (i := 0)) (fe_varA (i := 3)))) (fe_bin op_addT ot_add (fe_varA (i := 3)) (fe_int)))))))
    (fs_one (fs_ret (fe_varA (i := 2)))))
theorem sc_spectrum : FnScope ["many", "value", "size", "found", "at", "note", "rounds", "place"] ["many", "value", "size"] (defScope (topS 21)) := ⟨rfl, rfl, rfl, by decide +kernel, rfl, by decide +kernel, by decide +kernel⟩
theorem k_spectrum {P : Program} {w : World} {K : PySem.W.Frag} {mg : Str → Option Value} {base : Heap} (G : Top K mg) : Known P w K mg base 1 "spectrum" sets.F_spectrum := by
  obtain ⟨f, fd, F, hm⟩ := G.f_spectrum
  have b_enumerate := G.b_enumerate
  have b_len := G.b_len
  have b_sorted := G.b_sorted
  have b_tuple := G.b_tuple
  refine ⟨f, fd, ["many", "value", "size"], hm, F.kp, F.binds (fun _ _ _ _ _ _ us hl => match us, hl with | [_, _, _], _ => rfl), fn_ok F sc_spectrum fun cdv A outer s H E hr => ?_⟩
  have SC := sc_spectrum
  exact fs_cons (fs_set SC.nd rfl (Or.inl rfl) (fx_o fo_dk0))
    (fs_cons (fs_for (passes_of rfl) rfl (fi_enum (by rfl) b_enumerate (fa_cons (fe_varA (i := 1)) (fa_nil))) (fg_tup rfl (fgs_cons (fg_name SC.nd rfl (Or.inl rfl)) (fgs_cons (fg_name SC.nd rfl (Or.inl rfl)) (fgs_nil))) rfl rfl (gs_len (gs_len gs_len0))) (fs_cons (fs_par rfl SC.nd (i := 6) (j := 7) rfl rfl (by decide) rfl rfl (fxs_cons (fx_t (fe_bin op_divA ot_divA (fe_bin op_addT ot_add (fe_varA (i := 4)) (fe_varA (i := 2))) (fe_lenA (i := 1) (by rfl) b_len bt_len))) (fxs_cons (fx_t (fe_bin op_modN ot_mod (fe_bin op_addT ot_add (fe_varA (i := 4)) (fe_varA (i := 2))) (fe_lenA (i := 1) (by rfl) b_len bt_len))) (fxs_nil))) rfl)
    (fs_one (fs_setD (i := 3) (units1 hr) rfl (by first | exact Or.inl rfl | exact Or.inr (Or.inl rfl) | exact Or.inr (Or.inr rfl)) (fe_bin op_subA ot_subA (fe_bin op_addT ot_add (fe_ixA (i := 1) rfl (fe_varA (i := 7))) (fe_bin op_mulA ot_mulA (fe_varA (i := 6)) (fe_varA (i := 0)))) (fe_varA (i := 5))) (fe_bl)))))
    (fs_one (fs_ret (fe_callTy call_tuple_of ct_tuple (by rfl) b_tuple bt_tuple (fa_cons (fe_new (fo_sortedD rfl (units66 hr) (by rfl) b_sorted bt_sorted (fa_cons (fe_varA (i := 3)) (fa_nil)))) (fa_nil))))))
theorem sc_chain_of : FnScope ["many", "step", "notes", "at"] ["many", "step", "notes"] (defScope (topS 29)) := ⟨rfl, rfl, rfl, by decide +kernel, rfl, by decide +kernel, by decide +kernel⟩
theorem k_chain_of {P : Program} {w : World} {K : PySem.W.Frag} {mg : Str → Option Value} {base : Heap} (G : Top K mg) : Known P w K mg base 1 "chain_of" words.F_chain_of := by
  obtain ⟨f, fd, F, hm⟩ := G.f_chain_of
  have b_range := G.b_range
  have b_sorted := G.b_sorted
  refine ⟨f, fd, ["many", "step", "notes"], hm, F.kp, F.binds (fun _ _ _ _ _ _ us hl => match us, hl with | [_, _, _], _ => rfl), fn_ok F sc_chain_of fun cdv A outer s H E hr => ?_⟩
  have SC := sc_chain_of
  exact fs_one (fs_ret (fe_new (fo_sortedX (units66 hr) (by rfl) b_sorted bt_sorted (fa_cons (fe_new (fo_lc (own := [("at", 3)]) rfl SC.nd (fi_range1 (by rfl) b_range (fa_cons (fe_varA (i := 2)) (fa_nil))) (blkOk_by (by kernel_rfl)) (fun _ _ _ _ _ => fg_name SC.nd rfl (Or.inl rfl)) (by decide) (fun _ _ _ _ _ => fts_nil) (fun _ _ _ _ _ => fe_bin op_modN ot_mod (fe_bin op_mulA ot_mulA (fe_varA (i := 3)) (fe_varA (i := 1))) (fe_varA (i := 0))))) (fa_nil)))))
theorem sc__law_taken : FnScope ["_law_row", "_law_many", "_law_cell", "_law_found"] ["_law_row", "_law_many"] (defScope (topS 32)) := ⟨rfl, rfl, rfl, by decide +kernel, rfl, by decide +kernel, by decide +kernel⟩
theorem k__law_taken {P : Program} {w : World} {K : PySem.W.Frag} {mg : Str → Option Value} {base : Heap} (G : Top K mg) : KnownM P w K mg base 1 "_law_taken" lw.F__law_taken := by
  obtain ⟨f, fd, F, hm⟩ := G.f__law_taken
  have b_int := G.b_int
  have b_len := G.b_len
  refine ⟨f, fd, ["_law_row", "_law_many"], hm, F.kp, F.binds (fun _ _ _ _ _ _ us hl => match us, hl with | [_, _], _ => rfl), fm_ok F sc__law_taken fun cdv A outer s H E hr => ?_⟩
  have SC := sc__law_taken
  exact fs_cons (fs_if (ft_cmp op_gt ot_gt (fe_ixA (i := 0) rfl (fe_int)) (fe_int)) (fs_cons (fs_set SC.nd rfl (Or.inl rfl) (fx_t (fe_bin op_modN ot_mod (fe_callTy call_int1 ct_intA (by rfl) b_int bt_int (fa_cons (fe_ixA (i := 0) rfl (fe_int)) (fa_nil))) (fe_varA (i := 1)))))
    (fs_cons (fs_setI (i := 0) rfl (by first | exact Or.inl rfl | exact Or.inr (Or.inl rfl) | exact Or.inr (Or.inr rfl)) (fe_int) (fe_bin op_divA ot_divA (fe_ixA (i := 0) rfl (fe_int)) (fe_varA (i := 1))))
    (fs_one (fs_ret (fe_varA (i := 3)))))) (fs_nil))
    (fs_cons (fs_setI (i := 0) rfl (by first | exact Or.inl rfl | exact Or.inr (Or.inl rfl) | exact Or.inr (Or.inr rfl)) (fe_int) (fe_bin op_addT ot_add (fe_ixA (i := 0) rfl (fe_int)) (fe_int)))
    (fs_cons (fs_if (ft_cmp op_gt ot_gt (fe_ixA (i := 0) rfl (fe_int)) (fe_callB call_len ct_len (by rfl) b_len bt_len (fa_cons (fe_ixA (i := 0) rfl (fe_int)) (fa_nil)))) (fs_cons (fs_setI (i := 0) rfl (by first | exact Or.inl rfl | exact Or.inr (Or.inl rfl) | exact Or.inr (Or.inr rfl)) (fe_int) (fe_bin op_modN ot_mod (fe_callTy call_int1 ct_intA (by rfl) b_int bt_int (fa_cons (fe_bin op_addT ot_add (fe_bin op_mulA ot_mulA (fe_ixA (i := 0) rfl (fe_int)) (fe_int)) (fe_int)) (fa_nil))) (fe_int)))
    (fs_one (fs_ret (fe_bin op_modN ot_mod (fe_callTy call_int1 ct_intA (by rfl) b_int bt_int (fa_cons (fe_bin op_divA ot_divA (fe_ixA (i := 0) rfl (fe_int)) (fe_int)) (fa_nil))) (fe_varA (i := 1)))))) (fs_nil))
    (fs_cons (fs_set SC.nd rfl (Or.inl rfl) (fx_t (fe_ix (fe_ixA (i := 0) rfl (fe_int)) (fe_bin op_subA ot_subA (fe_ixA (i := 0) rfl (fe_int)) (fe_int)))))
    (fs_cons (fs_setI (i := 0) rfl (by first | exact Or.inl rfl | exact Or.inr (Or.inl rfl) | exact Or.inr (Or.inr rfl)) (fe_int) (fe_bin op_modN ot_mod (fe_callTy call_int1 ct_intA (by rfl) b_int bt_int (fa_cons (fe_bin op_addT ot_add (fe_bin op_addT ot_add (fe_bin op_mulA ot_mulA (fe_ixA (i := 0) rfl (fe_int)) (fe_int)) (fe_varA (i := 2))) (fe_int)) (fa_nil))) (fe_int)))
    (fs_cons (fs_if (ft_cmp op_ge ot_ge (fe_varA (i := 2)) (fe_bin op_pow ot_pow (fe_int) (fe_int))) (fs_one (fs_setI (i := 0) rfl (by first | exact Or.inl rfl | exact Or.inr (Or.inl rfl) | exact Or.inr (Or.inr rfl)) (fe_int) (fe_bin op_divA ot_divA (fe_varA (i := 2)) (fe_varA (i := 1))))) (fs_nil))
    (fs_one (fs_ret (fe_bin op_modN ot_mod (fe_callTy call_int1 ct_intA (by rfl) b_int bt_int (fa_cons (fe_varA (i := 2)) (fa_nil))) (fe_varA (i := 1))))))))))
theorem sc__law_common : FnScope ["_law_one", "_law_other"] ["_law_one", "_law_other"] (defScope (topS 34)) := ⟨rfl, rfl, rfl, by decide +kernel, rfl, by decide +kernel, by decide +kernel⟩
theorem k__law_common {P : Program} {w : World} {K : PySem.W.Frag} {mg : Str → Option Value} {base : Heap} (G : Top K mg) : Known P w K mg base 1 "_law_common" lw.F__law_common := by
  obtain ⟨f, fd, F, hm⟩ := G.f__law_common
  have b_abs := G.b_abs
  refine ⟨f, fd, ["_law_one", "_law_other"], hm, F.kp, F.binds (fun _ _ _ _ _ _ us hl => match us, hl with | [_, _], _ => rfl), fn_ok F sc__law_common fun cdv A outer s H E hr => ?_⟩
  have SC := sc__law_common
  exact fs_cons (fs_par rfl SC.nd (i := 0) (j := 1) rfl rfl (by decide) rfl rfl (fxs_cons (fx_t (fe_callB call_abs ct_abs (by rfl) b_abs bt_abs (fa_cons (fe_varA (i := 0)) (fa_nil)))) (fxs_cons (fx_t (fe_callB call_abs ct_abs (by rfl) b_abs bt_abs (fa_cons (fe_varA (i := 1)) (fa_nil)))) (fxs_nil))) rfl)
    (fs_cons (fs_while 1000000 (passes_of rfl) (ft_cmp (op_neT hr.units) ot_ne (fe_varA (i := 1)) (fe_int)) (fs_one (fs_par rfl SC.nd (i := 0) (j := 1) rfl rfl (by decide) rfl rfl (fxs_cons (fx_t (fe_varA (i := 1))) (fxs_cons (fx_t (fe_bin op_modN ot_mod (fe_varA (i := 0)) (fe_varA (i := 1)))) (fxs_nil))) rfl)))
    (fs_one (fs_ret (fe_varA (i := 0)))))
theorem sc_is_in : FnScope ["value", "least", "most"] ["value", "least", "most"] (defScope (topS 7)) := ⟨rfl, rfl, rfl, by decide +kernel, rfl, by decide +kernel, by decide +kernel⟩
theorem k_is_in {P : Program} {w : World} {K : PySem.W.Frag} {mg : Str → Option Value} {base : Heap} (G : Top K mg) : Known P w K mg base 2 "is_in" limits.F_is_in := by
  obtain ⟨f, fd, F, hm⟩ := G.f_is_in
  have k_is_int := (k_is_int (P := P) (w := w) (base := base) G).mono (show 1 ≤ 1 by decide)
  refine ⟨f, fd, ["value", "least", "most"], hm, F.kp, F.binds (fun _ _ _ _ _ _ us hl => match us, hl with | [_, _, _], _ => rfl), fn_ok F sc_is_in fun cdv A outer s H E hr => ?_⟩
  have SC := sc_is_in
  exact fs_one (fs_ret (fe_and (fe_call k_is_int hr (by rfl) (passes_call (takes_of rfl rfl rfl rfl) fun _ _ _ _ h => h) (fa_cons (fe_varA (i := 0)) (fa_nil))) (fe_one (fe_chain op_le ot_le op_le ot_le (fe_varA (i := 1)) (fe_varA (i := 0)) (fe_varA (i := 2))))))
theorem sc_images : FnScope ["many", "value", "told", "step"] ["many", "value"] (defScope (topS 15)) := ⟨rfl, rfl, rfl, by decide +kernel, rfl, by decide +kernel, by decide +kernel⟩
theorem k_images {P : Program} {w : World} {K : PySem.W.Frag} {mg : Str → Option Value} {base : Heap} (G : Top K mg) : Known P w K mg base 2 "images" sets.F_images := by
  obtain ⟨f, fd, F, hm⟩ := G.f_images
  have b_range := G.b_range
  have k_moved := (k_moved (P := P) (w := w) (base := base) G).mono (show 1 ≤ 1 by decide)
  have k_turned := (k_turned (P := P) (w := w) (base := base) G).mono (show 1 ≤ 1 by decide)
  refine ⟨f, fd, ["many", "value"], hm, F.kp, F.binds (fun _ _ _ _ _ _ us hl => match us, hl with | [_, _], _ => rfl), fn_ok F sc_images fun cdv A outer s H E hr => ?_⟩
  have SC := sc_images
  exact fs_one (fs_ret (fe_new (fo_lc2 (own := [("told", 2), ("step", 3)]) (vs1 := [3]) rfl SC.nd (fi_seqA (fe_tup (fa_cons (fe_varA (i := 1)) (fa_cons (fe_call k_turned hr (by rfl) (passes_call (takes_of rfl rfl rfl rfl) fun _ _ _ _ h => h) (fa_cons (fe_varA (i := 0)) (fa_cons (fe_varA (i := 1)) (fa_nil)))) (fa_nil))))) (blkOk_by (by kernel_rfl)) (by decide) (fun _ _ _ _ _ => fg_name SC.nd rfl (Or.inl rfl)) (by decide) (fun _ _ _ _ _ => fts_nil) (fun _ _ _ _ _ => fi_range1 (by rfl) b_range (fa_cons (fe_varA (i := 0)) (fa_nil))) (fun _ _ _ _ _ => fg_name SC.nd rfl (Or.inl rfl)) (by decide) (fun _ _ _ _ _ => fts_nil) (fun _ _ _ _ _ => fe_call k_moved hr (by rfl) passL (fa_cons (fe_varA (i := 0)) (fa_cons (fe_varA (i := 2)) (fa_cons (fe_varA (i := 3)) (fa_nil))))))))
theorem sc__law_pick : FnScope ["_law_row", "_law_things"] ["_law_row", "_law_things"] (defScope (topS 33)) := ⟨rfl, rfl, rfl, by decide +kernel, rfl, by decide +kernel, by decide +kernel⟩
theorem k__law_pick {P : Program} {w : World} {K : PySem.W.Frag} {mg : Str → Option Value} {base : Heap} (G : Top K mg) : KnownM P w K mg base 2 "_law_pick" lw.F__law_pick := by
  obtain ⟨f, fd, F, hm⟩ := G.f__law_pick
  have b_len := G.b_len
  have k__law_taken := (k__law_taken (P := P) (w := w) (base := base) G).mono (show 1 ≤ 1 by decide)
  refine ⟨f, fd, ["_law_row", "_law_things"], hm, F.kp, F.binds (fun _ _ _ _ _ _ us hl => match us, hl with | [_, _], _ => rfl), fm_ok F sc__law_pick fun cdv A outer s H E hr => ?_⟩
  have SC := sc__law_pick
  exact fs_one (fs_ret (fe_ixA (i := 1) rfl (fe_callM (i := 0) k__law_taken hr (by rfl) passL rfl (fa_cons (fe_lenA (i := 1) (by rfl) b_len bt_len) (fa_nil)))))
theorem sc_need_set : FnScope ["many", "value", "at", "note"] ["many", "value"] (defScope (topS 12)) := ⟨rfl, rfl, rfl, by decide +kernel, rfl, by decide +kernel, by decide +kernel⟩
theorem k_need_set {P : Program} {w : World} {K : PySem.W.Frag} {mg : Str → Option Value} {base : Heap} (G : Top K mg) : Known P w K mg base 3 "need_set" sets.F_need_set := by
  obtain ⟨f, fd, F, hm⟩ := G.f_need_set
  obtain ⟨t_MOST_STEPS_sets, c_MOST_STEPS_sets⟩ := G.c_MOST_STEPS_sets
  have b_all := G.b_all
  have b_isinstance := G.b_isinstance
  have b_len := G.b_len
  have b_range := G.b_range
  have b_tuple := G.b_tuple
  have k_is_in := (k_is_in (P := P) (w := w) (base := base) G).mono (show 2 ≤ 2 by decide)
  refine ⟨f, fd, ["many", "value"], hm, F.kp, F.binds (fun _ _ _ _ _ _ us hl => match us, hl with | [_, _], _ => rfl), fn_ok F sc_need_set fun cdv A outer s H E hr => ?_⟩
  have SC := sc_need_set
  exact fs_cons (fs_if (ft_not (ft_val (fe_call k_is_in hr (by rfl) (passes_call (takes_of rfl rfl rfl rfl) fun _ _ _ _ h => h) (fa_cons (fe_varA (i := 0)) (fa_cons (fe_int) (fa_cons (fe_gint (by rfl) c_MOST_STEPS_sets) (fa_nil))))))) (fss_never) (fs_nil))
    (fs_cons (fs_if (ft_w (fw_or (ft_not (ft_val (fe_isi .tup (by rfl) b_isinstance bt_isinstance (by rfl) b_tuple bt_tuple (fe_varA (i := 1))))) (fw_or1 (ft_not (ft_val (fe_callB (cr_all rfl) ct_all (by rfl) b_all bt_all (fa_cons (fe_new (fo_lc (own := [("note", 3)]) rfl SC.nd (fi_seqA (fe_varA (i := 1))) (blkOk_by (by kernel_rfl)) (fun _ _ _ _ _ => fg_name SC.nd rfl (Or.inl rfl)) (by decide) (fun _ _ _ _ _ => fts_nil) (fun _ _ _ _ _ => fe_call k_is_in hr (by rfl) passL (fa_cons (fe_varA (i := 3)) (fa_cons (fe_int) (fa_cons (fe_bin op_subA ot_subA (fe_varA (i := 0)) (fe_int)) (fa_nil))))))) (fa_nil)))))))) (fss_never) (fs_nil))
    (fs_one (fs_if (ft_not (ft_val (fe_callB (cr_all rfl) ct_all (by rfl) b_all bt_all (fa_cons (fe_new (fo_lc (own := [("at", 2)]) rfl SC.nd (fi_range2 (by rfl) b_range (fa_cons (fe_int) (fa_cons (fe_lenA (i := 1) (by rfl) b_len bt_len) (fa_nil)))) (blkOk_by (by kernel_rfl)) (fun _ _ _ _ _ => fg_name SC.nd rfl (Or.inl rfl)) (by decide) (fun _ _ _ _ _ => fts_nil) (fun _ _ _ _ _ => fe_cmp op_lt ot_lt (fe_ixA (i := 1) rfl (fe_bin op_subA ot_subA (fe_varA (i := 2)) (fe_int))) (fe_ixA (i := 1) rfl (fe_varA (i := 2)))))) (fa_nil))))) (fss_never) (fs_nil))))
theorem sc_set_classes : FnScope ["many", "notes", "note", "some", "found", "told"] ["many", "notes"] (defScope (topS 18)) := ⟨rfl, rfl, rfl, by decide +kernel, rfl, by decide +kernel, by decide +kernel⟩
theorem k_set_classes {P : Program} {w : World} {K : PySem.W.Frag} {mg : Str → Option Value} {base : Heap} (G : Top K mg) : Known P w K mg base 3 "set_classes" sets.F_set_classes := by
  obtain ⟨f, fd, F, hm⟩ := G.f_set_classes
  obtain ⟨t_MOST_CLASSES, c_MOST_CLASSES⟩ := G.c_MOST_CLASSES
  obtain ⟨t_MOST_STEPS_sets, c_MOST_STEPS_sets⟩ := G.c_MOST_STEPS_sets
  have b_len := G.b_len
  have b_min := G.b_min
  have b_range := G.b_range
  have b_sorted := G.b_sorted
  have k_images := (k_images (P := P) (w := w) (base := base) G).mono (show 2 ≤ 2 by decide)
  have k_is_in := (k_is_in (P := P) (w := w) (base := base) G).mono (show 2 ≤ 2 by decide)
  have k_ways := (k_ways (P := P) (w := w) (base := base) G).mono (show 1 ≤ 2 by decide)
  refine ⟨f, fd, ["many", "notes"], hm, F.kp, F.binds (fun _ _ _ _ _ _ us hl => match us, hl with | [_, _], _ => rfl), fn_ok F sc_set_classes fun cdv A outer s H E hr => ?_⟩
  have SC := sc_set_classes
  exact fs_cons (fs_if (ft_w (fw_or (ft_not (ft_val (fe_call k_is_in hr (by rfl) (passes_call (takes_of rfl rfl rfl rfl) fun _ _ _ _ h => h) (fa_cons (fe_varA (i := 0)) (fa_cons (fe_int) (fa_cons (fe_gint (by rfl) c_MOST_STEPS_sets) (fa_nil))))))) (fw_or1 (ft_not (ft_val (fe_call k_is_in hr (by rfl) (passes_call (takes_of rfl rfl rfl rfl) fun _ _ _ _ h => h) (fa_cons (fe_varA (i := 1)) (fa_cons (fe_int) (fa_cons (fe_varA (i := 0)) (fa_nil)))))))))) (fss_never) (fs_nil))
    (fs_cons (fs_if (ft_cmp op_gt ot_gt (fe_call k_ways hr (by rfl) (passes_call (takes_of rfl rfl rfl rfl) fun _ _ _ _ h => h) (fa_cons (fe_varA (i := 0)) (fa_cons (fe_varA (i := 1)) (fa_nil)))) (fe_gint (by rfl) c_MOST_CLASSES)) (fss_never) (fs_nil))
    (fs_cons (fs_par rfl SC.nd (i := 4) (j := 5) rfl rfl (by decide) rfl rfl (fxs_cons (fx_o fo_dt0) (fxs_cons (fx_t (fe_new (fo_lst (fa_cons (fe_tup (fa_nil)) (fa_nil))))) (fxs_nil))) rfl)
    (fs_cons (fs_for (passes_of rfl) rfl (fi_range1 (by rfl) b_range (fa_cons (fe_varA (i := 0)) (fa_nil))) (fg_name SC.nd rfl (Or.inr rfl)) (fs_one (fs_set SC.nd rfl (Or.inl rfl) (fx_t (fe_bin op_addT ot_add (fe_varA (i := 5)) (fe_new (fo_lc (own := [("some", 3)]) rfl SC.nd (fi_seqA (fe_varA (i := 5))) (blkOk_by (by kernel_rfl)) (fun _ _ _ _ _ => fg_name SC.nd rfl (Or.inl rfl)) (by decide) (fun _ _ _ _ _ => fts_one (ft_cmp op_lt ot_lt (fe_lenA (i := 3) (by rfl) b_len bt_len) (fe_varA (i := 1)))) (fun _ _ _ _ _ => fe_bin op_addT ot_add (fe_varA (i := 3)) (fe_tup (fa_cons (fe_varA (i := 2)) (fa_nil)))))))))))
    (fs_cons (fs_for (passes_of rfl) rfl (fi_seqA (fe_varA (i := 5))) (fg_name SC.nd rfl (Or.inl rfl)) (fs_one (fs_if (ft_cmp (op_eqT hr.units) ot_eq (fe_lenA (i := 3) (by rfl) b_len bt_len) (fe_varA (i := 1))) (fs_one (fs_setD (i := 4) (units1 hr) rfl (by first | exact Or.inl rfl | exact Or.inr (Or.inl rfl) | exact Or.inr (Or.inr rfl)) (fe_callB (cr_minD rfl (units66 hr)) ct_mm (by rfl) b_min bt_min (fa_cons (fe_call k_images hr (by rfl) (passes_call (takes_of rfl rfl rfl rfl) fun _ _ _ _ h => h) (fa_cons (fe_varA (i := 0)) (fa_cons (fe_varA (i := 3)) (fa_nil)))) (fa_nil))) (fe_bl))) (fs_nil))))
    (fs_one (fs_ret (fe_new (fo_sortedDT rfl (units66 hr) (by rfl) b_sorted bt_sorted (fa_cons (fe_varA (i := 4)) (fa_nil))))))))))
theorem sc_even_set : FnScope ["many", "notes", "shift", "at"] ["many", "notes", "shift"] (defScope (topS 20)) := ⟨rfl, rfl, rfl, by decide +kernel, rfl, by decide +kernel, by decide +kernel⟩
theorem k_even_set {P : Program} {w : World} {K : PySem.W.Frag} {mg : Str → Option Value} {base : Heap} (G : Top K mg) : Known P w K mg base 3 "even_set" sets.F_even_set := by
  obtain ⟨f, fd, F, hm⟩ := G.f_even_set
  obtain ⟨t_MOST_STEPS_sets, c_MOST_STEPS_sets⟩ := G.c_MOST_STEPS_sets
  have b_range := G.b_range
  have b_sorted := G.b_sorted
  have b_tuple := G.b_tuple
  have k_is_in := (k_is_in (P := P) (w := w) (base := base) G).mono (show 2 ≤ 2 by decide)
  refine ⟨f, fd, ["many", "notes", "shift"], hm, F.kp, F.binds (fun _ _ _ _ _ _ us hl => match us, hl with | [_, _, _], _ => rfl), fn_ok F sc_even_set fun cdv A outer s H E hr => ?_⟩
  have SC := sc_even_set
  exact fs_cons (fs_if (ft_w (fw_or (ft_not (ft_val (fe_call k_is_in hr (by rfl) (passes_call (takes_of rfl rfl rfl rfl) fun _ _ _ _ h => h) (fa_cons (fe_varA (i := 0)) (fa_cons (fe_int) (fa_cons (fe_gint (by rfl) c_MOST_STEPS_sets) (fa_nil))))))) (fw_or (ft_not (ft_val (fe_call k_is_in hr (by rfl) (passes_call (takes_of rfl rfl rfl rfl) fun _ _ _ _ h => h) (fa_cons (fe_varA (i := 1)) (fa_cons (fe_int) (fa_cons (fe_varA (i := 0)) (fa_nil))))))) (fw_or1 (ft_not (ft_val (fe_call k_is_in hr (by rfl) (passes_call (takes_of rfl rfl rfl rfl) fun _ _ _ _ h => h) (fa_cons (fe_varA (i := 2)) (fa_cons (fe_int) (fa_cons (fe_bin op_subA ot_subA (fe_varA (i := 0)) (fe_int)) (fa_nil))))))))))) (fss_never) (fs_nil))
    (fs_one (fs_ret (fe_callTy call_tuple_of ct_tuple (by rfl) b_tuple bt_tuple (fa_cons (fe_new (fo_sortedX (units66 hr) (by rfl) b_sorted bt_sorted (fa_cons (fe_new (fo_lc (own := [("at", 3)]) rfl SC.nd (fi_range1 (by rfl) b_range (fa_cons (fe_varA (i := 1)) (fa_nil))) (blkOk_by (by kernel_rfl)) (fun _ _ _ _ _ => fg_name SC.nd rfl (Or.inl rfl)) (by decide) (fun _ _ _ _ _ => fts_nil) (fun _ _ _ _ _ => fe_bin op_modN ot_mod (fe_bin op_divA ot_divA (fe_bin op_addT ot_add (fe_bin op_mulA ot_mulA (fe_varA (i := 0)) (fe_varA (i := 3))) (fe_varA (i := 2))) (fe_varA (i := 1))) (fe_varA (i := 0))))) (fa_nil)))) (fa_nil)))))
theorem sc_need_chain : FnScope ["many", "step", "notes"] ["many", "step", "notes"] (defScope (topS 28)) := ⟨rfl, rfl, rfl, by decide +kernel, rfl, by decide +kernel, by decide +kernel⟩
theorem k_need_chain {P : Program} {w : World} {K : PySem.W.Frag} {mg : Str → Option Value} {base : Heap} (G : Top K mg) : Known P w K mg base 3 "need_chain" words.F_need_chain := by
  obtain ⟨f, fd, F, hm⟩ := G.f_need_chain
  obtain ⟨t_MOST_STEPS_words, c_MOST_STEPS_words⟩ := G.c_MOST_STEPS_words
  have k_common := (k_common (P := P) (w := w) (base := base) G).mono (show 1 ≤ 2 by decide)
  have k_is_in := (k_is_in (P := P) (w := w) (base := base) G).mono (show 2 ≤ 2 by decide)
  refine ⟨f, fd, ["many", "step", "notes"], hm, F.kp, F.binds (fun _ _ _ _ _ _ us hl => match us, hl with | [_, _, _], _ => rfl), fn_ok F sc_need_chain fun cdv A outer s H E hr => ?_⟩
  have SC := sc_need_chain
  exact fs_cons (fs_if (ft_w (fw_or (ft_not (ft_val (fe_call k_is_in hr (by rfl) (passes_call (takes_of rfl rfl rfl rfl) fun _ _ _ _ h => h) (fa_cons (fe_varA (i := 0)) (fa_cons (fe_int) (fa_cons (fe_gint (by rfl) c_MOST_STEPS_words) (fa_nil))))))) (fw_or1 (ft_not (ft_val (fe_call k_is_in hr (by rfl) (passes_call (takes_of rfl rfl rfl rfl) fun _ _ _ _ h => h) (fa_cons (fe_varA (i := 1)) (fa_cons (fe_int) (fa_cons (fe_bin op_subA ot_subA (fe_varA (i := 0)) (fe_int)) (fa_nil)))))))))) (fss_never) (fs_nil))
    (fs_one (fs_if (ft_not (ft_val (fe_call k_is_in hr (by rfl) (passes_call (takes_of rfl rfl rfl rfl) fun _ _ _ _ h => h) (fa_cons (fe_varA (i := 2)) (fa_cons (fe_int) (fa_cons (fe_bin op_divA ot_divA (fe_varA (i := 0)) (fe_call k_common hr (by rfl) (passes_call (takes_of rfl rfl rfl rfl) fun _ _ _ _ h => h) (fa_cons (fe_varA (i := 0)) (fa_cons (fe_varA (i := 1)) (fa_nil))))) (fa_nil))))))) (fss_never) (fs_nil)))
theorem sc_least_image : FnScope ["many", "value"] ["many", "value"] (defScope (topS 16)) := ⟨rfl, rfl, rfl, by decide +kernel, rfl, by decide +kernel, by decide +kernel⟩
theorem k_least_image {P : Program} {w : World} {K : PySem.W.Frag} {mg : Str → Option Value} {base : Heap} (G : Top K mg) : Known P w K mg base 4 "least_image" sets.F_least_image := by
  obtain ⟨f, fd, F, hm⟩ := G.f_least_image
  have b_min := G.b_min
  have k_images := (k_images (P := P) (w := w) (base := base) G).mono (show 2 ≤ 3 by decide)
  have k_need_set := (k_need_set (P := P) (w := w) (base := base) G).mono (show 3 ≤ 3 by decide)
  refine ⟨f, fd, ["many", "value"], hm, F.kp, F.binds (fun _ _ _ _ _ _ us hl => match us, hl with | [_, _], _ => rfl), fn_ok F sc_least_image fun cdv A outer s H E hr => ?_⟩
  have SC := sc_least_image
  exact fs_cons (fs_expr (fe_call k_need_set hr (by rfl) (passes_call (takes_of rfl rfl rfl rfl) fun _ _ _ _ h => h) (fa_cons (fe_varA (i := 0)) (fa_cons (fe_varA (i := 1)) (fa_nil)))))
    (fs_one (fs_ret (fe_callB (cr_minD rfl (units66 hr)) ct_mm (by rfl) b_min bt_min (fa_cons (fe_call k_images hr (by rfl) (passes_call (takes_of rfl rfl rfl rfl) fun _ _ _ _ h => h) (fa_cons (fe_varA (i := 0)) (fa_cons (fe_varA (i := 1)) (fa_nil)))) (fa_nil)))))
theorem sc_interval_counts : FnScope ["many", "value", "found", "at", "one", "other"] ["many", "value"] (defScope (topS 17)) := ⟨rfl, rfl, rfl, by decide +kernel, rfl, by decide +kernel, by decide +kernel⟩
theorem k_interval_counts {P : Program} {w : World} {K : PySem.W.Frag} {mg : Str → Option Value} {base : Heap} (G : Top K mg) : Known P w K mg base 4 "interval_counts" sets.F_interval_counts := by
  obtain ⟨f, fd, F, hm⟩ := G.f_interval_counts
  have b_enumerate := G.b_enumerate
  have b_min := G.b_min
  have b_tuple := G.b_tuple
  have k_need_set := (k_need_set (P := P) (w := w) (base := base) G).mono (show 3 ≤ 3 by decide)
  refine ⟨f, fd, ["many", "value"], hm, F.kp, F.binds (fun _ _ _ _ _ _ us hl => match us, hl with | [_, _], _ => rfl), fn_ok F sc_interval_counts fun cdv A outer s H E hr => ?_⟩
  have SC := sc_interval_counts
  exact fs_cons (fs_expr (fe_call k_need_set hr (by rfl) (passes_call (takes_of rfl rfl rfl rfl) fun _ _ _ _ h => h) (fa_cons (fe_varA (i := 0)) (fa_cons (fe_varA (i := 1)) (fa_nil)))))
    (fs_cons (fs_set SC.nd rfl (Or.inl rfl) (fx_o (fo_rep (fe_new (fo_lst (fa_cons (fe_int) (fa_nil)))) (fe_bin op_addT ot_add (fe_bin op_divA ot_divA (fe_varA (i := 0)) (fe_int)) (fe_int)))))
    (fs_cons (fs_for (passes_of rfl) rfl (fi_enum (by rfl) b_enumerate (fa_cons (fe_varA (i := 1)) (fa_nil))) (fg_tup rfl (fgs_cons (fg_name SC.nd rfl (Or.inl rfl)) (fgs_cons (fg_name SC.nd rfl (Or.inl rfl)) (fgs_nil))) rfl rfl (gs_len (gs_len gs_len0))) (fs_one (fs_for (passes_of rfl) rfl (fi_seqA (fe_slice (fe_varA (i := 1)) (fpo_some (fe_bin op_addT ot_add (fe_varA (i := 3)) (fe_int))) (fpo_none))) (fg_name SC.nd rfl (Or.inl rfl)) (fs_one (fs_augI (i := 2) ip_add it_add rfl (by first | exact Or.inl rfl | exact Or.inr (Or.inl rfl) | exact Or.inr (Or.inr rfl)) (fe_callB (call_min2 rfl) ct_min2 (by rfl) b_min bt_min (fa_cons (fe_bin op_subA ot_subA (fe_varA (i := 5)) (fe_varA (i := 4))) (fa_cons (fe_bin op_addT ot_add (fe_bin op_subA ot_subA (fe_varA (i := 0)) (fe_varA (i := 5))) (fe_varA (i := 4))) (fa_nil)))) (fe_int))))))
    (fs_one (fs_ret (fe_callTy call_tuple_of ct_tuple (by rfl) b_tuple bt_tuple (fa_cons (fe_slice (fe_varA (i := 2)) (fpo_some (fe_int)) (fpo_none)) (fa_nil)))))))
theorem sc_is_even : FnScope ["many", "value", "told", "size"] ["many", "value"] (defScope (topS 22)) := ⟨rfl, rfl, rfl, by decide +kernel, rfl, by decide +kernel, by decide +kernel⟩
theorem k_is_even {P : Program} {w : World} {K : PySem.W.Frag} {mg : Str → Option Value} {base : Heap} (G : Top K mg) : Known P w K mg base 4 "is_even" sets.F_is_even := by
  obtain ⟨f, fd, F, hm⟩ := G.f_is_even
  have b_all := G.b_all
  have b_len := G.b_len
  have b_range := G.b_range
  have k_need_set := (k_need_set (P := P) (w := w) (base := base) G).mono (show 3 ≤ 3 by decide)
  have k_spectrum := (k_spectrum (P := P) (w := w) (base := base) G).mono (show 1 ≤ 3 by decide)
  refine ⟨f, fd, ["many", "value"], hm, F.kp, F.binds (fun _ _ _ _ _ _ us hl => match us, hl with | [_, _], _ => rfl), fn_ok F sc_is_even fun cdv A outer s H E hr => ?_⟩
  have SC := sc_is_even
  exact fs_cons (fs_expr (fe_call k_need_set hr (by rfl) (passes_call (takes_of rfl rfl rfl rfl) fun _ _ _ _ h => h) (fa_cons (fe_varA (i := 0)) (fa_cons (fe_varA (i := 1)) (fa_nil)))))
    (fs_one (fs_ret (fe_callB (cr_all rfl) ct_all (by rfl) b_all bt_all (fa_cons (fe_new (fo_lc (own := [("told", 2)]) rfl SC.nd (fi_seqA (fe_new (fo_lc (own := [("size", 3)]) rfl SC.nd (fi_range2 (by rfl) b_range (fa_cons (fe_int) (fa_cons (fe_lenA (i := 1) (by rfl) b_len bt_len) (fa_nil)))) (blkOk_by (by kernel_rfl)) (fun _ _ _ _ _ => fg_name SC.nd rfl (Or.inl rfl)) (by decide) (fun _ _ _ _ _ => fts_nil) (fun _ _ _ _ _ => fe_call k_spectrum hr (by rfl) passL (fa_cons (fe_varA (i := 0)) (fa_cons (fe_varA (i := 1)) (fa_cons (fe_varA (i := 3)) (fa_nil)))))))) (blkOk_by (by kernel_rfl)) (fun _ _ _ _ _ => fg_name SC.nd rfl (Or.inl rfl)) (by decide) (fun _ _ _ _ _ => fts_nil) (fun _ _ _ _ _ => fe_cmp op_lt ot_lt (fe_bin op_subA ot_subA (fe_ixA (i := 2) rfl (fe_neg (fe_int))) (fe_ixA (i := 2) rfl (fe_int))) (fe_int)))) (fa_nil)))))
theorem sc_symmetries : FnScope ["many", "value", "back", "same", "step"] ["many", "value"] (defScope (topS 24)) := ⟨rfl, rfl, rfl, by decide +kernel, rfl, by decide +kernel, by decide +kernel⟩
theorem k_symmetries {P : Program} {w : World} {K : PySem.W.Frag} {mg : Str → Option Value} {base : Heap} (G : Top K mg) : Known P w K mg base 4 "symmetries" sets.F_symmetries := by
  obtain ⟨f, fd, F, hm⟩ := G.f_symmetries
  have b_len := G.b_len
  have b_range := G.b_range
  have k_moved := (k_moved (P := P) (w := w) (base := base) G).mono (show 1 ≤ 3 by decide)
  have k_need_set := (k_need_set (P := P) (w := w) (base := base) G).mono (show 3 ≤ 3 by decide)
  have k_turned := (k_turned (P := P) (w := w) (base := base) G).mono (show 1 ≤ 3 by decide)
  refine ⟨f, fd, ["many", "value"], hm, F.kp, F.binds (fun _ _ _ _ _ _ us hl => match us, hl with | [_, _], _ => rfl), fn_ok F sc_symmetries fun cdv A outer s H E hr => ?_⟩
  have SC := sc_symmetries
  exact fs_cons (fs_expr (fe_call k_need_set hr (by rfl) (passes_call (takes_of rfl rfl rfl rfl) fun _ _ _ _ h => h) (fa_cons (fe_varA (i := 0)) (fa_cons (fe_varA (i := 1)) (fa_nil)))))
    (fs_cons (fs_set SC.nd rfl (Or.inr rfl) (fx_t (fe_call k_turned hr (by rfl) (passes_call (takes_of rfl rfl rfl rfl) fun _ _ _ _ h => h) (fa_cons (fe_varA (i := 0)) (fa_cons (fe_varA (i := 1)) (fa_nil))))))
    (fs_cons (fs_set SC.nd rfl (Or.inl rfl) (fx_t (fe_callB call_len ct_len (by rfl) b_len bt_len (fa_cons (fe_new (fo_lc (own := [("step", 4)]) rfl SC.nd (fi_range1 (by rfl) b_range (fa_cons (fe_varA (i := 0)) (fa_nil))) (blkOk_by (by kernel_rfl)) (fun _ _ _ _ _ => fg_name SC.nd rfl (Or.inl rfl)) (by decide) (fun _ _ _ _ _ => fts_one (ft_cmp (op_eqT hr.units) ot_eq (fe_call k_moved hr (by rfl) passL (fa_cons (fe_varA (i := 0)) (fa_cons (fe_varA (i := 1)) (fa_cons (fe_varA (i := 4)) (fa_nil))))) (fe_varA (i := 1)))) (fun _ _ _ _ _ => fe_varA (i := 4)))) (fa_nil)))))
    (fs_one (fs_ret (fe_tup (fa_cons (fe_varA (i := 3)) (fa_cons (fe_callB call_len ct_len (by rfl) b_len bt_len (fa_cons (fe_new (fo_lc (own := [("step", 4)]) rfl SC.nd (fi_range1 (by rfl) b_range (fa_cons (fe_varA (i := 0)) (fa_nil))) (blkOk_by (by kernel_rfl)) (fun _ _ _ _ _ => fg_name SC.nd rfl (Or.inl rfl)) (by decide) (fun _ _ _ _ _ => fts_one (ft_cmp (op_eqT hr.units) ot_eq (fe_call k_moved hr (by rfl) passL (fa_cons (fe_varA (i := 0)) (fa_cons (fe_varA (i := 2)) (fa_cons (fe_varA (i := 4)) (fa_nil))))) (fe_varA (i := 1)))) (fun _ _ _ _ _ => fe_varA (i := 4)))) (fa_nil))) (fa_nil))))))))
theorem sc_chain_notes : FnScope ["many", "step", "notes"] ["many", "step", "notes"] (defScope (topS 30)) := ⟨rfl, rfl, rfl, by decide +kernel, rfl, by decide +kernel, by decide +kernel⟩
theorem k_chain_notes {P : Program} {w : World} {K : PySem.W.Frag} {mg : Str → Option Value} {base : Heap} (G : Top K mg) : Known P w K mg base 4 "chain_notes" words.F_chain_notes := by
  obtain ⟨f, fd, F, hm⟩ := G.f_chain_notes
  have b_tuple := G.b_tuple
  have k_chain_of := (k_chain_of (P := P) (w := w) (base := base) G).mono (show 1 ≤ 3 by decide)
  have k_need_chain := (k_need_chain (P := P) (w := w) (base := base) G).mono (show 3 ≤ 3 by decide)
  refine ⟨f, fd, ["many", "step", "notes"], hm, F.kp, F.binds (fun _ _ _ _ _ _ us hl => match us, hl with | [_, _, _], _ => rfl), fn_ok F sc_chain_notes fun cdv A outer s H E hr => ?_⟩
  have SC := sc_chain_notes
  exact fs_cons (fs_expr (fe_call k_need_chain hr (by rfl) (passes_call (takes_of rfl rfl rfl rfl) fun _ _ _ _ h => h) (fa_cons (fe_varA (i := 0)) (fa_cons (fe_varA (i := 1)) (fa_cons (fe_varA (i := 2)) (fa_nil))))))
    (fs_one (fs_ret (fe_callTy call_tuple_of ct_tuple (by rfl) b_tuple bt_tuple (fa_cons (fe_call k_chain_of hr (by rfl) (passes_call (takes_of rfl rfl rfl rfl) fun _ _ _ _ h => h) (fa_cons (fe_varA (i := 0)) (fa_cons (fe_varA (i := 1)) (fa_cons (fe_varA (i := 2)) (fa_nil))))) (fa_nil)))))
theorem sc_is_deep : FnScope ["many", "value", "counts"] ["many", "value"] (defScope (topS 23)) := ⟨rfl, rfl, rfl, by decide +kernel, rfl, by decide +kernel, by decide +kernel⟩
theorem k_is_deep {P : Program} {w : World} {K : PySem.W.Frag} {mg : Str → Option Value} {base : Heap} (G : Top K mg) : Known P w K mg base 5 "is_deep" sets.F_is_deep := by
  obtain ⟨f, fd, F, hm⟩ := G.f_is_deep
  have b_len := G.b_len
  have b_set := G.b_set
  have k_interval_counts := (k_interval_counts (P := P) (w := w) (base := base) G).mono (show 4 ≤ 4 by decide)
  refine ⟨f, fd, ["many", "value"], hm, F.kp, F.binds (fun _ _ _ _ _ _ us hl => match us, hl with | [_, _], _ => rfl), fn_ok F sc_is_deep fun cdv A outer s H E hr => ?_⟩
  have SC := sc_is_deep
  exact fs_cons (fs_set SC.nd rfl (Or.inl rfl) (fx_t (fe_call k_interval_counts hr (by rfl) (passes_call (takes_of rfl rfl rfl rfl) fun _ _ _ _ h => h) (fa_cons (fe_varA (i := 0)) (fa_cons (fe_varA (i := 1)) (fa_nil))))))
    (fs_one (fs_ret (fe_cmp (op_eqT hr.units) ot_eq (fe_lensetX (units64 hr) (by rfl) b_len (by rfl) b_set (fe_varA (i := 2))) (fe_lenA (i := 2) (by rfl) b_len bt_len))))
theorem sc_twins : FnScope ["many", "notes", "groups", "told"] ["many", "notes"] (defScope (topS 25)) := ⟨rfl, rfl, rfl, by decide +kernel, rfl, by decide +kernel, by decide +kernel⟩
theorem k_twins {P : Program} {w : World} {K : PySem.W.Frag} {mg : Str → Option Value} {base : Heap} (G : Top K mg) : Known P w K mg base 5 "twins" sets.F_twins := by
  obtain ⟨f, fd, F, hm⟩ := G.f_twins
  have b_len := G.b_len
  have k_interval_counts := (k_interval_counts (P := P) (w := w) (base := base) G).mono (show 4 ≤ 4 by decide)
  have k_set_classes := (k_set_classes (P := P) (w := w) (base := base) G).mono (show 3 ≤ 4 by decide)
  refine ⟨f, fd, ["many", "notes"], hm, F.kp, F.binds (fun _ _ _ _ _ _ us hl => match us, hl with | [_, _], _ => rfl), fn_ok F sc_twins fun cdv A outer s H E hr => ?_⟩
  have SC := sc_twins
  exact fs_cons (fs_set SC.nd rfl (Or.inl rfl) (fx_o fo_dt0))
    (fs_cons (fs_grp (gi := 2) (i := 3) (passes_of rfl) rfl (units1 hr) (fi_seqA (fe_call k_set_classes hr (by rfl) (passes_call (takes_of rfl rfl rfl rfl) fun _ _ _ _ h => h) (fa_cons (fe_varA (i := 0)) (fa_cons (fe_varA (i := 1)) (fa_nil))))) (fg_name SC.nd rfl (Or.inl rfl)) (fe_call k_interval_counts hr (by rfl) (passes_call (takes_of rfl rfl rfl rfl) fun _ _ _ _ h => h) (fa_cons (fe_varA (i := 0)) (fa_cons (fe_varA (i := 3)) (fa_nil)))) (fo_lst (fa_nil)) (fun _ => rfl))
    (fs_one (fs_ret (fe_new (fo_lc (own := [("told", 3)]) rfl SC.nd (fi_vlT (i := 2)) (blkOk_by (by kernel_rfl)) (fun _ _ _ _ _ => fg_name SC.nd rfl (Or.inl rfl)) (by decide) (fun _ _ _ _ _ => fts_one (ft_cmp op_gt ot_gt (fe_lenA (i := 3) (by rfl) b_len bt_len) (fe_int))) (fun _ _ _ _ _ => fe_varA (i := 3)))))))
theorem sc_law : FnScope ["_law_script", "_law_row", "_law_known", "_law_many", "_law_step", "_law_notes", "_law_told", "_law_counts", "_law_value", "_law_deep", "_law_even", "_law_pair", "_law_at"] ["_law_script"] (defScope (topS 35)) := ⟨rfl, rfl, rfl, by decide +kernel, rfl, by decide +kernel, by decide +kernel⟩
theorem k_law_at {P : Program} {w : World} {K : PySem.W.Frag} {mg : Str → Option Value} {base : Heap} (G : Top K mg) {f c0 P0 : Addr} {fd : FuncData} (F : Fun K "law" "law" (topS 35) f fd) (hc : fd.code = .ref c0) (TB : LamX.TabB base mg c0 P0) (LT : LawTab K mg P0) : FnOk P w K mg base (L2.CX P w) 6 f fd ["_law_script"] (spF K mg lw.F_law) := by
  have b_len := G.b_len
  have b_range := G.b_range
  have b_set := G.b_set
  have k__law_common := (k__law_common (P := P) (w := w) (base := base) G).mono (show 1 ≤ 5 by decide)
  have k__law_pick := (k__law_pick (P := P) (w := w) (base := base) G).mono (show 2 ≤ 5 by decide)
  have k__law_taken := (k__law_taken (P := P) (w := w) (base := base) G).mono (show 1 ≤ 5 by decide)
  have k_chain_notes := (k_chain_notes (P := P) (w := w) (base := base) G).mono (show 4 ≤ 5 by decide)
  have k_even_set := (k_even_set (P := P) (w := w) (base := base) G).mono (show 3 ≤ 5 by decide)
  have k_interval_counts := (k_interval_counts (P := P) (w := w) (base := base) G).mono (show 4 ≤ 5 by decide)
  have k_is_deep := (k_is_deep (P := P) (w := w) (base := base) G).mono (show 5 ≤ 5 by decide)
  have k_is_even := (k_is_even (P := P) (w := w) (base := base) G).mono (show 4 ≤ 5 by decide)
  have k_least_image := (k_least_image (P := P) (w := w) (base := base) G).mono (show 4 ≤ 5 by decide)
  have k_set_classes := (k_set_classes (P := P) (w := w) (base := base) G).mono (show 3 ≤ 5 by decide)
  have k_symmetries := (k_symmetries (P := P) (w := w) (base := base) G).mono (show 4 ≤ 5 by decide)
  have k_twins := (k_twins (P := P) (w := w) (base := base) G).mono (show 5 ≤ 5 by decide)
  refine law_ok F hc sc_law fun A outer s H E hr => ?_
  have SC := sc_law
  exact fs_cons (fs_set SC.nd rfl (Or.inl rfl) (fx_o (fo_lst (fa_cons (fe_varA (i := 0)) (fa_cons (fe_int) (fa_cons (fe_int) (fa_cons (fe_int) (fa_nil))))))))
    (fs_cons (fs_set SC.nd rfl (Or.inl rfl) (fx_t (fe_new (fo_lst (fa_cons (fe_tup (fa_cons (fe_tup (fa_cons (fe_int) (fa_cons (fe_int) (fa_cons (fe_int) (fa_cons (fe_int) (fa_cons (fe_int) (fa_cons (fe_int) (fa_cons (fe_int) (fa_nil))))))))) (fa_cons (fe_tup (fa_cons (fe_int) (fa_cons (fe_int) (fa_cons (fe_int) (fa_cons (fe_int) (fa_cons (fe_int) (fa_cons (fe_int) (fa_nil)))))))) (fa_cons (fe_bl) (fa_cons (fe_bl) (fa_cons (fe_tup (fa_cons (fe_int) (fa_cons (fe_int) (fa_nil)))) (fa_nil))))))) (fa_cons (fe_tup (fa_cons (fe_tup (fa_cons (fe_int) (fa_cons (fe_int) (fa_cons (fe_int) (fa_cons (fe_int) (fa_cons (fe_int) (fa_cons (fe_int) (fa_nil)))))))) (fa_cons (fe_tup (fa_cons (fe_int) (fa_cons (fe_int) (fa_cons (fe_int) (fa_cons (fe_int) (fa_cons (fe_int) (fa_cons (fe_int) (fa_nil)))))))) (fa_cons (fe_bl) (fa_cons (fe_bl) (fa_cons (fe_tup (fa_cons (fe_int) (fa_cons (fe_int) (fa_nil)))) (fa_nil))))))) (fa_nil)))))))
    (fs_cons (fs_set SC.nd rfl (Or.inl rfl) (fx_t (fe_bin op_addT ot_add (fe_varA (i := 2)) (fe_new (fo_lst (fa_cons (fe_tup (fa_cons (fe_tup (fa_cons (fe_int) (fa_cons (fe_int) (fa_cons (fe_int) (fa_cons (fe_int) (fa_nil)))))) (fa_cons (fe_tup (fa_cons (fe_int) (fa_cons (fe_int) (fa_cons (fe_int) (fa_cons (fe_int) (fa_cons (fe_int) (fa_cons (fe_int) (fa_nil)))))))) (fa_cons (fe_bl) (fa_cons (fe_bl) (fa_cons (fe_tup (fa_cons (fe_int) (fa_cons (fe_int) (fa_nil)))) (fa_nil))))))) (fa_cons (fe_tup (fa_cons (fe_tup (fa_cons (fe_int) (fa_cons (fe_int) (fa_cons (fe_int) (fa_cons (fe_int) (fa_nil)))))) (fa_cons (fe_tup (fa_cons (fe_int) (fa_cons (fe_int) (fa_cons (fe_int) (fa_cons (fe_int) (fa_cons (fe_int) (fa_cons (fe_int) (fa_nil)))))))) (fa_cons (fe_bl) (fa_cons (fe_bl) (fa_cons (fe_tup (fa_cons (fe_int) (fa_cons (fe_int) (fa_nil)))) (fa_nil))))))) (fa_nil))))))))
    (fs_cons (fs_set SC.nd rfl (Or.inl rfl) (fx_t (fe_bin op_addT ot_add (fe_varA (i := 2)) (fe_new (fo_lst (fa_cons (fe_tup (fa_cons (fe_tup (fa_cons (fe_int) (fa_cons (fe_int) (fa_cons (fe_int) (fa_cons (fe_int) (fa_cons (fe_int) (fa_nil))))))) (fa_cons (fe_tup (fa_cons (fe_int) (fa_cons (fe_int) (fa_cons (fe_int) (fa_cons (fe_int) (fa_cons (fe_int) (fa_cons (fe_int) (fa_nil)))))))) (fa_cons (fe_bl) (fa_cons (fe_bl) (fa_cons (fe_tup (fa_cons (fe_int) (fa_cons (fe_int) (fa_nil)))) (fa_nil))))))) (fa_cons (fe_tup (fa_cons (fe_tup (fa_cons (fe_int) (fa_cons (fe_int) (fa_cons (fe_int) (fa_cons (fe_int) (fa_cons (fe_int) (fa_cons (fe_int) (fa_cons (fe_int) (fa_cons (fe_int) (fa_nil)))))))))) (fa_cons (fe_tup (fa_cons (fe_int) (fa_cons (fe_int) (fa_cons (fe_int) (fa_cons (fe_int) (fa_cons (fe_int) (fa_cons (fe_int) (fa_nil)))))))) (fa_cons (fe_bl) (fa_cons (fe_bl) (fa_cons (fe_tup (fa_cons (fe_int) (fa_cons (fe_int) (fa_nil)))) (fa_nil))))))) (fa_nil))))))))
    (fs_cons (fs_asg (fe_callM (i := 1) k__law_pick hr (by rfl) passL rfl (fa_cons (fe_varA (i := 2)) (fa_nil))) (fg_tup rfl (fgs_cons (fg_name SC.nd rfl (Or.inl rfl)) (fgs_cons (fg_name SC.nd rfl (Or.inl rfl)) (fgs_cons (fg_name SC.nd rfl (Or.inl rfl)) (fgs_cons (fg_name SC.nd rfl (Or.inl rfl)) (fgs_cons (fg_name SC.nd rfl (Or.inl rfl)) (fgs_nil)))))) rfl rfl (gs_len (gs_len (gs_len (gs_len (gs_len gs_len0)))))))
    (fs_cons (fs_if (ft_w (fw_or (ft_cmp (op_neT hr.units) ot_ne (fe_call k_interval_counts hr (by rfl) (passes_call (takes_of rfl rfl rfl rfl) fun _ _ _ _ h => h) (fa_cons (fe_int) (fa_cons (fe_varA (i := 8)) (fa_nil)))) (fe_varA (i := 7))) (fw_or (ft_cmp (op_neT hr.units) ot_ne (fe_call k_is_deep hr (by rfl) (passes_call (takes_of rfl rfl rfl rfl) fun _ _ _ _ h => h) (fa_cons (fe_int) (fa_cons (fe_varA (i := 8)) (fa_nil)))) (fe_varA (i := 9))) (fw_or (ft_cmp (op_neT hr.units) ot_ne (fe_call k_is_even hr (by rfl) (passes_call (takes_of rfl rfl rfl rfl) fun _ _ _ _ h => h) (fa_cons (fe_int) (fa_cons (fe_varA (i := 8)) (fa_nil)))) (fe_varA (i := 10))) (fw_or1 (ft_cmp (op_neT hr.units) ot_ne (fe_call k_symmetries hr (by rfl) (passes_call (takes_of rfl rfl rfl rfl) fun _ _ _ _ h => h) (fa_cons (fe_int) (fa_cons (fe_varA (i := 8)) (fa_nil)))) (fe_varA (i := 11)))))))) (fs_one (fs_ret (fe_bl))) (fs_nil))
    (fs_cons (fs_set SC.nd rfl (Or.inr rfl) (fx_t (fe_bin op_addT ot_add (fe_int) (fe_callM (i := 1) k__law_taken hr (by rfl) passL rfl (fa_cons (fe_int) (fa_nil))))))
    (fs_cons (fs_set SC.nd rfl (Or.inl rfl) (fx_t (fe_callM (i := 1) k__law_pick hr (by rfl) passL rfl (fa_cons (fe_new (fo_lc (own := [("_law_at", 12)]) rfl SC.nd (fi_range2 (by rfl) b_range (fa_cons (fe_int) (fa_cons (fe_varA (i := 3)) (fa_nil)))) (blkOk_by (by kernel_rfl)) (fun _ _ _ _ _ => fg_name SC.nd rfl (Or.inl rfl)) (by decide) (fun _ _ _ _ _ => fts_one (ft_cmp (op_eqT hr.units) ot_eq (fe_call k__law_common hr (by rfl) passL (fa_cons (fe_varA (i := 12)) (fa_cons (fe_varA (i := 3)) (fa_nil)))) (fe_int))) (fun _ _ _ _ _ => fe_varA (i := 12)))) (fa_nil)))))
    (fs_cons (fs_set SC.nd rfl (Or.inl rfl) (fx_t (fe_bin op_addT ot_add (fe_bin op_divA ot_divA (fe_varA (i := 3)) (fe_int)) (fe_callM (i := 1) k__law_taken hr (by rfl) passL rfl (fa_cons (fe_int) (fa_nil))))))
    (fs_cons (fs_set SC.nd rfl (Or.inl rfl) (fx_t (fe_call k_chain_notes hr (by rfl) (passes_call (takes_of rfl rfl rfl rfl) fun _ _ _ _ h => h) (fa_cons (fe_varA (i := 3)) (fa_cons (fe_varA (i := 4)) (fa_cons (fe_varA (i := 5)) (fa_nil)))))))
    (fs_cons (fs_set SC.nd rfl (Or.inl rfl) (fx_t (fe_call k_interval_counts hr (by rfl) (passes_call (takes_of rfl rfl rfl rfl) fun _ _ _ _ h => h) (fa_cons (fe_varA (i := 3)) (fa_cons (fe_varA (i := 6)) (fa_nil))))))
    (fs_cons (fs_if (ft_cmp (op_neT hr.units) ot_ne (fe_call k_is_deep hr (by rfl) (passes_call (takes_of rfl rfl rfl rfl) fun _ _ _ _ h => h) (fa_cons (fe_varA (i := 3)) (fa_cons (fe_varA (i := 6)) (fa_nil)))) (fe_cmp (op_eqT hr.units) ot_eq (fe_lensetX (units64 hr) (by rfl) b_len (by rfl) b_set (fe_varA (i := 7))) (fe_lenA (i := 7) (by rfl) b_len bt_len))) (fs_one (fs_ret (fe_bl))) (fs_nil))
    (fs_cons (fs_if (ft_w (fw_and (ft_cmp (op_eqT hr.units) ot_eq (fe_bin op_modN ot_mod (fe_varA (i := 3)) (fe_int)) (fe_int)) (fw_and (ft_cmp (op_eqT hr.units) ot_eq (fe_varA (i := 5)) (fe_bin op_divA ot_divA (fe_varA (i := 3)) (fe_int))) (fw_and1 (ft_cmp (op_neT hr.units) ot_ne (fe_lensetX (units64 hr) (by rfl) b_len (by rfl) b_set (fe_varA (i := 7))) (fe_lenA (i := 7) (by rfl) b_len bt_len)))))) (fs_one (fs_ret (fe_bl))) (fs_nil))
    (fs_cons (fs_if (ft_w (fw_or (ft_cmp (op_neT hr.units) ot_ne (fe_callB call_len ct_len (by rfl) b_len bt_len (fa_cons (fe_call k_twins hr (by rfl) (passes_call (takes_of rfl rfl rfl rfl) fun _ _ _ _ h => h) (fa_cons (fe_int) (fa_cons (fe_int) (fa_nil)))) (fa_nil))) (fe_int)) (fw_or (ft_cmp (op_neT hr.units) ot_ne (fe_callB call_len ct_len (by rfl) b_len bt_len (fa_cons (fe_call k_set_classes hr (by rfl) (passes_call (takes_of rfl rfl rfl rfl) fun _ _ _ _ h => h) (fa_cons (fe_int) (fa_cons (fe_int) (fa_nil)))) (fa_nil))) (fe_int)) (fw_or1 (ft_cmp (op_neT hr.units) ot_ne (fe_call k_least_image hr (by rfl) (passes_call (takes_of rfl rfl rfl rfl) fun _ _ _ _ h => h) (fa_cons (fe_int) (fa_cons (fe_tup (fa_cons (fe_int) (fa_cons (fe_int) (fa_cons (fe_int) (fa_nil))))) (fa_nil)))) (fe_tup (fa_cons (fe_int) (fa_cons (fe_int) (fa_cons (fe_int) (fa_nil)))))))))) (fs_one (fs_ret (fe_bl))) (fs_nil))
    (fs_one (fs_ret (fe_and (fe_cmp (op_eqT hr.units) ot_eq (fe_call k_even_set hr (by rfl) (passes_call (takes_of rfl rfl rfl rfl) fun _ _ _ _ h => h) (fa_cons (fe_int) (fa_cons (fe_int) (fa_cons (fe_int) (fa_nil))))) (fe_tup (fa_cons (fe_int) (fa_cons (fe_int) (fa_cons (fe_int) (fa_cons (fe_int) (fa_cons (fe_int) (fa_cons (fe_int) (fa_cons (fe_int) (fa_nil)))))))))) (fe_and (fe_cmp (op_eqT hr.units) ot_eq (fe_call k_even_set hr (by rfl) (passes_call (takes_of rfl rfl rfl rfl) fun _ _ _ _ h => h) (fa_cons (fe_int) (fa_cons (fe_int) (fa_cons (fe_int) (fa_nil))))) (fe_tup (fa_cons (fe_int) (fa_cons (fe_int) (fa_cons (fe_int) (fa_cons (fe_int) (fa_cons (fe_int) (fa_nil)))))))) (fe_one (fe_cmp (op_eqT hr.units) ot_eq (fe_call k_even_set hr (by rfl) (passes_call (takes_of rfl rfl rfl rfl) fun _ _ _ _ h => h) (fa_cons (fe_int) (fa_cons (fe_int) (fa_cons (fe_int) (fa_nil))))) (fe_tup (fa_cons (fe_int) (fa_cons (fe_int) (fa_cons (fe_int) (fa_nil))))))))))))))))))))))))
end Law

namespace Law
open PySem PySem.Spec L2 FL TW
theorem all_mk {l : PySem.W.OpenLaw} {w : World} {K : PySem.W.Frag} {h : Heap} {mg : Str → Option Value} {fa : Addr} (X : K.In h) (G : h.Ns mainGlobals mg) (hfa : mg "law" = some (.ref fa))
    (z_abs : PySem.W.nsIn K mainGlobals "abs" = some none)
    (z_all : PySem.W.nsIn K mainGlobals "all" = some none)
    (z_bool : PySem.W.nsIn K mainGlobals "bool" = some none)
    (z_enumerate : PySem.W.nsIn K mainGlobals "enumerate" = some none)
    (z_int : PySem.W.nsIn K mainGlobals "int" = some none)
    (z_isinstance : PySem.W.nsIn K mainGlobals "isinstance" = some none)
    (z_len : PySem.W.nsIn K mainGlobals "len" = some none)
    (z_min : PySem.W.nsIn K mainGlobals "min" = some none)
    (z_range : PySem.W.nsIn K mainGlobals "range" = some none)
    (z_set : PySem.W.nsIn K mainGlobals "set" = some none)
    (z_sorted : PySem.W.nsIn K mainGlobals "sorted" = some none)
    (z_tuple : PySem.W.nsIn K mainGlobals "tuple" = some none)
    {t_MOST_STEPS_sets : Tok} (z_MOST_STEPS_sets : PySem.W.nsIn K mainGlobals "MOST_STEPS_sets" = some (some (.int (60) t_MOST_STEPS_sets)))
    {t_MOST_CLASSES : Tok} (z_MOST_CLASSES : PySem.W.nsIn K mainGlobals "MOST_CLASSES" = some (some (.int (2000) t_MOST_CLASSES)))
    {t_MOST_STEPS_words : Tok} (z_MOST_STEPS_words : PySem.W.nsIn K mainGlobals "MOST_STEPS_words" = some (some (.int (200) t_MOST_STEPS_words)))
    {f0 : Addr} {od0 an0 : Option Addr} {sl0 : Array (Option Value)} {oc0 kV0 dc0 pm0 ct0 : Value} {cd0 : Value}
    (a0 : PySem.W.nsIn K mainGlobals "is_int" = some (some (.ref f0))) (l0 : K.lookup f0 = some ⟨oc0, od0, .func (PySem.W.fnOf "is_int" "is_int" (defArgs (topS 6)) (defBody (topS 6)) (defScope (topS 6)) .none kV0 dc0 pm0 an0 cd0 ct0), sl0⟩) (c0 : PySem.W.codeIn K cd0 "is_int" = true) (k0 : PySem.W.keepIn K (.ref f0) = true)
    {f1 : Addr} {od1 an1 : Option Addr} {sl1 : Array (Option Value)} {oc1 kV1 dc1 pm1 ct1 : Value} {cd1 : Value}
    (a1 : PySem.W.nsIn K mainGlobals "common" = some (some (.ref f1))) (l1 : K.lookup f1 = some ⟨oc1, od1, .func (PySem.W.fnOf "common" "common" (defArgs (topS 8)) (defBody (topS 8)) (defScope (topS 8)) .none kV1 dc1 pm1 an1 cd1 ct1), sl1⟩) (c1 : PySem.W.codeIn K cd1 "common" = true) (k1 : PySem.W.keepIn K (.ref f1) = true)
    {f2 : Addr} {od2 an2 : Option Addr} {sl2 : Array (Option Value)} {oc2 kV2 dc2 pm2 ct2 : Value} {cd2 : Value}
    (a2 : PySem.W.nsIn K mainGlobals "moved" = some (some (.ref f2))) (l2 : K.lookup f2 = some ⟨oc2, od2, .func (PySem.W.fnOf "moved" "moved" (defArgs (topS 13)) (defBody (topS 13)) (defScope (topS 13)) .none kV2 dc2 pm2 an2 cd2 ct2), sl2⟩) (c2 : PySem.W.codeIn K cd2 "moved" = true) (k2 : PySem.W.keepIn K (.ref f2) = true)
    {f3 : Addr} {od3 an3 : Option Addr} {sl3 : Array (Option Value)} {oc3 kV3 dc3 pm3 ct3 : Value} {cd3 : Value}
    (a3 : PySem.W.nsIn K mainGlobals "turned" = some (some (.ref f3))) (l3 : K.lookup f3 = some ⟨oc3, od3, .func (PySem.W.fnOf "turned" "turned" (defArgs (topS 14)) (defBody (topS 14)) (defScope (topS 14)) .none kV3 dc3 pm3 an3 cd3 ct3), sl3⟩) (c3 : PySem.W.codeIn K cd3 "turned" = true) (k3 : PySem.W.keepIn K (.ref f3) = true)
    {f4 : Addr} {od4 an4 : Option Addr} {sl4 : Array (Option Value)} {oc4 kV4 dc4 pm4 ct4 : Value} {cd4 : Value}
    (a4 : PySem.W.nsIn K mainGlobals "ways" = some (some (.ref f4))) (l4 : K.lookup f4 = some ⟨oc4, od4, .func (PySem.W.fnOf "ways" "ways" (defArgs (topS 19)) (defBody (topS 19)) (defScope (topS 19)) .none kV4 dc4 pm4 an4 cd4 ct4), sl4⟩) (c4 : PySem.W.codeIn K cd4 "ways" = true) (k4 : PySem.W.keepIn K (.ref f4) = true)
    {f5 : Addr} {od5 an5 : Option Addr} {sl5 : Array (Option Value)} {oc5 kV5 dc5 pm5 ct5 : Value} {cd5 : Value}
    (a5 : PySem.W.nsIn K mainGlobals "spectrum" = some (some (.ref f5))) (l5 : K.lookup f5 = some ⟨oc5, od5, .func (PySem.W.fnOf "spectrum" "spectrum" (defArgs (topS 21)) (defBody (topS 21)) (defScope (topS 21)) .none kV5 dc5 pm5 an5 cd5 ct5), sl5⟩) (c5 : PySem.W.codeIn K cd5 "spectrum" = true) (k5 : PySem.W.keepIn K (.ref f5) = true)
    {f6 : Addr} {od6 an6 : Option Addr} {sl6 : Array (Option Value)} {oc6 kV6 dc6 pm6 ct6 : Value} {cd6 : Value}
    (a6 : PySem.W.nsIn K mainGlobals "chain_of" = some (some (.ref f6))) (l6 : K.lookup f6 = some ⟨oc6, od6, .func (PySem.W.fnOf "chain_of" "chain_of" (defArgs (topS 29)) (defBody (topS 29)) (defScope (topS 29)) .none kV6 dc6 pm6 an6 cd6 ct6), sl6⟩) (c6 : PySem.W.codeIn K cd6 "chain_of" = true) (k6 : PySem.W.keepIn K (.ref f6) = true)
    {f7 : Addr} {od7 an7 : Option Addr} {sl7 : Array (Option Value)} {oc7 kV7 dc7 pm7 ct7 : Value} {cd7 : Value}
    (a7 : PySem.W.nsIn K mainGlobals "_law_taken" = some (some (.ref f7))) (l7 : K.lookup f7 = some ⟨oc7, od7, .func (PySem.W.fnOf "_law_taken" "_law_taken" (defArgs (topS 32)) (defBody (topS 32)) (defScope (topS 32)) .none kV7 dc7 pm7 an7 cd7 ct7), sl7⟩) (c7 : PySem.W.codeIn K cd7 "_law_taken" = true) (k7 : PySem.W.keepIn K (.ref f7) = true)
    {f8 : Addr} {od8 an8 : Option Addr} {sl8 : Array (Option Value)} {oc8 kV8 dc8 pm8 ct8 : Value} {cd8 : Value}
    (a8 : PySem.W.nsIn K mainGlobals "_law_common" = some (some (.ref f8))) (l8 : K.lookup f8 = some ⟨oc8, od8, .func (PySem.W.fnOf "_law_common" "_law_common" (defArgs (topS 34)) (defBody (topS 34)) (defScope (topS 34)) .none kV8 dc8 pm8 an8 cd8 ct8), sl8⟩) (c8 : PySem.W.codeIn K cd8 "_law_common" = true) (k8 : PySem.W.keepIn K (.ref f8) = true)
    {f9 : Addr} {od9 an9 : Option Addr} {sl9 : Array (Option Value)} {oc9 kV9 dc9 pm9 ct9 : Value} {cd9 : Value}
    (a9 : PySem.W.nsIn K mainGlobals "is_in" = some (some (.ref f9))) (l9 : K.lookup f9 = some ⟨oc9, od9, .func (PySem.W.fnOf "is_in" "is_in" (defArgs (topS 7)) (defBody (topS 7)) (defScope (topS 7)) .none kV9 dc9 pm9 an9 cd9 ct9), sl9⟩) (c9 : PySem.W.codeIn K cd9 "is_in" = true) (k9 : PySem.W.keepIn K (.ref f9) = true)
    {f10 : Addr} {od10 an10 : Option Addr} {sl10 : Array (Option Value)} {oc10 kV10 dc10 pm10 ct10 : Value} {cd10 : Value}
    (a10 : PySem.W.nsIn K mainGlobals "images" = some (some (.ref f10))) (l10 : K.lookup f10 = some ⟨oc10, od10, .func (PySem.W.fnOf "images" "images" (defArgs (topS 15)) (defBody (topS 15)) (defScope (topS 15)) .none kV10 dc10 pm10 an10 cd10 ct10), sl10⟩) (c10 : PySem.W.codeIn K cd10 "images" = true) (k10 : PySem.W.keepIn K (.ref f10) = true)
    {f11 : Addr} {od11 an11 : Option Addr} {sl11 : Array (Option Value)} {oc11 kV11 dc11 pm11 ct11 : Value} {cd11 : Value}
    (a11 : PySem.W.nsIn K mainGlobals "_law_pick" = some (some (.ref f11))) (l11 : K.lookup f11 = some ⟨oc11, od11, .func (PySem.W.fnOf "_law_pick" "_law_pick" (defArgs (topS 33)) (defBody (topS 33)) (defScope (topS 33)) .none kV11 dc11 pm11 an11 cd11 ct11), sl11⟩) (c11 : PySem.W.codeIn K cd11 "_law_pick" = true) (k11 : PySem.W.keepIn K (.ref f11) = true)
    {f12 : Addr} {od12 an12 : Option Addr} {sl12 : Array (Option Value)} {oc12 kV12 dc12 pm12 ct12 : Value} {cd12 : Value}
    (a12 : PySem.W.nsIn K mainGlobals "need_set" = some (some (.ref f12))) (l12 : K.lookup f12 = some ⟨oc12, od12, .func (PySem.W.fnOf "need_set" "need_set" (defArgs (topS 12)) (defBody (topS 12)) (defScope (topS 12)) .none kV12 dc12 pm12 an12 cd12 ct12), sl12⟩) (c12 : PySem.W.codeIn K cd12 "need_set" = true) (k12 : PySem.W.keepIn K (.ref f12) = true)
    {f13 : Addr} {od13 an13 : Option Addr} {sl13 : Array (Option Value)} {oc13 kV13 dc13 pm13 ct13 : Value} {cd13 : Value}
    (a13 : PySem.W.nsIn K mainGlobals "set_classes" = some (some (.ref f13))) (l13 : K.lookup f13 = some ⟨oc13, od13, .func (PySem.W.fnOf "set_classes" "set_classes" (defArgs (topS 18)) (defBody (topS 18)) (defScope (topS 18)) .none kV13 dc13 pm13 an13 cd13 ct13), sl13⟩) (c13 : PySem.W.codeIn K cd13 "set_classes" = true) (k13 : PySem.W.keepIn K (.ref f13) = true)
    {f14 : Addr} {od14 an14 : Option Addr} {sl14 : Array (Option Value)} {oc14 kV14 dc14 pm14 ct14 : Value} {cd14 : Value}
    (a14 : PySem.W.nsIn K mainGlobals "even_set" = some (some (.ref f14))) (l14 : K.lookup f14 = some ⟨oc14, od14, .func (PySem.W.fnOf "even_set" "even_set" (defArgs (topS 20)) (defBody (topS 20)) (defScope (topS 20)) .none kV14 dc14 pm14 an14 cd14 ct14), sl14⟩) (c14 : PySem.W.codeIn K cd14 "even_set" = true) (k14 : PySem.W.keepIn K (.ref f14) = true)
    {f15 : Addr} {od15 an15 : Option Addr} {sl15 : Array (Option Value)} {oc15 kV15 dc15 pm15 ct15 : Value} {cd15 : Value}
    (a15 : PySem.W.nsIn K mainGlobals "need_chain" = some (some (.ref f15))) (l15 : K.lookup f15 = some ⟨oc15, od15, .func (PySem.W.fnOf "need_chain" "need_chain" (defArgs (topS 28)) (defBody (topS 28)) (defScope (topS 28)) .none kV15 dc15 pm15 an15 cd15 ct15), sl15⟩) (c15 : PySem.W.codeIn K cd15 "need_chain" = true) (k15 : PySem.W.keepIn K (.ref f15) = true)
    {f16 : Addr} {od16 an16 : Option Addr} {sl16 : Array (Option Value)} {oc16 kV16 dc16 pm16 ct16 : Value} {cd16 : Value}
    (a16 : PySem.W.nsIn K mainGlobals "least_image" = some (some (.ref f16))) (l16 : K.lookup f16 = some ⟨oc16, od16, .func (PySem.W.fnOf "least_image" "least_image" (defArgs (topS 16)) (defBody (topS 16)) (defScope (topS 16)) .none kV16 dc16 pm16 an16 cd16 ct16), sl16⟩) (c16 : PySem.W.codeIn K cd16 "least_image" = true) (k16 : PySem.W.keepIn K (.ref f16) = true)
    {f17 : Addr} {od17 an17 : Option Addr} {sl17 : Array (Option Value)} {oc17 kV17 dc17 pm17 ct17 : Value} {cd17 : Value}
    (a17 : PySem.W.nsIn K mainGlobals "interval_counts" = some (some (.ref f17))) (l17 : K.lookup f17 = some ⟨oc17, od17, .func (PySem.W.fnOf "interval_counts" "interval_counts" (defArgs (topS 17)) (defBody (topS 17)) (defScope (topS 17)) .none kV17 dc17 pm17 an17 cd17 ct17), sl17⟩) (c17 : PySem.W.codeIn K cd17 "interval_counts" = true) (k17 : PySem.W.keepIn K (.ref f17) = true)
    {f18 : Addr} {od18 an18 : Option Addr} {sl18 : Array (Option Value)} {oc18 kV18 dc18 pm18 ct18 : Value} {cd18 : Value}
    (a18 : PySem.W.nsIn K mainGlobals "is_even" = some (some (.ref f18))) (l18 : K.lookup f18 = some ⟨oc18, od18, .func (PySem.W.fnOf "is_even" "is_even" (defArgs (topS 22)) (defBody (topS 22)) (defScope (topS 22)) .none kV18 dc18 pm18 an18 cd18 ct18), sl18⟩) (c18 : PySem.W.codeIn K cd18 "is_even" = true) (k18 : PySem.W.keepIn K (.ref f18) = true)
    {f19 : Addr} {od19 an19 : Option Addr} {sl19 : Array (Option Value)} {oc19 kV19 dc19 pm19 ct19 : Value} {cd19 : Value}
    (a19 : PySem.W.nsIn K mainGlobals "symmetries" = some (some (.ref f19))) (l19 : K.lookup f19 = some ⟨oc19, od19, .func (PySem.W.fnOf "symmetries" "symmetries" (defArgs (topS 24)) (defBody (topS 24)) (defScope (topS 24)) .none kV19 dc19 pm19 an19 cd19 ct19), sl19⟩) (c19 : PySem.W.codeIn K cd19 "symmetries" = true) (k19 : PySem.W.keepIn K (.ref f19) = true)
    {f20 : Addr} {od20 an20 : Option Addr} {sl20 : Array (Option Value)} {oc20 kV20 dc20 pm20 ct20 : Value} {cd20 : Value}
    (a20 : PySem.W.nsIn K mainGlobals "chain_notes" = some (some (.ref f20))) (l20 : K.lookup f20 = some ⟨oc20, od20, .func (PySem.W.fnOf "chain_notes" "chain_notes" (defArgs (topS 30)) (defBody (topS 30)) (defScope (topS 30)) .none kV20 dc20 pm20 an20 cd20 ct20), sl20⟩) (c20 : PySem.W.codeIn K cd20 "chain_notes" = true) (k20 : PySem.W.keepIn K (.ref f20) = true)
    {f21 : Addr} {od21 an21 : Option Addr} {sl21 : Array (Option Value)} {oc21 kV21 dc21 pm21 ct21 : Value} {cd21 : Value}
    (a21 : PySem.W.nsIn K mainGlobals "is_deep" = some (some (.ref f21))) (l21 : K.lookup f21 = some ⟨oc21, od21, .func (PySem.W.fnOf "is_deep" "is_deep" (defArgs (topS 23)) (defBody (topS 23)) (defScope (topS 23)) .none kV21 dc21 pm21 an21 cd21 ct21), sl21⟩) (c21 : PySem.W.codeIn K cd21 "is_deep" = true) (k21 : PySem.W.keepIn K (.ref f21) = true)
    {f22 : Addr} {od22 an22 : Option Addr} {sl22 : Array (Option Value)} {oc22 kV22 dc22 pm22 ct22 : Value} {cd22 : Value}
    (a22 : PySem.W.nsIn K mainGlobals "twins" = some (some (.ref f22))) (l22 : K.lookup f22 = some ⟨oc22, od22, .func (PySem.W.fnOf "twins" "twins" (defArgs (topS 25)) (defBody (topS 25)) (defScope (topS 25)) .none kV22 dc22 pm22 an22 cd22 ct22), sl22⟩) (c22 : PySem.W.codeIn K cd22 "twins" = true) (k22 : PySem.W.keepIn K (.ref f22) = true)
    {f23 : Addr} {od23 an23 : Option Addr} {sl23 : Array (Option Value)} {oc23 kV23 dc23 pm23 ct23 : Value}
    {cL : Addr} (a23 : PySem.W.nsIn K mainGlobals "law" = some (some (.ref f23))) (l23 : K.lookup f23 = some ⟨oc23, od23, .func (PySem.W.fnOf "law" "law" (defArgs (topS 35)) (defBody (topS 35)) (defScope (topS 35)) .none kV23 dc23 pm23 an23 (.ref cL) ct23), sl23⟩) (c23 : PySem.W.codeIn K (.ref cL) "law" = true) (k23 : PySem.W.keepIn K (.ref f23) = true)
    {P0 : Addr} {dd0 : Option Addr} {vs0 : Array Value} {sl0 : Array (Option Value)} {file0 : Str} {tf0 tg0 tt0 : Tok} {flags0 text0 : Int} {inF0 : Bool} (y1 : K.lookup cL = some ⟨.type "code", dd0, .fields vs0, sl0⟩) (y2 : vs0[11]? = some (.ref P0)) (y3 : vs0.getD 18 .none = .str file0 tf0) (y4 : vs0.getD 7 .none = .int flags0 tg0) (y5 : vs0.getD 9 .none = .bool inF0) (y6 : vs0.getD 10 .none = .int text0 tt0) (y7 : cL ≠ P0) (y8 : K.lookup P0 = none)
    (own : LamX.OwnTab K fa h) : LamX.LawAtS l w K (L2.CX l.prog w) 6 63 "_law_script" mg fa h := by
  have T : Top K mg := ⟨PySem.W.mg_none_of X G z_abs, PySem.W.mg_none_of X G z_all, PySem.W.mg_none_of X G z_bool, PySem.W.mg_none_of X G z_enumerate, PySem.W.mg_none_of X G z_int, PySem.W.mg_none_of X G z_isinstance, PySem.W.mg_none_of X G z_len, PySem.W.mg_none_of X G z_min, PySem.W.mg_none_of X G z_range, PySem.W.mg_none_of X G z_set, PySem.W.mg_none_of X G z_sorted, PySem.W.mg_none_of X G z_tuple, ⟨t_MOST_STEPS_sets, PySem.W.mg_of X G z_MOST_STEPS_sets⟩, ⟨t_MOST_CLASSES, PySem.W.mg_of X G z_MOST_CLASSES⟩, ⟨t_MOST_STEPS_words, PySem.W.mg_of X G z_MOST_STEPS_words⟩, ⟨f0, _, fun_mk (st := topS 6) l0 c0 k0, PySem.W.mg_of X G a0⟩, ⟨f1, _, fun_mk (st := topS 8) l1 c1 k1, PySem.W.mg_of X G a1⟩, ⟨f2, _, fun_mk (st := topS 13) l2 c2 k2, PySem.W.mg_of X G a2⟩, ⟨f3, _, fun_mk (st := topS 14) l3 c3 k3, PySem.W.mg_of X G a3⟩, ⟨f4, _, fun_mk (st := topS 19) l4 c4 k4, PySem.W.mg_of X G a4⟩, ⟨f5, _, fun_mk (st := topS 21) l5 c5 k5, PySem.W.mg_of X G a5⟩, ⟨f6, _, fun_mk (st := topS 29) l6 c6 k6, PySem.W.mg_of X G a6⟩, ⟨f7, _, fun_mk (st := topS 32) l7 c7 k7, PySem.W.mg_of X G a7⟩, ⟨f8, _, fun_mk (st := topS 34) l8 c8 k8, PySem.W.mg_of X G a8⟩, ⟨f9, _, fun_mk (st := topS 7) l9 c9 k9, PySem.W.mg_of X G a9⟩, ⟨f10, _, fun_mk (st := topS 15) l10 c10 k10, PySem.W.mg_of X G a10⟩, ⟨f11, _, fun_mk (st := topS 33) l11 c11 k11, PySem.W.mg_of X G a11⟩, ⟨f12, _, fun_mk (st := topS 12) l12 c12 k12, PySem.W.mg_of X G a12⟩, ⟨f13, _, fun_mk (st := topS 18) l13 c13 k13, PySem.W.mg_of X G a13⟩, ⟨f14, _, fun_mk (st := topS 20) l14 c14 k14, PySem.W.mg_of X G a14⟩, ⟨f15, _, fun_mk (st := topS 28) l15 c15 k15, PySem.W.mg_of X G a15⟩, ⟨f16, _, fun_mk (st := topS 16) l16 c16 k16, PySem.W.mg_of X G a16⟩, ⟨f17, _, fun_mk (st := topS 17) l17 c17 k17, PySem.W.mg_of X G a17⟩, ⟨f18, _, fun_mk (st := topS 22) l18 c18 k18, PySem.W.mg_of X G a18⟩, ⟨f19, _, fun_mk (st := topS 24) l19 c19 k19, PySem.W.mg_of X G a19⟩, ⟨f20, _, fun_mk (st := topS 30) l20 c20 k20, PySem.W.mg_of X G a20⟩, ⟨f21, _, fun_mk (st := topS 23) l21 c21 k21, PySem.W.mg_of X G a21⟩, ⟨f22, _, fun_mk (st := topS 25) l22 c22 k22, PySem.W.mg_of X G a22⟩, ⟨f23, _, fun_mk (st := topS 35) l23 c23 k23, PySem.W.mg_of X G a23⟩⟩
  have e := hfa.symm.trans (PySem.W.mg_of X G a23)
  cases e
  exact law_end X hfa l23 rfl ⟨⟨_, _, _, _, _, _, _, _, _, _, y1, y2, y3, y4, y5, y6, y7, y8⟩⟩ own (fun s v => .of_eq rfl) fun base _ _ TB LT => law_imp (k_law_at T (fun_mk (st := topS 35) l23 c23 k23) rfl TB LT) law_true
end Law
open PySem PySem.W PyProof.Rows
set_option maxHeartbeats 0 in
theorem PySem.Challenge.cw_temperworks_k79_known_sets_holds : PySem.Challenge.rw_temperworks_k79_known_sets.Holds := by
  w_on; o_law; k_head; (case hw => w_witness2)
  k_fill
  refine LamX.walk_ofOwn (l := PySem.Challenge.rw_temperworks_k79_known_sets) (n := 63) (k := 6) (x := "_law_script") (CX := fun w => L2.CX (PySem.W.OpenLaw.prog PySem.Challenge.rw_temperworks_k79_known_sets) w) rfl (by decide) rfl ⟨rfl, by decide, by decide⟩ (by kernel_rfl) (fun w h Y => by first | exact PySem.W.kIn_of Y | exact PySem.W.km_in_of Y) ?F (fun _ _ _ _ _ h => FL.noE0 h)
  case F =>
    intro w mg fa h _ KX G hmg own
    refine' Law.all_mk KX G hmg ?z_abs ?z_all ?z_bool ?z_enumerate ?z_int ?z_isinstance ?z_len ?z_min ?z_range ?z_set ?z_sorted ?z_tuple ?z_MOST_STEPS_sets ?z_MOST_CLASSES ?z_MOST_STEPS_words ?a0 ?l0 ?c0 ?k0 ?a1 ?l1 ?c1 ?k1 ?a2 ?l2 ?c2 ?k2 ?a3 ?l3 ?c3 ?k3 ?a4 ?l4 ?c4 ?k4 ?a5 ?l5 ?c5 ?k5 ?a6 ?l6 ?c6 ?k6 ?a7 ?l7 ?c7 ?k7 ?a8 ?l8 ?c8 ?k8 ?a9 ?l9 ?c9 ?k9 ?a10 ?l10 ?c10 ?k10 ?a11 ?l11 ?c11 ?k11 ?a12 ?l12 ?c12 ?k12 ?a13 ?l13 ?c13 ?k13 ?a14 ?l14 ?c14 ?k14 ?a15 ?l15 ?c15 ?k15 ?a16 ?l16 ?c16 ?k16 ?a17 ?l17 ?c17 ?k17 ?a18 ?l18 ?c18 ?k18 ?a19 ?l19 ?c19 ?k19 ?a20 ?l20 ?c20 ?k20 ?a21 ?l21 ?c21 ?k21 ?a22 ?l22 ?c22 ?k22 ?a23 ?l23 ?c23 ?k23 ?y1 ?y2 ?y3 ?y4 ?y5 ?y6 ?y7 ?y8 own
    (case z_abs => k_is); (case z_all => k_is); (case z_bool => k_is); (case z_enumerate => k_is); (case z_int => k_is); (case z_isinstance => k_is); (case z_len => k_is); (case z_min => k_is); (case z_range => k_is); (case z_set => k_is); (case z_sorted => k_is); (case z_tuple => k_is); (case z_MOST_STEPS_sets => k_is); (case z_MOST_CLASSES => k_is); (case z_MOST_STEPS_words => k_is); (case a0 => k_is); (case l0 => k_is); (case c0 => k_is); (case k0 => k_is); (case a1 => k_is); (case l1 => k_is); (case c1 => k_is); (case k1 => k_is); (case a2 => k_is); (case l2 => k_is); (case c2 => k_is); (case k2 => k_is); (case a3 => k_is); (case l3 => k_is); (case c3 => k_is); (case k3 => k_is); (case a4 => k_is); (case l4 => k_is); (case c4 => k_is); (case k4 => k_is); (case a5 => k_is); (case l5 => k_is); (case c5 => k_is); (case k5 => k_is); (case a6 => k_is); (case l6 => k_is); (case c6 => k_is); (case k6 => k_is); (case a7 => k_is); (case l7 => k_is); (case c7 => k_is); (case k7 => k_is); (case a8 => k_is); (case l8 => k_is); (case c8 => k_is); (case k8 => k_is); (case a9 => k_is); (case l9 => k_is); (case c9 => k_is); (case k9 => k_is); (case a10 => k_is); (case l10 => k_is); (case c10 => k_is); (case k10 => k_is); (case a11 => k_is); (case l11 => k_is); (case c11 => k_is); (case k11 => k_is); (case a12 => k_is); (case l12 => k_is); (case c12 => k_is); (case k12 => k_is); (case a13 => k_is); (case l13 => k_is); (case c13 => k_is); (case k13 => k_is); (case a14 => k_is); (case l14 => k_is); (case c14 => k_is); (case k14 => k_is); (case a15 => k_is); (case l15 => k_is); (case c15 => k_is); (case k15 => k_is); (case a16 => k_is); (case l16 => k_is); (case c16 => k_is); (case k16 => k_is); (case a17 => k_is); (case l17 => k_is); (case c17 => k_is); (case k17 => k_is); (case a18 => k_is); (case l18 => k_is); (case c18 => k_is); (case k18 => k_is); (case a19 => k_is); (case l19 => k_is); (case c19 => k_is); (case k19 => k_is); (case a20 => k_is); (case l20 => k_is); (case c20 => k_is); (case k20 => k_is); (case a21 => k_is); (case l21 => k_is); (case c21 => k_is); (case k21 => k_is); (case a22 => k_is); (case l22 => k_is); (case c22 => k_is); (case k22 => k_is); (case a23 => k_is); (case l23 => k_is); (case c23 => k_is); (case k23 => k_is); (case y1 => k_is); (case y2 => rfl); (case y3 => rfl); (case y4 => rfl); (case y5 => rfl); (case y6 => rfl); (case y7 => decide); (case y8 => kernel_rfl)

