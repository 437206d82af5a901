import PyProof.Rows.All
import Wide.All
import OpenK.AllK
import Wide.FinOn
import PyProof.EqAt
import PyProof.EqKinds
import PyProof.TupleCall
import HandS.Base
import HandS.Call
import HandS.List
import HandS.Comp
import HandS.Ends
import HandS.Words
import HandS.WordsList
import HandS.Exc
import HandS.Lambda
import HandS.TupAny
import HandS.TupMul
import HandS.Deep
import HandS.IsInst
import HandS.Wide
import HandS.Style
import KE.SortData
import HandS.Iter
import HandS.Walk
import HandS.WordsExc
import HandS.More
import HandS.Text
import KE.GoesEnum
import KE.GoesZip
import HandS.Steps
import PyProof.StrOps2
import PyProof.Rows.RuleB_bool
import HandS.ExcOwn
import HandS.Small
import HandS.ExcInit
import HandS.TryMany
import HandS.ExcField
import KE.KExcIs
import HandS.ExcIs
import KE.KDflt
import HandS.EndOwn
import HandS.Dict
import HandS.Replace
import HandS.Zip
import HandS.SetFor
import HandS.Conv
import HandS.WordsDict
import HandS.TupLen
import KE.KDictSum
import HandS.DictComp
import HandS.Star
import KE.DataMinMax
import KE.GoesMore
import KE.KDictZip
import KE.KStar
import KE.DataAny
import PyProof.Transfer
import HandS.SetKeys
import KE.KDictKeyed
import HandS.Rev
import KE.KTupSum
import HandS.TupSets
import HandS.Strs
import HandS.ListItems
import KE.DataCmp
import HandS.DictTup
import KE.KDictWalk
import PySem.Challenge.RW_temperworks_k55_whole_words
set_option Elab.async false
set_option linter.all false
set_option maxRecDepth 100000
/-! FL1: trees in place of the heap: what a def computes as a function upon trees. -/
namespace FL
open PySem PySem.Spec PyProof.Rows L2

/-- a value as a tree; sl: a list that is only read; fn: a def or class of the module, by its name -/
inductive T where
  | non | bl (b : Bool) | int (i : Int) | str (x : Str)
  | lst (xs : List T) | tup (xs : List T) | sl (xs : List T) | fn (x : Str)
  | dk (ks : List Key) (vs : List T) | dt (ks : List (List Key)) (vs : List T)
/-- an object that is being changed -/
inductive O where
  | l (xs : List T)
  | dk (ks : List Key) (vs : List T)
  | dt (ks : List (List Key)) (vs : List T)
/-- a slot: unknown, a tree that stays, an object of one's own, the object that the caller lent -/
inductive SV where
  | un | fz (t : T) | ow (o : O) | pa (o : O) | raw (n : Nat)
def SV.owned : SV → Bool
  | .ow _ => true
  | .pa _ => true
  | _ => false
abbrev Env := List SV
/-- an exception: its class's name, its field -/
inductive Ex where
  | mk (cls : Str) (arg : Option (Str × T))
inductive Res (α : Type) where
  | bad | exc (e : Ex) | ok (a : α) (ρ : Env)
def Res.bind {α β : Type} (r : Res α) (k : α → Env → Res β) : Res β := match r with
  | .bad => .bad
  | .exc e => .exc e
  | .ok a ρ => k a ρ
abbrev M (α : Type) := Env → Res α
def Den {α : Type} (r : Res α) (p : α → Env → Prop) (x : Ex → Prop) : Prop := match r with
  | .bad => False
  | .exc e => x e
  | .ok a ρ => p a ρ
theorem Den.bind {α β : Type} {r : Res α} {k : α → Env → Res β} {p : β → Env → Prop} {x : Ex → Prop} (h : Den (r.bind k) p x) : Den r (fun a ρ => Den (k a ρ) p x) x := by
  cases r with
  | bad => exact h
  | exc e => exact h
  | ok a ρ => exact h
theorem Den.imp {α : Type} {r : Res α} {p q : α → Env → Prop} {x : Ex → Prop} (h : Den r p x) (hi : ∀ a ρ, p a ρ → q a ρ) : Den r q x := by
  cases r with
  | bad => exact h
  | exc e => exact h
  | ok a ρ => exact hi a ρ h

/-! ### trees and heaps -/
section
variable (K : PySem.W.Frag) (mg : Str → Option Value)
mutual
def Rep (F : Hp) : T → V → Prop
  | .non, v => v = .non
  | .bl b, v => v = .bl b
  | .int i, v => v = .int i
  | .str x, v => v = .str x
  | .lst ts, v => ∃ a vs, v = .ref a ∧ F a = some (.lst vs) ∧ Reps F ts vs
  | .sl ts, v => ∃ a vs, v = .ref a ∧ SqL K F a vs ∧ Reps F ts vs
  | .tup ts, v => ∃ a vs, v = .ref a ∧ F a = some (.tup vs) ∧ Reps F ts vs
  | .fn x, v => ∃ a, v = .ref a ∧ mg x = some (.ref a)
  | .dk ks ts, v => ∃ a kvs, v = .ref a ∧ F a = some (.dK kvs) ∧ kvs.map (·.1) = ks ∧ Reps F ts (kvs.map (·.2))
  | .dt ks ts, v => ∃ a kvs, v = .ref a ∧ F a = some (.dT kvs) ∧ kvs.map (·.1) = ks ∧ Reps F ts (kvs.map (·.2))
def Reps (F : Hp) : List T → List V → Prop
  | [], vs => vs = []
  | t :: ts, vs => ∃ v r, vs = v :: r ∧ Rep F t v ∧ Reps F ts r
end
def ORep (F : Hp) : O → HO → Prop
  | .l ts, h => ∃ vs, h = .lst vs ∧ Reps K mg F ts vs
  | .dk ks ts, h => ∃ kvs, h = .dK kvs ∧ kvs.map (·.1) = ks ∧ Reps K mg F ts (kvs.map (·.2))
  | .dt ks ts, h => ∃ kvs, h = .dT kvs ∧ kvs.map (·.1) = ks ∧ Reps K mg F ts (kvs.map (·.2))
end
theorem same_SqL {K : PySem.W.Frag} {H H' : Hp} {a : Addr} {xs : List V} (e : Same H H') (h : SqL K H a xs) : SqL K H' a xs := e.seq h
theorem same_Rd {H H' : Hp} {a : Addr} {u : HO} (e : Same H H') (h : Rd H a u) : Rd H' a u := by
  rcases h with h | ⟨o, h⟩
  · exact .inl (e _ _ h)
  · exact .inr ⟨o, e _ _ h⟩
theorem same_SqT0 {K : PySem.W.Frag} {H H' : Hp} {a : Addr} {xs : List V} (e : Same H H') (h : SqT K H a xs) : SqT K H' a xs := by
  rcases h with h | h
  · exact .inl (same_Rd e h)
  · exact .inr h
theorem same_SqT {K : PySem.W.Frag} {H H' : Hp} {a : Addr} {xs : List V} (e : Same H H') (h : H a = some (.tup xs)) : SqT K H' a xs := SqT.of (e _ _ h)
section
variable {K : PySem.W.Frag} {mg : Str → Option Value}
mutual
theorem Rep.mono {F F' : Hp} (e : Same F F') : ∀ (t : T) (v : V), Rep K mg F t v → Rep K mg F' t v
  | .non, _, h => h
  | .bl _, _, h => h
  | .int _, _, h => h
  | .str _, _, h => h
  | .lst ts, _, h => by
    obtain ⟨a, vs, h1, h2, h3⟩ := h
    exact ⟨a, vs, h1, e _ _ h2, Reps.mono e ts vs h3⟩
  | .sl ts, _, h => by
    obtain ⟨a, vs, h1, h2, h3⟩ := h
    exact ⟨a, vs, h1, same_SqL e h2, Reps.mono e ts vs h3⟩
  | .tup ts, _, h => by
    obtain ⟨a, vs, h1, h2, h3⟩ := h
    exact ⟨a, vs, h1, e _ _ h2, Reps.mono e ts vs h3⟩
  | .fn _, _, h => h
  | .dk ks ts, _, h => by
    obtain ⟨a, kvs, h1, h2, h3, h4⟩ := h
    exact ⟨a, kvs, h1, e _ _ h2, h3, Reps.mono e ts _ h4⟩
  | .dt ks ts, _, h => by
    obtain ⟨a, kvs, h1, h2, h3, h4⟩ := h
    exact ⟨a, kvs, h1, e _ _ h2, h3, Reps.mono e ts _ h4⟩
theorem Reps.mono {F F' : Hp} (e : Same F F') : ∀ (ts : List T) (vs : List V), Reps K mg F ts vs → Reps K mg F' ts vs
  | [], _, h => h
  | t :: ts, _, h => by
    obtain ⟨v, r, h1, h2, h3⟩ := h
    exact ⟨v, r, h1, Rep.mono e t v h2, Reps.mono e ts r h3⟩
end
theorem ORep.mono {F F' : Hp} (e : Same F F') {o : O} {h : HO} (r : ORep K mg F o h) : ORep K mg F' o h := by
  cases o with
  | l ts => obtain ⟨vs, h1, h2⟩ := r; exact ⟨vs, h1, h2.mono e⟩
  | dk ks ts => obtain ⟨kvs, h1, h2, h3⟩ := r; exact ⟨kvs, h1, h2, h3.mono e⟩
  | dt ks ts => obtain ⟨kvs, h1, h2, h3⟩ := r; exact ⟨kvs, h1, h2, h3.mono e⟩
theorem Reps.length {F : Hp} : ∀ {ts : List T} {vs : List V}, Reps K mg F ts vs → ts.length = vs.length
  | [], _, h => by
    have e : _ = _ := h
    subst e; rfl
  | t :: ts, _, h => by
    obtain ⟨v, r, rfl, _, h3⟩ := h
    have := Reps.length h3
    simp [this]
theorem Reps.get {F : Hp} : ∀ {ts : List T} {vs : List V} {i : Nat} {t : T}, Reps K mg F ts vs → ts[i]? = some t → ∃ v, vs[i]? = some v ∧ Rep K mg F t v
  | [], _, _, _, _, e => by simp at e
  | t :: ts, _, 0, u, h, e => by
    obtain ⟨v, r, rfl, h2, h3⟩ := h
    simp at e; subst e
    exact ⟨v, rfl, h2⟩
  | t :: ts, _, i + 1, u, h, e => by
    obtain ⟨v, r, rfl, h2, h3⟩ := h
    obtain ⟨w, h4, h5⟩ := Reps.get (i := i) (t := u) h3 (by simpa using e)
    exact ⟨w, by simpa using h4, h5⟩
theorem Reps.nil {F : Hp} : Reps K mg F [] [] := rfl
theorem Reps.cons {F : Hp} {t : T} {ts : List T} {v : V} {vs : List V} (h : Rep K mg F t v) (r : Reps K mg F ts vs) : Reps K mg F (t :: ts) (v :: vs) := ⟨v, vs, rfl, h, r⟩
theorem Reps.append {F : Hp} : ∀ {ts us : List T} {vs ws : List V}, Reps K mg F ts vs → Reps K mg F us ws → Reps K mg F (ts ++ us) (vs ++ ws)
  | [], _, _, _, h, q => by
    have e : _ = _ := h
    subst e; exact q
  | t :: ts, _, _, _, h, q => by
    obtain ⟨v, r, rfl, h2, h3⟩ := h
    exact ⟨v, r ++ _, rfl, h2, h3.append q⟩
theorem Reps.one {F : Hp} {t : T} {v : V} (h : Rep K mg F t v) : Reps K mg F [t] [v] := .cons h .nil
theorem Reps.take {F : Hp} : ∀ {ts : List T} {vs : List V} (n : Nat), Reps K mg F ts vs → Reps K mg F (ts.take n) (vs.take n)
  | _, _, 0, _ => by simp [Reps]
  | [], _, n + 1, h => by
    have e : _ = _ := h
    subst e; exact .nil
  | t :: ts, _, n + 1, h => by
    obtain ⟨v, r, rfl, h2, h3⟩ := h
    exact ⟨v, r.take n, rfl, h2, h3.take n⟩
theorem Reps.drop {F : Hp} : ∀ {ts : List T} {vs : List V} (n : Nat), Reps K mg F ts vs → Reps K mg F (ts.drop n) (vs.drop n)
  | _, _, 0, h => h
  | [], _, n + 1, h => by
    have e : _ = _ := h
    subst e; exact .nil
  | t :: ts, _, n + 1, h => by
    obtain ⟨v, r, rfl, h2, h3⟩ := h
    exact h3.drop n
theorem Reps.set {F : Hp} {t : T} {v : V} (ht : Rep K mg F t v) : ∀ {ts : List T} {vs : List V} (n : Nat), Reps K mg F ts vs → Reps K mg F (ts.set n t) (vs.set n v)
  | [], _, _, h => by
    have e : _ = _ := h
    subst e; exact .nil
  | _ :: ts, _, 0, h => by
    obtain ⟨v, r, rfl, h2, h3⟩ := h
    exact ⟨_, r, rfl, ht, h3⟩
  | _ :: ts, _, n + 1, h => by
    obtain ⟨v, r, rfl, h2, h3⟩ := h
    exact ⟨v, _, rfl, h2, h3.set ht n⟩
theorem Reps.ints {F : Hp} : ∀ {ns : List Int} {vs : List V}, Reps K mg F (ns.map T.int) vs → vs = ns.map V.int
  | [], _, h => h
  | n :: ns, _, h => by
    obtain ⟨v, r, rfl, h2, h3⟩ := h
    have e : v = V.int n := h2
    rw [e, Reps.ints h3]; rfl
theorem Reps.of_ints {F : Hp} : ∀ {ns : List Int}, Reps K mg F (ns.map T.int) (ns.map V.int)
  | [] => rfl
  | n :: ns => ⟨_, _, rfl, rfl, Reps.of_ints⟩
end

/-! ### the law's table of code objects -/
def LawTab (K : PySem.W.Frag) (mg : Str → Option Value) (P : Addr) : Prop := ∃ (fa : Addr) (o : Obj) (fd : FuncData) (c : Addr) (e : Value) (dd : Option Addr) (vs : Array Value) (sl : Array (Option Value)), mg "law" = some (.ref fa) ∧ K.lookup fa = some o ∧ o.data = .func fd ∧ fd.code = .ref c ∧ K.lookup c = some ⟨e, dd, .fields vs, sl⟩ ∧ vs[11]? = some (.ref P)
def qLam : Str := ("law" ++ ".<locals>.") ++ "<lambda>"
def TabX (K : PySem.W.Frag) (mg : Str → Option Value) (H : Hp) : Prop := ∀ P, LawTab K mg P → LamX.TabS H P qLam
structure Tb (K : PySem.W.Frag) (mg : Str → Option Value) (F B H : Hp) : Prop where
  x : TabX K mg H
  f : ∀ P, LawTab K mg P → F P = none
  b : ∀ P, LawTab K mg P → B P = none
/-- an object that is neither a table nor a code object -/
def plainO (h : HO) : Prop := (∀ ps, h ≠ .tbl ps) ∧ ∀ g, h ≠ .ext g
theorem ORep.plain {K : PySem.W.Frag} {mg : Str → Option Value} {F : Hp} {o : O} {h : HO} (r : ORep K mg F o h) : plainO h := by
  cases o with
  | l ts => obtain ⟨vs, rfl, _⟩ := r; exact ⟨fun _ z => (by cases z), fun _ z => (by cases z)⟩
  | dk ks ts => obtain ⟨kvs, rfl, _⟩ := r; exact ⟨fun _ z => (by cases z), fun _ z => (by cases z)⟩
  | dt ks ts => obtain ⟨kvs, rfl, _⟩ := r; exact ⟨fun _ z => (by cases z), fun _ z => (by cases z)⟩
theorem ORep.ntup {K : PySem.W.Frag} {mg : Str → Option Value} {F : Hp} {o : O} {h : HO} (r : ORep K mg F o h) (vs : List V) : h ≠ .tup vs := by
  cases o with
  | l ts => obtain ⟨vs, rfl, _⟩ := r; intro z; cases z
  | dk ks ts => obtain ⟨kvs, rfl, _⟩ := r; intro z; cases z
  | dt ks ts => obtain ⟨kvs, rfl, _⟩ := r; intro z; cases z
section
variable {K : PySem.W.Frag} {mg : Str → Option Value} {F F' B B' H H' : Hp}
theorem TabX.ext (t : TabX K mg H) (e : Same H H') : TabX K mg H' := fun P q => (t P q).ext e
theorem tabS_upd {H : Hp} {P a : Addr} {q : Str} {h h' : HO} (t : LamX.TabS H P q) (ha : H a = some h) (p : plainO h) : LamX.TabS (upd H a h') P q := by
  obtain ⟨ps, h1, h2, h3⟩ := t
  have nP : P ≠ a := fun z => by subst z; rw [ha] at h1; exact p.1 ps (Option.some.inj h1)
  refine ⟨ps, by rw [upd_ne nP]; exact h1, h2, fun pos cv hc => ?_⟩
  obtain ⟨c, e1, e2⟩ := h3 pos cv hc
  have nc : c ≠ a := fun z => by subst z; rw [ha] at e2; exact p.2 _ (Option.some.inj e2)
  exact ⟨c, e1, by rw [upd_ne nc]; exact e2⟩
theorem TabX.upd {a : Addr} {h h' : HO} (t : TabX K mg H) (ha : H a = some h) (p : plainO h) : TabX K mg (upd H a h') := fun P q => tabS_upd (t P q) ha p
theorem TabX.ne {a : Addr} {h : HO} (t : TabX K mg H) (ha : H a = some h) (p : plainO h) {P : Addr} (q : LawTab K mg P) : P ≠ a := fun z => by
  subst z
  obtain ⟨ps, h1, _⟩ := t _ q
  rw [ha] at h1; exact p.1 ps (Option.some.inj h1)
theorem TabX.ne0 {a : Addr} (t : TabX K mg H) (ha : H a = none) {P : Addr} (q : LawTab K mg P) : P ≠ a := fun z => by
  subst z
  obtain ⟨ps, h1, _⟩ := t _ q
  rw [ha] at h1; cases h1
theorem Tb.ext (t : Tb K mg F B H) (e : ∀ b o, H b = some o → H' b = some o) : Tb K mg F B H' := ⟨t.x.ext e, t.f, t.b⟩
theorem Tb.updF {p : Addr} {o : HO} (t : Tb K mg F B H) (n : H p = none) : Tb K mg (L2.upd F p o) B (L2.upd H p o) := ⟨t.x.ext fun b x e => by rw [upd_ne (ne_of_none e n)]; exact e, fun P q => by rw [upd_ne (t.x.ne0 n q)]; exact t.f P q, t.b⟩
theorem Tb.updF2 {p : Addr} {h : HO} (t : Tb K mg F B H) (e : H p = some h) (pl : plainO h) {o : HO} : Tb K mg (L2.upd F p o) B H := ⟨t.x, fun P q => by rw [upd_ne (t.x.ne e pl q)]; exact t.f P q, t.b⟩
theorem Tb.updB {p : Addr} {h : HO} (t : Tb K mg F B H) (e : H p = some h) (pl : plainO h) {o : HO} : Tb K mg F (L2.upd B p o) H := ⟨t.x, t.f, fun P q => by rw [upd_ne (t.x.ne e pl q)]; exact t.b P q⟩
theorem Tb.updH {p : Addr} {h h' : HO} (t : Tb K mg F B H) (e : H p = some h) (pl : plainO h) : Tb K mg F B (L2.upd H p h') := ⟨t.x.upd e pl, t.f, t.b⟩
theorem Tb.lessB (t : Tb K mg F B' H) (s : Same B B') : Tb K mg F B H := ⟨t.x, t.f, fun P q => s.free (t.b P q)⟩
end
/-! ### the state: trees and slots -/
/-- what one slot says -/
def Slot (K : PySem.W.Frag) (mg : Str → Option Value) (B F : Hp) (pm : Option Addr) (rw : List V) (H : Hp) (α : Nat → Addr) (σ : L2.St) (i : Nat) : SV → Prop
  | .un => True
  | .fz t => ∃ v, σ[i]? = some (some v) ∧ Rep K mg F t v
  | .ow o => σ[i]? = some (some (.ref (α i))) ∧ F (α i) = none ∧ B (α i) = none ∧ pm ≠ some (α i) ∧ ∃ h, H (α i) = some h ∧ ORep K mg F o h
  | .pa o => σ[i]? = some (some (.ref (α i))) ∧ F (α i) = none ∧ B (α i) = none ∧ pm = some (α i) ∧ ∃ h, H (α i) = some h ∧ ORep K mg F o h
  | .raw n => ∃ v, σ[i]? = some (some v) ∧ rw[n]? = some v
/-- no object of the ground, or a tuple (that no one changes) -/
def NB (B : Hp) (a : Addr) (o : HO) : Prop := B a = none ∨ ∃ vs, o = .tup vs
structure RS (K : PySem.W.Frag) (mg : Str → Option Value) (B F0 : Hp) (pm : Option Addr) (rw : List V) (F : Hp) (ρ : Env) (σ : L2.St) (H : Hp) : Prop where
  len : ρ.length = σ.length
  fh : Same F H
  bh : Same B H
  f0 : Same F0 F
  fr : ∀ a o, F a = some o → (∃ u, F0 a = some u) ∨ NB B a o
  pt : ∀ a, pm = some a → ∃ o, H a = some o
  tb : Tb K mg F B H
  ex : ∃ α : Nat → Addr, (∀ i x, ρ[i]? = some x → Slot K mg B F pm rw H α σ i x) ∧ ∀ i j x y, ρ[i]? = some x → ρ[j]? = some y → x.owned = true → y.owned = true → i ≠ j → α i ≠ α j
section
variable {K : PySem.W.Frag} {mg : Str → Option Value} {B F0 F F' : Hp} {pm : Option Addr} {rw : List V} {ρ ρ' : Env} {σ σ' : L2.St} {H H' : Hp} {α : Nat → Addr} {i : Nat} {x : SV}
theorem upd_none_of {H : Hp} {p a : Addr} {o : HO} (h : a ≠ p) (e : H a = none) : upd H p o a = none := by rw [upd_ne h]; exact e
theorem same_upd {H : Hp} {p : Addr} {o : HO} (n : H p = none) : Same H (upd H p o) := fun b x e => by
  rw [upd_ne (ne_of_none e n)]
  exact e
theorem same_upd2 {F H : Hp} {p : Addr} {o : HO} (s : Same F H) : Same (L2.upd F p o) (L2.upd H p o) := fun b x e => by
  by_cases hb : b = p
  · subst hb; rw [upd_same] at e ⊢; exact e
  · rw [upd_ne hb] at e ⊢; exact s _ _ e
theorem RS.fnone (R : RS K mg B F0 pm rw F ρ σ H) {p : Addr} (n : H p = none) : F p = none := R.fh.free n
theorem RS.bnone (R : RS K mg B F0 pm rw F ρ σ H) {p : Addr} (n : H p = none) : B p = none := R.bh.free n
/-- the heap has grown (all that was stands); the same trees -/
theorem RS.grow (R : RS K mg B F0 pm rw F ρ σ H) (e : Same H H') : RS K mg B F0 pm rw F ρ σ H' := by
  obtain ⟨α, h1, h2⟩ := R.ex
  refine ⟨R.len, R.fh.trans e, R.bh.trans e, R.f0, R.fr, fun a z => let ⟨o, q⟩ := R.pt a z; ⟨o, e _ _ q⟩, R.tb.ext e, α, fun i x hx => ?_, h2⟩
  have q := h1 i x hx
  cases x with
  | un => trivial
  | fz t => exact q
  | raw n => exact q
  | ow o => obtain ⟨a, b, c, d, h, e1, e2⟩ := q; exact ⟨a, b, c, d, h, e _ _ e1, e2⟩
  | pa o => obtain ⟨a, b, c, d, h, e1, e2⟩ := q; exact ⟨a, b, c, d, h, e _ _ e1, e2⟩
/-- a new object that stays -/
theorem RS.newF {p : Addr} {o : HO} (R : RS K mg B F0 pm rw F ρ σ H) (n : H p = none) : RS K mg B F0 pm rw (upd F p o) ρ σ (upd H p o) := by
  have nF := R.fnone n
  have sF : Same F (upd F p o) := same_upd nF
  have sH : Same H (upd H p o) := same_upd n
  obtain ⟨α, h1, h2⟩ := R.ex
  refine ⟨R.len, same_upd2 R.fh, R.bh.trans sH, R.f0.trans sF, fun a u e => ?_, fun a z => let ⟨o, q⟩ := R.pt a z; ⟨o, sH _ _ q⟩, R.tb.updF n, α, fun i x hx => ?_, h2⟩
  · by_cases ha : a = p
    · subst ha; exact .inr (.inl (R.bnone n))
    · rw [upd_ne ha] at e; exact R.fr a u e
  · have q := h1 i x hx
    cases x with
    | un => trivial
    | fz t => obtain ⟨v, a, b⟩ := q; exact ⟨v, a, b.mono sF⟩
    | raw n => obtain ⟨v, a, b⟩ := q; exact ⟨v, a, b⟩
    | ow o => obtain ⟨a, b, c, d, h, e1, e2⟩ := q; exact ⟨a, upd_none_of (ne_of_none e1 n) b, c, d, h, sH _ _ e1, e2.mono sF⟩
    | pa o => obtain ⟨a, b, c, d, h, e1, e2⟩ := q; exact ⟨a, upd_none_of (ne_of_none e1 n) b, c, d, h, sH _ _ e1, e2.mono sF⟩
theorem RS.slot (R : RS K mg B F0 pm rw F ρ σ H) {t : T} (h : ρ[i]? = some (.fz t)) : ∃ v, σ[i]? = some (some v) ∧ Rep K mg F t v := by
  obtain ⟨α, h1, _⟩ := R.ex
  exact h1 i _ h
/-- a slot is given a tree -/
theorem RS.setF {t : T} {v : V} (R : RS K mg B F0 pm rw F ρ σ H) (i : Nat) (r : Rep K mg F t v) : RS K mg B F0 pm rw F (ρ.set i (.fz t)) (σ.set i (some v)) H := by
  obtain ⟨α, h1, h2⟩ := R.ex
  have hl := R.len
  refine ⟨by simpa using R.len, R.fh, R.bh, R.f0, R.fr, R.pt, R.tb, α, fun j x hx => ?_, fun j k x y hx hy ox oy ne => ?_⟩
  · by_cases hj : j = i
    · subst hj
      have hlt : j < ρ.length := by
        have := (List.getElem?_eq_some_iff.mp hx).1
        simpa using this
      rw [List.getElem?_set_self hlt] at hx
      cases hx
      exact ⟨v, List.getElem?_set_self (by omega), r⟩
    · rw [List.getElem?_set_ne (Ne.symm hj)] at hx
      have q := h1 j x hx
      have es : (σ.set i (some v))[j]? = σ[j]? := List.getElem?_set_ne (Ne.symm hj)
      cases x with
      | un => trivial
      | fz t => obtain ⟨v, a, b⟩ := q; exact ⟨v, es.trans a, b⟩
      | raw n => obtain ⟨v, a, b⟩ := q; exact ⟨v, es.trans a, b⟩
      | ow o => obtain ⟨a, b⟩ := q; exact ⟨es.trans a, b⟩
      | pa o => obtain ⟨a, b⟩ := q; exact ⟨es.trans a, b⟩
  · have g : ∀ m z, (ρ.set i (.fz t))[m]? = some z → z.owned = true → m ≠ i ∧ ρ[m]? = some z := fun m z hz oz => by
      by_cases hm : m = i
      · subst hm
        have hlt : m < ρ.length := by
          have := (List.getElem?_eq_some_iff.mp hz).1
          simpa using this
        rw [List.getElem?_set_self hlt] at hz
        cases hz; cases oz
      · rw [List.getElem?_set_ne (Ne.symm hm)] at hz
        exact ⟨hm, hz⟩
    exact h2 j k x y (g j x hx ox).2 (g k y hy oy).2 ox oy ne
end
/-! ### one slot more -/
section
variable {K : PySem.W.Frag} {mg : Str → Option Value} {B F0 F F' : Hp} {pm : Option Addr} {rw : List V} {ρ ρ' ys : Env} {σ σ' ws : L2.St} {H H' : Hp} {i : Nat} {x : SV}
theorem get_mid {α : Type} {xs ys : List α} {x : α} (j : Nat) : (xs ++ x :: ys)[j]? = if j < xs.length then (xs ++ ys)[j]? else if j = xs.length then some x else (xs ++ ys)[j - 1]? := by
  by_cases h : j < xs.length
  · rw [if_pos h, List.getElem?_append_left h, List.getElem?_append_left h]
  · rw [if_neg h]
    by_cases h2 : j = xs.length
    · rw [if_pos h2]
      subst h2
      rw [List.getElem?_append_right (Nat.le_refl _)]
      simp
    · rw [if_neg h2, List.getElem?_append_right (by omega), List.getElem?_append_right (by omega)]
      have e : j - xs.length = (j - 1 - xs.length) + 1 := by omega
      rw [e, List.getElem?_cons_succ]
/-- a slot put in at the end of ρ -/
theorem RS.ins {B' : Hp} {v : V} {p : Addr} (R : RS K mg B' F0 pm rw F (ρ ++ ys) (σ ++ ws) H) (hl : ρ.length = σ.length) (bb : Same B B')
    (hx : (∃ t, x = .fz t ∧ Rep K mg F t v) ∨ (∃ o h, x = .ow o ∧ v = .ref p ∧ F p = none ∧ B p = none ∧ pm ≠ some p ∧ H p = some h ∧ ORep K mg F o h ∧ ∃ u, B' p = some u)) :
    RS K mg B F0 pm rw F (ρ ++ x :: ys) (σ ++ some v :: ws) H := by
  obtain ⟨α, h1, h2⟩ := R.ex
  have hlen := R.len
  have bn : ∀ a, B' a = none → B a = none := fun a e => bb.free e
  refine ⟨by simp only [List.length_append, List.length_cons] at hlen ⊢; omega, R.fh, bb.trans R.bh, R.f0, fun a o e => (R.fr a o e).imp id (Or.imp (bn a) id), R.pt, R.tb.lessB bb, fun j => if j < ρ.length then α j else if j = ρ.length then p else α (j - 1), fun j y hy => ?_, fun j m y z hy hz oy oz ne => ?_⟩
  · have es : (σ ++ some v :: ws)[j]? = if j < ρ.length then (σ ++ ws)[j]? else if j = ρ.length then some (some v) else (σ ++ ws)[j - 1]? := by rw [get_mid, hl]
    rw [get_mid] at hy
    have step : ∀ m, (ρ ++ ys)[m]? = some y → (σ ++ some v :: ws)[j]? = (σ ++ ws)[m]? → (if j < ρ.length then α j else if j = ρ.length then p else α (j - 1)) = α m → Slot K mg B F pm rw H (fun j => if j < ρ.length then α j else if j = ρ.length then p else α (j - 1)) (σ ++ some v :: ws) j y := fun m hm e1 e2 => by
      have q := h1 m y hm
      cases y with
      | un => trivial
      | fz t => obtain ⟨v', a, b⟩ := q; exact ⟨v', e1.trans a, b⟩
      | raw n => obtain ⟨v', a, b⟩ := q; exact ⟨v', e1.trans a, b⟩
      | ow o => obtain ⟨a, b, c, d⟩ := q; unfold Slot; simp only [e2]; exact ⟨e1.trans a, b, bn _ c, d⟩
      | pa o => obtain ⟨a, b, c, d⟩ := q; unfold Slot; simp only [e2]; exact ⟨e1.trans a, b, bn _ c, d⟩
    by_cases hj : j < ρ.length
    · rw [if_pos hj] at hy es
      exact step j hy es (if_pos hj)
    · rw [if_neg hj] at hy es
      by_cases hj2 : j = ρ.length
      · rw [if_pos hj2] at hy es
        cases hy
        rcases hx with ⟨t, rfl, r⟩ | ⟨o, h, rfl, rfl, e1, e2, e3, e4, e5, _⟩
        · exact ⟨v, es, r⟩
        · unfold Slot
          simp only [if_neg hj, if_pos hj2]
          exact ⟨es, e1, e2, e3, h, e4, e5⟩
      · rw [if_neg hj2] at hy es
        exact step (j - 1) hy es (by rw [if_neg hj, if_neg hj2])
  · -- owned addresses differ
    have cls : ∀ n w, (ρ ++ x :: ys)[n]? = some w → w.owned = true → (∃ m, (ρ ++ ys)[m]? = some w ∧ (if n < ρ.length then α n else if n = ρ.length then p else α (n - 1)) = α m ∧ n = (if m < ρ.length then m else m + 1)) ∨ (n = ρ.length ∧ (if n < ρ.length then α n else if n = ρ.length then p else α (n - 1)) = p ∧ ∃ u, B' p = some u) := fun n w hn ow => by
      rw [get_mid] at hn
      by_cases hj : n < ρ.length
      · rw [if_pos hj] at hn
        exact .inl ⟨n, hn, if_pos hj, (if_pos hj).symm⟩
      · rw [if_neg hj] at hn
        by_cases hj2 : n = ρ.length
        · rw [if_pos hj2] at hn
          cases hn
          rcases hx with ⟨t, rfl, r⟩ | ⟨o, h, rfl, rfl, e1, e2, e3, e4, e5, e6⟩
          · cases ow
          · exact .inr ⟨hj2, by rw [if_neg hj, if_pos hj2], e6⟩
        · rw [if_neg hj2] at hn
          refine .inl ⟨n - 1, hn, by rw [if_neg hj, if_neg hj2], ?_⟩
          rw [if_neg (by omega)]
          omega
    have far : ∀ m w, (ρ ++ ys)[m]? = some w → w.owned = true → B' (α m) = none := fun m w hm ow => by
      have q := h1 m w hm
      cases w with
      | un => cases ow
      | fz t => cases ow
      | raw n => cases ow
      | ow o => exact q.2.2.1
      | pa o => exact q.2.2.1
    show (if j < ρ.length then α j else if j = ρ.length then p else α (j - 1)) ≠ (if m < ρ.length then α m else if m = ρ.length then p else α (m - 1))
    rcases cls j y hy oy with ⟨a, ha, ea, na⟩ | ⟨ea0, ea, u, eu⟩
    · rcases cls m z hz oz with ⟨b, hb, eb, nb⟩ | ⟨eb0, eb, u, eu⟩
      · rw [ea, eb]
        refine h2 a b y z ha hb oy oz fun e => ne ?_
        rw [na, nb, e]
      · rw [ea, eb]
        intro e
        have := far a y ha oy
        rw [e, eu] at this
        cases this
    · rcases cls m z hz oz with ⟨b, hb, eb, nb⟩ | ⟨eb0, eb, _⟩
      · rw [ea, eb]
        intro e
        have := far b z hb oz
        rw [← e, eu] at this
        cases this
      · exact absurd (ea0.trans eb0.symm) ne
/-- a tree put in -/
theorem RS.insF {t : T} {v : V} (R : RS K mg B F0 pm rw F (ρ ++ ys) (σ ++ ws) H) (hl : ρ.length = σ.length) (r : Rep K mg F t v) : RS K mg B F0 pm rw F (ρ ++ .fz t :: ys) (σ ++ some v :: ws) H :=
  R.ins (p := 0) hl (Same.refl _) (.inl ⟨t, rfl, r⟩)
/-- a new object put in at the end -/
theorem RS.newO {o : O} {h : HO} {p : Addr} (R : RS K mg B F0 pm rw F ρ σ H) (r : ORep K mg F o h) (n : H p = none) : RS K mg B F0 pm rw F (ρ ++ [.ow o]) (σ ++ [some (.ref p)]) (upd H p h) := by
  have nF := R.fnone n
  have nB := R.bnone n
  have sH : Same H (upd H p h) := same_upd n
  have npm : pm ≠ some p := fun e => by
    obtain ⟨u, q⟩ := R.pt p e
    rw [n] at q; cases q
  have R1 : RS K mg (upd B p h) F0 pm rw F (ρ ++ []) (σ ++ []) (upd H p h) := by
    rw [List.append_nil, List.append_nil]
    obtain ⟨α, h1, h2⟩ := (R.grow sH).ex
    have nb : ∀ a, a ≠ p → B a = none → upd B p h a = none := fun a ne e => by rw [upd_ne ne]; exact e
    obtain ⟨α0, g1, g2⟩ := R.ex
    refine ⟨R.len, R.fh.trans sH, same_upd2 R.bh, R.f0, fun a u e => ?_, fun a z => let ⟨o, q⟩ := R.pt a z; ⟨o, sH _ _ q⟩, (R.tb.ext sH).updB upd_same r.plain, α0, fun j y hy => ?_, g2⟩
    · rcases R.fr a u e with q | q
      · exact .inl q
      · exact .inr (q.imp (nb a (fun z => by subst z; rw [nF] at e; cases e)) id)
    · have q := g1 j y hy
      cases y with
      | un => trivial
      | fz t => exact q
      | raw n => exact q
      | ow o => obtain ⟨a, b, c, d, u, e1, e2⟩ := q; exact ⟨a, b, nb _ (ne_of_none e1 n) c, d, u, sH _ _ e1, e2⟩
      | pa o => obtain ⟨a, b, c, d, u, e1, e2⟩ := q; exact ⟨a, b, nb _ (ne_of_none e1 n) c, d, u, sH _ _ e1, e2⟩
  exact R1.ins R.len (same_upd nB) (.inr ⟨o, h, rfl, rfl, nF, nB, npm, upd_same, r, h, upd_same⟩)
/-- an object at the end is set aside -/
theorem RS.aside {o : O} {v : V} (R : RS K mg B F0 pm rw F (ρ ++ [.ow o]) (σ ++ [some v]) H) (hl : ρ.length = σ.length) :
    ∃ p h, v = .ref p ∧ F p = none ∧ B p = none ∧ pm ≠ some p ∧ H p = some h ∧ ORep K mg F o h ∧ RS K mg (upd B p h) F0 pm rw F ρ σ H := by
  obtain ⟨α, h1, h2⟩ := R.ex
  have e0 : (ρ ++ [SV.ow o])[ρ.length]? = some (.ow o) := by simp
  obtain ⟨a, b, c, d, u, e1, e2⟩ := h1 ρ.length _ e0
  have ev : v = .ref (α ρ.length) := by
    rw [hl] at a
    simp only [List.getElem?_append_right (Nat.le_refl _), Nat.sub_self, List.getElem?_cons_zero, Option.some.injEq] at a
    rw [hl]; exact a
  have up : ∀ j y, ρ[j]? = some y → j < ρ.length ∧ (ρ ++ [SV.ow o])[j]? = some y := fun j y hy => by
    have hj := (List.getElem?_eq_some_iff.mp hy).1
    exact ⟨hj, by rw [List.getElem?_append_left hj]; exact hy⟩
  refine ⟨α ρ.length, u, ev, b, c, d, e1, e2, ⟨hl, R.fh, fun z w q => ?_, R.f0, fun z w q => ?_, R.pt, R.tb.updB e1 e2.plain, α, fun j y hy => ?_, fun j m y z hy hz oy oz ne => ?_⟩⟩
  · by_cases hz : z = α ρ.length
    · subst hz; rw [upd_same] at q; cases q; exact e1
    · rw [upd_ne hz] at q; exact R.bh _ _ q
  · rcases R.fr z w q with k | k
    · exact .inl k
    · refine .inr (k.imp (fun k => ?_) id)
      rw [upd_ne (fun e => by subst e; rw [b] at q; cases q)]
      exact k
  · obtain ⟨hj, hy'⟩ := up j y hy
    have q := h1 j y hy'
    have es : (σ ++ [some v])[j]? = σ[j]? := List.getElem?_append_left (by omega)
    have ne : y.owned = true → α j ≠ α ρ.length := fun oy => h2 j ρ.length y _ hy' e0 oy rfl (by omega)
    cases y with
    | un => trivial
    | fz t => obtain ⟨v', a, b⟩ := q; exact ⟨v', es ▸ a, b⟩
    | raw n => obtain ⟨v', a, b⟩ := q; exact ⟨v', es ▸ a, b⟩
    | ow o => obtain ⟨a, b, c, d⟩ := q; exact ⟨es ▸ a, b, by rw [upd_ne (ne rfl)]; exact c, d⟩
    | pa o => obtain ⟨a, b, c, d⟩ := q; exact ⟨es ▸ a, b, by rw [upd_ne (ne rfl)]; exact c, d⟩
  · exact h2 j m y z (up j y hy).2 (up m z hz).2 oy oz ne
/-- and taken back -/
theorem RS.back {o : O} {h : HO} {p : Addr} (R : RS K mg (upd B p h) F0 pm rw F' (ρ' ++ ys) (σ ++ ws) H') (hl : ρ'.length = σ.length) (f0 : F0 p = none) (nB : B p = none) (npm : pm ≠ some p) (r : ORep K mg F' o h) :
    RS K mg B F0 pm rw F' (ρ' ++ .ow o :: ys) (σ ++ some (.ref p) :: ws) H' := by
  refine R.ins hl (same_upd nB) (.inr ⟨o, h, rfl, rfl, ?_, nB, npm, R.bh _ _ upd_same, r, h, upd_same⟩)
  cases e : F' p with
  | none => rfl
  | some u =>
    rcases R.fr p u e with ⟨w, q⟩ | q
    · rw [f0] at q; cases q
    · rcases q with q | ⟨vs, rfl⟩
      · rw [upd_same] at q; cases q
      · have e1 := R.fh _ _ e
        rw [R.bh _ _ upd_same] at e1
        exact (r.ntup vs (Option.some.inj e1)).elim
/-- the slot behind ρ goes to the place i -/
theorem RS.pop {x : SV} {v : Option V} (R : RS K mg B F0 pm rw F (ρ ++ x :: ys) (σ ++ v :: ws) H) (hl : ρ.length = σ.length) (i : Nat) (hi : i < ρ.length) : RS K mg B F0 pm rw F (ρ.set i x ++ ys) (σ.set i v ++ ws) H := by
  obtain ⟨α, h1, h2⟩ := R.ex
  have hlen := R.len
  have src : ∀ j y, (ρ.set i x ++ ys)[j]? = some y → ∃ m, (ρ ++ x :: ys)[m]? = some y ∧ (σ.set i v ++ ws)[j]? = (σ ++ v :: ws)[m]? ∧ m = (if j = i then ρ.length else if j < ρ.length then j else j + 1) := fun j y hy => by
    by_cases hj : j < ρ.length
    · have hj2 : j < (ρ.set i x).length := by simpa using hj
      have hj3 : j < (σ.set i v).length := by simp; omega
      rw [List.getElem?_append_left hj2] at hy
      by_cases e : j = i
      · subst e
        rw [List.getElem?_set_self hj] at hy
        cases hy
        refine ⟨ρ.length, by simp, ?_, by simp⟩
        rw [List.getElem?_append_left hj3, List.getElem?_set_self (by omega), hl]
        simp
      · rw [List.getElem?_set_ne (Ne.symm e)] at hy
        refine ⟨j, by rw [List.getElem?_append_left hj]; exact hy, ?_, by rw [if_neg e, if_pos hj]⟩
        rw [List.getElem?_append_left hj3, List.getElem?_set_ne (Ne.symm e), List.getElem?_append_left (by omega)]
    · have hj2 : ¬ j < (ρ.set i x).length := by simpa using hj
      rw [List.getElem?_append_right (by omega)] at hy
      have ei : j ≠ i := by omega
      refine ⟨j + 1, ?_, ?_, by rw [if_neg ei, if_neg hj]⟩
      · rw [List.getElem?_append_right (by omega)]
        have e : j + 1 - ρ.length = (j - ρ.length) + 1 := by omega
        rw [e, List.getElem?_cons_succ]
        simpa using hy
      · rw [List.getElem?_append_right (by simp; omega), List.getElem?_append_right (by omega)]
        have e : j + 1 - σ.length = (j - σ.length) + 1 := by omega
        rw [e, List.getElem?_cons_succ]
        simp
  refine ⟨by simp only [List.length_append, List.length_cons, List.length_set] at hlen ⊢; omega, R.fh, R.bh, R.f0, R.fr, R.pt, R.tb, fun j => α (if j = i then ρ.length else if j < ρ.length then j else j + 1), fun j y hy => ?_, fun j m y z hy hz oy oz ne => ?_⟩
  · obtain ⟨m, hm, es, em⟩ := src j y hy
    have q := h1 m y hm
    cases y with
    | un => trivial
    | fz t => obtain ⟨v', a, b⟩ := q; exact ⟨v', es.trans a, b⟩
    | raw n => obtain ⟨v', a, b⟩ := q; exact ⟨v', es.trans a, b⟩
    | ow o => unfold Slot; simp only [← em]; obtain ⟨a, b⟩ := q; exact ⟨es.trans a, b⟩
    | pa o => unfold Slot; simp only [← em]; obtain ⟨a, b⟩ := q; exact ⟨es.trans a, b⟩
  · obtain ⟨a, ha, _, ea⟩ := src j y hy
    obtain ⟨b, hb, _, eb⟩ := src m z hz
    show α (if j = i then ρ.length else if j < ρ.length then j else j + 1) ≠ α (if m = i then ρ.length else if m < ρ.length then m else m + 1)
    rw [← ea, ← eb]
    refine h2 a b y z ha hb oy oz fun e => ne ?_
    rw [ea, eb] at e
    split at e <;> split at e <;> (try split at e) <;> (try split at e) <;> omega
end
end FL

/-! FL2: readings upon trees; expressions. -/
namespace FL
open PySem PySem.Spec L2

structure Bk where
  B : Hp
  F0 : Hp
  pm : Option Addr
  rw : List V
abbrev RSk (X : Cx) (k : Bk) (F : Hp) (ρ : Env) (σ : L2.St) (H : Hp) : Prop := RS X.K X.mg k.B k.F0 k.pm k.rw F ρ σ H
/-- what is wanted where a tree t has been reckoned -/
abbrev Go (X : Cx) (k : Bk) (F : Hp) (ρ : Env) (σ : L2.St) (t : T) (Q : VK) : Prop := ∀ v F' H', RSk X k F' ρ σ H' → Same F F' → Rep X.K X.mg F' t v → Q v H'
/-- an exception that is let out -/
def Lv (K : PySem.W.Frag) (mg : Str → Option Value) (k : Bk) (H' : Hp) : Prop := Same k.B H' ∧ Same k.F0 H' ∧ (∀ a, k.pm = some a → ∃ o, H' a = some o) ∧ TabX K mg H'
def XOk (K : PySem.W.Frag) (mg : Str → Option Value) (k : Bk) (E : XK) (e : Ex) : Prop := match e with
  | .mk c none => ∀ C H', mg c = some (.ref C) → Lv K mg k H' → E (.ref C) none H'
  | .mk c (some (f, t)) => ∀ C d v F' H', mg c = some (.ref C) → Lv K mg k H' → Same F' H' → Rep K mg F' t v → H' d = some (.xd [(f, v)]) → E (.ref C) (some d) H'
def tE (X : Cx) (E : XK) (f : M T) : TE := fun σ H Q => ∃ k F ρ, RSk X k F ρ σ H ∧ Den (f ρ) (fun t ρ' => Go X k F ρ' σ t Q) (XOk X.K X.mg k E)
def tT (X : Cx) (E : XK) (f : M Bool) : TT := fun σ H Q => ∃ k F ρ, RSk X k F ρ σ H ∧ Den (f ρ) (fun b ρ' => ∀ F' H', RSk X k F' ρ' σ H' → Same F F' → Q b H') (XOk X.K X.mg k E)
def tA (X : Cx) (E : XK) (f : M (List T)) : TA := fun σ H Q => ∃ k F ρ, RSk X k F ρ σ H ∧ Den (f ρ) (fun ts ρ' => ∀ vs F' H', RSk X k F' ρ' σ H' → Same F F' → Reps X.K X.mg F' ts vs → Q vs H') (XOk X.K X.mg k E)
/-- a new object, not yet anyone's: the state with one slot more -/
def tO (X : Cx) (E : XK) (f : M O) : TE := fun σ H Q => ∃ k F ρ, RSk X k F ρ σ H ∧ Den (f ρ) (fun o ρ' => ∀ v F' H', RSk X k F' (ρ' ++ [SV.ow o]) (σ ++ [some v]) H' → Same F F' → ρ'.length = σ.length → Q v H') (XOk X.K X.mg k E)
abbrev FE (X : Cx) (E : XK) (e : Expr) (f : M T) : Prop := PE X e (tE X E f)
abbrev FT (X : Cx) (E : XK) (e : Expr) (f : M Bool) : Prop := PT X e (tT X E f)
abbrev FA (X : Cx) (E : XK) (es : List Expr) (f : M (List T)) : Prop := PA X es (tA X E f)
abbrev FO (X : Cx) (E : XK) (e : Expr) (f : M O) : Prop := PE X e (tO X E f)

theorem pe_imp {X : Cx} {e : Expr} {t t' : TE} (h : PE X e t) (i : ∀ σ H Q, t' σ H Q → t σ H Q) : PE X e t' := ⟨fun pins s σ H Q I q => h.run pins s σ H Q I (i _ _ _ q)⟩
theorem pt_imp {X : Cx} {e : Expr} {t t' : TT} (h : PT X e t) (i : ∀ σ H Q, t' σ H Q → t σ H Q) : PT X e t' := ⟨fun pins s σ H Q I q => h.run pins s σ H Q I (i _ _ _ q)⟩
theorem pw_imp {X : Cx} {e : Expr} {t t' : TT} (h : PW X e t) (i : ∀ σ H Q, t' σ H Q → t σ H Q) : PW X e t' := ⟨fun wh pins s σ H Q I q => h.run wh pins s σ H Q I (i _ _ _ q)⟩
theorem pa_imp {X : Cx} {e : List Expr} {t t' : TA} (h : PA X e t) (i : ∀ σ H Q, t' σ H Q → t σ H Q) : PA X e t' := ⟨fun pos pins s σ H Q I q => h.run pos pins s σ H Q I (i _ _ _ q)⟩
theorem ps_imp {X : Cx} {e : Stmt} {t t' : TS} (h : PS X e t) (i : ∀ D σ H, t' D σ H → t D σ H) : PS X e t' := ⟨fun pins s σ H D I q => h.run pins s σ H D I (i _ _ _ q)⟩

/-- of an option: none is bad -/
def liftO {α : Type} (o : Option α) (ρ : Env) : Res α := match o with
  | some a => .ok a ρ
  | none => .bad
theorem Den.lift {α : Type} {o : Option α} {ρ : Env} {p : α → Env → Prop} {x : Ex → Prop} (h : Den (liftO o ρ) p x) : ∃ a, o = some a ∧ p a ρ := by
  cases o with
  | none => exact h.elim
  | some a => exact ⟨a, rfl, h⟩

section
variable {X : Cx} {E : XK} {a b c e : Expr} {fa fb fc f : M T} {pos : Pos}

/-! ### names and constants -/
/-- a constant tree -/
def rdC (t : T) : M T := fun ρ => .ok t ρ
theorem fe_int {i j pos} : FE X E (.Constant (.int i) j pos) (rdC (.int i)) := pe_imp pe_int fun σ H Q ⟨k, F, ρ, R, h⟩ => h _ F H R (Same.refl _) rfl
theorem fe_bl {b j pos} : FE X E (.Constant (.bool b) j pos) (rdC (.bl b)) := pe_imp pe_bl fun σ H Q ⟨k, F, ρ, R, h⟩ => h _ F H R (Same.refl _) rfl
theorem fe_non {j pos} : FE X E (.Constant .none j pos) (rdC .non) := pe_imp pe_non fun σ H Q ⟨k, F, ρ, R, h⟩ => h _ F H R (Same.refl _) rfl
theorem fe_str {x j pos} : FE X E (.Constant (.str x) j pos) (rdC (.str x)) := pe_imp pe_str fun σ H Q ⟨k, F, ρ, R, h⟩ => h _ F H R (Same.refl _) rfl
/-- a module's constant, an int or a text -/
theorem fe_gint {x : Str} {i : Int} {t : Tok} (hg : Gl X x) (hm : X.mg x = some (.int i t)) (hd : (x == ("__debug__" : Str)) = false := by decide) : FE X E (.Name x pos) (rdC (.int i)) :=
  pe_imp (pe_glob (v := .int i) hg hm ⟨_, rfl⟩ hd) fun σ H Q ⟨k, F, ρ, R, h⟩ => h _ F H R (Same.refl _) rfl
/-! ### operators -/
def op2 (o : T → T → Option T) (fa fb : M T) : M T := fun ρ => (fa ρ).bind fun x ρ => (fb ρ).bind fun y ρ => liftO (o x y) ρ
def op1 (o : T → Option T) (fa : M T) : M T := fun ρ => (fa ρ).bind fun x ρ => liftO (o x) ρ
/-- a rule of values serves an operator of trees -/
def OpT (X : Cx) (r : R2) (o : T → T → Option T) : Prop := ∀ (k : Bk) (F : Hp) (ρ : Env) (σ : L2.St) (H : Hp) (Q : VK) (x y t : T) (v u : V), RSk X k F ρ σ H → Rep X.K X.mg F x v → Rep X.K X.mg F y u → o x y = some t → Go X k F ρ σ t Q → r v u H Q
theorem tOp_of {r : R2} {o : T → T → Option T} (hr : OpT X r o) {σ : L2.St} {H : Hp} {Q : VK} (h : tE X E (op2 o fa fb) σ H Q) : tOp r (tE X E fa) (tE X E fb) σ H Q := by
  obtain ⟨k, F, ρ, R, h⟩ := h
  refine ⟨k, F, ρ, R, (Den.bind h).imp fun x ρ1 h1 v F1 H1 R1 s1 r1 => ?_⟩
  refine ⟨k, F1, ρ1, R1, (Den.bind h1).imp fun y ρ2 h2 u F2 H2 R2 s2 r2 => ?_⟩
  obtain ⟨t, e, q⟩ := Den.lift h2
  exact hr k F2 ρ2 σ H2 Q x y t v u R2 (r1.mono s2) r2 e fun v' F' H' R' s' r' => q v' F' H' R' (s1.trans (s2.trans s')) r'
theorem fe_bin {op : Operator} {r : R2} {o : T → T → Option T} (ho : OpR X (binaryOp op) r) (hr : OpT X r o) (ha : FE X E a fa) (hb : FE X E b fb) : FE X E (.BinOp a op b pos) (op2 o fa fb) :=
  pe_imp (pe_op ho ha hb) fun σ H Q h => tOp_of hr h
theorem fe_cmp {op : CmpOp} {r : R2} {o : T → T → Option T} (ho : OpR X (compareOp op) r) (hr : OpT X r o) (ha : FE X E a fa) (hb : FE X E b fb) (hm : behindInMarks op b = false := by rfl) : FE X E (.Compare a [op] [b] pos) (op2 o fa fb) :=
  pe_imp (pe_cmpR ho ha hb hm) fun σ H Q h => tOp_of hr h
def toB (t : T) : Option Bool := match t with
  | .bl b => some b
  | _ => none
def tst (f : M T) : M Bool := fun ρ => (f ρ).bind fun t ρ => liftO (toB t) ρ
theorem toB_some {t : T} {b : Bool} (h : toB t = some b) : t = .bl b := by
  cases t <;> simp [toB] at h
  subst h; rfl
theorem ft_cmp {op : CmpOp} {r : R2} {o : T → T → Option T} (ho : OpR X (compareOp op) r) (hr : OpT X r o) (ha : FE X E a fa) (hb : FE X E b fb) (hm : behindInMarks op b = false := by rfl) : FT X E (.Compare a [op] [b] pos) (tst (op2 o fa fb)) := by
  refine pt_imp (pt_cmpR ho ha hb hm) fun σ H Q h => ?_
  obtain ⟨k, F, ρ, R, h⟩ := h
  refine tOp_of (o := o) (E := E) hr ⟨k, F, ρ, R, (Den.bind h).imp fun t ρ1 h1 v F1 H1 R1 s1 r1 => ?_⟩
  obtain ⟨b, e, q⟩ := Den.lift h1
  have e1 := toB_some e
  subst e1
  exact ⟨b, r1, q F1 H1 R1 s1⟩
end
end FL

/-! FL3: operators upon trees. -/
namespace FL
open PySem PySem.Spec L2
theorem szL : (sizeLine : Nat) = 16777216 := sizeLine_eq
/-! ### data -/
mutual
def toD : T → Option PyData
  | .non => some .none
  | .bl b => some (.bool b)
  | .int i => some (.int i)
  | .str x => some (.str x)
  | .lst ts => (toDs ts).map PyData.list
  | .sl ts => (toDs ts).map PyData.list
  | .tup ts => (toDs ts).map PyData.tuple
  | .fn _ => none
  | .dk _ _ => none
  | .dt _ _ => none
def toDs : List T → Option (List PyData)
  | [] => some []
  | t :: ts => match toD t, toDs ts with
    | some d, some ds => some (d :: ds)
    | _, _ => none
end
section
variable {K : PySem.W.Frag} {mg : Str → Option Value} {F H : Hp}
mutual
theorem dp_of (s : Same F H) : ∀ (t : T) (v : V) (d : PyData), Rep K mg F t v → toD t = some d → Dp K H v d
  | .non, v, d, r, e => by
    have e1 : v = .non := r
    simp only [toD, Option.some.injEq] at e
    subst e1 e; exact .non
  | .bl b, v, d, r, e => by
    have e1 : v = .bl b := r
    simp only [toD, Option.some.injEq] at e
    subst e1 e; exact .bl b
  | .int b, v, d, r, e => by
    have e1 : v = .int b := r
    simp only [toD, Option.some.injEq] at e
    subst e1 e; exact .int b
  | .str b, v, d, r, e => by
    have e1 : v = .str b := r
    simp only [toD, Option.some.injEq] at e
    subst e1 e; exact .str b
  | .lst ts, v, d, r, e => by
    obtain ⟨a, vs, e1, h, rs⟩ := r
    simp only [toD, Option.map_eq_some_iff] at e
    obtain ⟨ds, e2, e3⟩ := e
    subst e1 e3
    exact .lst (SqL.of (s _ _ h)) (dps_of s ts vs ds rs e2)
  | .sl ts, v, d, r, e => by
    obtain ⟨a, vs, e1, h, rs⟩ := r
    simp only [toD, Option.map_eq_some_iff] at e
    obtain ⟨ds, e2, e3⟩ := e
    subst e1 e3
    exact .lst (same_SqL s h) (dps_of s ts vs ds rs e2)
  | .tup ts, v, d, r, e => by
    obtain ⟨a, vs, e1, h, rs⟩ := r
    simp only [toD, Option.map_eq_some_iff] at e
    obtain ⟨ds, e2, e3⟩ := e
    subst e1 e3
    exact .tup (same_SqT s h) (dps_of s ts vs ds rs e2)
  | .fn _, _, _, _, e => by cases e
  | .dk _ _, _, _, _, e => by cases e
  | .dt _ _, _, _, _, e => by cases e
theorem dps_of (s : Same F H) : ∀ (ts : List T) (vs : List V) (ds : List PyData), Reps K mg F ts vs → toDs ts = some ds → DpAll K H vs ds
  | [], vs, ds, r, e => by
    have e1 : vs = [] := r
    simp only [toDs, Option.some.injEq] at e
    subst e1 e; exact .nil
  | t :: ts, vs, ds, r, e => by
    obtain ⟨v, w, e1, r1, r2⟩ := r
    subst e1
    unfold toDs at e
    split at e
    · rename_i d ds' h1 h2
      simp only [Option.some.injEq] at e
      subst e
      exact .cons (dp_of s t v d r1 h1) (dps_of s ts w ds' r2 h2)
    · cases e
end
end
/-- flat values -/
def flatT : T → Option V
  | .non => some .non
  | .bl b => some (.bl b)
  | .int i => some (.int i)
  | .str x => some (.str x)
  | _ => none
theorem flat_rep {K : PySem.W.Frag} {mg : Str → Option Value} {F : Hp} {t : T} {v w : V} (r : Rep K mg F t v) (e : flatT t = some w) : v = w := by
  cases t <;> simp only [flatT, Option.some.injEq, reduceCtorEq] at e <;> subst e <;> exact r
/-- == -/
def eqT (x y : T) : Option Bool := match flatT x, flatT y with
  | some v, some u => if scal v u then some (decide (v = u)) else match toD x, toD y with
    | some d, some e => if SeqAt.shaped d && SeqAt.shaped e then some (PyData.eqv d e) else none
    | _, _ => none
  | _, _ => match toD x, toD y with
    | some d, some e => if SeqAt.shaped d && SeqAt.shaped e then some (PyData.eqv d e) else none
    | _, _ => none
def eqO (x y : T) : Option T := (eqT x y).map T.bl
def neO (x y : T) : Option T := (eqT x y).map fun b => T.bl (!b)
section
variable {X : Cx}
theorem units64 {k : Nat} {A : Around} (hr : Room k A) : A.units + 64 < cLine := hr.units
theorem eqT_cases {k : Bk} {F : Hp} {ρ : Env} {σ : L2.St} {H : Hp} {x y : T} {v u : V} {b : Bool} (R : RSk X k F ρ σ H) (rx : Rep X.K X.mg F x v) (ry : Rep X.K X.mg F y u) (e : eqT x y = some b) :
    (scal v u = true ∧ decide (v = u) = b) ∨ ∃ d e, Dp X.K H v d ∧ Dp X.K H u e ∧ SeqAt.shaped d = true ∧ SeqAt.shaped e = true ∧ PyData.eqv d e = b := by
  have dat : ∀ {b}, (match toD x, toD y with
      | some d, some e => if SeqAt.shaped d && SeqAt.shaped e then some (PyData.eqv d e) else none
      | _, _ => none) = some b → ∃ d e, Dp X.K H v d ∧ Dp X.K H u e ∧ SeqAt.shaped d = true ∧ SeqAt.shaped e = true ∧ PyData.eqv d e = b := fun {b} q => by
    split at q
    · rename_i d e hd he
      split at q
      · rename_i hs
        rw [Bool.and_eq_true] at hs
        exact ⟨d, e, dp_of R.fh x v d rx hd, dp_of R.fh y u e ry he, hs.1, hs.2, Option.some.inj q⟩
      · cases q
    · cases q
  unfold eqT at e
  split at e
  · rename_i v' u' h1 h2
    have e1 := flat_rep rx h1
    have e2 := flat_rep ry h2
    subst e1 e2
    split at e
    · rename_i hs
      exact .inl ⟨hs, Option.some.inj e⟩
    · exact .inr (dat e)
  · exact .inr (dat e)
def rEqT (X : Cx) : R2 := fun x y H Q => rEq x y H Q ∨ rEqD X.K x y H Q
def rNeT (X : Cx) : R2 := fun x y H Q => rNe x y H Q ∨ rNeD X.K x y H Q
theorem op_eqT (hu : X.A.units + 64 < cLine) : OpR X (compareOp .Eq) (rEqT X) := op_eq.or (op_eqD hu)
theorem op_neT (hu : X.A.units + 64 < cLine) : OpR X (compareOp .NotEq) (rNeT X) := op_ne.or (op_neD hu)
theorem ot_eq : OpT X (rEqT X) eqO := fun k F ρ σ H Q x y t v u R rx ry e g => by
  unfold eqO at e
  rw [Option.map_eq_some_iff] at e
  obtain ⟨b, e, rfl⟩ := e
  rcases eqT_cases R rx ry e with ⟨h1, h2⟩ | ⟨d, e', h1, h2, h3, h4, h5⟩
  · exact .inl ⟨h1, by rw [h2]; exact g (.bl b) F H R (Same.refl _) rfl⟩
  · exact .inr ⟨d, e', h1, h2, h3, h4, by rw [h5]; exact g (.bl b) F H R (Same.refl _) rfl⟩
theorem ot_ne : OpT X (rNeT X) neO := fun k F ρ σ H Q x y t v u R rx ry e g => by
  unfold neO at e
  rw [Option.map_eq_some_iff] at e
  obtain ⟨b, e, rfl⟩ := e
  rcases eqT_cases R rx ry e with ⟨h1, h2⟩ | ⟨d, e', h1, h2, h3, h4, h5⟩
  · exact .inl ⟨h1, by rw [h2]; exact g (.bl (!b)) F H R (Same.refl _) rfl⟩
  · exact .inr ⟨d, e', h1, h2, h3, h4, by rw [h5]; exact g (.bl (!b)) F H R (Same.refl _) rfl⟩

/-! ### ints -/
def intO (f : Int → Int → T) (x y : T) : Option T := match x, y with
  | .int i, .int j => some (f i j)
  | _, _ => none
theorem intO_some {f : Int → Int → T} {x y t : T} (h : intO f x y = some t) : ∃ i j, x = .int i ∧ y = .int j ∧ t = f i j := by
  unfold intO at h
  split at h
  · exact ⟨_, _, rfl, rfl, (Option.some.inj h).symm⟩
  · cases h
theorem ot_int {g : Int → Int → V} {f : Int → Int → T} (hf : ∀ i j K mg F, Rep K mg F (f i j) (g i j)) : OpT X (rI0 g) (intO f) := fun k F ρ σ H Q x y t v u R rx ry e q => by
  obtain ⟨i, j, rfl, rfl, rfl⟩ := intO_some e
  exact ⟨i, j, rx, ry, q _ F H R (Same.refl _) (hf i j _ _ _)⟩
abbrev ltO := intO fun i j => .bl (decide (i < j))
abbrev leO := intO fun i j => .bl (decide (i ≤ j))
abbrev gtO := intO fun i j => .bl (decide (j < i))
abbrev geO := intO fun i j => .bl (decide (j ≤ i))
theorem ot_lt : OpT X (rI0 fun i j => .bl (decide (i < j))) ltO := ot_int fun _ _ _ _ _ => rfl
theorem ot_le : OpT X (rI0 fun i j => .bl (decide (i ≤ j))) leO := ot_int fun _ _ _ _ _ => rfl
theorem ot_gt : OpT X (rI0 fun i j => .bl (decide (j < i))) gtO := ot_int fun _ _ _ _ _ => rfl
theorem ot_ge : OpT X (rI0 fun i j => .bl (decide (j ≤ i))) geO := ot_int fun _ _ _ _ _ => rfl
/-- with a condition -/
def intC (c : Int → Int → Bool) (f : Int → Int → Int) (x y : T) : Option T := match x, y with
  | .int i, .int j => if c i j then some (.int (f i j)) else none
  | _, _ => none
theorem intC_some {c : Int → Int → Bool} {f : Int → Int → Int} {x y t : T} (h : intC c f x y = some t) : ∃ i j, x = .int i ∧ y = .int j ∧ c i j = true ∧ t = .int (f i j) := by
  unfold intC at h
  split at h
  · split at h
    · rename_i hc
      exact ⟨_, _, rfl, rfl, hc, (Option.some.inj h).symm⟩
    · cases h
  · cases h
theorem ot_intC {C : Int → Int → Prop} {c : Int → Int → Bool} {f g : Int → Int → Int} (hc : ∀ i j, c i j = true → C i j ∧ f i j = g i j) : OpT X (rI C fun i j => .int (g i j)) (intC c f) := fun k F ρ σ H Q x y t v u R rx ry e q => by
  obtain ⟨i, j, rfl, rfl, h, rfl⟩ := intC_some e
  obtain ⟨h1, h2⟩ := hc i j h
  exact ⟨i, j, rx, ry, h1, q _ F H R (Same.refl _) (by rw [h2]; rfl)⟩
def mulC (i j : Int) : Bool := decide (i.natAbs.log2 + j.natAbs.log2 < 1000000)
abbrev mulI := intC mulC fun i j => i * j
theorem ot_mulI : OpT X (rI CMulW fun i j => .int (i * j)) mulI := ot_intC fun i j h => ⟨(show i.natAbs.log2 + j.natAbs.log2 < 1000000 from of_decide_eq_true h), rfl⟩
abbrev modO := intC (fun _ j => decide (j ≠ 0)) fun i j => i.fmod j
theorem ot_mod : OpT X (rI (fun _ j => j ≠ 0) fun i j => .int (i.fmod j)) modO := ot_intC fun i j h => ⟨of_decide_eq_true h, rfl⟩
def powC (i j : Int) : Bool := decide (0 ≤ j) && decide (j ≤ 1000000) && decide (i.natAbs < 2 ^ 64)
abbrev powO := intC powC fun i j => i ^ j.toNat
theorem ot_pow : OpT X (rI CPow fun i j => .int (i ^ j.toNat)) powO := ot_intC fun i j h => by
  unfold powC at h
  rw [Bool.and_eq_true, Bool.and_eq_true] at h
  exact ⟨⟨of_decide_eq_true h.1.1, of_decide_eq_true h.1.2, of_decide_eq_true h.2⟩, rfl⟩
/-! ### + -/
def addO (x y : T) : Option T := match x, y with
  | .int i, .int j => some (.int (i + j))
  | .str a, .str b => if a.length + b.length ≤ 16777216 then some (.str (a ++ b)) else none
  | .lst a, .lst b => if a.length + b.length ≤ 16777216 then some (.lst (a ++ b)) else none
  | .tup a, .tup b => if a.length + b.length ≤ 16777216 then some (.tup (a ++ b)) else none
  | _, _ => none
def rStrAdd : R2 := fun x y H Q => ∃ i j, x = .str i ∧ y = .str j ∧ i.length + j.length ≤ sizeLine ∧ Q (.str (i ++ j)) H
def rAddT (X : Cx) : R2 := fun x y H Q => (rI0 (fun i j => .int (i + j)) x y H Q) ∨ (rStrAdd x y H Q) ∨ rCat x y H Q ∨ rCatA X.K x y H Q
theorem op_addT : OpR X (binaryOp .Add) (rAddT X) := op_add.or (OpR.or op_add_str (op_cat.or op_catA))
theorem ot_add : OpT X (rAddT X) addO := fun k F ρ σ H Q x y t v u R rx ry e q => by
  unfold addO at e
  split at e
  · rename_i i j
    cases e
    exact .inl ⟨i, j, rx, ry, q _ F H R (Same.refl _) rfl⟩
  · rename_i a b
    split at e
    · rename_i hz
      cases e
      exact .inr (.inl ⟨a, b, rx, ry, by rw [szL]; exact hz, q _ F H R (Same.refl _) rfl⟩)
    · cases e
  · rename_i a b
    split at e
    · rename_i hz
      cases e
      obtain ⟨l, xs, rfl, h1, r1⟩ := rx
      obtain ⟨m, ys, rfl, h2, r2⟩ := ry
      rw [r1.length, r2.length] at hz
      refine .inr (.inr (.inl ⟨l, m, xs, ys, rfl, rfl, R.fh _ _ h1, R.fh _ _ h2, by rw [szL]; exact hz, fun p np => ?_⟩))
      have sF : Same F (upd F p (.lst (xs ++ ys))) := same_upd (R.fnone np)
      exact q _ _ _ (R.newF np) sF ⟨p, xs ++ ys, rfl, upd_same, (r1.append r2).mono sF⟩
    · cases e
  · rename_i a b
    split at e
    · rename_i hz
      cases e
      obtain ⟨l, xs, rfl, h1, r1⟩ := rx
      obtain ⟨m, ys, rfl, h2, r2⟩ := ry
      have la := r1.length
      have lb := r2.length
      rw [la, lb] at hz
      refine .inr (.inr (.inr ⟨l, m, xs, ys, rfl, rfl, same_SqT R.fh h1, same_SqT R.fh h2, by rw [szL]; exact hz, fun z => ?_, fun z1 z2 => ?_, fun z1 z2 p np => ?_⟩))
      · subst z
        have ea : a = [] := List.eq_nil_of_length_eq_zero (by simpa using la)
        subst ea
        exact q _ F H R (Same.refl _) ⟨m, ys, rfl, h2, r2⟩
      · subst z2
        have eb : b = [] := List.eq_nil_of_length_eq_zero (by simpa using lb)
        subst eb
        exact q _ F H R (Same.refl _) ⟨l, xs, rfl, h1, by rw [List.append_nil]; exact r1⟩
      · have sF : Same F (upd F p (.tup (xs ++ ys))) := same_upd (R.fnone np)
        exact q _ _ _ (R.newF np) sF ⟨p, xs ++ ys, rfl, upd_same, (r1.append r2).mono sF⟩
    · cases e
  · cases e
/-! ### list * int -/
def mulO (x y : T) : Option T := match x, y with
  | .lst a, .int k => if k < 16777216 && a.length * k.toNat ≤ 16777216 && decide (-16777216 ≤ k) then some (.lst (List.replicate k.toNat a).flatten) else none
  | x, y => mulI x y
def rMulT (X : Cx) : R2 := fun x y H Q => rI CMulW (fun i j => .int (i * j)) x y H Q ∨ rRep x y H Q
theorem op_mulT : OpR X (binaryOp .Mult) (rMulT X) := op_mulW.or op_rep
theorem Reps.rep {K : PySem.W.Frag} {mg : Str → Option Value} {F : Hp} {ts : List T} {vs : List V} (r : Reps K mg F ts vs) : ∀ n : Nat, Reps K mg F (List.replicate n ts).flatten (List.replicate n vs).flatten
  | 0 => by simp [Reps]
  | n + 1 => by
    rw [List.replicate_succ, List.replicate_succ, List.flatten_cons, List.flatten_cons]
    exact r.append (r.rep n)
theorem ot_mul : OpT X (rMulT X) mulO := fun k F ρ σ H Q x y t v u R rx ry e q => by
  unfold mulO at e
  split at e
  · rename_i a k
    split at e
    · rename_i hc
      cases e
      rw [Bool.and_eq_true, Bool.and_eq_true] at hc
      have h1 := of_decide_eq_true hc.1.1
      have h2 := of_decide_eq_true hc.1.2
      have h3 := of_decide_eq_true hc.2
      obtain ⟨l, xs, rfl, hl, r1⟩ := rx
      rw [r1.length] at h2
      refine .inr ⟨l, k, xs, rfl, ry, R.fh _ _ hl, by omega, by omega, by rw [szL]; exact h2, fun p np => ?_⟩
      have sF : Same F (upd F p (.lst (List.replicate k.toNat xs).flatten)) := same_upd (R.fnone np)
      exact q _ _ _ (R.newF np) sF ⟨p, _, rfl, upd_same, (r1.rep _).mono sF⟩
    · cases e
  · exact .inl (ot_mulI k F ρ σ H Q x y t v u R rx ry e q)
/-! ### is -/
def isNO (neg : Bool) (x y : T) : Option T := match y with
  | .non => match x with
    | .non => some (.bl (!neg))
    | .fn _ => none
    | _ => some (.bl neg)
  | .bl b => match x with
    | .bl a => some (.bl (if neg then !decide (a = b) else decide (a = b)))
    | _ => none
  | _ => none
theorem rep_non {K : PySem.W.Frag} {mg : Str → Option Value} {F : Hp} {t : T} {v : V} (r : Rep K mg F t v) (h : t ≠ .non) : v ≠ .non := by
  intro e
  subst e
  cases t with
  | non => exact h rfl
  | bl _ => cases r
  | int _ => cases r
  | str _ => cases r
  | lst _ => obtain ⟨_, _, e, _⟩ := r; cases e
  | tup _ => obtain ⟨_, _, e, _⟩ := r; cases e
  | sl _ => obtain ⟨_, _, e, _⟩ := r; cases e
  | fn _ => obtain ⟨_, e, _⟩ := r; cases e
  | dk _ _ => obtain ⟨_, _, e, _⟩ := r; cases e
  | dt _ _ => obtain ⟨_, _, e, _⟩ := r; cases e
def rIsT : R2 := fun x y H Q => (y = .non ∧ Q (.bl (decide (x = .non))) H) ∨ rIsB x y H Q
theorem op_isT : OpR X (compareOp .Is) rIsT := op_isN.or op_isBl
theorem ot_is : OpT X rIsT (isNO false) := fun k F ρ σ H Q x y t v u R rx ry e q => by
  have go : ∀ b, t = .bl b → Q (.bl b) H := fun b z => q _ F H R (Same.refl _) (by subst z; rfl)
  cases y <;> simp only [isNO, reduceCtorEq] at e
  · have eu : u = .non := ry
    refine .inl ⟨eu, ?_⟩
    cases x <;> simp only [Option.some.injEq, reduceCtorEq] at e
    · have ev : v = .non := rx
      rw [decide_eq_true ev]
      exact go _ e.symm
    all_goals
      rw [decide_eq_false (rep_non rx (fun z => nomatch z))]
      exact go _ e.symm
  · cases x <;> simp only [Option.some.injEq, reduceCtorEq] at e
    exact .inr ⟨_, _, rx, ry, go _ e.symm⟩
end
end FL

/-! FL4: tests, displays, subscripts, calls of built-ins. -/
namespace FL
open PySem PySem.Spec L2
section
variable {X : Cx} {E : XK} {a b c e : Expr} {fa fb fc f : M T} {pos : Pos} {es rest : List Expr} {g ga gb : M Bool} {fs : M (List T)}

/-! ### truth -/
def tru (t : T) : Option Bool := match t with
  | .non => some false
  | .bl b => some b
  | .int i => some (i != 0)
  | .str x => if x.length ≤ 16777216 then some ((x.length : Int) != 0) else none
  | .lst ts => some (!ts.isEmpty)
  | .sl ts => some (!ts.isEmpty)
  | .tup ts => some (!ts.isEmpty)
  | _ => none
def truth (f : M T) : M Bool := fun ρ => (f ρ).bind fun t ρ => liftO (tru t) ρ
theorem Reps.isEmpty {K : PySem.W.Frag} {mg : Str → Option Value} {F : Hp} : ∀ {ts : List T} {vs : List V}, Reps K mg F ts vs → (!ts.isEmpty) = !vs.isEmpty
  | [], _, h => by
    have e : _ = _ := h
    subst e; rfl
  | t :: ts, _, h => by
    obtain ⟨v, r, rfl, _, _⟩ := h
    rfl
theorem tru_rep {K : PySem.W.Frag} {mg : Str → Option Value} {F H : Hp} {t : T} {v : V} {k : Bool} (s : Same F H) (r : Rep K mg F t v) (e : tru t = some k) : TruV K v H k := by
  cases t <;> simp only [tru, Option.some.injEq, reduceCtorEq] at e
  · have ev : v = .non := r
    subst ev; exact e.symm
  · have ev : v = .bl _ := r
    subst ev; exact e.symm
  · have ev : v = .int _ := r
    subst ev; exact e.symm
  · have ev : v = .str _ := r
    subst ev
    split at e
    · rename_i hz
      exact ⟨by rw [szL]; exact hz, (Option.some.inj e).symm⟩
    · cases e
  · obtain ⟨p, vs, rfl, h1, h2⟩ := r
    exact .inl ⟨vs, SqL.of (s _ _ h1), by rw [← h2.isEmpty]; exact e.symm⟩
  · obtain ⟨p, vs, rfl, h1, h2⟩ := r
    exact .inr (.inl ⟨vs, same_SqT s h1, by rw [← h2.isEmpty]; exact e.symm⟩)
  · obtain ⟨p, vs, rfl, h1, h2⟩ := r
    exact .inl ⟨vs, same_SqL s h1, by rw [← h2.isEmpty]; exact e.symm⟩
/-- an expression that is no comparison, not, and, or: by its truth -/
theorem ft_val (ha : FE X E a f) (he : ∀ whole, isTrue a X.env whole = (do let v ← whole; standAt a.pos; holding [v] (truthy v)) := by intro _; rfl) : FT X E a (truth f) := by
  refine pt_imp (pt_truth ha he) fun σ H Q h => ?_
  obtain ⟨k, F, ρ, R, h⟩ := h
  refine ⟨k, F, ρ, R, (Den.bind h).imp fun t ρ1 h1 v F1 H1 R1 s1 r1 => ?_⟩
  obtain ⟨b, e, q⟩ := Den.lift h1
  exact ⟨b, tru_rep R1.fh r1 e, q F1 H1 R1 s1⟩

/-! ### and, or, not -/
def andV (fa fb : M T) : M T := fun ρ => (fa ρ).bind fun t ρ => match toB t with
  | some true => fb ρ
  | some false => .ok (.bl false) ρ
  | none => .bad
def notV (fa : M T) : M T := fun ρ => (fa ρ).bind fun t ρ => match toB t with
  | some b => .ok (.bl (!b)) ρ
  | none => .bad
theorem fe_one {op} (h : FE X E a f) : FE X E (.BoolOp op [a] pos) f := pe_one h
theorem fe_and (ha : FE X E a fa) (hb : FE X E (.BoolOp .And (b :: rest) pos) fb) : FE X E (.BoolOp .And (a :: b :: rest) pos) (andV fa fb) := by
  refine pe_imp (pe_and ha hb) fun σ H Q h => ?_
  obtain ⟨k, F, ρ, R, h⟩ := h
  refine ⟨k, F, ρ, R, (Den.bind h).imp fun t ρ1 h1 v F1 H1 R1 s1 r1 => ?_⟩
  split at h1
  · rename_i e
    have e1 := toB_some e
    subst e1
    exact ⟨true, r1, k, F1, ρ1, R1, h1.imp fun t ρ' q v F' H' R' s' r' => q v F' H' R' (s1.trans s') r'⟩
  · rename_i e
    have e1 := toB_some e
    subst e1
    exact ⟨false, r1, h1 _ F1 H1 R1 s1 rfl⟩
  · exact h1.elim
theorem fe_not (ha : FE X E a fa) : FE X E (.UnaryOp .Not a pos) (notV fa) := by
  refine pe_imp (pe_not ha) fun σ H Q h => ?_
  obtain ⟨k, F, ρ, R, h⟩ := h
  refine ⟨k, F, ρ, R, (Den.bind h).imp fun t ρ1 h1 v F1 H1 R1 s1 r1 => ?_⟩
  split at h1
  · rename_i b e
    have e1 := toB_some e
    subst e1
    exact ⟨b, r1, h1 _ F1 H1 R1 s1 rfl⟩
  · exact h1.elim
abbrev FW (X : Cx) (E : XK) (e : Expr) (f : M Bool) : Prop := PW X e (tT X E f)
def andT (ga gb : M Bool) : M Bool := fun ρ => (ga ρ).bind fun b ρ => if b = true then gb ρ else .ok false ρ
def orT (ga gb : M Bool) : M Bool := fun ρ => (ga ρ).bind fun b ρ => if b = true then .ok true ρ else gb ρ
def notT (ga : M Bool) : M Bool := fun ρ => (ga ρ).bind fun b ρ => .ok (!b) ρ
theorem fw_and1 (ha : FT X E a g) : FW X E (.BoolOp .And [a] pos) g := pw_and1 ha
theorem fw_or1 (ha : FT X E a g) : FW X E (.BoolOp .Or [a] pos) g := pw_or1 ha
theorem fw_and (ha : FT X E a ga) (hb : FW X E (.BoolOp .And (b :: rest) pos) gb) : FW X E (.BoolOp .And (a :: b :: rest) pos) (andT ga gb) := by
  refine pw_imp (pw_and ha hb) fun σ H Q h => ?_
  obtain ⟨k, F, ρ, R, h⟩ := h
  refine ⟨k, F, ρ, R, (Den.bind h).imp fun t ρ1 h1 F1 H1 R1 s1 => ?_⟩
  split at h1
  · rename_i e
    rw [if_pos e]
    exact ⟨k, F1, ρ1, R1, h1.imp fun t ρ' q F' H' R' s' => q F' H' R' (s1.trans s')⟩
  · rename_i e
    rw [if_neg e]
    exact h1 F1 H1 R1 s1
theorem fw_or (ha : FT X E a ga) (hb : FW X E (.BoolOp .Or (b :: rest) pos) gb) : FW X E (.BoolOp .Or (a :: b :: rest) pos) (orT ga gb) := by
  refine pw_imp (pw_or ha hb) fun σ H Q h => ?_
  obtain ⟨k, F, ρ, R, h⟩ := h
  refine ⟨k, F, ρ, R, (Den.bind h).imp fun t ρ1 h1 F1 H1 R1 s1 => ?_⟩
  split at h1
  · rename_i e
    rw [if_pos e]
    exact h1 F1 H1 R1 s1
  · rename_i e
    rw [if_neg e]
    exact ⟨k, F1, ρ1, R1, h1.imp fun t ρ' q F' H' R' s' => q F' H' R' (s1.trans s')⟩
theorem ft_w (h : FW X E a g) : FT X E a g := h.pt
theorem ft_not (ha : FT X E a ga) : FT X E (.UnaryOp .Not a pos) (notT ga) := by
  refine pt_imp (pt_not ha) fun σ H Q h => ?_
  obtain ⟨k, F, ρ, R, h⟩ := h
  exact ⟨k, F, ρ, R, (Den.bind h).imp fun t ρ1 h1 F1 H1 R1 s1 => h1 F1 H1 R1 s1⟩
def ifE (ga : M Bool) (fa fb : M T) : M T := fun ρ => (ga ρ).bind fun b ρ => if b = true then fa ρ else fb ρ
theorem fe_if (hc : FT X E c g) (ha : FE X E a fa) (hb : FE X E b fb) : FE X E (.IfExp c a b pos) (ifE g fa fb) := by
  refine pe_imp (pe_ifExp hc ha hb) fun σ H Q h => ?_
  obtain ⟨k, F, ρ, R, h⟩ := h
  refine ⟨k, F, ρ, R, (Den.bind h).imp fun t ρ1 h1 F1 H1 R1 s1 => ?_⟩
  split at h1
  · rename_i e
    rw [if_pos e]
    exact ⟨k, F1, ρ1, R1, h1.imp fun t ρ' q v F' H' R' s' r' => q v F' H' R' (s1.trans s') r'⟩
  · rename_i e
    rw [if_neg e]
    exact ⟨k, F1, ρ1, R1, h1.imp fun t ρ' q v F' H' R' s' r' => q v F' H' R' (s1.trans s') r'⟩
/-- a op1 b op2 c -/
def chn (o o' : T → T → Option T) (fa fb fc : M T) : M T := fun ρ => (fa ρ).bind fun x ρ => (fb ρ).bind fun y ρ => match (o x y).bind toB with
  | some true => (fc ρ).bind fun z ρ => liftO (o' y z) ρ
  | some false => .ok (.bl false) ρ
  | none => .bad
theorem tChain_of {r r' : R2} {o o' : T → T → Option T} (hr : OpT X r o) (hr' : OpT X r' o') {σ : L2.St} {H : Hp} {Q : VK} (h : tE X E (chn o o' fa fb fc) σ H Q) : tChain r r' (tE X E fa) (tE X E fb) (tE X E fc) σ H Q := by
  obtain ⟨k, F, ρ, R, h⟩ := h
  refine ⟨k, F, ρ, R, (Den.bind h).imp fun x ρ1 h1 v F1 H1 R1 s1 r1 => ?_⟩
  refine ⟨k, F1, ρ1, R1, (Den.bind h1).imp fun y ρ2 h2 u F2 H2 R2 s2 r2 => ?_⟩
  split at h2
  · rename_i e
    rw [Option.bind_eq_some_iff] at e
    obtain ⟨t, e1, e2⟩ := e
    have e3 := toB_some e2
    subst e3
    refine hr k F2 ρ2 σ H2 _ x y _ v u R2 (r1.mono s2) r2 e1 fun z F3 H3 R3 s3 r3 => ⟨true, r3, ?_⟩
    rw [if_pos rfl]
    refine ⟨k, F3, ρ2, R3, (Den.bind h2).imp fun z' ρ4 h4 w F4 H4 R4 s4 r4 => ?_⟩
    obtain ⟨t', e', q⟩ := Den.lift h4
    exact hr' k F4 ρ4 σ H4 Q y z' t' u w R4 (r2.mono (s3.trans s4)) r4 e' fun v' F' H' R' s' r' => q v' F' H' R' (s1.trans (s2.trans (s3.trans (s4.trans s')))) r'
  · rename_i e
    rw [Option.bind_eq_some_iff] at e
    obtain ⟨t, e1, e2⟩ := e
    have e3 := toB_some e2
    subst e3
    refine hr k F2 ρ2 σ H2 _ x y _ v u R2 (r1.mono s2) r2 e1 fun z F3 H3 R3 s3 r3 => ⟨false, r3, ?_⟩
    rw [if_neg Bool.false_ne_true]
    exact h2 _ F3 H3 R3 (s1.trans (s2.trans s3)) rfl
  · exact h2.elim
theorem fe_chain {op op' : CmpOp} {r r' : R2} {o o' : T → T → Option T} (ho : OpR X (compareOp op) r) (hr : OpT X r o) (ho' : OpR X (compareOp op') r') (hr' : OpT X r' o') (ha : FE X E a fa) (hb : FE X E b fb) (hc : FE X E c fc)
    (hm : lastMarks [op, op'] [b, c] = false := by with_unfolding_all rfl) : FE X E (.Compare a [op, op'] [b, c] pos) (chn o o' fa fb fc) := pe_imp (pe_chain ho ho' ha hb hc hm) fun σ H Q h => tChain_of hr hr' h
theorem ft_chain {op op' : CmpOp} {r r' : R2} {o o' : T → T → Option T} (ho : OpR X (compareOp op) r) (hr : OpT X r o) (ho' : OpR X (compareOp op') r') (hr' : OpT X r' o') (ha : FE X E a fa) (hb : FE X E b fb) (hc : FE X E c fc)
    (hm : lastMarks [op, op'] [b, c] = false := by with_unfolding_all rfl) : FT X E (.Compare a [op, op'] [b, c] pos) (tst (chn o o' fa fb fc)) := by
  refine pt_imp (pt_chain ho ho' ha hb hc hm) fun σ H Q h => ?_
  obtain ⟨k, F, ρ, R, h⟩ := h
  refine tChain_of (o := o) (o' := o') (E := E) hr hr' ⟨k, F, ρ, R, (Den.bind h).imp fun t ρ1 h1 v F1 H1 R1 s1 r1 => ?_⟩
  obtain ⟨b, e, q⟩ := Den.lift h1
  have e1 := toB_some e
  subst e1
  exact ⟨b, r1, q F1 H1 R1 s1⟩
/-! ### - of ints -/
def negO (x : T) : Option T := match x with
  | .int i => some (.int (-i))
  | _ => none
theorem fe_neg (ha : FE X E a fa) : FE X E (.UnaryOp .USub a pos) (op1 negO fa) := by
  refine pe_imp (pe_un un_neg ha) fun σ H Q h => ?_
  obtain ⟨k, F, ρ, R, h⟩ := h
  refine ⟨k, F, ρ, R, (Den.bind h).imp fun x ρ1 h1 v F1 H1 R1 s1 r1 => ?_⟩
  obtain ⟨t, e, q⟩ := Den.lift h1
  unfold negO at e
  split at e
  · rename_i i
    cases e
    exact ⟨i, r1, q _ F1 H1 R1 s1 rfl⟩
  · cases e

/-! ### lists of expressions; displays -/
def rdNil : M (List T) := fun ρ => .ok [] ρ
def rdCons (f : M T) (fs : M (List T)) : M (List T) := fun ρ => (f ρ).bind fun x ρ => (fs ρ).bind fun xs ρ => .ok (x :: xs) ρ
theorem fa_nil : FA X E [] rdNil := pa_imp pa_nil fun σ H Q ⟨k, F, ρ, R, h⟩ => h _ F H R (Same.refl _) rfl
theorem fa_cons (ha : FE X E e f) (hr : FA X E es fs) (hs : starEach (e :: es) X.env = (false, eval e X.env) :: starEach es X.env := by rfl) : FA X E (e :: es) (rdCons f fs) := by
  refine pa_imp (pa_cons ha hr hs) fun σ H Q h => ?_
  obtain ⟨k, F, ρ, R, h⟩ := h
  refine ⟨k, F, ρ, R, (Den.bind h).imp fun x ρ1 h1 v F1 H1 R1 s1 r1 => ?_⟩
  refine ⟨k, F1, ρ1, R1, (Den.bind h1).imp fun xs ρ2 h2 vs F2 H2 R2 s2 r2 => ?_⟩
  exact h2 _ F2 H2 R2 (s1.trans s2) (.cons (r1.mono s2) r2)
def calF (o : List T → Option T) (fs : M (List T)) : M T := fun ρ => (fs ρ).bind fun ts ρ => liftO (o ts) ρ
def calO (o : List T → Option O) (fs : M (List T)) : M O := fun ρ => (fs ρ).bind fun ts ρ => liftO (o ts) ρ
def small (ts : List T) : Bool := decide (ts.length ≤ 16777216)
def tupO (ts : List T) : Option T := if ts.length ≤ 16777216 then some (.tup ts) else none
def newL (ts : List T) : Option O := if ts.length ≤ 16777216 then some (.l ts) else none
theorem fe_tup {x1} (h : FA X E es fs) : FE X E (.Tuple es x1 pos) (calF tupO fs) := by
  refine pe_imp (pe_tup h) fun σ H Q h => ?_
  obtain ⟨k, F, ρ, R, h⟩ := h
  refine ⟨k, F, ρ, R, (Den.bind h).imp fun ts ρ1 h1 vs F1 H1 R1 s1 r1 => ?_⟩
  obtain ⟨t, e, q⟩ := Den.lift h1
  unfold tupO at e
  split at e
  · rename_i hz
    cases e
    rw [r1.length] at hz
    refine ⟨by rw [szL]; exact hz, fun p np => ?_⟩
    have sF : Same F1 (upd F1 p (.tup vs)) := same_upd (R1.fnone np)
    exact q _ _ _ (R1.newF np) (s1.trans sF) ⟨p, vs, rfl, upd_same, r1.mono sF⟩
  · cases e
theorem fo_lst (h : FA X E es fs) : FO X E (.List es pos) (calO newL fs) := by
  refine pe_imp (pe_lst h) fun σ H Q h => ?_
  obtain ⟨k, F, ρ, R, h⟩ := h
  refine ⟨k, F, ρ, R, (Den.bind h).imp fun ts ρ1 h1 vs F1 H1 R1 s1 r1 => ?_⟩
  obtain ⟨t, e, q⟩ := Den.lift h1
  unfold newL at e
  split at e
  · rename_i hz
    cases e
    rw [r1.length] at hz
    exact ⟨by rw [szL]; exact hz, fun p np => q _ F1 _ (R1.newO (o := .l ts) ⟨vs, rfl, r1⟩ np) s1 R1.len⟩
  · cases e
/-- a new object becomes a tree -/
def frzO (o : O) : T := match o with
  | .l ts => .lst ts
  | .dk ks vs => .dk ks vs
  | .dt ks vs => .dt ks vs
def frzM (f : M O) : M T := fun ρ => (f ρ).bind fun o ρ => .ok (frzO o) ρ
theorem rep_frz {K : PySem.W.Frag} {mg : Str → Option Value} {F : Hp} {o : O} {h : HO} {p : Addr} (n : F p = none) (r : ORep K mg F o h) : Rep K mg (upd F p h) (frzO o) (.ref p) := by
  have sF : Same F (upd F p h) := same_upd n
  cases o with
  | l ts => obtain ⟨vs, rfl, r⟩ := r; exact ⟨p, vs, rfl, upd_same, r.mono sF⟩
  | dk ks ts => obtain ⟨kvs, rfl, e, r⟩ := r; exact ⟨p, kvs, rfl, upd_same, e, r.mono sF⟩
  | dt ks ts => obtain ⟨kvs, rfl, e, r⟩ := r; exact ⟨p, kvs, rfl, upd_same, e, r.mono sF⟩
theorem fe_new {fo : M O} (h : FO X E e fo) : FE X E e (frzM fo) := by
  refine pe_imp h fun σ H Q h => ?_
  obtain ⟨k, F, ρ, R, h⟩ := h
  refine ⟨k, F, ρ, R, (Den.bind h).imp fun o ρ1 h1 v F1 H1 R1 s1 l1 => ?_⟩
  obtain ⟨p, ho, rfl, fp, bp, npm, hp, ro, R0⟩ := RS.aside R1 l1
  refine h1 _ _ _ ?_ (s1.trans (same_upd fp)) (rep_frz fp ro)
  have sF : Same F1 (upd F1 p ho) := same_upd fp
  obtain ⟨α, g1, g2⟩ := R0.ex
  refine ⟨R0.len, fun a u e => ?_, (same_upd bp).trans R0.bh, R0.f0.trans sF, fun a u e => ?_, R0.pt, (R0.tb.lessB (same_upd bp)).updF2 hp ro.plain, α, fun j y hy => ?_, g2⟩
  · by_cases ha : a = p
    · subst ha; rw [upd_same] at e; cases e; exact hp
    · rw [upd_ne ha] at e; exact R0.fh _ _ e
  · by_cases ha : a = p
    · subst ha; exact .inr (.inl bp)
    · rw [upd_ne ha] at e
      rcases R0.fr a u e with q | q
      · exact .inl q
      · exact .inr (q.imp (fun q => by rw [upd_ne ha] at q; exact q) id)
  · have q := g1 j y hy
    have far : ∀ a, upd k.B p ho a = none → a ≠ p ∧ k.B a = none := fun a e => by
      have ne : a ≠ p := fun z => by subst z; rw [upd_same] at e; cases e
      rw [upd_ne ne] at e
      exact ⟨ne, e⟩
    cases y with
    | un => trivial
    | fz t => obtain ⟨v', a, b⟩ := q; exact ⟨v', a, b.mono sF⟩
    | raw n => obtain ⟨v', a, b⟩ := q; exact ⟨v', a, b⟩
    | ow o' => obtain ⟨a, b, c, d, u, e1, e2⟩ := q; exact ⟨a, by rw [upd_ne (far _ c).1]; exact b, (far _ c).2, d, u, e1, e2.mono sF⟩
    | pa o' => obtain ⟨a, b, c, d, u, e1, e2⟩ := q; exact ⟨a, by rw [upd_ne (far _ c).1]; exact b, (far _ c).2, d, u, e1, e2.mono sF⟩

/-! ### a[i] -/
def idx (n : Nat) (i : Int) : Option Nat := if 0 ≤ i then (if i < n then some i.toNat else none) else if -(n : Int) ≤ i then some (i + n).toNat else none
theorem idx_eq (n : Nat) (i : Int) : idx n i = ixN n i := rfl
def atT (xs : List T) (i : Int) : Option T := (idx xs.length i).bind fun j => xs[j]?
def ixO (x y : T) : Option T := match x, y with
  | .lst a, .int i => atT a i
  | .sl a, .int i => atT a i
  | .tup a, .int i => atT a i
  | .str z, .int i => if z.length ≤ 16777216 then (L2.atI z.cps.toList i).map fun c => .str ⟨#[c]⟩ else none
  | _, _ => none
theorem atT_rep {K : PySem.W.Frag} {mg : Str → Option Value} {F : Hp} {ts : List T} {vs : List V} {i : Int} {t : T} (r : Reps K mg F ts vs) (e : atT ts i = some t) : ∃ v, atI vs i = some v ∧ Rep K mg F t v := by
  unfold atT at e
  rw [Option.bind_eq_some_iff] at e
  obtain ⟨j, h1, h2⟩ := e
  obtain ⟨v, h3, h4⟩ := r.get h2
  refine ⟨v, ?_, h4⟩
  unfold atI
  rw [← r.length, ← idx_eq, h1]
  exact h3
theorem ot_ix : OpT X (rIx X.K) ixO := fun k F ρ σ H Q x y t v u R rx ry e q => by
  unfold ixO at e
  split at e
  · rename_i ts i
    obtain ⟨p, vs, rfl, h1, r⟩ := rx
    obtain ⟨w, h2, h3⟩ := atT_rep r e
    exact .inl ⟨p, vs, i, w, rfl, ry, SqL.of (R.fh _ _ h1), h2, q _ F H R (Same.refl _) h3⟩
  · rename_i ts i
    obtain ⟨p, vs, rfl, h1, r⟩ := rx
    obtain ⟨w, h2, h3⟩ := atT_rep r e
    exact .inl ⟨p, vs, i, w, rfl, ry, same_SqL R.fh h1, h2, q _ F H R (Same.refl _) h3⟩
  · rename_i ts i
    obtain ⟨p, vs, rfl, h1, r⟩ := rx
    obtain ⟨w, h2, h3⟩ := atT_rep r e
    exact .inr (.inl ⟨p, vs, i, w, rfl, ry, same_SqT R.fh h1, h2, q _ F H R (Same.refl _) h3⟩)
  · rename_i z i
    split at e
    · rename_i hz
      rw [Option.map_eq_some_iff] at e
      obtain ⟨c, h1, rfl⟩ := e
      exact .inr (.inr ⟨z, i, c, rx, ry, by rw [szL]; exact hz, h1, q _ F H R (Same.refl _) rfl⟩)
    · cases e
  · cases e
theorem fe_ix (ha : FE X E a fa) (hb : FE X E b fb) (hs : PlainIx b := by intro _ _; rfl) : FE X E (.Subscript a b pos) (op2 ixO fa fb) := pe_imp (pe_ix ix_seq ha hb hs) fun σ H Q h => tOp_of ot_ix h
/-! ### calls of built-ins -/
def CalT (X : Cx) (r : List V → Hp → VK → Prop) (o : List T → Option T) : Prop := ∀ (k : Bk) (F : Hp) (ρ : Env) (σ : L2.St) (H : Hp) (Q : VK) (ts : List T) (t : T) (vs : List V), RSk X k F ρ σ H → Reps X.K X.mg F ts vs → o ts = some t → Go X k F ρ σ t Q → r vs H Q
theorem tCB_of {r : List V → Hp → VK → Prop} {o : List T → Option T} (hr : CalT X r o) {σ : L2.St} {H : Hp} {Q : VK} (h : tE X E (calF o fs) σ H Q) : tCB r (tA X E fs) σ H Q := by
  obtain ⟨k, F, ρ, R, h⟩ := h
  refine ⟨k, F, ρ, R, (Den.bind h).imp fun ts ρ1 h1 vs F1 H1 R1 s1 r1 => ?_⟩
  obtain ⟨t, e, q⟩ := Den.lift h1
  exact hr k F1 ρ1 σ H1 Q ts t vs R1 r1 e fun v' F' H' R' s' r' => q v' F' H' R' (s1.trans s') r'
theorem fe_callB {x : Str} {id : String} {p : Pos} {r : List V → Hp → VK → Prop} {o : List T → Option T} (hc : CallR X (.builtin id) r) (hr : CalT X r o) (hg : Gl X x) (hm : X.mg x = none) (hv : bootBuiltins x = some (.builtin id)) (ha : FA X E (e :: es) fs) (hn : x ≠ "__name__" := by decide) (hdb : (x == ("__debug__" : Str)) = false := by decide)
    (he : starEach (e :: es) X.env = (false, eval e X.env) :: starEach es X.env := by rfl) (hpl : (backTo pos (starEach es X.env)).any (·.1) = false := by rfl) : FE X E (.Call (.Name x p) (e :: es) [] pos) (calF o fs) :=
  pe_imp (pe_callB hc hg hm hv ha hn hdb he hpl) fun σ H Q h => tCB_of hr h
theorem fe_callTy {x : Str} {id : String} {p : Pos} {r : List V → Hp → VK → Prop} {o : List T → Option T} (hc : CallR X (.type id) r) (hr : CalT X r o) (hg : Gl X x) (hm : X.mg x = none) (hv : bootBuiltins x = some (.type id)) (ha : FA X E (e :: es) fs) (hn : x ≠ "__name__" := by decide) (hdb : (x == ("__debug__" : Str)) = false := by decide)
    (he : starEach (e :: es) X.env = (false, eval e X.env) :: starEach es X.env := by rfl) (hpl : (backTo pos (starEach es X.env)).any (·.1) = false := by rfl) : FE X E (.Call (.Name x p) (e :: es) [] pos) (calF o fs) :=
  pe_imp (pe_callTy hc hg hm hv ha hn hdb he hpl) fun σ H Q h => tCB_of hr h
theorem Reps.one_of {K : PySem.W.Frag} {mg : Str → Option Value} {F : Hp} {t : T} {vs : List V} (r : Reps K mg F [t] vs) : ∃ v, vs = [v] ∧ Rep K mg F t v := by
  obtain ⟨v, w, rfl, h, h2⟩ := r
  have e : w = [] := h2
  subst e
  exact ⟨v, rfl, h⟩
theorem Reps.two_of {K : PySem.W.Frag} {mg : Str → Option Value} {F : Hp} {t u : T} {vs : List V} (r : Reps K mg F [t, u] vs) : ∃ v w, vs = [v, w] ∧ Rep K mg F t v ∧ Rep K mg F u w := by
  obtain ⟨v, w, rfl, h, h2⟩ := r
  obtain ⟨w', e, h3⟩ := h2.one_of
  subst e
  exact ⟨v, w', rfl, h, h3⟩
/-- len -/
def lenO (ts : List T) : Option T := match ts with
  | [.lst a] => some (.int a.length)
  | [.sl a] => some (.int a.length)
  | [.tup a] => some (.int a.length)
  | [.str z] => if z.length ≤ 16777216 then some (.int z.length) else none
  | _ => none
def rLenT (X : Cx) : List V → Hp → VK → Prop := fun xs H Q => ∃ x n, xs = [x] ∧ LenV X.K x H n ∧ Q (.int n) H
theorem ct_len : CalT X (rLenT X) lenO := fun k F ρ σ H Q ts t vs R rs e q => by
  unfold lenO at e
  split at e
  · cases e
    obtain ⟨v, rfl, p, ws, rfl, h1, h2⟩ := rs.one_of
    exact ⟨.ref p, ws.length, rfl, .inl ⟨ws, SqL.of (R.fh _ _ h1), rfl⟩, q _ F H R (Same.refl _) (by rw [h2.length]; rfl)⟩
  · cases e
    obtain ⟨v, rfl, p, ws, rfl, h1, h2⟩ := rs.one_of
    exact ⟨.ref p, ws.length, rfl, .inl ⟨ws, same_SqL R.fh h1, rfl⟩, q _ F H R (Same.refl _) (by rw [h2.length]; rfl)⟩
  · cases e
    obtain ⟨v, rfl, p, ws, rfl, h1, h2⟩ := rs.one_of
    exact ⟨.ref p, ws.length, rfl, .inr ⟨ws, same_SqT R.fh h1, rfl⟩, q _ F H R (Same.refl _) (by rw [h2.length]; rfl)⟩
  · rename_i z
    split at e
    · rename_i hz
      cases e
      obtain ⟨v, rfl, h⟩ := rs.one_of
      have ev : v = .str z := h
      subst ev
      exact ⟨.str z, z.length, rfl, ⟨by rw [szL]; exact hz, rfl⟩, q _ F H R (Same.refl _) rfl⟩
    · cases e
  · cases e
def abs1O (ts : List T) : Option T := match ts with
  | [.int i] => some (.int (if i < 0 then -i else i))
  | _ => none
theorem ct_abs : CalT X (fun xs H Q => ∃ i, xs = [.int i] ∧ Q (.int (if i < 0 then -i else i)) H) abs1O := fun k F ρ σ H Q ts t vs R rs e q => by
  unfold abs1O at e
  split at e
  · rename_i i
    cases e
    obtain ⟨v, rfl, h⟩ := rs.one_of
    have ev : v = .int i := h
    subst ev
    exact ⟨i, rfl, q _ F H R (Same.refl _) rfl⟩
  · cases e
def seqT (t : T) : Option (List T) := match t with
  | .lst a => some a
  | .sl a => some a
  | .tup a => some a
  | _ => none
theorem seqT_rep {K : PySem.W.Frag} {mg : Str → Option Value} {F H : Hp} {t : T} {a : List T} {v : V} (s : Same F H) (r : Rep K mg F t v) (e : seqT t = some a) : ∃ p ws, v = .ref p ∧ (SqL K H p ws ∨ SqT K H p ws) ∧ Reps K mg F a ws := by
  cases t <;> simp only [seqT, Option.some.injEq, reduceCtorEq] at e
  · subst e; obtain ⟨p, ws, rfl, h1, h2⟩ := r; exact ⟨p, ws, rfl, .inl (SqL.of (s _ _ h1)), h2⟩
  · subst e; obtain ⟨p, ws, rfl, h1, h2⟩ := r; exact ⟨p, ws, rfl, .inr (same_SqT s h1), h2⟩
  · subst e; obtain ⟨p, ws, rfl, h1, h2⟩ := r; exact ⟨p, ws, rfl, .inl (same_SqL s h1), h2⟩
/-- all, any of a list of truth values -/
def blsT : List T → Option (List Bool)
  | [] => some []
  | .bl b :: ts => (blsT ts).map (b :: ·)
  | _ :: _ => none
theorem blsT_rep {K : PySem.W.Frag} {mg : Str → Option Value} {F : Hp} : ∀ {ts : List T} {bs : List Bool} {vs : List V}, Reps K mg F ts vs → blsT ts = some bs → vs = bs.map V.bl
  | [], bs, vs, r, e => by
    have ev : vs = [] := r
    simp only [blsT, Option.some.injEq] at e
    subst ev e; rfl
  | t :: ts, bs, vs, r, e => by
    obtain ⟨v, w, rfl, h1, h2⟩ := r
    cases t <;> simp only [blsT, reduceCtorEq] at e
    rw [Option.map_eq_some_iff] at e
    obtain ⟨bs', e, rfl⟩ := e
    have ev : v = .bl _ := h1
    subst ev
    rw [blsT_rep h2 e]; rfl
def all1O (ts : List T) : Option T := match ts with
  | [.lst a] => (blsT a).map fun bs => .bl (bs.all id)
  | _ => none
theorem ct_all : CalT X (rAll X.K) all1O := fun k F ρ σ H Q ts t vs R rs e q => by
  unfold all1O at e
  split at e
  · rw [Option.map_eq_some_iff] at e
    obtain ⟨bs, e, rfl⟩ := e
    obtain ⟨v, rfl, p, ws, rfl, h1, h2⟩ := rs.one_of
    have ew := blsT_rep h2 e
    subst ew
    exact ⟨p, bs, rfl, SqL.of (R.fh _ _ h1), q _ F H R (Same.refl _) rfl⟩
  · cases e
/-- sum, max, min of a list of ints -/
def intsT : List T → Option (List Int)
  | [] => some []
  | .int b :: ts => (intsT ts).map (b :: ·)
  | _ :: _ => none
theorem intsT_rep {K : PySem.W.Frag} {mg : Str → Option Value} {F : Hp} : ∀ {ts : List T} {bs : List Int} {vs : List V}, Reps K mg F ts vs → intsT ts = some bs → vs = bs.map V.int
  | [], bs, vs, r, e => by
    have ev : vs = [] := r
    simp only [intsT, Option.some.injEq] at e
    subst ev e; rfl
  | t :: ts, bs, vs, r, e => by
    obtain ⟨v, w, rfl, h1, h2⟩ := r
    cases t <;> simp only [intsT, reduceCtorEq] at e
    rw [Option.map_eq_some_iff] at e
    obtain ⟨bs', e, rfl⟩ := e
    have ev : v = .int _ := h1
    subst ev
    rw [intsT_rep h2 e]; rfl
theorem intsT_map (ns : List Int) : intsT (ns.map T.int) = some ns := by
  induction ns with
  | nil => rfl
  | cons n ns ih => simp [intsT, ih]
end
end FL

/-! FL5: statements, loops, comprehensions, calls of defs. -/
namespace FL
open PySem PySem.Spec L2

/-! ### a tree or a new object -/
inductive VO where
  | tr (t : T) | ob (o : O)
def VO.sv : VO → SV
  | .tr t => .fz t
  | .ob o => .ow o
def tX (X : Cx) (E : XK) (f : M VO) : TE := fun σ H Q => ∃ k F ρ, RSk X k F ρ σ H ∧ Den (f ρ) (fun x ρ' => ∀ v F' H', RSk X k F' (ρ' ++ [x.sv]) (σ ++ [some v]) H' → Same F F' → ρ'.length = σ.length → Q v H') (XOk X.K X.mg k E)
def tXs (X : Cx) (E : XK) (f : M (List VO)) : TA := fun σ H Q => ∃ k F ρ, RSk X k F ρ σ H ∧ Den (f ρ) (fun xs ρ' => ∀ vs F' H', RSk X k F' (ρ' ++ xs.map VO.sv) (σ ++ vs.map some) H' → Same F F' → ρ'.length = σ.length → vs.length = xs.length → Q vs H') (XOk X.K X.mg k E)
abbrev FX (X : Cx) (E : XK) (e : Expr) (f : M VO) : Prop := PE X e (tX X E f)
abbrev FXs (X : Cx) (E : XK) (es : List Expr) (f : M (List VO)) : Prop := PA X es (tXs X E f)
def asT (f : M T) : M VO := fun ρ => (f ρ).bind fun t ρ => .ok (.tr t) ρ
def asO (f : M O) : M VO := fun ρ => (f ρ).bind fun o ρ => .ok (.ob o) ρ
section
variable {X : Cx} {E : XK} {e : Expr} {es : List Expr} {pos : Pos} {f : M T} {fo : M O} {fx : M VO} {fs : M (List VO)}
theorem fx_t (h : FE X E e f) : FX X E e (asT f) := by
  refine pe_imp h fun σ H Q h => ?_
  obtain ⟨k, F, ρ, R, h⟩ := h
  refine ⟨k, F, ρ, R, (Den.bind h).imp fun t ρ1 h1 v F1 H1 R1 s1 r1 => h1 v F1 H1 ?_ s1 R1.len⟩
  have R2 : RSk X k F1 (ρ1 ++ []) (σ ++ []) H1 := by rw [List.append_nil, List.append_nil]; exact R1
  exact R2.insF R1.len r1
theorem fx_o (h : FO X E e fo) : FX X E e (asO fo) := by
  refine pe_imp h fun σ H Q h => ?_
  obtain ⟨k, F, ρ, R, h⟩ := h
  exact ⟨k, F, ρ, R, (Den.bind h).imp fun o ρ1 h1 v F1 H1 R1 s1 l1 => h1 v F1 H1 R1 s1 l1⟩
def xsNil : M (List VO) := fun ρ => .ok [] ρ
def xsCons (f : M VO) (fs : M (List VO)) : M (List VO) := fun ρ => (f ρ).bind fun x ρ => (fs ρ).bind fun xs ρ => .ok (x :: xs) ρ
theorem fxs_nil : FXs X E [] xsNil := pa_imp pa_nil fun σ H Q ⟨k, F, ρ, R, h⟩ => h [] F H (by simpa using R) (Same.refl _) R.len rfl
theorem fxs_cons (ha : FX X E e fx) (hr : FXs X E es fs) (hs : starEach (e :: es) X.env = (false, eval e X.env) :: starEach es X.env := by rfl) : FXs X E (e :: es) (xsCons fx fs) := by
  refine pa_imp (pa_cons ha hr hs) fun σ H Q h => ?_
  obtain ⟨k, F, ρ, R, h⟩ := h
  refine ⟨k, F, ρ, R, (Den.bind h).imp fun x ρ1 h1 v F1 H1 R1 s1 l1 => ?_⟩
  cases x with
  | tr t =>
    have R1' : RSk X k F1 (ρ1 ++ [SV.fz t]) (σ ++ [some v]) H1 := R1
    -- the tree at the end, and the state without it
    obtain ⟨α, g1, g2⟩ := R1'.ex
    have e0 : (ρ1 ++ [SV.fz t])[ρ1.length]? = some (.fz t) := by simp
    obtain ⟨v', ev, rv⟩ := g1 ρ1.length _ e0
    have ev' : v' = v := by
      rw [l1] at ev
      simpa using ev.symm
    subst ev'
    have up : ∀ j y, ρ1[j]? = some y → (ρ1 ++ [SV.fz t])[j]? = some y ∧ j < ρ1.length := fun j y hy => by
      have hj := (List.getElem?_eq_some_iff.mp hy).1
      exact ⟨by rw [List.getElem?_append_left hj]; exact hy, hj⟩
    have R0 : RSk X k F1 ρ1 σ H1 := by
      refine ⟨l1, R1.fh, R1.bh, R1.f0, R1.fr, R1.pt, R1.tb, α, fun j y hy => ?_, fun j m y z hy hz => g2 j m y z (up j y hy).1 (up m z hz).1⟩
      have q := g1 j y (up j y hy).1
      have es : (σ ++ [some v'])[j]? = σ[j]? := List.getElem?_append_left (by have := (up j y hy).2; omega)
      cases y with
      | un => trivial
      | fz t => obtain ⟨w, a, b⟩ := q; exact ⟨w, es ▸ a, b⟩
      | raw n => obtain ⟨w, a, b⟩ := q; exact ⟨w, es ▸ a, b⟩
      | ow o => obtain ⟨a, b⟩ := q; exact ⟨es ▸ a, b⟩
      | pa o => obtain ⟨a, b⟩ := q; exact ⟨es ▸ a, b⟩
    refine ⟨k, F1, ρ1, R0, (Den.bind h1).imp fun xs ρ2 h2 vs F2 H2 R2 s2 l2 lx => ?_⟩
    exact h2 (v' :: vs) F2 H2 (R2.insF l2 (rv.mono s2)) (s1.trans s2) l2 (by simp [lx])
  | ob o =>
    obtain ⟨p, ho, rfl, fp, bp, npm, hp, ro, R0⟩ := RS.aside R1 l1
    have f0 : k.F0 p = none := R1.f0.free fp
    refine ⟨⟨upd k.B p ho, k.F0, k.pm, k.rw⟩, F1, ρ1, R0, ?_⟩
    have go : Den (fs ρ1) (fun xs ρ2 => ∀ vs F2 H2, RS X.K X.mg (upd k.B p ho) k.F0 k.pm k.rw F2 (ρ2 ++ xs.map VO.sv) (σ ++ vs.map some) H2 → Same F1 F2 → ρ2.length = σ.length → vs.length = xs.length → Q (.ref p :: vs) H2) (XOk X.K X.mg ⟨upd k.B p ho, k.F0, k.pm, k.rw⟩ E) := by
      have h2 := Den.bind h1
      cases e : fs ρ1 with
      | bad => rw [e] at h2; exact h2
      | exc x =>
        rw [e] at h2
        have h3 : XOk X.K X.mg k E x := h2
        have sB : Same k.B (upd k.B p ho) := same_upd bp
        obtain ⟨c, a⟩ := x
        cases a with
        | none => exact fun C H' m s => h3 C H' m ⟨sB.trans s.1, s.2⟩
        | some a => exact fun C d v F' H' m s s' => h3 C d v F' H' m ⟨sB.trans s.1, s.2⟩ s'
      | ok xs ρ2 =>
        rw [e] at h2
        intro vs F2 H2 R2 s2 l2 lx
        exact h2 (.ref p :: vs) F2 H2 (RS.back R2 l2 f0 bp npm (ro.mono s2)) (s1.trans s2) l2 (by simp [lx])
    exact go
end

/-! ### statements -/
inductive Fl where
  | nx | rt (t : T) | bk | ct
abbrev MS := M Fl
def Post (X : Cx) (k : Bk) (F : Hp) (D : Ends) (fl : Fl) (ρ' : Env) : Prop := match fl with
  | .nx => ∀ σ' F' H', RSk X k F' ρ' σ' H' → Same F F' → D.nx σ' H'
  | .bk => ∀ σ' F' H', RSk X k F' ρ' σ' H' → Same F F' → D.bk σ' H'
  | .ct => ∀ σ' F' H', RSk X k F' ρ' σ' H' → Same F F' → D.ct σ' H'
  | .rt t => ∀ v σ' F' H', RSk X k F' ρ' σ' H' → Same F F' → Rep X.K X.mg F' t v → D.rt v H'
theorem Post.mono {X : Cx} {k : Bk} {F F1 : Hp} {D : Ends} {fl : Fl} {ρ : Env} (s : Same F F1) (h : Post X k F D fl ρ) : Post X k F1 D fl ρ := by
  cases fl with
  | nx => exact fun σ' F' H' R s' => h σ' F' H' R (s.trans s')
  | bk => exact fun σ' F' H' R s' => h σ' F' H' R (s.trans s')
  | ct => exact fun σ' F' H' R s' => h σ' F' H' R (s.trans s')
  | rt t => exact fun v σ' F' H' R s' => h v σ' F' H' R (s.trans s')
def tS (X : Cx) (E : XK) (f : MS) : TS := fun D σ H => ∃ k F ρ, RSk X k F ρ σ H ∧ Den (f ρ) (Post X k F D) (XOk X.K X.mg k E)
abbrev FS (X : Cx) (E : XK) (st : Stmt) (f : MS) : Prop := PS X st (tS X E f)
abbrev FSs (X : Cx) (E : XK) (st : List Stmt) (f : MS) : Prop := PSs X st (tS X E f)
theorem pss_imp {X : Cx} {e : List Stmt} {t t' : TS} (h : PSs X e t) (i : ∀ D σ H, t' D σ H → t D σ H) : PSs X e t' := ⟨fun pins s σ H D I q => h.run pins s σ H D I (i _ _ _ q)⟩
def skip : MS := fun ρ => .ok .nx ρ
def sq (f g : MS) : MS := fun ρ => (f ρ).bind fun fl ρ => match fl with
  | .nx => g ρ
  | .rt t => .ok (.rt t) ρ
  | .bk => .ok .bk ρ
  | .ct => .ok .ct ρ
section
variable {X : Cx} {E : XK} {e : Expr} {es : List Expr} {pos : Pos} {f : M T} {fo : M O} {fx : M VO} {fs : M (List VO)} {st : Stmt} {sts a b : List Stmt} {s1 s2 s3 : MS} {g : M Bool} {c : Expr}
theorem fs_nil : FSs X E [] skip := pss_imp pss_nil fun D σ H ⟨k, F, ρ, R, h⟩ => h σ F H R (Same.refl _)
theorem fs_cons (h1 : FS X E st s1) (h2 : FSs X E sts s2) : FSs X E (st :: sts) (sq s1 s2) := by
  refine pss_imp (pss_cons h1 h2) fun D σ H h => ?_
  obtain ⟨k, F, ρ, R, h⟩ := h
  refine ⟨k, F, ρ, R, (Den.bind h).imp fun fl ρ1 h1 => ?_⟩
  cases fl with
  | nx => exact fun σ' F' H' R' s' => ⟨k, F', ρ1, R', (show Den (s2 ρ1) (Post X k F D) (XOk X.K X.mg k E) from h1).imp fun fl ρ2 q => q.mono s'⟩
  | bk => exact h1
  | ct => exact h1
  | rt t => exact h1
theorem fs_one (h1 : FS X E st s1) : FSs X E [st] s1 := pss_one h1
def bad : MS := fun _ => .bad
theorem fss_never : FSs X E sts bad := pss_imp pss_never fun D σ H ⟨k, F, ρ, R, h⟩ => h
def sRet (f : M T) : MS := fun ρ => (f ρ).bind fun t ρ => .ok (.rt t) ρ
theorem fs_ret (h : FE X E e f) : FS X E (.Return (some e) pos) (sRet f) := by
  refine ps_imp (ps_ret h) fun D σ H h => ?_
  obtain ⟨k, F, ρ, R, h⟩ := h
  exact ⟨k, F, ρ, R, (Den.bind h).imp fun t ρ1 h1 v F1 H1 R1 s1 r1 => h1 v σ F1 H1 R1 s1 r1⟩
def sIf (g : M Bool) (s1 s2 : MS) : MS := fun ρ => (g ρ).bind fun b ρ => if b = true then s1 ρ else s2 ρ
theorem fs_if (hc : FT X E c g) (ha : FSs X E a s1) (hb : FSs X E b s2) : FS X E (.If c a b pos) (sIf g s1 s2) := by
  refine ps_imp (ps_if hc ha hb) fun D σ H h => ?_
  obtain ⟨k, F, ρ, R, h⟩ := h
  refine ⟨k, F, ρ, R, (Den.bind h).imp fun t ρ1 h1 F1 H1 R1 s1 => ?_⟩
  split at h1
  · rename_i e
    rw [if_pos e]
    exact ⟨k, F1, ρ1, R1, h1.imp fun _ _ q => q.mono s1⟩
  · rename_i e
    rw [if_neg e]
    exact ⟨k, F1, ρ1, R1, h1.imp fun _ _ q => q.mono s1⟩
/-- an expression for its effect -/
def sExpr (f : M T) : MS := fun ρ => (f ρ).bind fun _ ρ => .ok .nx ρ
theorem fs_expr (h : FE X E e f) (hs : swapsWith e none pos.line X.env = pure false := by rfl) : FS X E (.Expr e pos) (sExpr f) := by
  refine ps_imp (ps_expr h hs) fun D σ H h => ?_
  obtain ⟨k, F, ρ, R, h⟩ := h
  exact ⟨k, F, ρ, R, (Den.bind h).imp fun t ρ1 h1 v F1 H1 R1 s1 r1 => h1 σ F1 H1 R1 s1⟩
/-- name = e -/
def put (i : Nat) (x : SV) (ρ : Env) : Res Fl := if i < ρ.length then .ok .nx (ρ.set i x) else .bad
def sSet (i : Nat) (f : M VO) : MS := fun ρ => (f ρ).bind fun x ρ => put i x.sv ρ
theorem fs_set {i : Nat} {x : Str} {pos' : Pos} (hN : X.N.Nodup) (hi : X.N[i]? = some x) (hx : Loc X.env.scope x) (he : FX X E e fx) (hs : swapsWith e (some (.Name x pos')) pos.line X.env = pure false := by rfl) (hf : X.fn x = true ∨ X.env.scope.names.lookup x = some .local := by first | exact .inl rfl | exact .inr rfl | assumption) :
    FS X E (.Assign [.Name x pos'] e pos) (sSet i fx) := by
  refine ps_imp (ps_set hN hi hx he hs hf) fun D σ H h => ?_
  obtain ⟨k, F, ρ, R, h⟩ := h
  refine ⟨k, F, ρ, R, (Den.bind h).imp fun x ρ1 h1 v F1 H1 R1 s1 l1 => ?_⟩
  unfold put at h1
  split at h1
  · rename_i hlt
    have R2 := RS.pop (ys := []) (ws := []) R1 l1 i hlt
    rw [List.append_nil, List.append_nil] at R2
    exact h1 _ F1 H1 R2 s1
  · exact h1.elim
/-- a, b = x, y -/
def put2 (i j : Nat) (xs : List VO) (ρ : Env) : Res Fl := match xs with
  | [x, y] => if i < ρ.length ∧ j < ρ.length then .ok .nx ((ρ.set i x.sv).set j y.sv) else .bad
  | _ => .bad
def sPar (i j : Nat) (fs : M (List VO)) : MS := fun ρ => (fs ρ).bind (put2 i j)
theorem two_slots {k : Bk} {F : Hp} {ρ : Env} {σ : L2.St} {H : Hp} {i j : Nat} {x y : SV} {v w : V} (R : RSk X k F (ρ ++ [x, y]) (σ ++ [some v, some w]) H) (l : ρ.length = σ.length) (hi : i < ρ.length) (hj : j < ρ.length) :
    RSk X k F ((ρ.set i x).set j y) ((σ.set i (some v)).set j (some w)) H := by
  have R1 := RS.pop (ys := [y]) (ws := [some w]) R l i hi
  have R2 := RS.pop (ys := []) (ws := []) R1 (by simpa using l) j (by simpa using hj)
  rw [List.append_nil, List.append_nil] at R2
  exact R2
theorem fs_par {i j : Nat} {x y : Str} {e1 e2 : Expr} {px py pt : Pos} {kt k2 pt2} (hc : X.calm = true) (hN : X.N.Nodup) (hi : X.N[i]? = some x) (hj : X.N[j]? = some y) (hij : i ≠ j)
    (hx : X.env.scope.names.lookup x = some .local) (hy : X.env.scope.names.lookup y = some .local) (ha : FXs X E [e1, e2] fs)
    (hw : swappedStores [.Tuple [.Name x px, .Name y py] kt pt] (.Tuple [e1, e2] k2 pt2) X.env = pure (some [x, y]))
    (hs : swapsWithSole [.Tuple [.Name x px, .Name y py] kt pt] (.Tuple [e1, e2] k2 pt2) pos.line X.env = pure false := by rfl) :
    FS X E (.Assign [.Tuple [.Name x px, .Name y py] kt pt] (.Tuple [e1, e2] k2 pt2) pos) (sPar i j fs) := by
  refine ps_imp (ps_par hc hN hi hj hij hx hy ha hw hs) fun D σ H h => ?_
  obtain ⟨k, F, ρ, R, h⟩ := h
  refine ⟨k, F, ρ, R, (Den.bind h).imp fun xs ρ1 h1 vs F1 H1 R1 s1 l1 lx => ?_⟩
  unfold put2 at h1
  split at h1
  · rename_i x y
    split at h1
    · rename_i hlt
      match vs, lx with
      | [v, w], _ => exact ⟨v, w, rfl, h1 _ F1 H1 (two_slots R1 l1 hlt.1 hlt.2) s1⟩
    · exact h1.elim
  · exact h1.elim
/-! ### targets -/
/-- what a tree given to a target makes of the state; is: the slots that it changes -/
abbrev MG := T → Env → Option Env
def tG (X : Cx) (is : List Nat) (g : MG) : TG := fun v σ H Q => ∃ k F ρ t, RSk X k F ρ σ H ∧ Rep X.K X.mg F t v ∧ ∃ ρ', g t ρ = some ρ' ∧ ∀ σ' F' H', RSk X k F' ρ' σ' H' → Same F F' → σ'.length = σ.length → (∀ j, j ∉ is → σ'[j]? = σ[j]?) → Q σ' H'
abbrev FG (X : Cx) (is : List Nat) (e : Expr) (g : MG) : Prop := PG X e (tG X is g)
theorem pg_imp {X : Cx} {e : Expr} {t t' : TG} (h : PG X e t) (i : ∀ v σ H Q, t' v σ H Q → t v σ H Q) : PG X e t' := ⟨fun pins s σ H v u Q I r q => h.run pins s σ H v u Q I r (i _ _ _ _ q)⟩
def gN (i : Nat) : MG := fun t ρ => if i < ρ.length then some (ρ.set i (.fz t)) else none
theorem fg_name {i : Nat} {x : Str} (hN : X.N.Nodup) (hi : X.N[i]? = some x) (hx : Loc X.env.scope x) (hf : X.fn x = true ∨ X.env.scope.names.lookup x = some .local := by first | exact .inl rfl | exact .inr rfl | assumption) : FG X [i] (.Name x pos) (gN i) := by
  refine pg_imp (pg_name hN hi hx hf) fun v σ H Q h => ?_
  obtain ⟨k, F, ρ, t, R, r, ρ', e, q⟩ := h
  unfold gN at e
  split at e
  · rename_i hlt
    cases e
    refine q _ F H (R.setF i r) (Same.refl _) (by simp) fun j hj => ?_
    rw [List.getElem?_set_ne (by simpa [eq_comm] using hj)]
  · cases e
/-- several targets by their trees -/
abbrev MGs := List T → Env → Option Env
def tGs (X : Cx) (is : List Nat) (g : MGs) : TGs := fun vs σ H Q => ∃ k F ρ ts, RSk X k F ρ σ H ∧ Reps X.K X.mg F ts vs ∧ ∃ ρ', g ts ρ = some ρ' ∧ ∀ σ' F' H', RSk X k F' ρ' σ' H' → Same F F' → σ'.length = σ.length → (∀ j, j ∉ is → σ'[j]? = σ[j]?) → Q σ' H'
abbrev FGs (X : Cx) (is : List Nat) (e : List Expr) (g : MGs) : Prop := PGs X e (tGs X is g)
theorem pgs_imp {X : Cx} {e : List Expr} {t t' : TGs} (h : PGs X e t) (i : ∀ v σ H Q, t' v σ H Q → t v σ H Q) : PGs X e t' := ⟨fun pins s σ H v u Q I r q => h.run pins s σ H v u Q I r (i _ _ _ _ q)⟩
def gsNil : MGs := fun ts ρ => match ts with
  | [] => some ρ
  | _ => none
def gsCons (g : MG) (gs : MGs) : MGs := fun ts ρ => match ts with
  | t :: ts => (g t ρ).bind fun ρ => gs ts ρ
  | [] => none
theorem fgs_nil : FGs X [] [] gsNil := pgs_imp pgs_nil fun vs σ H Q h => by
  obtain ⟨k, F, ρ, ts, R, r, ρ', e, q⟩ := h
  unfold gsNil at e
  split at e
  · cases e
    exact ⟨r, q σ F H R (Same.refl _) rfl fun _ _ => rfl⟩
  · cases e
theorem fgs_cons {is js : List Nat} {g : MG} {gs : MGs} (h1 : FG X is e g) (h2 : FGs X js es gs) (hs : (assignEach (e :: es) X.env).map (·.2) = assign e X.env :: (assignEach es X.env).map (·.2) := by rfl) : FGs X (is ++ js) (e :: es) (gsCons g gs) :=
  pgs_imp (pgs_cons h1 h2 hs) fun vs σ H Q h => by
  obtain ⟨k, F, ρ, ts, R, r, ρ', e, q⟩ := h
  unfold gsCons at e
  split at e
  · rename_i t ts
    rw [Option.bind_eq_some_iff] at e
    obtain ⟨ρ1, e1, e2⟩ := e
    obtain ⟨v, w, rfl, r1, r2⟩ := r
    refine ⟨v, w, rfl, k, F, ρ, t, R, r1, ρ1, e1, fun σ1 F1 H1 R1 s1 l1 d1 => ⟨k, F1, ρ1, ts, R1, r2.mono s1, ρ', e2, fun σ2 F2 H2 R2 s2 l2 d2 => ?_⟩⟩
    refine q σ2 F2 H2 R2 (s1.trans s2) (l2.trans l1) fun j hj => ?_
    rw [List.mem_append, not_or] at hj
    rw [d2 j hj.2, d1 j hj.1]
  · cases e
def gT (gs : MGs) : MG := fun t ρ => match t with
  | .tup ts => gs ts ρ
  | _ => none
theorem fg_tup {is : List Nat} {gs : MGs} {kk : Nat} {n : Nat} (hc : X.calm = true) (h : FGs X is es gs) (hn : (assignEach es X.env).length = n := by rfl) (hst : (assignEach es X.env).findIdx? (·.1) = none := by rfl)
    (hl : ∀ ts ρ ρ', gs ts ρ = some ρ' → ts.length = n) : FG X is (.Tuple es kk pos) (gT gs) := by
  refine pg_imp (pg_tup hc h hn hst) fun v σ H Q h => ?_
  obtain ⟨k, F, ρ, t, R, r, ρ', e, q⟩ := h
  unfold gT at e
  split at e
  · rename_i ts
    obtain ⟨p, vs, rfl, h1, h2⟩ := r
    exact ⟨p, vs, rfl, same_SqT R.fh h1, by rw [← h2.length]; exact hl _ _ _ e, k, F, ρ, ts, R, h2, ρ', e, q⟩
  · cases e
theorem gs_len0 : ∀ ts ρ ρ', gsNil ts ρ = some ρ' → ts.length = 0 := fun ts ρ ρ' h => by
  unfold gsNil at h
  split at h
  · rfl
  · cases h
theorem gs_len {g : MG} {gs : MGs} {n : Nat} (hl : ∀ ts ρ ρ', gs ts ρ = some ρ' → ts.length = n) : ∀ ts ρ ρ', gsCons g gs ts ρ = some ρ' → ts.length = n + 1 := fun ts ρ ρ' h => by
  unfold gsCons at h
  split at h
  · rw [Option.bind_eq_some_iff] at h
    obtain ⟨ρ1, _, h⟩ := h
    simp [hl _ _ _ h]
  · cases h
/-! ### what is walked -/
/-- at each turn: the tree, as it lies or in a new tuple -/
def Yt (X : Cx) (F : Hp) (ts : List T) : Nat → Hp → V → Hp → Prop := fun i H v H' => ∃ t, ts[i]? = some t ∧ ((H' = H ∧ Rep X.K X.mg F t v) ∨ ∃ p us vs, t = .tup us ∧ v = .ref p ∧ H p = none ∧ H' = upd H p (.tup vs) ∧ Reps X.K X.mg F us vs)
def Wk (X : Cx) (F : Hp) (J : It) (ts : List T) : Prop := L2.Walk J ts.length (fun H => Same F H) (Yt X F ts)
def tI (X : Cx) (E : XK) (f : M (List T)) : TI := fun σ H R => ∃ k F ρ, RSk X k F ρ σ H ∧ Den (f ρ) (fun ts ρ' => ∀ J F' H', RSk X k F' ρ' σ H' → Same F F' → Wk X F' J ts → R J H') (XOk X.K X.mg k E)
abbrev FI (X : Cx) (E : XK) (tg e : Expr) (f : M (List T)) : Prop := PI X tg e (tI X E f)
theorem pi_imp {X : Cx} {tg e : Expr} {t t' : TI} (h : PI X tg e t) (i : ∀ σ H R, t' σ H R → t σ H R) : PI X tg e t' := ⟨fun pins s σ H R I q => h.run pins s σ H R I (i _ _ _ q)⟩
theorem Yt.grow {F F1 : Hp} {ts : List T} (s : Same F F1) {i : Nat} {H : Hp} {v : V} {H' : Hp} (h : Yt X F ts i H v H') : Yt X F1 ts i H v H' := by
  obtain ⟨t, e, h⟩ := h
  refine ⟨t, e, ?_⟩
  rcases h with ⟨h1, h2⟩ | ⟨p, us, vs, h1, h2, h3, h4, h5⟩
  · exact .inl ⟨h1, h2.mono s⟩
  · exact .inr ⟨p, us, vs, h1, h2, h3, h4, h5.mono s⟩
/-- what is given at a turn, in the state -/
theorem Yt.take {k : Bk} {F : Hp} {ρ : Env} {σ : L2.St} {H H' : Hp} {ts : List T} {i : Nat} {v : V} (R : RSk X k F ρ σ H) (h : Yt X F ts i H v H') : ∃ t F', ts[i]? = some t ∧ RSk X k F' ρ σ H' ∧ Same F F' ∧ Rep X.K X.mg F' t v := by
  obtain ⟨t, e, h⟩ := h
  rcases h with ⟨rfl, h2⟩ | ⟨p, us, vs, rfl, rfl, h3, rfl, h5⟩
  · exact ⟨t, F, e, R, Same.refl _, h2⟩
  · have sF : Same F (upd F p (.tup vs)) := same_upd (R.fnone h3)
    exact ⟨.tup us, upd F p (.tup vs), e, R.newF h3, sF, p, vs, rfl, upd_same, h5.mono sF⟩
theorem yat {F : Hp} {ts : List T} {vs : List V} (r : Reps X.K X.mg F ts vs) {i : Nat} {H : Hp} {v : V} {H' : Hp} (h : YAt vs i H v H') : Yt X F ts i H v H' := by
  obtain ⟨rfl, h⟩ := h
  have hi : i < ts.length := by
    rw [r.length]
    exact (List.getElem?_eq_some_iff.mp h).1
  obtain ⟨w, h1, h2⟩ := r.get (List.getElem?_eq_getElem hi)
  rw [h] at h1
  cases h1
  exact ⟨_, List.getElem?_eq_getElem hi, .inl ⟨rfl, h2⟩⟩
/-- range -/
def rgT (lo : Int) (n : Nat) : List T := (List.range n).map fun i => .int (lo + (i : Nat))
def rg1 (ts : List T) : Option (List T) := match ts with
  | [.int j] => if decide (-4611686018427387904 ≤ j) && decide (j < 4611686018427387904) then some (rgT 0 j.toNat) else none
  | _ => none
def rg2 (ts : List T) : Option (List T) := match ts with
  | [.int i, .int j] => if decide (-4611686018427387904 ≤ i) && decide (i < 4611686018427387904) && decide (-4611686018427387904 ≤ j) && decide (j < 4611686018427387904) then some (rgT i (j - i).toNat) else none
  | _ => none
def calI (o : List T → Option (List T)) (fs : M (List T)) : M (List T) := fun ρ => (fs ρ).bind fun ts ρ => liftO (o ts) ρ
theorem wk_range {F : Hp} {lo : Int} {n : Nat} : Wk X F (Itr lo n) (rgT lo n) := by
  have w := walk_range (lo := lo) (n := n)
  have e : (rgT lo n).length = n := by simp [rgT]
  unfold Wk
  rw [e]
  refine w.mono (fun _ _ => trivial) fun i H v H' hi _ y => ?_
  obtain ⟨rfl, rfl⟩ := y
  exact ⟨.int (lo + (i : Nat)), by simp [rgT, hi], .inl ⟨rfl, rfl⟩⟩
theorem fi_range1 {tg a : Expr} {fs : M (List T)} {p : Pos} (hg : Gl X "range") (hm : X.mg "range" = none) (ha : FA X E [a] fs) (hs : starEach [a] X.env = [(false, eval a X.env)] := by rfl) : FI X E tg (.Call (.Name "range" p) [a] [] pos) (calI rg1 fs) := by
  refine pi_imp (pi_range1 hg hm ha hs) fun σ H Q h => ?_
  obtain ⟨k, F, ρ, R, h⟩ := h
  refine ⟨k, F, ρ, R, (Den.bind h).imp fun ts ρ1 h1 vs F1 H1 R1 s1 r1 => ?_⟩
  obtain ⟨us, e, q⟩ := Den.lift h1
  unfold rg1 at e
  split at e
  · rename_i j
    split at e
    · rename_i hb
      cases e
      rw [Bool.and_eq_true] at hb
      have b1 := of_decide_eq_true hb.1
      have b2 := of_decide_eq_true hb.2
      obtain ⟨v, rfl, h2⟩ := r1.one_of
      have ev : v = .int j := h2
      subst ev
      exact ⟨j, rfl, by omega, by omega, q _ F1 H1 R1 s1 wk_range⟩
    · cases e
  · cases e
theorem fi_range2 {tg a b : Expr} {fs : M (List T)} {p : Pos} (hg : Gl X "range") (hm : X.mg "range" = none) (ha : FA X E [a, b] fs) (hs : starEach [a, b] X.env = [(false, eval a X.env), (false, eval b X.env)] := by rfl) (hs2 : starEach [b] X.env = [(false, eval b X.env)] := by rfl) : FI X E tg (.Call (.Name "range" p) [a, b] [] pos) (calI rg2 fs) := by
  refine pi_imp (pi_range2 hg hm ha hs hs2) fun σ H Q h => ?_
  obtain ⟨k, F, ρ, R, h⟩ := h
  refine ⟨k, F, ρ, R, (Den.bind h).imp fun ts ρ1 h1 vs F1 H1 R1 s1 r1 => ?_⟩
  obtain ⟨us, e, q⟩ := Den.lift h1
  unfold rg2 at e
  split at e
  · rename_i i j
    split at e
    · rename_i hb
      cases e
      rw [Bool.and_eq_true, Bool.and_eq_true, Bool.and_eq_true] at hb
      have b1 := of_decide_eq_true hb.1.1.1
      have b2 := of_decide_eq_true hb.1.1.2
      have b3 := of_decide_eq_true hb.1.2
      have b4 := of_decide_eq_true hb.2
      obtain ⟨v, w, rfl, h2, h3⟩ := r1.two_of
      have ev : v = .int i := h2
      have ew : w = .int j := h3
      subst ev ew
      exact ⟨i, j, rfl, ⟨by omega, by omega, by omega, by omega⟩, q _ F1 H1 R1 s1 wk_range⟩
    · cases e
  · cases e
/-! ### for -/
def forL (g : MG) (body : MS) : List T → MS
  | [], ρ => .ok .nx ρ
  | t :: ts, ρ => match g t ρ with
    | none => .bad
    | some ρ => (body ρ).bind fun fl ρ => match fl with
      | .nx => forL g body ts ρ
      | .ct => forL g body ts ρ
      | .bk => .ok .nx ρ
      | .rt t => .ok (.rt t) ρ
def sFor (src : M (List T)) (g : MG) (body : MS) : MS := fun ρ => (src ρ).bind fun ts ρ => forL g body ts ρ
theorem fs_for {tg iter : Expr} {body : List Stmt} {src : M (List T)} {g : MG} {is : List Nat} {sb : MS} (hp : PassesOwn (model X.prog X.w) X.A X.env X.xe) (hc : X.calm = true) (hi : FI X E tg iter src) (hg : FG X is tg g) (hb : FSs X E body sb)
    (hs : ∀ x, foldedSetIterable iter X.env x = pure x := by intro _; rfl) : FS X E (.For tg iter body [] pos) (sFor src g sb) := by
  refine ps_imp (ps_for hp hc hi hg hb hs) fun D σ H h => ?_
  obtain ⟨k, F, ρ, R, h⟩ := h
  refine ⟨k, F, ρ, R, (Den.bind h).imp fun ts ρ1 h1 J F1 H1 R1 s1 w1 => ?_⟩
  refine for_it w1 (fun i σ' H' => ∃ F' ρ', RSk X k F' ρ' σ' H' ∧ Same F1 F' ∧ Den (forL g sb (ts.drop i) ρ') (Post X k F D) (XOk X.K X.mg k E)) ⟨F1, ρ1, R1, Same.refl _, h1⟩ (fun i σ' H' _ q => ?_) (fun i x σ' H' H'' hlt q y => ?_) (fun σ' H' q => ?_)
  · obtain ⟨F', ρ', R', s', _⟩ := q
    exact s'.trans R'.fh
  · obtain ⟨F', ρ', R', s', d⟩ := q
    obtain ⟨t, F2, et, R2, s2, r2⟩ := (y.grow s').take R'
    have ed : ts.drop i = t :: ts.drop (i + 1) := by
      rw [List.drop_eq_getElem_cons hlt]
      rw [List.getElem?_eq_getElem hlt] at et
      rw [Option.some.inj et]
    rw [ed] at d
    unfold forL at d
    split at d
    · exact d.elim
    · rename_i ρ2 e2
      refine ⟨k, F2, ρ', t, R2, r2, ρ2, e2, fun σ3 F3 H3 R3 s3 _ _ => ⟨k, F3, ρ2, R3, (Den.bind d).imp fun fl ρ4 q4 => ?_⟩⟩
      have sAll : Same F F3 := s1.trans (s'.trans (s2.trans s3))
      cases fl with
      | nx => exact fun σ5 F5 H5 R5 s5 => ⟨F5, ρ4, R5, s'.trans (s2.trans (s3.trans s5)), q4⟩
      | ct => exact fun σ5 F5 H5 R5 s5 => ⟨F5, ρ4, R5, s'.trans (s2.trans (s3.trans s5)), q4⟩
      | bk => exact fun σ5 F5 H5 R5 s5 => q4 σ5 F5 H5 R5 (sAll.trans s5)
      | rt t => exact fun v σ5 F5 H5 R5 s5 r5 => q4 v σ5 F5 H5 R5 (sAll.trans s5) r5
  · obtain ⟨F', ρ', R', s', d⟩ := q
    rw [List.drop_length] at d
    exact d σ' F' H' R' (s1.trans s')
/-! ### while -/
end
end FL

/-! FL6: comprehensions; objects changed; calls of defs. -/
namespace FL
open PySem PySem.Spec L2

/-! ### another view of the slots -/
section
variable {K : PySem.W.Frag} {mg : Str → Option Value} {B F0 F F' : Hp} {pm : Option Addr} {ρ ρ' ys : Env} {σ σ' ws : L2.St} {H H' : Hp} {i : Nat} {x : SV}
theorem RS.re (R : RS K mg B F0 pm rw F ρ σ H) (hl : ρ'.length = σ'.length) (h : ∀ (i : Nat) (x : SV), ρ'[i]? = some x → x = SV.un ∨ (∃ t v, x = .fz t ∧ σ'[i]? = some (some v) ∧ Rep K mg F t v) ∨ (ρ[i]? = some x ∧ σ'[i]? = σ[i]?)) : RS K mg B F0 pm rw F ρ' σ' H := by
  obtain ⟨α, h1, h2⟩ := R.ex
  have own : ∀ (i : Nat) (x : SV), ρ'[i]? = some x → x.owned = true → ρ[i]? = some x := fun i x hx ox => by
    rcases h i x hx with e | ⟨t, v, e, _⟩ | ⟨e, _⟩
    · subst e; cases ox
    · subst e; cases ox
    · exact e
  refine ⟨hl, R.fh, R.bh, R.f0, R.fr, R.pt, R.tb, α, fun i x hx => ?_, fun j k x y hx hy ox oy ne => h2 j k x y (own j x hx ox) (own k y hy oy) ox oy ne⟩
  rcases h i x hx with e | ⟨t, v, e, e1, e2⟩ | ⟨e, e1⟩
  · subst e; trivial
  · subst e; exact ⟨v, e1, e2⟩
  · have q := h1 i x e
    cases x with
    | un => trivial
    | fz t => obtain ⟨v, a, b⟩ := q; exact ⟨v, e1.trans a, b⟩
    | raw n => obtain ⟨v, a, b⟩ := q; exact ⟨v, e1.trans a, b⟩
    | ow o => obtain ⟨a, b⟩ := q; exact ⟨e1.trans a, b⟩
    | pa o => obtain ⟨a, b⟩ := q; exact ⟨e1.trans a, b⟩
/-- the slot x with another object -/
def SV.to (x : SV) (o' : O) : SV := match x with
  | .pa _ => .pa o'
  | _ => .ow o'
theorem RS.chg {o o' : O} (R : RS K mg B F0 pm rw F ρ σ H) (hi : ρ[i]? = some x) (hx : x = .ow o ∨ x = .pa o) : ∃ a h, σ[i]? = some (some (.ref a)) ∧ F a = none ∧ H a = some h ∧ ORep K mg F o h ∧
    ∀ {h'}, ORep K mg F o' h' → RS K mg B F0 pm rw F (ρ.set i (x.to o')) σ (upd H a h') := by
  obtain ⟨α, h1, h2⟩ := R.ex
  have q : σ[i]? = some (some (.ref (α i))) ∧ F (α i) = none ∧ B (α i) = none ∧ ∃ h, H (α i) = some h ∧ ORep K mg F o h := by
    have q := h1 i x hi
    rcases hx with e | e
    · subst e; obtain ⟨a, b, c, d, e⟩ := q; exact ⟨a, b, c, e⟩
    · subst e; obtain ⟨a, b, c, d, e⟩ := q; exact ⟨a, b, c, e⟩
  obtain ⟨es, fn, bn, h, hh, ro⟩ := q
  refine ⟨α i, h, es, fn, hh, ro, fun {h'} r' => ?_⟩
  have ox : x.owned = true := by rcases hx with e | e <;> subst e <;> rfl
  have hlt : i < ρ.length := (List.getElem?_eq_some_iff.mp hi).1
  have keep : ∀ (G : Hp), Same G H → G (α i) = none → Same G (upd H (α i) h') := fun G s n b u e => by
    rw [upd_ne (ne_of_none e n)]; exact s _ _ e
  have src : ∀ (j : Nat) (y : SV), (ρ.set i (x.to o'))[j]? = some y → (j = i ∧ y = (x.to o')) ∨ (j ≠ i ∧ ρ[j]? = some y) := fun j y hy => by
    by_cases e : j = i
    · subst e
      rw [List.getElem?_set_self hlt] at hy
      exact .inl ⟨rfl, (Option.some.inj hy).symm⟩
    · rw [List.getElem?_set_ne (Ne.symm e)] at hy
      exact .inr ⟨e, hy⟩
  have was : ∀ (j : Nat) (y : SV), (ρ.set i (x.to o'))[j]? = some y → y.owned = true → ∃ z : SV, ρ[j]? = some z ∧ z.owned = true := fun j y hy oy => by
    rcases src j y hy with ⟨e, _⟩ | ⟨_, e⟩
    · subst e; exact ⟨x, hi, ox⟩
    · exact ⟨y, e, oy⟩
  refine ⟨by simpa using R.len, keep F R.fh fn, keep B R.bh bn, R.f0, R.fr, fun a z => ?_, R.tb.updH hh ro.plain, α, fun j y hy => ?_, fun j m y z hy hz oy oz ne => ?_⟩
  · obtain ⟨u, q⟩ := R.pt a z
    by_cases ha : a = α i
    · exact ⟨h', by rw [ha, upd_same]⟩
    · exact ⟨u, by rw [upd_ne ha]; exact q⟩
  · rcases src j y hy with ⟨e, ey⟩ | ⟨ne, e⟩
    · subst e
      have q := h1 j x hi
      rcases hx with e | e
      · subst e
        have ey' : y = .ow o' := ey
        subst ey'
        obtain ⟨a, b, c, d, _⟩ := q
        exact ⟨a, b, c, d, h', upd_same, r'⟩
      · subst e
        have ey' : y = .pa o' := ey
        subst ey'
        obtain ⟨a, b, c, d, _⟩ := q
        exact ⟨a, b, c, d, h', upd_same, r'⟩
    · have q := h1 j y e
      cases y with
      | un => trivial
      | fz t => exact q
      | raw n => exact q
      | ow o1 =>
        obtain ⟨a, b, c, d, u, e1, e2⟩ := q
        exact ⟨a, b, c, d, u, by rw [upd_ne (h2 j i _ x e hi rfl ox ne)]; exact e1, e2⟩
      | pa o1 =>
        obtain ⟨a, b, c, d, u, e1, e2⟩ := q
        exact ⟨a, b, c, d, u, by rw [upd_ne (h2 j i _ x e hi rfl ox ne)]; exact e1, e2⟩
  · obtain ⟨y', hy', oy'⟩ := was j y hy oy
    obtain ⟨z', hz', oz'⟩ := was m z hz oz
    exact h2 j m y' z' hy' hz' oy' oz' ne
end

/-! ### a block's own slots -/
def wipeE (ρ : Env) : List Nat → Env
  | [] => ρ
  | v :: vs => (wipeE ρ vs).set v .un
def bring (ρ0 ρ : Env) : List Nat → Env
  | [] => ρ
  | v :: vs => (bring ρ0 ρ vs).set v (ρ0.getD v .un)
def freeS (ρ : Env) (vs : List Nat) : Bool := vs.all fun v => match ρ[v]? with
  | some (.ow _) => false
  | some (.pa _) => false
  | some (.raw _) => false
  | _ => true
theorem wipeE_length (ρ : Env) : ∀ vs : List Nat, (wipeE ρ vs).length = ρ.length
  | [] => rfl
  | v :: vs => by unfold wipeE; rw [List.length_set, wipeE_length ρ vs]
theorem bring_length (ρ0 ρ : Env) : ∀ vs : List Nat, (bring ρ0 ρ vs).length = ρ.length
  | [] => rfl
  | v :: vs => by unfold bring; rw [List.length_set, bring_length ρ0 ρ vs]
theorem wipeE_get {ρ : Env} {i : Nat} {x : SV} : ∀ {vs : List Nat}, (wipeE ρ vs)[i]? = some x → x = .un ∨ (ρ[i]? = some x ∧ i ∉ vs)
  | [], h => .inr ⟨h, by simp⟩
  | v :: vs, h => by
    unfold wipeE at h
    by_cases e : v = i
    · subst e
      have hl := (List.getElem?_eq_some_iff.mp h).1
      rw [List.length_set] at hl
      rw [List.getElem?_set_self hl] at h
      exact .inl (Option.some.inj h).symm
    · rw [List.getElem?_set_ne e] at h
      rcases wipeE_get h with q | ⟨q, n⟩
      · exact .inl q
      · exact .inr ⟨q, by simp only [List.mem_cons, not_or]; exact ⟨fun z => e z.symm, n⟩⟩
theorem wipe_get {σ : L2.St} {i : Nat} : ∀ {vs : List Nat}, i ∉ vs → (wipe σ vs)[i]? = σ[i]?
  | [], _ => rfl
  | v :: vs, h => by
    simp only [List.mem_cons, not_or] at h
    unfold wipe
    rw [List.getElem?_set_ne (fun z => h.1 z.symm)]
    exact wipe_get h.2
theorem wipe_un {σ : L2.St} {i : Nat} : ∀ {vs : List Nat}, i ∈ vs → i < σ.length → (wipe σ vs)[i]? = some none
  | v :: vs, h, hl => by
    unfold wipe
    by_cases e : v = i
    · subst e
      rw [List.getElem?_set_self (by rw [wipe_length]; exact hl)]
    · rw [List.getElem?_set_ne e]
      exact wipe_un ((List.mem_cons.mp h).resolve_left fun z => e z.symm) hl
theorem wipe_eq {σ σ' : L2.St} {vs : List Nat} (hl : σ'.length = σ.length) (h : ∀ j, j ∉ vs → σ'[j]? = σ[j]?) : wipe σ' vs = wipe σ vs := by
  apply List.ext_getElem?
  intro i
  by_cases hi : i ∈ vs
  · by_cases hlt : i < σ.length
    · rw [wipe_un hi (by omega), wipe_un hi hlt]
    · rw [List.getElem?_eq_none (by rw [wipe_length]; omega), List.getElem?_eq_none (by rw [wipe_length]; omega)]
  · rw [wipe_get hi, wipe_get hi, h i hi]
theorem bring_get {ρ0 ρ : Env} {i : Nat} : ∀ {vs : List Nat}, (i ∉ vs → (bring ρ0 ρ vs)[i]? = ρ[i]?) ∧ (i ∈ vs → i < ρ.length → (bring ρ0 ρ vs)[i]? = some (ρ0.getD i .un))
  | [] => ⟨fun _ => rfl, fun h => by cases h⟩
  | v :: vs => by
    refine ⟨fun h => ?_, fun h hl => ?_⟩
    · simp only [List.mem_cons, not_or] at h
      unfold bring
      rw [List.getElem?_set_ne (fun z => h.1 z.symm)]
      exact bring_get.1 h.2
    · unfold bring
      by_cases e : v = i
      · subst e
        rw [List.getElem?_set_self (by rw [bring_length]; exact hl)]
      · rw [List.getElem?_set_ne e]
        exact bring_get.2 ((List.mem_cons.mp h).resolve_left fun z => e z.symm) hl
theorem freeS_bring {ρ0 ρ : Env} {vs : List Nat} (h : freeS ρ0 vs = true) (hl : ρ.length = ρ0.length) : freeS (bring ρ0 ρ vs) vs = true := by
  unfold freeS at h ⊢
  rw [List.all_eq_true] at h ⊢
  intro v hv
  have q := h v hv
  by_cases hlt : v < ρ.length
  · rw [bring_get.2 hv hlt]
    have e : ρ0[v]? = some (ρ0.getD v .un) := by
      rw [List.getD_eq_getElem?_getD, List.getElem?_eq_getElem (by omega)]
      rfl
    rw [e] at q
    exact q
  · rw [List.getElem?_eq_none (by rw [bring_length]; omega)]
section
variable {K : PySem.W.Frag} {mg : Str → Option Value} {B F0 F F' : Hp} {pm : Option Addr} {ρ ρ' ρ0 : Env} {σ σ' : L2.St} {H H' H0 : Hp} {vs : List Nat}
theorem RS.wiped (R : RS K mg B F0 pm rw F ρ σ H) (vs : List Nat) : RS K mg B F0 pm rw F (wipeE ρ vs) (wipe σ vs) H := by
  refine R.re (by rw [wipeE_length, wipe_length]; exact R.len) fun i x hx => ?_
  rcases wipeE_get hx with e | ⟨e, n⟩
  · exact .inl e
  · exact .inr (.inr ⟨e, wipe_get n⟩)
theorem RS.brought {B0 : Hp} {F1 : Hp} {p0 : Option Addr} (R : RS K mg B F0 pm rw F' ρ' σ' H') (R0 : RS K mg B0 F1 p0 rw F ρ0 σ H0) (s : Same F F') (hl : σ'.length = σ.length) (h : ∀ j, j ∉ vs → σ'[j]? = σ[j]?) (hf : freeS ρ0 vs = true) :
    RS K mg B F0 pm rw F' (bring ρ0 ρ' vs) σ H' := by
  have l0 := R0.len
  have l1 := R.len
  refine R.re (by rw [bring_length, l1, hl]) fun i x hx => ?_
  have hi : i < ρ'.length := by
    have := (List.getElem?_eq_some_iff.mp hx).1
    rwa [bring_length] at this
  by_cases hv : i ∈ vs
  · rw [bring_get.2 hv hi] at hx
    have e : ρ0[i]? = some (ρ0.getD i .un) := by
      rw [List.getD_eq_getElem?_getD, List.getElem?_eq_getElem (by omega)]
      rfl
    have ex := Option.some.inj hx
    rw [ex] at e
    unfold freeS at hf
    rw [List.all_eq_true] at hf
    have q := hf i hv
    rw [e] at q
    cases x with
    | un => exact .inl rfl
    | fz t =>
      obtain ⟨v, a, b⟩ := R0.slot e
      exact .inr (.inl ⟨t, v, rfl, a, b.mono s⟩)
    | ow o => cases q
    | pa o => cases q
    | raw n => cases q
  · rw [bring_get.1 hv] at hx
    exact .inr (.inr ⟨hx, (h i hv).symm⟩)
end
def noX {α : Type} (r : Res α) : Res α := match r with
  | .exc _ => .bad
  | r => r
theorem Den.noX {α : Type} {r : Res α} {p : α → Env → Prop} {x y : Ex → Prop} (h : Den (noX r) p x) : Den r p y := by
  cases r with
  | bad => exact h
  | exc e => exact (show False from h).elim
  | ok a ρ => exact h
/-! ### [e for x in xs if t] -/
def lcL (vs : List Nat) (g : MG) (test : M Bool) (elt : M T) : List T → List T → Env → Res (List T)
  | [], acc, ρ => .ok acc ρ
  | t :: ts, acc, ρ0 => match g t (wipeE ρ0 vs) with
    | none => .bad
    | some ρ1 => (noX (test ρ1)).bind fun b ρ2 => if b = true then (noX (elt ρ2)).bind fun y ρ3 => if acc.length < 16777216 then lcL vs g test elt ts (acc ++ [y]) (bring ρ0 ρ3 vs) else .bad
      else lcL vs g test elt ts acc (bring ρ0 ρ2 vs)
def lcM (vs : List Nat) (src : M (List T)) (g : MG) (test : M Bool) (elt : M T) : M O := fun ρ => (src ρ).bind fun ts ρ => if freeS ρ vs = true then (lcL vs g test elt ts [] ρ).bind fun l ρ => .ok (.l l) ρ else .bad
abbrev FTs (X : Cx) (E : XK) (ifs : List Expr) (f : M Bool) : Prop := PTs X ifs (tT X E f)
def yes : M Bool := fun ρ => .ok true ρ
section
variable {X : Cx} {E : XK} {e c : Expr} {es : List Expr} {pos : Pos} {f : M T} {fo : M O} {fs : M (List T)} {g : M Bool}
theorem fts_nil : FTs X E [] yes := ⟨fun pins s σ H Q I ⟨k, F, ρ, R, h⟩ => pts_nil.run pins s σ H Q I (h F H R (Same.refl _))⟩
theorem fts_one (h : FT X E c g) : FTs X E [c] g := pts_one h
/-- the lent slot at the end of the state -/
theorem end_slot {ρ : Env} {o : O} : (ρ ++ [SV.ow o])[ρ.length]? = some (.ow o) := by simp
theorem end_set {ρ : Env} {o : O} {x : SV} : (ρ ++ [SV.ow o]).set ρ.length x = ρ ++ [x] := by simp
theorem lc_of {own : List (Str × Nat)} {src : M (List T)} {gt : MG} {is : List Nat} {test : M Bool} (his : ∀ i ∈ is, i ∈ own.map (·.2)) {σ : L2.St} {H : Hp} {Q : VK} (h : tO X E (lcM (own.map (·.2)) src gt test f) σ H Q) :
    tLc (tI X E src) (tG X is gt) (tT X E0 test) (tE X E0 f) (own.map (·.2)) σ H Q := by
  obtain ⟨k, F, ρ, R, h⟩ := h
  refine ⟨k, F, ρ, R, (Den.bind h).imp fun ts ρ1 h1 J F1 H1 R1 s1 w1 => fun D nD => ?_⟩
  have hfree : freeS ρ1 (own.map (·.2)) = true := by
    cases e : freeS ρ1 (own.map (·.2)) with
    | true => rfl
    | false => rw [e] at h1; exact (show False from h1).elim
  rw [if_pos hfree] at h1
  have h2 := Den.bind h1
  refine lc_it w1 (fun i H' => ∃ F' ρ' acc, RSk X k F' (ρ' ++ [SV.ow (.l acc)]) (σ ++ [some (.ref D)]) H' ∧ ρ'.length = σ.length ∧ Same F1 F' ∧ freeS ρ' (own.map (·.2)) = true ∧
    Den (lcL (own.map (·.2)) gt test f (ts.drop i) acc ρ') (fun l ρ'' => Den (Res.ok (O.l l) ρ'') (fun o ρ' => ∀ v F' H', RSk X k F' (ρ' ++ [SV.ow o]) (σ ++ [some v]) H' → Same F F' → ρ'.length = σ.length → Q v H') (XOk X.K X.mg k E)) (XOk X.K X.mg k E)) ?_ (fun i H' _ q => ?_) (fun i x H' H'' hlt q y => ?_) (fun H' q => ?_)
  · exact ⟨F1, ρ1, [], R1.newO (o := .l []) ⟨[], rfl, .nil⟩ nD, R1.len, Same.refl _, hfree, h2⟩
  · obtain ⟨F', ρ', acc, R', _, s', _⟩ := q
    exact s'.trans R'.fh
  · obtain ⟨F', ρ', acc, R', l', s', fr', d⟩ := q
    obtain ⟨t, F2, et, R2, s2, r2⟩ := (y.grow s').take R'
    have ed : ts.drop i = t :: ts.drop (i + 1) := by
      rw [List.drop_eq_getElem_cons hlt]
      rw [List.getElem?_eq_getElem hlt] at et
      rw [Option.some.inj et]
    rw [ed] at d
    unfold lcL at d
    obtain ⟨p, ho, ep, fp, bp, npm, hp, ro, R0⟩ := RS.aside R2 l'
    cases ep
    have f0 : k.F0 D = none := R2.f0.free fp
    split at d
    · exact d.elim
    · rename_i ρ2 e2
      let k' : Bk := ⟨upd k.B D ho, k.F0, k.pm, k.rw⟩
      refine ⟨k', F2, _, t, R0.wiped (own.map (·.2)), r2, ρ2, e2, fun σ3 F3 H3 R3 s3 l3 d3 => ⟨?_, ?_⟩⟩
      · rw [wipe_eq l3 fun j hj => d3 j fun z => hj (his j z)]
        exact wipe_eq (by rw [wipe_length]) fun j hj => wipe_get hj
      · have dk : ∀ {σ' : L2.St}, σ' = σ3 → σ'.length = σ.length ∧ ∀ j, j ∉ own.map (·.2) → σ'[j]? = σ[j]? := fun {σ'} e => by
          subst e
          refine ⟨by rw [l3, wipe_length], fun j hj => ?_⟩
          rw [d3 j fun z => hj (his j z), wipe_get hj]
        refine ⟨k', F3, ρ2, R3, Den.noX (y := XOk X.K X.mg k' E0) ((Den.bind d).imp fun b ρ4 d4 => fun F4 H4 R4 s4 => ?_)⟩
        split at d4
        · rename_i eb
          rw [if_pos eb]
          refine ⟨k', F4, ρ4, R4, Den.noX (y := XOk X.K X.mg k' E0) ((Den.bind d4).imp fun z ρ5 d5 => fun v F5 H5 R5 s5 r5 => ?_)⟩
          split at d5
          · rename_i hz
            have sx : Same F2 F5 := s3.trans (s4.trans s5)
            have R6 := RS.brought R5 R0 sx (dk rfl).1 (dk rfl).2 fr'
            have l6 : (bring ρ' ρ5 (own.map (·.2))).length = σ.length := R6.len
            have R7 := RS.back (ys := []) (ws := []) (by rw [List.append_nil, List.append_nil]; exact R6) l6 f0 bp npm (ro.mono sx)
            obtain ⟨a, h, ea, _, hh, roh, mk⟩ := RS.chg (o := .l acc) (o' := .l (acc ++ [z])) R7 end_slot (.inl rfl)
            have eD : a = D := by
              rw [l6] at ea
              simpa using ea.symm
            subst eD
            obtain ⟨accV, rfl, rv⟩ := roh
            refine ⟨accV, hh, by rw [← rv.length, szL]; exact hz, F5, bring ρ' ρ5 (own.map (·.2)), acc ++ [z], ?_, l6, s'.trans (s2.trans sx), freeS_bring fr' (by rw [R5.len, (dk rfl).1, l']), d5⟩
            have q := mk (h' := .lst (accV ++ [v])) ⟨_, rfl, rv.append (.one r5)⟩
            rw [end_set] at q
            exact q
          · exact d5.elim
        · rename_i eb
          rw [if_neg eb]
          have sx : Same F2 F4 := s3.trans s4
          have R6 := RS.brought R4 R0 sx (dk rfl).1 (dk rfl).2 fr'
          have l6 : (bring ρ' ρ4 (own.map (·.2))).length = σ.length := R6.len
          have R7 := RS.back (ys := []) (ws := []) (by rw [List.append_nil, List.append_nil]; exact R6) l6 f0 bp npm (ro.mono sx)
          exact ⟨F4, bring ρ' ρ4 (own.map (·.2)), acc, R7, l6, s'.trans (s2.trans sx), freeS_bring fr' (by rw [R4.len, (dk rfl).1, l']), d4⟩
  · obtain ⟨F', ρ', acc, R', l', s', _, d⟩ := q
    rw [List.drop_length] at d
    exact d _ F' H' R' (s1.trans s') l'
theorem fo_lc {elt tg iter : Expr} {ifs : List Expr} {scope : Scope} {own : List (Str × Nat)} {src : M (List T)} {gt : MG} {is : List Nat} {test : M Bool} (hc : X.calm = true) (hN : X.N.Nodup) (hi : FI X E tg iter src) (ok : BlkOk X.N X.env.scope scope own)
    (hg : ∀ (s : Shared) (H : Hp) (C : Addr) (cl : List (Str × Addr)) (fp : List Addr), PG (X.blk s H scope (compEnvC scope cl C X.env) fp) tg (tG X is gt)) (his : ∀ i ∈ is, i ∈ own.map (·.2))
    (ht : ∀ (s : Shared) (H : Hp) (C : Addr) (cl : List (Str × Addr)) (fp : List Addr), PTs (X.blk s H scope (compEnvC scope cl C X.env) fp) ifs (tT X E0 test))
    (he : ∀ (s : Shared) (H : Hp) (C : Addr) (cl : List (Str × Addr)) (fp : List Addr), PE (X.blk s H scope (compEnvC scope cl C X.env) fp) elt (tE X E0 f)) (hs : ∀ x, foldedSetIterable iter X.env x = pure x := by intro _; rfl) :
    FO X E (.ListComp elt [⟨tg, iter, ifs, 0⟩] scope pos) (lcM (own.map (·.2)) src gt test f) := pe_imp (pe_lc hc hN hi ok hg ht he hs) fun σ H Q h => lc_of his h
end
end FL

/-! FL7: objects of one's own; isinstance; slices; what a def is worth. -/
namespace FL
open PySem PySem.Spec L2

/-! ### objects of one's own -/
def SV.obj (x : SV) : Option O := match x with
  | .ow o => some o
  | .pa o => some o
  | _ => none
def rdOwn (i : Nat) (ρ : Env) : Option O := ρ[i]?.bind SV.obj
def setOwn (i : Nat) (o : O) (ρ : Env) : Env := match ρ[i]? with
  | some x => ρ.set i (x.to o)
  | none => ρ
theorem obj_cases {x : SV} {o : O} (h : x.obj = some o) : x = .ow o ∨ x = .pa o := by
  cases x <;> simp only [SV.obj, Option.some.injEq, reduceCtorEq] at h
  · subst h; exact .inl rfl
  · subst h; exact .inr rfl
section
variable {K : PySem.W.Frag} {mg : Str → Option Value} {B F0 F F' : Hp} {pm : Option Addr} {ρ ρ' : Env} {σ σ' : L2.St} {H H' : Hp} {i : Nat}
theorem RS.own {o : O} (R : RS K mg B F0 pm rw F ρ σ H) (h : rdOwn i ρ = some o) : ∃ a h, σ[i]? = some (some (.ref a)) ∧ F a = none ∧ H a = some h ∧ ORep K mg F o h ∧
    ∀ {o' : O} {h' : HO}, ORep K mg F o' h' → RS K mg B F0 pm rw F (setOwn i o' ρ) σ (upd H a h') := by
  unfold rdOwn at h
  rw [Option.bind_eq_some_iff] at h
  obtain ⟨x, hx, ho⟩ := h
  obtain ⟨a, h, e1, e2, e3, e4, _⟩ := R.chg (o := o) (o' := o) hx (obj_cases ho)
  refine ⟨a, h, e1, e2, e3, e4, fun {o' h'} r => ?_⟩
  obtain ⟨a', h2, e1', _, _, _, mk⟩ := R.chg (o := o) (o' := o') hx (obj_cases ho)
  rw [e1] at e1'
  cases e1'
  unfold setOwn
  rw [hx]
  exact mk r
end
section
variable {X : Cx} {E : XK} {e b : Expr} {es : List Expr} {pos p : Pos} {f fb fv : M T} {fs : M (List T)} {i : Nat} {x : Str}
/-- the object in slot i, behind an evaluation -/
theorem own_two {k k' : Bk} {F F1 : Hp} {ρ ρ1 : Env} {σ : L2.St} {H H1 : Hp} {o : O} {a : Addr} {h : HO} (R1 : RSk X k F1 ρ1 σ H1) (es : σ[i]? = some (some (.ref a))) (h : rdOwn i ρ1 = some o) : ∃ h, F1 a = none ∧ H1 a = some h ∧ ORep X.K X.mg F1 o h ∧
    ∀ {o' : O} {h' : HO}, ORep X.K X.mg F1 o' h' → RSk X k F1 (setOwn i o' ρ1) σ (upd H1 a h') := by
  obtain ⟨a1, h1, e1, e2, e3, e4, mk⟩ := R1.own h
  rw [es] at e1
  cases e1
  exact ⟨h1, e2, e3, e4, mk⟩
def withOwn {α : Type} (i : Nat) (f : M α) : M α := fun ρ => match rdOwn i ρ with
  | some _ => f ρ
  | none => .bad
theorem Den.own {α : Type} {f : M α} {ρ : Env} {p : α → Env → Prop} {x : Ex → Prop} (h : Den (withOwn i f ρ) p x) : (∃ o, rdOwn i ρ = some o) ∧ Den (f ρ) p x := by
  unfold withOwn at h
  split at h
  · rename_i o e
    exact ⟨⟨o, e⟩, h⟩
  · exact h.elim
/-- x[e] = v -/
def sSetI (i : Nat) (fi fv : M T) : MS := fun ρ => (fv ρ).bind fun t ρ => withOwn i (fun ρ => (fi ρ).bind fun y ρ => match rdOwn i ρ, y with
  | some (.l ts), .int j => match idx ts.length j with
    | some m => .ok .nx (setOwn i (.l (ts.set m t)) ρ)
    | none => .bad
  | _, _ => .bad) ρ
theorem fs_setI {p2 : Pos} {fi : M T} (hN : X.N[i]? = some x := by rfl) (hv : Vis X.env.scope x := by first | exact Or.inl rfl | exact Or.inr (Or.inl rfl) | exact Or.inr (Or.inr rfl)) (hb : FE X E b fi) (he : FE X E e fv)
    (ha : ∀ v, assign (.Subscript (.Name x p) b p2) X.env v = (do
      let ov ← holding [v] (eval (.Name x p) X.env)
      let iv ← holding [v, ov] (eval b X.env)
      standAt p2
      holding [v, ov, iv] (setItem ov iv v)
      release [v, ov, iv] []) := by intro _; rfl) (hs : swapsWithSole [Expr.Subscript (.Name x p) b p2] e pos.line X.env = pure false := by rfl) (hw : swappedStores [Expr.Subscript (.Name x p) b p2] e X.env = pure none := by rfl)
    (h1 : (assignEach [Expr.Subscript (.Name x p) b p2] X.env).map (·.2) = [assign (Expr.Subscript (.Name x p) b p2) X.env] := by rfl) (hd : (x == ("__debug__" : Str)) = false := by decide) (hcd : (x == ("__classdict__" : Str)) = false := by decide) :
    FS X E (.Assign [.Subscript (.Name x p) b p2] e pos) (sSetI i fi fv) := by
  refine ps_imp (ps_asg he (pg_sub (pe_var hN hv hd hcd) hb set_list ha) hs hw h1) fun D σ H h => ?_
  obtain ⟨k, F, ρ, R, h⟩ := h
  refine ⟨k, F, ρ, R, (Den.bind h).imp fun t ρ1 h1 v F1 H1 R1 s1 r1 => ?_⟩
  obtain ⟨⟨o, ho⟩, h1⟩ := Den.own h1
  obtain ⟨a, h0, es, _⟩ := R1.own ho
  refine ⟨.ref a, es, k, F1, ρ1, R1, (Den.bind h1).imp fun y ρ2 h2 w F2 H2 R2 s2 r2 => ?_⟩
  split at h2
  · rename_i ts j e1
    split at h2
    · rename_i m em
      obtain ⟨h3, e2, e3, e4, mk⟩ := own_two (k' := k) (F := F) (ρ := ρ) (H := H) (h := h0) R2 es e1
      obtain ⟨vs, rfl, rv⟩ := e4
      refine ⟨a, vs, j, m, rfl, r2, e3, by rw [← rv.length]; exact em, ?_⟩
      exact h2 _ F2 _ (mk (o' := .l (ts.set m t)) ⟨_, rfl, rv.set (r1.mono s2) m⟩) (s1.trans s2)
    · exact h2.elim
  · exact h2.elim
def isL (o : Option O) : Bool := match o with
  | some (.l _) => true
  | _ => false
theorem tyV_own {k : Bk} {F : Hp} {ρ : Env} {σ : L2.St} {H : Hp} {a : Addr} {h : HO} {o : O} (e : H a = some h) (r : ORep X.K X.mg F o h) (hl : isL (some o) = true) : tyV X.K "list" (.ref a) H := by
  cases o with
  | l ts => obtain ⟨vs, rfl, _⟩ := r; exact .inl ⟨rfl, vs, SqL.of e⟩
  | dk _ _ => cases hl
  | dt _ _ => cases hl
def withL {α : Type} (i : Nat) (f : M α) : M α := fun ρ => if isL (rdOwn i ρ) = true then f ρ else .bad
theorem Den.ownL {α : Type} {f : M α} {ρ : Env} {p : α → Env → Prop} {x : Ex → Prop} (h : Den (withL i f ρ) p x) : (∃ ts, rdOwn i ρ = some (.l ts)) ∧ Den (f ρ) p x := by
  unfold withL at h
  split at h
  · rename_i e
    refine ⟨?_, h⟩
    cases q : rdOwn i ρ with
    | none => rw [q] at e; cases e
    | some o =>
      rw [q] at e
      cases o with
      | l ts => exact ⟨ts, rfl⟩
      | dk _ _ => cases e
      | dt _ _ => cases e
  · exact h.elim
def apnM (i : Nat) (f : M T) : M T := withL i fun ρ => (f ρ).bind fun y ρ => match rdOwn i ρ with
  | some (.l ts) => if ts.length < 16777216 then .ok .non (setOwn i (.l (ts ++ [y])) ρ) else .bad
  | _ => .bad
theorem fe_append {apos cpos : Pos} (hN : X.N[i]? = some x := by rfl) (he : FE X E e f) (hv : Vis X.env.scope x := by first | exact Or.inl rfl | exact Or.inr (Or.inl rfl) | exact Or.inr (Or.inr rfl)) (hd : (x == ("__debug__" : Str)) = false := by decide) (hcd : (x == ("__classdict__" : Str)) = false := by decide)
    (hbase : attributeBase (Expr.Name x p) "append" X.env (eval (Expr.Name x p) X.env) = eval (Expr.Name x p) X.env := by rfl)
    (hfew : ((backTo cpos (starEach [e] X.env)).all (fun x => !x.1) && (backToKw cpos (keywordEach [] X.env)).all (fun x => x.1.isSome)
      && decide ([e].length + ([] : List Keyword).length + (if ([] : List Keyword).isEmpty then 0 else 1) < 30)) = true := by rfl)
    (hline : (apos.endLine == cpos.line) = true := by rfl) (hs : starEach [e] X.env = (false, eval e X.env) :: starEach [] X.env := by rfl) (hplain : (backTo cpos (starEach [] X.env)).any (·.1) = false := by rfl) :
    FE X E (.Call (.Attribute (.Name x p) "append" apos) [e] [] cpos) (apnM i f) := by
  refine pe_imp (pe_bm PySem.F.plainAttrs_list PySem.F.slot_list_append PySem.F.type_list_append mt_append (pe_var hN hv hd hcd) (pa_cons he pa_nil hs) hbase hfew hline hs hplain) fun σ H Q h => ?_
  obtain ⟨k, F, ρ, R, h⟩ := h
  obtain ⟨⟨ts0, ho⟩, h⟩ := Den.ownL h
  obtain ⟨a, h0, es, e2, e3, e4, _⟩ := R.own ho
  refine ⟨.ref a, es, tyV_own (k := k) (ρ := ρ) (σ := σ) e3 e4 rfl, k, F, ρ, R, (Den.bind h).imp fun y ρ1 h1 v F1 H1 R1 s1 r1 => ?_⟩
  split at h1
  · rename_i ts e1
    split at h1
    · rename_i hz
      obtain ⟨h3, e2, e3, e4, mk⟩ := own_two (k' := k) (F := F) (ρ := ρ) (H := H) (h := h0) R1 es e1
      obtain ⟨vs, rfl, rv⟩ := e4
      rw [rv.length] at hz
      refine ⟨a, vs, v, rfl, rfl, e3, by rw [szL]; exact hz, ?_⟩
      exact h1 _ F1 _ (mk (o' := .l (ts ++ [y])) ⟨_, rfl, rv.append (.one r1)⟩) s1 rfl
    · exact h1.elim
  · exact h1.elim
theorem RS.freeze {K : PySem.W.Frag} {mg : Str → Option Value} {B F0 F : Hp} {pm : Option Addr} {ρ : Env} {σ : L2.St} {H : Hp} {o : O} (R : RS K mg B F0 pm rw F ρ σ H) (hi : ρ[i]? = some (.ow o)) :
    ∃ a F', σ[i]? = some (some (.ref a)) ∧ Same F F' ∧ Rep K mg F' (frzO o) (.ref a) ∧ RS K mg B F0 pm rw F' (ρ.set i (.fz (frzO o))) σ H := by
  obtain ⟨α, h1, h2⟩ := R.ex
  obtain ⟨es, fn, bn, npm, h, hh, ro⟩ := h1 i _ hi
  have hlt : i < ρ.length := (List.getElem?_eq_some_iff.mp hi).1
  have sF : Same F (upd F (α i) h) := same_upd fn
  have src : ∀ (j : Nat) (y : SV), (ρ.set i (.fz (frzO o)))[j]? = some y → (j = i ∧ y = .fz (frzO o)) ∨ (j ≠ i ∧ ρ[j]? = some y) := fun j y hy => by
    by_cases e : j = i
    · subst e
      rw [List.getElem?_set_self hlt] at hy
      exact .inl ⟨rfl, (Option.some.inj hy).symm⟩
    · rw [List.getElem?_set_ne (Ne.symm e)] at hy
      exact .inr ⟨e, hy⟩
  refine ⟨α i, upd F (α i) h, es, sF, rep_frz fn ro, ⟨by simpa using R.len, fun a u e => ?_, R.bh, R.f0.trans sF, fun a u e => ?_, R.pt, R.tb.updF2 hh ro.plain, α, fun j y hy => ?_, fun j m y z hy hz oy oz ne => ?_⟩⟩
  · by_cases ha : a = α i
    · subst ha; rw [upd_same] at e; cases e; exact hh
    · rw [upd_ne ha] at e; exact R.fh _ _ e
  · by_cases ha : a = α i
    · subst ha; exact .inr (.inl bn)
    · rw [upd_ne ha] at e; exact R.fr _ _ e
  · rcases src j y hy with ⟨e, ey⟩ | ⟨ne, e⟩
    · subst e ey
      exact ⟨_, es, rep_frz fn ro⟩
    · have q := h1 j y e
      cases y with
      | un => trivial
      | fz t => obtain ⟨v, a, b⟩ := q; exact ⟨v, a, b.mono sF⟩
      | raw n => obtain ⟨v, a, b⟩ := q; exact ⟨v, a, b⟩
      | ow o1 => obtain ⟨a, b, c, d, u, e1, e2⟩ := q; exact ⟨a, by rw [upd_ne (h2 j i _ _ e hi rfl rfl ne)]; exact b, c, d, u, e1, e2.mono sF⟩
      | pa o1 => obtain ⟨a, b, c, d, u, e1, e2⟩ := q; exact ⟨a, by rw [upd_ne (h2 j i _ _ e hi rfl rfl ne)]; exact b, c, d, u, e1, e2.mono sF⟩
  · have back : ∀ (n : Nat) (w : SV), (ρ.set i (.fz (frzO o)))[n]? = some w → w.owned = true → ρ[n]? = some w := fun n w hn ow => by
      rcases src n w hn with ⟨_, e⟩ | ⟨_, e⟩
      · subst e; cases ow
      · exact e
    exact h2 j m y z (back j y hy oy) (back m z hz oz) oy oz ne
/-! ### isinstance -/
inductive Ty where
  | non | bl | int | str | lst | tup | dct
  deriving DecidableEq
def Ty.nm : Ty → String
  | .non => "NoneType" | .bl => "bool" | .int => "int" | .str => "str" | .lst => "list" | .tup => "tuple" | .dct => "dict"
def tyT : T → Option Ty
  | .non => some .non
  | .bl _ => some .bl
  | .int _ => some .int
  | .str _ => some .str
  | .lst _ => some .lst
  | .sl _ => some .lst
  | .tup _ => some .tup
  | .dk _ _ => some .dct
  | _ => none
/-- of a type, a class's name (a builtin one) -/
def isTy (a b : Ty) : Bool := decide (a = b) || (decide (a = .bl) && decide (b = .int))
theorem isTy_ok (a b : Ty) : kitB a.nm b.nm = some (isTy a b) := by
  cases a <;> cases b <;> decide +kernel
theorem tyx_of {K : PySem.W.Frag} {mg : Str → Option Value} {F H : Hp} {t : T} {v : V} {y : Ty} (s : Same F H) (r : Rep K mg F t v) (e : tyT t = some y) : TyX K H v (.type y.nm) := by
  have sq : ∀ {a : Addr} {xs : List V}, SqL K H a xs → TyX K H (.ref a) (.type "list") := fun h => by
    rcases h with (h | ⟨o, h⟩) | ⟨o, its, n, h, c, _⟩
    · exact .base (.lst h)
    · exact .base (.frz h)
    · exact .kList h c
  have sqt : ∀ {a : Addr} {xs : List V}, SqT K H a xs → TyX K H (.ref a) (.type "tuple") := fun h => by
    rcases h with (h | ⟨o, h⟩) | ⟨o, its, n, h, c, _⟩
    · exact .base (.tup h)
    · exact .fTuple h
    · exact .kTuple h c
  cases t <;> simp only [tyT, Option.some.injEq, reduceCtorEq] at e <;> subst e
  · have ev : v = .non := r
    subst ev; exact .base .non
  · have ev : v = .bl _ := r
    subst ev; exact .base (.bl _)
  · have ev : v = .int _ := r
    subst ev; exact .base (.int _)
  · have ev : v = .str _ := r
    subst ev; exact .base (.str _)
  · obtain ⟨p, vs, rfl, h1, _⟩ := r; exact sq (SqL.of (s _ _ h1))
  · obtain ⟨p, vs, rfl, h1, _⟩ := r; exact sqt (same_SqT s h1)
  · obtain ⟨p, vs, rfl, h1, _⟩ := r; exact sq (same_SqL s h1)
  · obtain ⟨p, kvs, rfl, h1, _⟩ := r
    exact .base (.dK (s _ _ h1))
def isiO (b : Ty) (t : T) : Option T := (tyT t).map fun a => .bl (isTy a b)
theorem fe_isi (b : Ty) {ty : Str} {a : Expr} {p1 p2 : Pos} {fa : M T} (hg : Gl X "isinstance") (hm : X.mg "isinstance" = none) (hbt : bootBuiltins "isinstance" = some (.builtin "isinstance")) (hgt : Gl X ty) (hmt : X.mg ty = none) (hbty : bootBuiltins ty = some (.type b.nm)) (ha : FE X E a fa)
    (hn : ty ≠ "__name__" := by decide) (hdb : (ty == ("__debug__" : Str)) = false := by decide) (h1 : starEach [a, Expr.Name ty p2] X.env = (false, eval a X.env) :: starEach [Expr.Name ty p2] X.env := by rfl) (h2 : starEach [Expr.Name ty p2] X.env = (false, eval (Expr.Name ty p2) X.env) :: starEach [] X.env := by rfl)
    (hpl : (backTo pos (starEach [Expr.Name ty p2] X.env)).any (·.1) = false := by rfl) : FE X E (.Call (.Name "isinstance" p1) [a, .Name ty p2] [] pos) (op1 (isiO b) fa) := by
  refine pe_imp (pe_callB call_isi hg hm hbt (pa_cons ha (pa_cons (pe_bltn (v := .ty b.nm) hgt hmt hbty rfl hn hdb) pa_nil h2) h1) (by decide) (by decide) h1 hpl) fun σ H Q h => ?_
  obtain ⟨k, F, ρ, R, h⟩ := h
  refine ⟨k, F, ρ, R, (Den.bind h).imp fun t ρ1 h1 v F1 H1 R1 s1 r1 => ?_⟩
  obtain ⟨u, e, q⟩ := Den.lift h1
  unfold isiO at e
  rw [Option.map_eq_some_iff] at e
  obtain ⟨y, e, rfl⟩ := e
  exact ⟨v, .ty b.nm, .type y.nm, .type b.nm, isTy y b, rfl, .ty _, tyx_of R1.fh r1 e, kit_ty (isTy_ok y b), q _ F1 H1 R1 s1 rfl⟩
def isi2O (b c : Ty) (t : T) : Option T := (tyT t).map fun a => .bl (isTy a b || isTy a c)
theorem fe_isi2 (b c : Ty) {ty tz : Str} {a : Expr} {p1 p2 p3 p4 : Pos} {x1} {fa : M T} (hg : Gl X "isinstance") (hm : X.mg "isinstance" = none) (hbt : bootBuiltins "isinstance" = some (.builtin "isinstance")) (hgt : Gl X ty) (hmt : X.mg ty = none) (hbty : bootBuiltins ty = some (.type b.nm))
    (hgz : Gl X tz) (hmz : X.mg tz = none) (hbz : bootBuiltins tz = some (.type c.nm)) (ha : FE X E a fa)
    (hn : ty ≠ "__name__" := by decide) (hdb : (ty == ("__debug__" : Str)) = false := by decide) (hnz : tz ≠ "__name__" := by decide) (hdz : (tz == ("__debug__" : Str)) = false := by decide)
    (h1 : starEach [a, Expr.Tuple [.Name ty p2, .Name tz p3] x1 p4] X.env = (false, eval a X.env) :: starEach [Expr.Tuple [.Name ty p2, .Name tz p3] x1 p4] X.env := by rfl)
    (h2 : starEach [Expr.Tuple [.Name ty p2, .Name tz p3] x1 p4] X.env = (false, eval (Expr.Tuple [.Name ty p2, .Name tz p3] x1 p4) X.env) :: starEach [] X.env := by rfl)
    (h3 : starEach [Expr.Name ty p2, .Name tz p3] X.env = (false, eval (Expr.Name ty p2) X.env) :: starEach [Expr.Name tz p3] X.env := by rfl)
    (h4 : starEach [Expr.Name tz p3] X.env = (false, eval (Expr.Name tz p3) X.env) :: starEach [] X.env := by rfl)
    (hpl : (backTo pos (starEach [Expr.Tuple [.Name ty p2, .Name tz p3] x1 p4] X.env)).any (·.1) = false := by rfl) : FE X E (.Call (.Name "isinstance" p1) [a, .Tuple [.Name ty p2, .Name tz p3] x1 p4] [] pos) (op1 (isi2O b c) fa) := by
  refine pe_imp (pe_callB call_isiT hg hm hbt (pa_cons ha (pa_cons (pe_tup (pa_cons (pe_bltn (v := .ty b.nm) hgt hmt hbty rfl hn hdb) (pa_cons (pe_bltn (v := .ty c.nm) hgz hmz hbz rfl hnz hdz) pa_nil h4) h3)) pa_nil h2) h1) (by decide) (by decide) h1 hpl) fun σ H Q h => ?_
  obtain ⟨k, F, ρ, R, h⟩ := h
  refine ⟨k, F, ρ, R, (Den.bind h).imp fun t ρ1 h1 v F1 H1 R1 s1 r1 => ?_⟩
  obtain ⟨u, e, q⟩ := Den.lift h1
  unfold isi2O at e
  rw [Option.map_eq_some_iff] at e
  obtain ⟨y, e, rfl⟩ := e
  refine ⟨by show 2 ≤ sizeLine; decide, fun p np => ?_⟩
  have s2 : Same H1 (upd H1 p (.tup [.ty b.nm, .ty c.nm])) := same_upd np
  refine ⟨v, p, [.ty b.nm, .ty c.nm], .type y.nm, [.type b.nm, .type c.nm], isTy y b || isTy y c, rfl, upd_same, .cons (.ty _) (.cons (.ty _) .nil), tyx_of (R1.fh.trans s2) r1 e, ?_, q _ F1 _ (R1.grow s2) s1 rfl⟩
  refine kitAny_cons (kit_ty (isTy_ok y b)) (fun eb => ?_) (fun eb => by rw [eb]; rfl)
  rw [eb, Bool.false_or]
  refine kitAny_cons (kit_ty (isTy_ok y c)) (fun ec => by rw [ec]; exact kitAny_nil) (fun ec => ec)
/-! ### slices -/
abbrev MO := M (Option Int)
def tPO (X : Cx) (E : XK) (f : MO) : TO := fun σ H Q => ∃ k F ρ, RSk X k F ρ σ H ∧ Den (f ρ) (fun i ρ' => ∀ F' H', RSk X k F' ρ' σ H' → Same F F' → Q i H') (XOk X.K X.mg k E)
abbrev FPO (X : Cx) (E : XK) (e : Option Expr) (f : MO) : Prop := PO X e (tPO X E f)
def poN : MO := fun ρ => .ok none ρ
def poS (f : M T) : MO := fun ρ => (f ρ).bind fun t ρ => match t with
  | .int i => .ok (some i) ρ
  | _ => .bad
theorem fpo_none : FPO X E none poN := ⟨fun pins s σ H Q I ⟨k, F, ρ, R, h⟩ => po_none.run pins s σ H Q I (h F H R (Same.refl _))⟩
theorem fpo_some (h : FE X E e f) : FPO X E (some e) (poS f) := ⟨fun pins s σ H Q I hw => by
  obtain ⟨k, F, ρ, R, hw⟩ := hw
  refine (po_some h).run pins s σ H Q I ⟨k, F, ρ, R, (Den.bind hw).imp fun t ρ1 h1 v F1 H1 R1 s1 r1 => ?_⟩
  split at h1
  · rename_i j
    exact ⟨j, r1, h1 F1 H1 R1 s1⟩
  · exact h1.elim⟩
def cutT (xs : List T) (lo hi : Option Int) : List T := (xs.drop (HT.sIx xs.length 0 lo)).take (HT.sIx xs.length xs.length hi - HT.sIx xs.length 0 lo)
theorem Reps.cut {K : PySem.W.Frag} {mg : Str → Option Value} {F : Hp} {ts : List T} {vs : List V} (r : Reps K mg F ts vs) (lo hi : Option Int) : Reps K mg F (cutT ts lo hi) (cutV vs lo hi) := by
  unfold cutT cutV
  rw [r.length]
  exact (r.drop _).take _
def slO (t : T) (lo hi : Option Int) : Option T := match t with
  | .lst ts => some (.lst (cutT ts lo hi))
  | .tup ts => some (.tup (cutT ts lo hi))
  | .str z => if z.length ≤ 16777216 then some (.str (cutS z lo hi)) else none
  | _ => none
def slM (fa : M T) (fl fh : MO) : M T := fun ρ => (fa ρ).bind fun t ρ => (fl ρ).bind fun lo ρ => (fh ρ).bind fun hi ρ => liftO (slO t lo hi) ρ
def rSlice (X : Cx) : V → Option Int → Option Int → Hp → VK → Prop := fun x lo hi H Q => rSlL X.K x lo hi H Q ∨ rSlA X.K x lo hi H Q ∨ rSlS x lo hi H Q
theorem sl_all : SlR X (rSlice X) := SlR.or sl_list (SlR.or sl_tupA sl_str)
theorem fe_slice {lo hi : Option Expr} {fa : M T} {fl fh : MO} {p2 : Pos} (ha : FE X E e fa) (hl : FPO X E lo fl) (hh : FPO X E hi fh) : FE X E (.Subscript e (.Slice lo hi none p2) pos) (slM fa fl fh) := by
  refine pe_imp (pe_slice sl_all ha hl hh) fun σ H Q h => ?_
  obtain ⟨k, F, ρ, R, h⟩ := h
  refine ⟨k, F, ρ, R, (Den.bind h).imp fun t ρ1 h1 v F1 H1 R1 s1 r1 => ?_⟩
  refine ⟨k, F1, ρ1, R1, (Den.bind h1).imp fun l ρ2 h2 F2 H2 R2 s2 => ?_⟩
  refine ⟨k, F2, ρ2, R2, (Den.bind h2).imp fun u ρ3 h3 F3 H3 R3 s3 => ?_⟩
  obtain ⟨t', e, q⟩ := Den.lift h3
  have r3 := r1.mono (s2.trans s3)
  have sA : Same F F3 := s1.trans (s2.trans s3)
  unfold slO at e
  split at e
  · cases e
    obtain ⟨p, vs, rfl, g1, g2⟩ := r3
    refine .inl ⟨p, vs, rfl, SqL.of (R3.fh _ _ g1), fun p' np => ?_⟩
    have sF : Same F3 (upd F3 p' (.lst (cutV vs l u))) := same_upd (R3.fnone np)
    exact q _ _ _ (R3.newF np) (sA.trans sF) ⟨p', _, rfl, upd_same, (g2.cut l u).mono sF⟩
  · cases e
    obtain ⟨p, vs, rfl, g1, g2⟩ := r3
    refine .inr (.inl ⟨p, vs, rfl, same_SqT R3.fh g1, fun hw => ?_, fun _ p' np => ?_⟩)
    · refine q _ _ _ R3 sA ⟨p, vs, rfl, g1, ?_⟩
      have := g2.cut l u
      unfold cutV at this
      rw [hw.1, hw.2, List.drop_zero, Nat.sub_zero, List.take_length] at this
      exact this
    · have sF : Same F3 (upd F3 p' (.tup (cutV vs l u))) := same_upd (R3.fnone np)
      exact q _ _ _ (R3.newF np) (sA.trans sF) ⟨p', _, rfl, upd_same, (g2.cut l u).mono sF⟩
  · rename_i z
    split at e
    · rename_i hz
      cases e
      exact .inr (.inr ⟨z, r3, by rw [szL]; exact hz, q _ _ _ R3 sA rfl⟩)
    · cases e
  · cases e
end

/-! ### what a def is worth -/
/-- a def as a function upon trees (of a result the state means nothing) -/
abbrev Sg := List T → Res T
def spF (K : PySem.W.Frag) (mg : Str → Option Value) (g : Sg) : Sp := fun vs H Q E => ∃ B F ts, Same F H ∧ Same B H ∧ Tb K mg F B H ∧ Reps K mg F ts vs ∧
  Den (g ts) (fun t _ => ∀ v F' H', Same F' H' → Same B H' → Tb K mg F' B H' → Same F F' → (∀ a o, F' a = some o → (∃ u, F a = some u) ∨ NB B a o) → Rep K mg F' t v → Q v H') (XOk K mg ⟨B, F, none, []⟩ E)
def outF (r : Res Fl) : Res T := match r with
  | .bad => .bad
  | .exc e => .exc e
  | .ok (.rt t) _ => .ok t []
  | .ok .nx _ => .ok .non []
  | .ok _ _ => .bad
/-- of a body: n names, m parameters -/
def fnF (n m : Nat) (fb : MS) : Sg := fun ts => if ts.length = m ∧ m ≤ n then outF (fb (ts.map SV.fz ++ List.replicate (n - m) SV.un)) else .bad
structure Known (P : Program) (w : World) (K : PySem.W.Frag) (mg : Str → Option Value) (base : Heap) (k : Nat) (nm : Str) (g : Sg) : Prop where
  ok : ∃ (f : Addr) (fd : FuncData) (ps : List Str), mg nm = some (.ref f) ∧ PySem.W.keepIn K (.ref f) = true ∧ Binds K fd ps [] ∧ FnOk P w K mg base (L2.CX P w) k f fd ps (spF K mg g)
theorem Known.mono {P : Program} {w : World} {K : PySem.W.Frag} {mg : Str → Option Value} {base : Heap} {j k : Nat} {nm : Str} {g : Sg} (h : Known P w K mg base j nm g) (l : j ≤ k) : Known P w K mg base k nm g := by
  obtain ⟨f, fd, ps, a, b, c, d⟩ := h.ok
  exact ⟨f, fd, ps, a, b, c, d.mono l⟩
section
variable {P : Program} {w : World} {K : PySem.W.Frag} {mg : Str → Option Value} {base : Heap}
theorem Den.ne {α : Type} {r : Res α} {p : α → Env → Prop} {x : Ex → Prop} (h : Den r p x) : r ≠ .bad := fun e => by rw [e] at h; exact h
theorem start_slots {B F : Hp} {H : Hp} {N : List Str} {ts : List T} {vs : List V} (s : Same F H) (b : Same B H) (tb : Tb K mg F B H) (r : Reps K mg F ts vs) (hl : ts.length ≤ N.length) : RS K mg B F none rw F (ts.map SV.fz ++ List.replicate (N.length - ts.length) SV.un) (L2.start N vs) H := by
  have lv := r.length
  refine ⟨?_, s, b, Same.refl _, fun a o e => .inl ⟨o, e⟩, (fun a e => nomatch e), tb, fun _ => 0, fun i x hx => ?_, fun i j x y hx _ ox _ _ => ?_⟩
  · unfold L2.start
    simp only [List.length_append, List.length_map, List.length_replicate]
    omega
  · by_cases hi : i < ts.length
    · rw [List.getElem?_append_left (by simpa using hi), List.getElem?_map, List.getElem?_eq_getElem hi] at hx
      cases hx
      obtain ⟨v, h1, h2⟩ := r.get (List.getElem?_eq_getElem hi)
      refine ⟨v, ?_, h2⟩
      unfold L2.start
      rw [List.getElem?_append_left (by simp; omega), List.getElem?_map, h1]
      rfl
    · rw [List.getElem?_append_right (by simpa using hi), List.getElem?_replicate] at hx
      split at hx
      · cases hx; trivial
      · cases hx
  · exfalso
    by_cases hi : i < ts.length
    · rw [List.getElem?_append_left (by simpa using hi), List.getElem?_map, List.getElem?_eq_getElem hi] at hx
      cases hx; cases ox
    · rw [List.getElem?_append_right (by simpa using hi), List.getElem?_replicate] at hx
      split at hx
      · cases hx; cases ox
      · cases hx
/-- a def by its body -/
theorem fn_ok {x qual : Str} {st : Stmt} {f : Addr} {fd : FuncData} {N ps : List Str} {k : Nat} {fb : MS} (F : Fun K x qual st f fd) (S : FnScope N ps (defScope st))
    (hb : ∀ (cdv : Value) (A : Around) (outer : List PySem.Env) (s : Shared) (H : Hp) (E : XK), Room k (A.deeper (PyProof.Rows.envOfC qual (defScope st) s.heap.objs.size f cdv)) → FSs (cxOf (L2.CX P w) P w K mg base N qual (defScope st) f cdv A outer s H E) E (defBody st) fb) :
    FnOk P w K mg base (L2.CX P w) (k + 1) f fd ps (spF K mg (fnF N.length ps.length fb)) := by
  refine F.okX S (fun vs H Q E h => ?_) (fun cdv A outer s H vs Q E hr h => ?_)
  · obtain ⟨B, F, ts, _, _, _, r, d⟩ := h
    unfold fnF at d
    split at d
    · rename_i hl
      rw [← r.length]; exact hl.1
    · exact d.elim
  · obtain ⟨B, F', ts, sF, sB, tb, r, d⟩ := h
    refine ⟨_, hb cdv A outer s H E hr, ⟨B, F', none, []⟩, F', ts.map SV.fz ++ List.replicate (N.length - ps.length) SV.un, ?_, ?_⟩
    · unfold fnF at d
      split at d
      · rename_i hl
        have q := start_slots (rw := []) (N := N) sF sB tb r (by omega)
        rw [hl.1] at q
        exact q
      · exact d.elim
    · unfold fnF at d
      split at d
      · cases e : fb (ts.map SV.fz ++ List.replicate (N.length - ps.length) SV.un) with
        | bad => rw [e] at d; exact d
        | exc x => rw [e] at d; exact d
        | ok fl ρ =>
          rw [e] at d
          cases fl with
          | nx => exact fun σ' F2 H' R s' => d .non F2 H' R.fh R.bh R.tb s' (fun a o q => R.fr a o q) rfl
          | bk => exact d.elim
          | ct => exact d.elim
          | rt t => exact fun v σ' F2 H' R s' rv => d v F2 H' R.fh R.bh R.tb s' (fun a o q => R.fr a o q) rv
      · exact d.elim
end
/-- a call of a def -/
def calU (g : Sg) (fs : M (List T)) : M T := fun ρ => (fs ρ).bind fun ts ρ => match g ts with
  | .bad => .bad
  | .exc e => .exc e
  | .ok t _ => .ok t ρ
section
variable {X : Cx} {E : XK} {e : Expr} {es : List Expr} {pos p : Pos} {fs : M (List T)} {x : Str} {g : Sg}
theorem XOk.mono {K : PySem.W.Frag} {mg : Str → Option Value} {k k' : Bk} {x : Ex} (s : ∀ H, Lv K mg k' H → Lv K mg k H) (h : XOk K mg k E x) : XOk K mg k' E x := by
  obtain ⟨c, a⟩ := x
  cases a with
  | none => exact fun C H' m s' => h C H' m (s _ s')
  | some a => exact fun C d v F' H' m s' => h C d v F' H' m (s _ s')
/-- a heap without the law's tables -/
noncomputable def hideTab (K : PySem.W.Frag) (mg : Str → Option Value) (H : Hp) : Hp := fun b => by classical exact if LawTab K mg b then none else H b
section
variable {K : PySem.W.Frag} {mg : Str → Option Value} {F B H H' : Hp} {b : Addr} {u : HO}
theorem hideTab_tab (h : LawTab K mg b) : hideTab K mg H b = none := by unfold hideTab; exact if_pos h
theorem hideTab_ne (h : ¬ LawTab K mg b) : hideTab K mg H b = H b := by unfold hideTab; exact if_neg h
theorem hideTab_same : Same (hideTab K mg H) H := fun b u e => by
  by_cases h : LawTab K mg b
  · rw [hideTab_tab h] at e; cases e
  · rwa [hideTab_ne h] at e
theorem hideTab_none (h : hideTab K mg H b = none) : H b = none ∨ LawTab K mg b := by
  by_cases q : LawTab K mg b
  · exact .inr q
  · rw [hideTab_ne q] at h; exact .inl h
theorem hideTab_keep (s : Same (hideTab K mg H) H') (n : ¬ LawTab K mg b) (e : H b = some u) : H' b = some u := s _ _ (by rw [hideTab_ne n]; exact e)
theorem Tb.not (t : Tb K mg F B H) (e : B b = some u) : ¬ LawTab K mg b := fun q => by rw [t.b b q] at e; cases e
theorem Tb.notH {h : HO} (t : Tb K mg F B H) (e : H b = some h) (p : plainO h) : ¬ LawTab K mg b := fun q => t.x.ne e p q rfl
theorem Tb.hidden (t : Tb K mg F B H) : Tb K mg F (hideTab K mg H) H := ⟨t.x, t.f, fun P q => hideTab_tab q⟩
end
/-- behind a call of a def that changes nothing -/
theorem RS.called {K : PySem.W.Frag} {mg : Str → Option Value} {B F0 F F' : Hp} {pm : Option Addr} {ρ : Env} {σ : L2.St} {H H' : Hp} (R : RS K mg B F0 pm rw F ρ σ H) (s1 : Same F' H') (s2 : Same (hideTab K mg H) H') (tb : Tb K mg F' (hideTab K mg H) H') (s3 : Same F F') (fr : ∀ a o, F' a = some o → (∃ u, F a = some u) ∨ NB (hideTab K mg H) a o) : RS K mg B F0 pm rw F' ρ σ H' := by
  obtain ⟨α, h1, h2⟩ := R.ex
  have far : ∀ a h, (∀ vs, h ≠ .tup vs) → H a = some h → F a = none → F' a = none := fun a h nt e n => by
    cases q : F' a with
    | none => rfl
    | some u =>
      rcases fr a u q with ⟨w, e'⟩ | e'
      · rw [n] at e'; cases e'
      · rcases e' with e' | ⟨vs, rfl⟩
        · rcases hideTab_none e' with z | z
          · rw [e] at z; cases z
          · rw [tb.f a z] at q; cases q
        · exact (nt vs (Option.some.inj ((hideTab_keep s2 (fun z => by rw [tb.f a z] at q; cases q) e).symm.trans (s1 _ _ q)))).elim
  refine ⟨R.len, s1, fun a u e => hideTab_keep s2 (R.tb.not e) (R.bh _ _ e), R.f0.trans s3, fun a o e => ?_, fun a e => ?_, ⟨tb.x, tb.f, R.tb.b⟩, α, fun j y hy => ?_, h2⟩
  · rcases fr a o e with ⟨u, q⟩ | q
    · rcases R.fr a u q with z | z | ⟨vs, rfl⟩
      · exact .inl z
      · exact .inr (.inl z)
      · exact .inr (.inr ⟨vs, Option.some.inj ((s1 _ _ e).symm.trans (s1 _ _ (s3 _ _ q)))⟩)
    · rcases q with q | q
      · rcases hideTab_none q with z | z
        · exact .inr (.inl (R.bnone z))
        · rw [tb.f a z] at e; cases e
      · exact .inr (.inr q)
  · obtain ⟨o, q⟩ := R.pt a e
    by_cases z : LawTab K mg a
    · obtain ⟨ps, z1, _⟩ := tb.x a z
      exact ⟨_, z1⟩
    · exact ⟨o, hideTab_keep s2 z q⟩
  · have q := h1 j y hy
    cases y with
    | un => trivial
    | fz t => obtain ⟨v, a, b⟩ := q; exact ⟨v, a, b.mono s3⟩
    | raw n => obtain ⟨v, a, b⟩ := q; exact ⟨v, a, b⟩
    | ow o => obtain ⟨a, b, c, d, u, e1, e2⟩ := q; exact ⟨a, far _ _ e2.ntup e1 b, c, d, u, hideTab_keep s2 (R.tb.notH e1 e2.plain) e1, e2.mono s3⟩
    | pa o => obtain ⟨a, b, c, d, u, e1, e2⟩ := q; exact ⟨a, far _ _ e2.ntup e1 b, c, d, u, hideTab_keep s2 (R.tb.notH e1 e2.plain) e1, e2.mono s3⟩
/-- the exceptions that a callee lets out are let out by the caller -/
theorem RS.lv {K : PySem.W.Frag} {mg : Str → Option Value} {k : Bk} {F : Hp} {ρ : Env} {σ : L2.St} {H : Hp} (R : RS K mg k.B k.F0 k.pm k.rw F ρ σ H) (H' : Hp) (l : Lv K mg ⟨hideTab K mg H, F, none, []⟩ H') : Lv K mg k H' := by
  refine ⟨fun a u e => hideTab_keep l.1 (R.tb.not e) (R.bh _ _ e), R.f0.trans l.2.1, fun a e => ?_, l.2.2.2⟩
  obtain ⟨o, q⟩ := R.pt a e
  by_cases z : LawTab K mg a
  · obtain ⟨ps, z1, _⟩ := l.2.2.2 a z
    exact ⟨_, z1⟩
  · exact ⟨o, hideTab_keep l.1 z q⟩
theorem fe_call {k : Nat} (Kn : Known X.prog X.w X.K X.mg X.base k x g) (hr : Room k X.A) (hg : Gl X x) (hx : Passes (L2.CX X.prog X.w) X E) (ha : FA X E (e :: es) fs) (hdb : (x == ("__debug__" : Str)) = false := by decide)
    (he : starEach (e :: es) X.env = (false, eval e X.env) :: starEach es X.env := by rfl) (hpl : (backTo pos (starEach es X.env)).any (·.1) = false := by rfl) : FE X E (.Call (.Name x p) (e :: es) [] pos) (calU g fs) := by
  obtain ⟨f, fd, ps, hm, hk, hb, F⟩ := Kn.ok
  refine pe_imp (pe_call F hr hg hm hk hb .nil hx ha hdb he hpl) fun σ H Q h => ?_
  obtain ⟨kk, F, ρ, R, h⟩ := h
  refine ⟨kk, F, ρ, R, (Den.bind h).imp fun ts ρ1 h1 vs F1 H1 R1 s1 r1 => ?_⟩
  show spF X.K X.mg g (vs ++ []) H1 Q E
  rw [List.append_nil]
  refine ⟨hideTab X.K X.mg H1, F1, ts, R1.fh, hideTab_same, R1.tb.hidden, r1, ?_⟩
  cases eg : g ts with
  | bad => rw [eg] at h1; exact h1
  | exc x => rw [eg] at h1; exact XOk.mono (fun H' l => R1.lv H' l) h1
  | ok t ρx =>
    rw [eg] at h1
    exact fun v F' H' a b t c d r => h1 v F' H' (R1.called a b t c d) (s1.trans c) r
end
end FL

/-! FL8: defs that change an object that the caller lends; the law's end. -/
namespace FL
open PySem PySem.Spec L2

abbrev SgM := O → List T → Res (T × O)
def spM (K : PySem.W.Frag) (mg : Str → Option Value) (g : SgM) : Sp := fun vs H Q E => ∃ B F a h o ws ts, vs = .ref a :: ws ∧ Same F H ∧ Same B H ∧ Tb K mg F B H ∧ F a = none ∧ B a = none ∧ H a = some h ∧ ORep K mg F o h ∧ Reps K mg F ts ws ∧
  Den (g o ts) (fun r _ => ∀ v F' H' h', Same F' H' → Same B H' → Tb K mg F' B H' → Same F F' → (∀ b u, F' b = some u → (∃ u, F b = some u) ∨ NB B b u) → F' a = none → H' a = some h' → ORep K mg F' r.2 h' → Rep K mg F' r.1 v → Q v H') (fun _ => False)
def lent (ρ : Env) : Option O := match ρ with
  | .pa o :: _ => some o
  | _ => none
theorem lent_some {ρ : Env} {o : O} (h : lent ρ = some o) : ρ[0]? = some (.pa o) := by
  unfold lent at h
  split at h
  · cases h; rfl
  · cases h
def outV (t : T) (ρ : Env) : Res (T × O) := match lent ρ with
  | some o => .ok (t, o) []
  | none => .bad
def outM (r : Res Fl) : Res (T × O) := match r with
  | .ok (.rt t) ρ => outV t ρ
  | .ok .nx ρ => outV .non ρ
  | _ => .bad
def fnM (n m : Nat) (fb : MS) : SgM := fun o ts => if ts.length + 1 = m ∧ m ≤ n then outM (fb (SV.pa o :: (ts.map SV.fz ++ List.replicate (n - m) SV.un))) else .bad
structure KnownM (P : Program) (w : World) (K : PySem.W.Frag) (mg : Str → Option Value) (base : Heap) (k : Nat) (nm : Str) (g : SgM) : Prop where
  ok : ∃ (f : Addr) (fd : FuncData) (ps : List Str), mg nm = some (.ref f) ∧ PySem.W.keepIn K (.ref f) = true ∧ Binds K fd ps [] ∧ FnOk P w K mg base (L2.CX P w) k f fd ps (spM K mg g)
theorem KnownM.mono {P : Program} {w : World} {K : PySem.W.Frag} {mg : Str → Option Value} {base : Heap} {j k : Nat} {nm : Str} {g : SgM} (h : KnownM P w K mg base j nm g) (l : j ≤ k) : KnownM P w K mg base k nm g := by
  obtain ⟨f, fd, ps, a, b, c, d⟩ := h.ok
  exact ⟨f, fd, ps, a, b, c, d.mono l⟩
section
variable {P : Program} {w : World} {K : PySem.W.Frag} {mg : Str → Option Value} {base : Heap}
theorem start_slotsM {B F : Hp} {H : Hp} {N : List Str} {ts : List T} {vs : List V} {a : Addr} {o : O} {h : HO} (s : Same F H) (b : Same B H) (tb : Tb K mg F B H) (fa : F a = none) (ba : B a = none) (ha : H a = some h) (ro : ORep K mg F o h) (r : Reps K mg F ts vs) (hl : ts.length + 1 ≤ N.length) :
    RS K mg B F (some a) rw F (SV.pa o :: (ts.map SV.fz ++ List.replicate (N.length - (ts.length + 1)) SV.un)) (L2.start N (.ref a :: vs)) H := by
  have lv := r.length
  have src : ∀ (i : Nat) (x : SV), (SV.pa o :: (ts.map SV.fz ++ List.replicate (N.length - (ts.length + 1)) SV.un))[i]? = some x → (i = 0 ∧ x = .pa o) ∨ x = .un ∨ ∃ t j, x = .fz t ∧ i = j + 1 ∧ ts[j]? = some t := fun i x hx => by
    cases i with
    | zero => exact .inl ⟨rfl, (Option.some.inj hx).symm⟩
    | succ i =>
      rw [List.getElem?_cons_succ] at hx
      by_cases hi : i < ts.length
      · rw [List.getElem?_append_left (by simpa using hi), List.getElem?_map, List.getElem?_eq_getElem hi] at hx
        cases hx
        exact .inr (.inr ⟨_, i, rfl, rfl, List.getElem?_eq_getElem hi⟩)
      · rw [List.getElem?_append_right (by simpa using hi), List.getElem?_replicate] at hx
        split at hx
        · cases hx; exact .inr (.inl rfl)
        · cases hx
  refine ⟨?_, s, b, Same.refl _, fun a o e => .inl ⟨o, e⟩, fun a' e => by cases e; exact ⟨h, ha⟩, tb, fun _ => a, fun i x hx => ?_, fun i j x y hx hy ox oy ne => ?_⟩
  · unfold L2.start
    simp only [List.length_append, List.length_map, List.length_replicate, List.length_cons]
    omega
  · rcases src i x hx with ⟨e, e'⟩ | e | ⟨t, j, e, e1, e2⟩
    · subst e e'
      exact ⟨rfl, fa, ba, rfl, h, ha, ro⟩
    · subst e; trivial
    · subst e e1
      obtain ⟨v, h1, h2⟩ := r.get e2
      refine ⟨v, ?_, h2⟩
      unfold L2.start
      have hj := (List.getElem?_eq_some_iff.mp e2).1
      rw [List.getElem?_append_left (by simp; omega), List.map_cons, List.getElem?_cons_succ, List.getElem?_map, h1]
      rfl
  · exfalso
    rcases src i x hx with ⟨e, e'⟩ | e | ⟨t, _, e, _⟩
    · rcases src j y hy with ⟨e2, _⟩ | e2 | ⟨t, _, e2, _⟩
      · exact ne (e.trans e2.symm)
      · subst e2; cases oy
      · subst e2; cases oy
    · subst e; cases ox
    · subst e; cases ox
/-- a def that changes its first argument, by its body -/
theorem fm_ok {x qual : Str} {st : Stmt} {f : Addr} {fd : FuncData} {N ps : List Str} {k : Nat} {fb : MS} (F : Fun K x qual st f fd) (S : FnScope N ps (defScope st))
    (hb : ∀ (cdv : Value) (A : Around) (outer : List PySem.Env) (s : Shared) (H : Hp) (E : XK), Room k (A.deeper (PyProof.Rows.envOfC qual (defScope st) s.heap.objs.size f cdv)) → FSs (cxOf (L2.CX P w) P w K mg base N qual (defScope st) f cdv A outer s H E) E0 (defBody st) fb) :
    FnOk P w K mg base (L2.CX P w) (k + 1) f fd ps (spM K mg (fnM N.length ps.length fb)) := by
  refine F.okX S (fun vs H Q E h => ?_) (fun cdv A outer s H vs Q E hr h => ?_)
  · obtain ⟨B, F, a, h, o, ws, ts, rfl, _, _, _, _, _, _, _, r, d⟩ := h
    unfold fnM at d
    split at d
    · rename_i hl
      rw [List.length_cons, ← r.length]; exact hl.1
    · exact d.elim
  · obtain ⟨B, F', a, h, o, ws, ts, rfl, sF, sB, tb, fa, ba, ha, ro, r, d⟩ := h
    unfold fnM at d
    split at d
    · rename_i hl
      refine ⟨_, hb cdv A outer s H E hr, ⟨B, F', some a, []⟩, F', _, start_slotsM (N := N) sF sB tb fa ba ha ro r (by omega), ?_⟩
      rw [hl.1]
      cases e : fb (SV.pa o :: (ts.map SV.fz ++ List.replicate (N.length - ps.length) SV.un)) with
      | bad => rw [e] at d; exact d
      | exc x => rw [e] at d; exact (show False from d).elim
      | ok fl ρ =>
        rw [e] at d
        have fin : ∀ {σ' : L2.St} {F2 H' : Hp} {o' : O}, RS K mg B F' (some a) [] F2 ρ σ' H' → ρ[0]? = some (.pa o') → ∃ h', F2 a = none ∧ H' a = some h' ∧ ORep K mg F2 o' h' := fun {σ' F2 H' o'} R e0 => by
          obtain ⟨α, h1, _⟩ := R.ex
          obtain ⟨_, b, _, d, u, e1, e2⟩ := h1 0 _ e0
          have ea : a = α 0 := Option.some.inj d
          rw [← ea] at b e1
          exact ⟨u, b, e1, e2⟩
        cases fl with
        | nx =>
          have d' : Den (outV .non ρ) _ _ := d
          unfold outV at d'
          split at d'
          · rename_i o' e0
            intro σ' F2 H' R s'
            obtain ⟨h', g1, g2, g3⟩ := fin R (lent_some e0)
            exact d' .non F2 H' h' R.fh R.bh R.tb s' (fun a o q => R.fr a o q) g1 g2 g3 rfl
          · exact d'.elim
        | bk => exact (show False from d).elim
        | ct => exact (show False from d).elim
        | rt t =>
          have d' : Den (outV t ρ) _ _ := d
          unfold outV at d'
          split at d'
          · rename_i o' e0
            intro v σ' F2 H' R s' rv
            obtain ⟨h', g1, g2, g3⟩ := fin R (lent_some e0)
            exact d' v F2 H' h' R.fh R.bh R.tb s' (fun a o q => R.fr a o q) g1 g2 g3 rv
          · exact d'.elim
    · exact d.elim
end
/-- a call f(x, ..) of a def that changes what x holds -/
def calM (g : SgM) (i : Nat) (fs : M (List T)) : M T := withOwn i fun ρ => (fs ρ).bind fun ts ρ => match rdOwn i ρ with
  | some o => match g o ts with
    | .ok (t, o') _ => .ok t (setOwn i o' ρ)
    | _ => .bad
  | none => .bad
section
variable {X : Cx} {E : XK} {e : Expr} {es : List Expr} {pos p p2 : Pos} {fs : M (List T)} {x y : Str} {g : SgM} {i : Nat}
theorem RS.calledM {K : PySem.W.Frag} {mg : Str → Option Value} {B F0 F F' : Hp} {pm : Option Addr} {ρ : Env} {σ : L2.St} {H H' : Hp} {a : Addr} {o o' : O} {h' : HO} (R : RS K mg B F0 pm rw F ρ σ H) (ho : rdOwn i ρ = some o) (es : σ[i]? = some (some (.ref a)))
    (s1 : Same F' H') (s2' : ∀ b u, b ≠ a → hideTab K mg H b = some u → H' b = some u) (tx : TabX K mg H') (tf : ∀ P, LawTab K mg P → F' P = none) (s3 : Same F F') (fr' : ∀ b u, F' b = some u → (∃ u, F b = some u) ∨ NB (hideTab K mg H) b u ∨ b = a) (fa : F' a = none) (ha : H' a = some h') (ro : ORep K mg F' o' h') : RS K mg B F0 pm rw F' (setOwn i o' ρ) σ H' := by
  have fr : ∀ b u, F' b = some u → (∃ u, F b = some u) ∨ NB H b u ∨ b = a := fun b u e => by
    rcases fr' b u e with q | q | q
    · exact .inl q
    · rcases q with q | q
      · rcases hideTab_none q with z | z
        · exact .inr (.inl (.inl z))
        · rw [tf b z] at e; cases e
      · exact .inr (.inl (.inr q))
    · exact .inr (.inr q)
  have s2 : ∀ b u, b ≠ a → ¬ LawTab K mg b → H b = some u → H' b = some u := fun b u n z e => s2' b u n (by rw [hideTab_ne z]; exact e)
  obtain ⟨α, h1, h2⟩ := R.ex
  unfold rdOwn at ho
  rw [Option.bind_eq_some_iff] at ho
  obtain ⟨x, hx, hox⟩ := ho
  have ox : x.owned = true := by rcases obj_cases hox with e | e <;> subst e <;> rfl
  have q : σ[i]? = some (some (.ref (α i))) ∧ F (α i) = none ∧ B (α i) = none ∧ ∃ h, H (α i) = some h := by
    have q := h1 i x hx
    rcases obj_cases hox with e | e
    · subst e; obtain ⟨a, b, c, d, h, e, _⟩ := q; exact ⟨a, b, c, h, e⟩
    · subst e; obtain ⟨a, b, c, d, h, e, _⟩ := q; exact ⟨a, b, c, h, e⟩
  have ea : a = α i := by
    rw [q.1] at es
    cases es; rfl
  subst ea
  have hlt : i < ρ.length := (List.getElem?_eq_some_iff.mp hx).1
  unfold setOwn
  rw [hx]
  have far : ∀ b h, (∀ vs, h ≠ .tup vs) → b ≠ α i → H b = some h → F b = none → F' b = none := fun b h nt ne e n => by
    cases q : F' b with
    | none => rfl
    | some u =>
      rcases fr b u q with ⟨w, e'⟩ | e' | e'
      · rw [n] at e'; cases e'
      · rcases e' with e' | ⟨vs, rfl⟩
        · rw [e] at e'; cases e'
        · exact (nt vs (Option.some.inj ((s2 b h ne (fun z => by rw [tf b z] at q; cases q) e).symm.trans (s1 _ _ q)))).elim
      · exact absurd e' ne
  have src : ∀ (j : Nat) (y : SV), (ρ.set i (x.to o'))[j]? = some y → (j = i ∧ y = x.to o') ∨ (j ≠ i ∧ ρ[j]? = some y) := fun j y hy => by
    by_cases e : j = i
    · subst e
      rw [List.getElem?_set_self hlt] at hy
      exact .inl ⟨rfl, (Option.some.inj hy).symm⟩
    · rw [List.getElem?_set_ne (Ne.symm e)] at hy
      exact .inr ⟨e, hy⟩
  refine ⟨by simpa using R.len, s1, fun b u e => s2 b u (ne_of_none e q.2.2.1) (R.tb.not e) (R.bh _ _ e), R.f0.trans s3, fun b u e => ?_, fun b e => ?_, ⟨tx, tf, R.tb.b⟩, α, fun j y hy => ?_, fun j m y z hy hz oy oz ne => ?_⟩
  · rcases fr b u e with ⟨w, q'⟩ | q' | q'
    · rcases R.fr b w q' with z | z | ⟨vs, rfl⟩
      · exact .inl z
      · exact .inr (.inl z)
      · exact .inr (.inr ⟨vs, Option.some.inj ((s1 _ _ e).symm.trans (s1 _ _ (s3 _ _ q')))⟩)
    · exact .inr (q'.imp R.bnone id)
    · subst q'; rw [fa] at e; cases e
  · obtain ⟨u, e'⟩ := R.pt b e
    by_cases hb : b = α i
    · subst hb; exact ⟨h', ha⟩
    · by_cases z : LawTab K mg b
      · obtain ⟨ps, z1, _⟩ := tx b z
        exact ⟨_, z1⟩
      · exact ⟨u, s2 b u hb z e'⟩
  · rcases src j y hy with ⟨e, ey⟩ | ⟨ne, e⟩
    · subst e
      have q' := h1 j x hx
      rcases obj_cases hox with e | e
      · subst e
        have ey' : y = .ow o' := ey
        subst ey'
        obtain ⟨a, b, c, d, _⟩ := q'
        exact ⟨a, fa, c, d, h', ha, ro⟩
      · subst e
        have ey' : y = .pa o' := ey
        subst ey'
        obtain ⟨a, b, c, d, _⟩ := q'
        exact ⟨a, fa, c, d, h', ha, ro⟩
    · have q' := h1 j y e
      cases y with
      | un => trivial
      | fz t => obtain ⟨v, a, b⟩ := q'; exact ⟨v, a, b.mono s3⟩
      | raw n => obtain ⟨v, a, b⟩ := q'; exact ⟨v, a, b⟩
      | ow o1 =>
        obtain ⟨a, b, c, d, u, e1, e2⟩ := q'
        have na := h2 j i _ x e hx rfl ox ne
        exact ⟨a, far _ _ e2.ntup na e1 b, c, d, u, s2 _ _ na (R.tb.notH e1 e2.plain) e1, e2.mono s3⟩
      | pa o1 =>
        obtain ⟨a, b, c, d, u, e1, e2⟩ := q'
        have na := h2 j i _ x e hx rfl ox ne
        exact ⟨a, far _ _ e2.ntup na e1 b, c, d, u, s2 _ _ na (R.tb.notH e1 e2.plain) e1, e2.mono s3⟩
  · have back : ∀ (n : Nat) (w : SV), (ρ.set i (x.to o'))[n]? = some w → w.owned = true → ∃ z : SV, ρ[n]? = some z ∧ z.owned = true := fun n w hn ow => by
      rcases src n w hn with ⟨e, _⟩ | ⟨_, e⟩
      · subst e; exact ⟨x, hx, ox⟩
      · exact ⟨w, e, ow⟩
    obtain ⟨y', hy', oy'⟩ := back j y hy oy
    obtain ⟨z', hz', oz'⟩ := back m z hz oz
    exact h2 j m y' z' hy' hz' oy' oz' ne
theorem fe_callM {k : Nat} (Kn : KnownM X.prog X.w X.K X.mg X.base k y g) (hr : Room k X.A) (hg : Gl X y) (hxx : Passes (L2.CX X.prog X.w) X E0) (hN : X.N[i]? = some x := by rfl) (ha : FA X E es fs)
    (hv : Vis X.env.scope x := by first | exact Or.inl rfl | exact Or.inr (Or.inl rfl) | exact Or.inr (Or.inr rfl)) (hd : (x == ("__debug__" : Str)) = false := by decide) (hcd : (x == ("__classdict__" : Str)) = false := by decide) (hdb : (y == ("__debug__" : Str)) = false := by decide)
    (he : starEach (.Name x p2 :: es) X.env = (false, eval (.Name x p2) X.env) :: starEach es X.env := by rfl) (hpl : (backTo pos (starEach es X.env)).any (·.1) = false := by rfl) : FE X E (.Call (.Name y p) (.Name x p2 :: es) [] pos) (calM g i fs) := by
  obtain ⟨f, fd, ps, hm, hk, hb, F⟩ := Kn.ok
  refine pe_imp (pe_call F hr hg hm hk hb .nil hxx (pa_cons (pe_var hN hv hd hcd) ha he) hdb he hpl) fun σ H Q h => ?_
  obtain ⟨kk, F, ρ, R, h⟩ := h
  obtain ⟨⟨o0, ho0⟩, h⟩ := Den.own h
  obtain ⟨a, h0, es', _⟩ := R.own ho0
  refine ⟨.ref a, es', kk, F, ρ, R, (Den.bind h).imp fun ts ρ1 h1 vs F1 H1 R1 s1 r1 => ?_⟩
  show spM X.K X.mg g ((.ref a :: vs) ++ []) H1 Q E0
  rw [List.append_nil]
  split at h1
  · rename_i o ho
    obtain ⟨a1, h2, e1, e2, e3, e4, _⟩ := R1.own ho
    rw [es'] at e1
    cases e1
    refine ⟨fun b => if b = a then none else hideTab X.K X.mg H1 b, F1, a, h2, o, vs, ts, rfl, R1.fh, fun b u e => ?_, ⟨R1.tb.x, R1.tb.f, fun P z => ?_⟩, e2, by simp, e3, e4, r1, ?_⟩
    · dsimp only at e
      split at e
      · cases e
      · exact hideTab_same _ _ e
    · show (if P = a then none else hideTab X.K X.mg H1 P) = none
      split
      · rfl
      · exact hideTab_tab z
    · split at h1
      · rename_i t o' ρx eg
        rw [eg]
        exact fun v F' H' h' c1 c2 ct c3 c4 c5 c6 c7 c8 => h1 v F' H' (R1.calledM ho es' c1 (fun b u ne e => c2 b u (by show (if b = a then none else hideTab X.K X.mg H1 b) = some u; rw [if_neg ne]; exact e)) ct.x ct.f c3 (fun b u e => by
          rcases c4 b u e with q | q
          · exact .inl q
          · rcases q with q | q
            · have q' : (if b = a then none else hideTab X.K X.mg H1 b) = none := q
              split at q'
              · rename_i eb; exact .inr (.inr eb)
              · exact .inr (.inl (.inl q'))
            · exact .inr (.inl (.inr q))) c5 c6 c7) (s1.trans c3) c8
      · exact h1.elim
  · exact h1.elim
end
/-! ### the law's end -/
def spLaw (K : PySem.W.Frag) (mg : Str → Option Value) : Sp := fun vs H Q _ => ∃ (a : Addr) (ns : List Int), vs = [.ref a] ∧ SqL K H a (ns.map V.int) ∧ ns.length ≤ 63 ∧ TabX K mg H ∧ ∀ H', Q (.bl true) H'
theorem sq_hide {K : PySem.W.Frag} {mg : Str → Option Value} {H : Hp} {a : Addr} {xs : List V} (t : TabX K mg H) (h : SqL K H a xs) : SqL K (hideTab K mg H) a xs := by
  rcases h with (h | ⟨o, h⟩) | h
  · have n : ¬ LawTab K mg a := fun q => by
      obtain ⟨ps, z, _⟩ := t a q
      rw [h] at z; cases z
    exact .inl (.inl (by rw [hideTab_ne n]; exact h))
  · have n : ¬ LawTab K mg a := fun q => by
      obtain ⟨ps, z, _⟩ := t a q
      rw [h] at z; cases z
    exact .inl (.inr ⟨o, by rw [hideTab_ne n]; exact h⟩)
  · exact .inr h
theorem law_imp {P : Program} {w : World} {K : PySem.W.Frag} {mg : Str → Option Value} {base : Heap} {k : Nat} {f : Addr} {fd : FuncData} {x : Str} {g : Sg} (F : FnOk P w K mg base (L2.CX P w) k f fd [x] (spF K mg g)) (hg : ∀ ns : List Int, ns.length ≤ 63 → g [.sl (ns.map T.int)] = .ok (.bl true) []) :
    FnOk P w K mg base (L2.CX P w) k f fd [x] (spLaw K mg) := F.imp fun vs H Q E h => by
  obtain ⟨a, ns, rfl, hS, hl, tx, q⟩ := h
  refine ⟨fun _ => none, hideTab K mg H, [.sl (ns.map T.int)], hideTab_same, fun _ _ e => (nomatch e), ⟨tx, fun P z => hideTab_tab z, fun _ _ => rfl⟩, .cons ⟨a, ns.map V.int, rfl, sq_hide tx hS, Reps.of_ints⟩ .nil, ?_⟩
  rw [hg ns hl]
  intro v F' H' _ _ _ _ _ r
  have ev : v = .bl true := r
  subst ev
  exact q H'
theorem noE0 {P : Program} {w : World} {H : Hp} {s : Shared} {e : Value} {s' : Shared} (h : L2.CX P w [] H s (fun _ _ _ => False) e s') : False := by
  obtain ⟨_, _, _, _, _, _, _, _, _, _, _, _, z⟩ := h
  exact z.elim
end FL

/-! FL9: enumerate and zip over lists and tuples. -/
namespace FL
open PySem PySem.Spec L2 PyProof.Rows

/-- a list or a tuple that is read -/
def Sq (K : PySem.W.Frag) (H : Hp) (c : Bool) (a : Addr) (xs : List V) : Prop := if c = true then SqL K H a xs else SqT K H a xs
def ItAt (c : Bool) (h : Heap) (it a : Addr) (i : Nat) : Prop := if c = true then h.IsListIter it a i else h.IsTupleIter it a i
def SqAt (c : Bool) (h : Heap) (a : Addr) (items : Array Value) : Prop := if c = true then h.IsList a items else h.IsTuple a items
theorem ItAt.obj {c : Bool} {h : Heap} {it a : Addr} {i : Nat} (x : ItAt c h it a i) : ∃ o, h.get? it = some o ∧ ∀ v, o.data ≠ .cell v := by
  cases c with
  | true => obtain ⟨o, e, _, d⟩ : h.IsListIter it a i := x; exact ⟨o, e, fun v q => by rw [d] at q; cases q⟩
  | false => obtain ⟨o, e, _, d⟩ : h.IsTupleIter it a i := x; exact ⟨o, e, fun v q => by rw [d] at q; cases q⟩
theorem ItAt.keep {c : Bool} {h h' : Heap} {it a : Addr} {i : Nat} (x : ItAt c h it a i) (k : ∀ o, h.get? it = some o → h'.get? it = some o) : ItAt c h' it a i := by
  cases c with
  | true => exact (show h.IsListIter it a i from x).at k
  | false => exact (show h.IsTupleIter it a i from x).at k
theorem sq_at {X : Cx} {pins : List (Addr × Obj)} {σ : L2.St} {H : Hp} {s : Shared} {c : Bool} {a : Addr} {xs : List V} (I : Inv X pins σ H s) (h : Sq X.K H c a xs) : ∃ its : List Value, Vals xs its ∧ SqAt c s.heap a its.toArray := by
  cases c with
  | true => obtain ⟨its, r, p, _⟩ := I.list (show SqL X.K H a xs from h); exact ⟨its, r, p.isList⟩
  | false => obtain ⟨its, r, p, _⟩ := I.tuple (show SqT X.K H a xs from h); exact ⟨its, r, p⟩
theorem sq_inj {X : Cx} {pins : List (Addr × Obj)} {σ : L2.St} {H : Hp} {s : Shared} {c : Bool} {a : Addr} {xs ys : List V} (I : Inv X pins σ H s) (h : Sq X.K H c a xs) (h' : Sq X.K H c a ys) : xs = ys := by
  cases c with
  | true => exact I.list_inj (show SqL X.K H a xs from h) h'
  | false => exact I.tuple_inj (show SqT X.K H a xs from h) h'
theorem sq_lt {c : Bool} {h : Heap} {a : Addr} {items : Array Value} (x : SqAt c h a items) : a < h.objs.size := by
  cases c with
  | true => obtain ⟨o, e, _⟩ : h.IsList a items := x; exact Heap.lt_size e
  | false => obtain ⟨o, e, _⟩ : h.IsTuple a items := x; exact Heap.lt_size e
def itObj (c : Bool) (a : Addr) : Obj := if c = true then { cls := .type "list_iterator", data := .fields #[.ref a, .int 0 0] } else { cls := .type "tuple_iterator", data := .fields #[.ref a, .int 0 0] }
theorem begins_sq (c : Bool) (a : Addr) (items : Array Value) : PySem.Begins (.ref a) (itObj c a) (fun h => SqAt c h a items) := by
  cases c with
  | true => exact begins_list a items
  | false => exact begins_tuple a items
theorem itAt0 {c : Bool} {h : Heap} {it a : Addr} (e : h.get? it = some (itObj c a)) : ItAt c h it a 0 := by
  cases c with
  | true => exact ⟨_, e, rfl, rfl⟩
  | false => exact ⟨_, e, rfl, rfl⟩
theorem draws_sq {prog : Program} {w : World} {A : Around} (hh : A.handled = none) (c : Bool) (it a : Addr) (hne : a ≠ it) (items : Array Value) :
    PySem.Draws prog w A it [it, a] items.size (fun i v => items[i]? = some v) (fun i h => ItAt c h it a i ∧ SqAt c h a items) := by
  cases c with
  | true => exact PySem.Draws.list hh it a hne items
  | false => exact PySem.Draws.tuple hh it a hne items

/-! ### enumerate(x) -/
def Itq (K : PySem.W.Frag) (c : Bool) (a : Addr) : It :=
  ⟨fun i H => ∃ (xs : List V) (x : V), Sq K H c a xs ∧ xs[i]? = some x, fun i H v H' => ∃ T x, v = .ref T ∧ H T = none ∧ H' = upd H T (.tup [.int (i : Nat), x]) ∧ ∀ xs, Sq K H c a xs → xs[i]? = some x, fun i H => ∃ xs : List V, Sq K H c a xs ∧ xs.length = i⟩
theorem turn_enumS {P : Program} {w : World} {K : PySem.W.Frag} {elts : List Expr} {kk : Nat} {tpos : Pos} (c : Bool) (a e it : Addr) :
    Turn P w K (.Tuple elts kk tpos) (Itq K c a) [e, it] e (fun i h => (∃ old, IsEnum h e it ((i : Nat) : Int) old) ∧ ItAt c h it a i ∧ e ≠ it ∧ a ≠ it ∧ a ≠ e) where
  mem := by simp
  obj := fun i h st b hb => by
    obtain ⟨⟨old, he⟩, hi, _⟩ := st
    have e' : b = e ∨ b = it := by simpa using hb
    rcases e' with z | z
    · rw [z]; exact ⟨_, he, fun v q => nomatch q⟩
    · rw [z]; exact hi.obj
  keep := fun i h h' st k => let ⟨⟨old, he⟩, hi, hne⟩ := st; ⟨⟨old, k e (by simp) _ he⟩, hi.keep fun o q => k it (by simp) o q, hne⟩
  item := by
    intro X hP hw hK hc i pins s σ H E I hf st hg
    subst hP hw hK
    obtain ⟨⟨old, he⟩, hit, hne, hai, hae⟩ := st
    obtain ⟨xs, x, hq, hx⟩ := hg
    obtain ⟨its, rv, p⟩ := sq_at I hq
    obtain ⟨u, hu, ru⟩ := rv.get hx
    have hel : e < s.heap.objs.size := Heap.lt_size he
    have hil : it < s.heap.objs.size := by obtain ⟨o, q, _⟩ := hit.obj; exact Heap.lt_size q
    have hlt : i < its.toArray.size := by
      have := (List.getElem?_eq_some_iff.mp hu).1
      simpa using this
    refine PySem.wpAny_pyNext_enum_itemD (draws_sq (prog := X.prog) (w := X.w) (A := X.A.in1) (I.ok.hd hc) c it a hai its.toArray) he ⟨hit, p⟩ hlt hne (by simp only [List.mem_cons, List.not_mem_nil, or_false, not_or]; exact ⟨hne, Ne.symm hae⟩) fun v h' tk hv ho hit' hT hsz hk => ?_
    have ev : v = u := by
      have h1 : its.toArray[i]? = some v := hv
      rw [List.getElem?_toArray, hu] at h1
      exact (Option.some.inj h1).symm
    subst ev
    refine ⟨_, rfl, PySem.wpAny_letOwnedTupleGo_enum (s := { s with heap := h', toks := tk + 1 }) ho fun h'' he' sb => ?_⟩
    have hT2 : h''.get? s.heap.objs.size = some { cls := .type "tuple", data := .seq #[.int i tk, v] } := (sb.2 _ (Nat.ne_of_gt hel)).trans hT
    have new : ObjOk X.prog X.w (upd H s.heap.objs.size (.tup [.int (i : Nat), x])) h'' s.heap.objs.size (.tup [.int (i : Nat), x]) :=
      ⟨by show 2 ≤ sizeLine; decide, [.int i tk, v], .cons ⟨_, rfl⟩ (.cons ru .nil), ⟨_, hT2, rfl, _, rfl⟩⟩
    have I1 : Inv X pins σ (upd H s.heap.objs.size (.tup [.int (i : Nat), x])) { s with heap := h'', toks := tk + 1 } :=
      I.turnedNew (ch := [e, it]) (fun b ob hb q => (sb.2 b (fun z => hb (by simp [z]))).trans (hk b ob (fun z => hb (by simp [z])) (fun z => hb (by simp [z])) q)) hf (Nat.le_refl _) new
    refine ⟨.ref s.heap.objs.size, _, I1, rfl, ⟨_, x, rfl, I.hok.fresh (Nat.le_refl _), rfl, fun ys hy => by rw [sq_inj I hy hq]; exact hx⟩, ⟨⟨v, ?_⟩, hit'.1.keep fun o q => (sb.2 it (Ne.symm hne)).trans q, hne, hai, hae⟩, fun b hb => ?_⟩
    · have e1 : ((i + 1 : Nat) : Int) = (i : Int) + 1 := by omega
      rw [e1]; exact he'
    · have hb' : b < s.heap.objs.size := by
        have e' : b = e ∨ b = it := by simpa using hb
        rcases e' with z | z
        · rw [z]; exact hel
        · rw [z]; exact hil
      rw [upd_ne (Nat.ne_of_lt hb')]
      exact (hf b hb).1
  done := by
    intro X hP hw hK hc i pins s σ H E I hf st hg
    subst hP hw hK
    obtain ⟨⟨old, he⟩, hit, hne, hai, hae⟩ := st
    obtain ⟨xs, hq, hx⟩ := hg
    obtain ⟨its, rv, p⟩ := sq_at I hq
    obtain ⟨f0, f1, f2, f3, f4, f5⟩ := hf it (by simp)
    have hl := rv.length
    have es : its.toArray.size = i := by rw [List.size_toArray]; omega
    subst es
    exact PySem.wpAny_pyNext_enum_endD (draws_sq (prog := X.prog) (w := X.w) (A := X.A.in1) (I.ok.hd hc) c it a hai its.toArray) he ⟨hit, p⟩ fun h' eb => ⟨rfl, I.turned (t' := s.toks) (fun b o hb q => eb b o hb q) f0 f1 f3 f4 f5⟩
  self := fun A i s Q E st h => let ⟨⟨_, he⟩, _⟩ := st; PySem.wpAny_pyIter_enum he h
section
open PySem (IsEnum)
open AutoSeq1 (wpAny_loadPart')
set_option maxHeartbeats 1000000 in
theorem meets_enum1 {v : Value} {o : Obj} {H : Heap → Prop} (B : PySem.Begins v o H) :
    Meets (Builtin.«enumerate.__new__» ⟨[.type "enumerate", v], []⟩) (fun _ R s => H s.heap ∧
      R (.ok (.ret (.ref (s.heap.push o).objs.size))) { s with heap := (s.heap.push o).push { cls := .type "enumerate", data := .fields #[.none, .bool false, .ref s.heap.objs.size, rawInt 0, .none, .none] } }) :=
  .of_wp fun prog w A R s h => by
    obtain ⟨hp, g, d, tk, os⟩ := s; obtain ⟨h1, h⟩ := h
    have hsub := sub_enumerate
    have q1 : ∀ {A' : Around} {E : Value → Shared → Prop} {Q : Value → Shared → Prop}, Q (.ref hp.objs.size) ⟨hp.push o, g, d, tk, os⟩ → wpAny (model prog w) A' (pyIter v) Q E ⟨hp, g, d, tk, os⟩ :=
      fun q => B.iter prog w _ _ ⟨hp, g, d, tk, os⟩ _ h1 q
    wp_walk using q1
    refine wpAny_stack_any fun st => wpAny_pure ?_
    split
    · rename_i c _ _ _ _ _
      cases (c == Value.type "enumerate")
      · wp_walk using q1
        exact ⟨_, rfl, h⟩
      · wp_walk using q1
        exact ⟨_, rfl, h⟩
    · wp_walk using q1
      exact ⟨_, rfl, h⟩
theorem enum_begins1 {prog : Program} {w : World} {A : Around} {E : Value → Shared → Prop} {s : Shared} {v : Value} {o : Obj} {H : Heap → Prop} {Q : Value → Shared → Prop} (B : PySem.Begins v o H) (h1 : H s.heap)
    (h : ∀ h', IsEnum h' (s.heap.objs.size + 1) s.heap.objs.size 0 .none → h'.get? s.heap.objs.size = some o → h'.objs.size = s.heap.objs.size + 2 →
      (∀ b o, s.heap.get? b = some o → h'.get? b = some o) → Q (.ref (s.heap.objs.size + 1)) { s with heap := h' }) :
    wpAny (model prog w) A (call (.type "enumerate") [v]) Q E s := by
  refine callType_new F.called_enumerate (by decide) (F.typeCall_enumerate_1 _) (F.newCall_enumerate_1 _) (fun obj => F.args_object_init_2 obj _) F.entry_enumerate_new
    (meets_enum1 B) ⟨h1, ?_⟩
  have hz : (s.heap.push o).objs.size = s.heap.objs.size + 1 := Heap.size_push ..
  show _ ∧ _
  rw [hz]
  have he : IsEnum ((s.heap.push o).push { cls := .type "enumerate", data := .fields #[.none, .bool false, .ref s.heap.objs.size, rawInt 0, .none, .none] }) (s.heap.objs.size + 1) s.heap.objs.size 0 .none := by
    have := Heap.get?_push_size (s.heap.push o) (o := { cls := .type "enumerate", data := .fields #[.none, .bool false, .ref s.heap.objs.size, rawInt 0, .none, .none] }) rfl
    rw [hz] at this; exact this
  refine ⟨⟨_, he, rfl⟩, h _ he (Heap.get?_push_of_some _ (Heap.get?_push_size _ B.free)) (by rw [Heap.size_push, hz]) fun b o x => Heap.get?_push_of_some _ (Heap.get?_push_of_some _ x)⟩
end
def iEnumS (K : PySem.W.Frag) (ta : TA) : TI := fun σ H R => ta σ H fun vs H1 => ∃ a xs c, vs = [.ref a] ∧ Sq K H1 c a xs ∧ R (Itq K c a) H1
theorem pi_enumS {X : Cx} {e : Expr} {ta : TA} {p pos tpos : Pos} {elts : List Expr} {kk : Nat} (hg : Gl X "enumerate") (hm : X.mg "enumerate" = none) (ha : PA X [e] ta) (hs : starEach [e] X.env = [(false, eval e X.env)] := by rfl) :
    PI X (.Tuple elts kk tpos) (.Call (.Name "enumerate" p) [e] [] pos) (iEnumS X.K ta) := by
  refine ⟨fun pins s σ H R I h => ?_⟩
  refine Call_ (ld_blt I hg hm PyProof.Rows.boot_enumerate (PyProof.Rows.callWith_type1 (thn (ha.run pos pins s σ H _ I h) fun us s1 ⟨vs, H1, I1, r1, q1⟩ => ?_) hs rfl))
  obtain ⟨a, xs, c, ex, hq, q⟩ := q1
  subst ex
  cases r1 with
  | cons r rr =>
    cases rr
    cases r
    obtain ⟨its, rv, p'⟩ := sq_at I1 hq
    have hlt := sq_lt p'
    refine enum_begins1 (begins_sq c a its.toArray) p' fun h' he hit hsz hk => PySem.wpAny_pyIter_enum he ?_
    have I2 : Inv X pins σ H1 { s1 with heap := h' } := I1.kept (t' := s1.toks) hk
    refine ⟨s1.heap.objs.size + 1, [s1.heap.objs.size + 1, s1.heap.objs.size], _, _, H1, rfl, I2, turn_enumS c a (s1.heap.objs.size + 1) s1.heap.objs.size, ⟨⟨.none, he⟩, itAt0 hit, Nat.succ_ne_self _, Nat.ne_of_lt hlt, Nat.ne_of_lt (Nat.lt_succ_of_lt hlt)⟩, fun b hb => ?_, q⟩
    have e' : b = s1.heap.objs.size + 1 ∨ b = s1.heap.objs.size := by simpa using hb
    have hle : s1.heap.objs.size ≤ b := by
      rcases e' with z | z
      · rw [z]; exact Nat.le_add_right _ _
      · rw [z]; exact Nat.le_refl _
    exact I1.fpOk hle (I1.hok.fresh hle)
/-! ### zip(x, y) -/
end FL

/-! FL10: names read whatever they hold; what is walked, of either kind; op=; two clauses. -/
namespace FL
open PySem PySem.Spec L2
section
variable {X : Cx} {E : XK} {e b c : Expr} {es : List Expr} {pos p : Pos} {f fb fv : M T} {fs : M (List T)} {i : Nat} {x : Str} {g : M Bool}

/-! ### a name, whatever it holds -/
def rdA (i : Nat) : M T := fun ρ => match ρ[i]? with
  | some (.fz t) => .ok t ρ
  | some (.ow o) => .ok (frzO o) (ρ.set i (.fz (frzO o)))
  | _ => .bad
theorem fe_varA (hN : X.N[i]? = some x := by rfl) (hv : Vis X.env.scope x := by first | exact Or.inl rfl | exact Or.inr (Or.inl rfl) | exact Or.inr (Or.inr rfl)) (hd : (x == ("__debug__" : Str)) = false := by decide) (hcd : (x == ("__classdict__" : Str)) = false := by decide) : FE X E (.Name x pos) (rdA i) := by
  refine pe_imp (pe_var hN hv hd hcd) fun σ H Q h => ?_
  obtain ⟨k, F, ρ, R, h⟩ := h
  unfold rdA at h
  split at h
  · rename_i t e
    obtain ⟨v, e1, r⟩ := R.slot e
    exact ⟨v, e1, h v F H R (Same.refl _) r⟩
  · rename_i o e
    obtain ⟨a, F', es, s, r, R'⟩ := R.freeze e
    exact ⟨.ref a, es, h _ F' H R' s r⟩
  · exact h.elim
/-- what a slot holds: a tree, or an object -/
inductive Has where
  | t (x : T) | o (x : O) | no
def has (i : Nat) (ρ : Env) : Has := match ρ[i]? with
  | some (.fz t) => .t t
  | some (.ow o) => .o o
  | some (.pa o) => .o o
  | _ => .no
theorem has_t {i : Nat} {ρ : Env} {t : T} (h : has i ρ = .t t) : ρ[i]? = some (.fz t) := by
  unfold has at h
  split at h
  · rename_i t' e; cases h; exact e
  · cases h
  · cases h
  · cases h
theorem has_o {i : Nat} {ρ : Env} {o : O} (h : has i ρ = .o o) : rdOwn i ρ = some o := by
  unfold has at h
  split at h
  · cases h
  · rename_i o' e; cases h; unfold rdOwn; rw [e]; rfl
  · rename_i o' e; cases h; unfold rdOwn; rw [e]; rfl
  · cases h
def isHas (h : Has) : Bool := match h with
  | .no => false
  | _ => true
theorem has_slot {k : Bk} {F : Hp} {ρ : Env} {σ : L2.St} {H : Hp} (R : RSk X k F ρ σ H) (h : isHas (has i ρ) = true) : ∃ v, σ[i]? = some (some v) := by
  cases e : has i ρ with
  | t t => obtain ⟨v, q, _⟩ := R.slot (has_t e); exact ⟨v, q⟩
  | o o => obtain ⟨a, h, q, _⟩ := R.own (has_o e); exact ⟨_, q⟩
  | no => rw [e] at h; cases h
/-- x[e] -/
def ixA (i : Nat) (f : M T) : M T := fun ρ => if isHas (has i ρ) = true then (f ρ).bind fun y ρ => match has i ρ with
  | .t t => liftO (ixO t y) ρ
  | .o (.l ts) => match y with
    | .int j => liftO (atT ts j) ρ
    | _ => .bad
  | _ => .bad else .bad
theorem fe_ixA (hN : X.N[i]? = some x := by rfl) (hb : FE X E b fb) (hv : Vis X.env.scope x := by first | exact Or.inl rfl | exact Or.inr (Or.inl rfl) | exact Or.inr (Or.inr rfl)) (hs : PlainIx b := by intro _ _; rfl) (hd : (x == ("__debug__" : Str)) = false := by decide) (hcd : (x == ("__classdict__" : Str)) = false := by decide) :
    FE X E (.Subscript (.Name x p) b pos) (ixA i fb) := by
  refine pe_imp (pe_ix ix_seq (pe_var hN hv hd hcd) hb hs) fun σ H Q h => ?_
  obtain ⟨k, F, ρ, R, h⟩ := h
  unfold ixA at h
  split at h
  · rename_i hh
    obtain ⟨v, ev⟩ := has_slot R hh
    refine ⟨v, ev, k, F, ρ, R, (Den.bind h).imp fun y ρ1 h1 w F1 H1 R1 s1 r1 => ?_⟩
    split at h1
    · rename_i t e
      obtain ⟨t', e', q⟩ := Den.lift h1
      obtain ⟨v', ev', rv⟩ := R1.slot (has_t e)
      rw [ev] at ev'
      cases ev'
      exact ot_ix k F1 ρ1 σ H1 Q t y t' v w R1 rv r1 e' fun v' F' H' R' s' r' => q v' F' H' R' (s1.trans s') r'
    · rename_i ts e
      split at h1
      · rename_i j
        obtain ⟨t', e', q⟩ := Den.lift h1
        obtain ⟨a, h2, ea, e2, e3, e4, _⟩ := R1.own (has_o e)
        rw [ev] at ea
        cases ea
        obtain ⟨vs, rfl, rv⟩ := e4
        obtain ⟨w', g1, g2⟩ := atT_rep rv e'
        exact .inl ⟨a, vs, j, w', rfl, r1, SqL.of e3, g1, q _ F1 H1 R1 s1 g2⟩
      · exact h1.elim
    · exact h1.elim
  · exact h.elim
/-- len(x) -/
def lenA (i : Nat) : M T := fun ρ => match has i ρ with
  | .t t => liftO (lenO [t]) ρ
  | .o (.l ts) => .ok (.int ts.length) ρ
  | _ => .bad
theorem fe_lenA {p2 : Pos} (hg : Gl X "len") (hm : X.mg "len" = none) (hbt : bootBuiltins "len" = some (.builtin "len")) (hN : X.N[i]? = some x := by rfl) (hv : Vis X.env.scope x := by first | exact Or.inl rfl | exact Or.inr (Or.inl rfl) | exact Or.inr (Or.inr rfl)) (hd : (x == ("__debug__" : Str)) = false := by decide) (hcd : (x == ("__classdict__" : Str)) = false := by decide)
    (hst : starEach [Expr.Name x p] X.env = (false, eval (Expr.Name x p) X.env) :: starEach [] X.env := by rfl) (hpl : (backTo pos (starEach [] X.env)).any (·.1) = false := by rfl) :
    FE X E (.Call (.Name "len" p2) [.Name x p] [] pos) (lenA i) := by
  refine pe_imp (pe_callB call_len hg hm hbt (pa_cons (pe_var hN hv hd hcd) pa_nil hst) (by decide) (by decide) hst hpl) fun σ H Q h => ?_
  obtain ⟨k, F, ρ, R, h⟩ := h
  unfold lenA at h
  split at h
  · rename_i t e
    obtain ⟨t', e', q⟩ := Den.lift h
    obtain ⟨v, ev, rv⟩ := R.slot (has_t e)
    exact ⟨v, ev, ct_len k F ρ σ H Q [t] t' [v] R (.one rv) e' q⟩
  · rename_i ts e
    obtain ⟨a, h0, es, e2, e3, e4, _⟩ := R.own (has_o e)
    obtain ⟨vs, rfl, rv⟩ := e4
    exact ⟨.ref a, es, .ref a, vs.length, rfl, .inl ⟨vs, SqL.of e3, rfl⟩, h _ F H R (Same.refl _) (by rw [rv.length]; rfl)⟩
  · exact h.elim
/-! ### what is walked, a list or a tuple -/
/-! ### enumerate, zip -/
theorem sq_of {F H : Hp} {t : T} {ts : List T} {v : V} (s : Same F H) (r : Rep X.K X.mg F t v) (e : seqT t = some ts) : ∃ p vs d, v = .ref p ∧ Sq X.K F d p vs ∧ (∀ G, Same F G → Sq X.K G d p vs) ∧ Reps X.K X.mg F ts vs := by
  obtain ⟨p, vs, rfl, hs, r⟩ := seqT_rep (Same.refl F) r e
  rcases hs with hs | hs
  · exact ⟨p, vs, true, rfl, hs, fun G g => same_SqL g hs, r⟩
  · exact ⟨p, vs, false, rfl, hs, fun G g => same_SqT0 g hs, r⟩
def enumT : Nat → List T → List T
  | _, [] => []
  | n, t :: ts => .tup [.int n, t] :: enumT (n + 1) ts
theorem enumT_len : ∀ (n : Nat) (ts : List T), (enumT n ts).length = ts.length
  | _, [] => rfl
  | n, t :: ts => by simp [enumT, enumT_len (n + 1) ts]
theorem enumT_get : ∀ (n : Nat) (ts : List T) (i : Nat) (t : T), ts[i]? = some t → (enumT n ts)[i]? = some (.tup [.int ((n + i : Nat) : Int), t])
  | _, [], _, _, h => by simp at h
  | n, t :: ts, 0, u, h => by
    simp at h; subst h; rfl
  | n, t :: ts, i + 1, u, h => by
    have := enumT_get (n + 1) ts i u (by simpa using h)
    show (enumT (n + 1) ts)[i]? = _
    rw [this]
    congr 4
    omega
def enum1 (ts : List T) : Option (List T) := match ts with
  | [t] => (seqT t).map (enumT 0)
  | _ => none
theorem fi_enum {a : Expr} {fa : M (List T)} {p tpos : Pos} {elts : List Expr} {kk : Nat} (hg : Gl X "enumerate") (hm : X.mg "enumerate" = none) (ha : FA X E [a] fa) (hs : starEach [a] X.env = [(false, eval a X.env)] := by rfl) :
    FI X E (.Tuple elts kk tpos) (.Call (.Name "enumerate" p) [a] [] pos) (calI enum1 fa) := by
  refine pi_imp (pi_enumS hg hm ha hs) fun σ H Q h => ?_
  obtain ⟨k, F, ρ, R, h⟩ := h
  refine ⟨k, F, ρ, R, (Den.bind h).imp fun ts ρ1 h1 vs F1 H1 R1 s1 r1 => ?_⟩
  obtain ⟨us, e, q⟩ := Den.lift h1
  unfold enum1 at e
  split at e
  · rename_i t
    rw [Option.map_eq_some_iff] at e
    obtain ⟨ts', e, rfl⟩ := e
    obtain ⟨v, rfl, r⟩ := r1.one_of
    obtain ⟨p, ws, d, rfl, hq, hG, rw'⟩ := sq_of R1.fh r e
    refine ⟨p, ws, d, rfl, hG _ R1.fh, q _ F1 H1 R1 s1 ?_⟩
    have ll := rw'.length
    refine ⟨fun i G hi g => ?_, fun G g => ?_, fun i G v G' hi g y => ?_⟩
    · rw [enumT_len] at hi
      exact ⟨ws, ws[i]'(by omega), hG G g, by simp [show i < ws.length by omega]⟩
    · exact ⟨ws, hG G g, by rw [enumT_len]; exact ll.symm⟩
    · rw [enumT_len] at hi
      obtain ⟨T', x, rfl, nT, rfl, hx⟩ := y
      have hx' := hx ws (hG G g)
      obtain ⟨w, g1, g2⟩ := rw'.get (List.getElem?_eq_getElem hi)
      rw [hx'] at g1
      cases g1
      have eg := enumT_get 0 ts' i _ (List.getElem?_eq_getElem hi)
      rw [Nat.zero_add] at eg
      exact ⟨_, eg, .inr ⟨T', _, _, rfl, rfl, nT, rfl, .cons rfl (.one g2)⟩⟩
  · cases e
/-! ### name op= e -/
/-! ### [..] given to a name of one line, as a tree -/
theorem end_fz {k : Bk} {F : Hp} {ρ : Env} {σ : L2.St} {H : Hp} {o : O} {v : V} (R : RSk X k F (ρ ++ [SV.ow o]) (σ ++ [some v]) H) (l : ρ.length = σ.length) : ∃ F', Same F F' ∧ RSk X k F' (ρ ++ [SV.fz (frzO o)]) (σ ++ [some v]) H := by
  obtain ⟨a, F', ea, s, r, R'⟩ := R.freeze end_slot
  rw [end_set] at R'
  exact ⟨F', s, R'⟩
theorem fs_setLcF {elt tg iter : Expr} {ifs : List Expr} {scope : Scope} {own : List (Str × Nat)} {src : M (List T)} {gt : MG} {is : List Nat} {test : M Bool} {y : Str} {py spos : Pos} (hc : X.calm = true) (hN : X.N.Nodup) (hy : X.N[i]? = some y) (hyl : X.env.scope.names.lookup y = some .local)
    (hsw : swapsWith (.ListComp elt [⟨tg, iter, ifs, 0⟩] scope pos) (some (.Name y py)) spos.line X.env = pure true) (hi : FI X E tg iter src) (ok : BlkOk X.N X.env.scope scope own)
    (hg : ∀ (s : Shared) (H : Hp) (C : Addr) (cl : List (Str × Addr)) (fp : List Addr), PG (X.blk s H scope (compEnvC scope cl C X.env) fp) tg (tG X is gt)) (his : ∀ i ∈ is, i ∈ own.map (·.2))
    (ht : ∀ (s : Shared) (H : Hp) (C : Addr) (cl : List (Str × Addr)) (fp : List Addr), PTs (X.blk s H scope (compEnvC scope cl C X.env) fp) ifs (tT X E0 test))
    (he : ∀ (s : Shared) (H : Hp) (C : Addr) (cl : List (Str × Addr)) (fp : List Addr), PE (X.blk s H scope (compEnvC scope cl C X.env) fp) elt (tE X E0 f)) (hs : ∀ x, foldedSetIterable iter X.env x = pure x := by intro _; rfl) :
    FS X E (.Assign [.Name y py] (.ListComp elt [⟨tg, iter, ifs, 0⟩] scope pos) spos) (sSet i (asT (frzM (lcM (own.map (·.2)) src gt test f)))) := by
  refine ps_imp (ps_setLc hc hN hy hyl hsw hi ok hg ht he hs) fun D σ H h => ?_
  obtain ⟨k, F, ρ, R, h⟩ := h
  refine lc_of (E := E) his ⟨k, F, ρ, R, (Den.bind (Den.bind (Den.bind h))).imp fun o ρ1 h1 v F1 H1 R1 s1 l1 => ?_⟩
  have h1' : Den (put i (SV.fz (frzO o)) ρ1) (Post X k F D) (XOk X.K X.mg k E) := h1
  unfold put at h1'
  split at h1'
  · rename_i hlt
    obtain ⟨F2, s2, R2⟩ := end_fz R1 l1
    have R3 := RS.pop (ys := []) (ws := []) R2 l1 i hlt
    rw [List.append_nil, List.append_nil] at R3
    exact h1' _ F2 H1 R3 (s1.trans s2)
  · exact h1'.elim
end
end FL

/-! FL11: the built-ins' names. -/
namespace FL
open PySem
theorem bt_len : bootBuiltins "len" = some (.builtin "len") := by decide +kernel
theorem bt_abs : bootBuiltins "abs" = some (.builtin "abs") := by decide +kernel
theorem bt_max : bootBuiltins "max" = some (.builtin "max") := by decide +kernel
theorem bt_min : bootBuiltins "min" = some (.builtin "min") := by decide +kernel
theorem bt_all : bootBuiltins "all" = some (.builtin "all") := by decide +kernel
theorem bt_sorted : bootBuiltins "sorted" = some (.builtin "sorted") := by decide +kernel
theorem bt_isinstance : bootBuiltins "isinstance" = some (.builtin "isinstance") := by decide +kernel
theorem bt_int : bootBuiltins "int" = some (.type "int") := by decide +kernel
theorem bt_bool : bootBuiltins "bool" = some (.type "bool") := by decide +kernel
theorem bt_str : bootBuiltins "str" = some (.type "str") := by decide +kernel
theorem bt_tuple : bootBuiltins "tuple" = some (.type "tuple") := by decide +kernel
theorem bt_list : bootBuiltins "list" = some (.type "list") := by decide +kernel
theorem bt_set : bootBuiltins "set" = some (.type "set") := by decide +kernel
end FL

/-! FL12: how readings are reckoned (for simp). -/
namespace FL
open PySem
section
variable {α β : Type} {a : α} {ρ ρ' : Env} {k : α → Env → Res β} {e : Ex} {f fa fb fc g : M T} {ga gb : M Bool} {fs : M (List T)} {i j l : Nat} {s s1 s2 : MS} {o : T → T → Option T}
@[simp] theorem bind_ok : (Res.ok a ρ).bind k = k a ρ := Eq.trans rfl rfl
@[simp] theorem bind_bad : (Res.bad : Res α).bind k = .bad := Eq.trans rfl rfl
@[simp] theorem bind_exc : (Res.exc e : Res α).bind k = .exc e := Eq.trans rfl rfl
@[simp] theorem lift_some : liftO (some a) ρ = .ok a ρ := Eq.trans rfl rfl
@[simp] theorem lift_none : liftO (none : Option α) ρ = .bad := Eq.trans rfl rfl
@[simp] theorem noX_ok : noX (Res.ok a ρ) = .ok a ρ := Eq.trans rfl rfl
@[simp] theorem noX_bad : noX (Res.bad : Res α) = .bad := Eq.trans rfl rfl
@[simp] theorem rdC_e {t : T} : rdC t ρ = .ok t ρ := Eq.trans rfl rfl
@[simp] theorem op2_e : op2 o fa fb ρ = (fa ρ).bind fun x ρ => (fb ρ).bind fun y ρ => liftO (o x y) ρ := Eq.trans rfl rfl
@[simp] theorem op1_e {o : T → Option T} : op1 o fa ρ = (fa ρ).bind fun x ρ => liftO (o x) ρ := Eq.trans rfl rfl
@[simp] theorem toB_bl {b : Bool} : toB (.bl b) = some b := Eq.trans rfl rfl
@[simp] theorem tst_e : tst f ρ = (f ρ).bind fun t ρ => liftO (toB t) ρ := Eq.trans rfl rfl
@[simp] theorem truth_e : truth f ρ = (f ρ).bind fun t ρ => liftO (tru t) ρ := Eq.trans rfl rfl
@[simp] theorem tru_bl {b : Bool} : tru (.bl b) = some b := Eq.trans rfl rfl
@[simp] theorem tru_int {n : Int} : tru (.int n) = some (n != 0) := Eq.trans rfl rfl
@[simp] theorem tru_non : tru .non = some false := Eq.trans rfl rfl
@[simp] theorem tru_lst {ts : List T} : tru (.lst ts) = some (!ts.isEmpty) := Eq.trans rfl rfl
@[simp] theorem tru_tup {ts : List T} : tru (.tup ts) = some (!ts.isEmpty) := Eq.trans rfl rfl
@[simp] theorem andV_e : andV fa fb ρ = (fa ρ).bind fun t ρ => match toB t with
  | some true => fb ρ
  | some false => .ok (.bl false) ρ
  | none => .bad := Eq.trans rfl rfl
@[simp] theorem notV_e : notV fa ρ = (fa ρ).bind fun t ρ => match toB t with
  | some b => .ok (.bl (!b)) ρ
  | none => .bad := Eq.trans rfl rfl
@[simp] theorem andT_e : andT ga gb ρ = (ga ρ).bind fun b ρ => if b = true then gb ρ else .ok false ρ := Eq.trans rfl rfl
@[simp] theorem orT_e : orT ga gb ρ = (ga ρ).bind fun b ρ => if b = true then .ok true ρ else gb ρ := Eq.trans rfl rfl
@[simp] theorem notT_e : notT ga ρ = (ga ρ).bind fun b ρ => .ok (!b) ρ := Eq.trans rfl rfl
@[simp] theorem ifE_e : ifE ga fa fb ρ = (ga ρ).bind fun b ρ => if b = true then fa ρ else fb ρ := Eq.trans rfl rfl
@[simp] theorem chn_e {o o' : T → T → Option T} : chn o o' fa fb fc ρ = (fa ρ).bind fun x ρ => (fb ρ).bind fun y ρ => match (o x y).bind toB with
  | some true => (fc ρ).bind fun z ρ => liftO (o' y z) ρ
  | some false => .ok (.bl false) ρ
  | none => .bad := Eq.trans rfl rfl
@[simp] theorem rdNil_e : rdNil ρ = .ok [] ρ := Eq.trans rfl rfl
@[simp] theorem rdCons_e : rdCons f fs ρ = (f ρ).bind fun x ρ => (fs ρ).bind fun xs ρ => .ok (x :: xs) ρ := Eq.trans rfl rfl
@[simp] theorem calF_e {o : List T → Option T} : calF o fs ρ = (fs ρ).bind fun ts ρ => liftO (o ts) ρ := Eq.trans rfl rfl
@[simp] theorem calO_e {o : List T → Option O} : calO o fs ρ = (fs ρ).bind fun ts ρ => liftO (o ts) ρ := Eq.trans rfl rfl
@[simp] theorem calI_e {o : List T → Option (List T)} : calI o fs ρ = (fs ρ).bind fun ts ρ => liftO (o ts) ρ := Eq.trans rfl rfl
@[simp] theorem frzM_e {fo : M O} : frzM fo ρ = (fo ρ).bind fun o ρ => .ok (frzO o) ρ := Eq.trans rfl rfl
@[simp] theorem frzO_l {ts : List T} : frzO (.l ts) = .lst ts := Eq.trans rfl rfl
@[simp] theorem frzO_dk {ks : List L2.Key} {ts : List T} : frzO (.dk ks ts) = .dk ks ts := Eq.trans rfl rfl
@[simp] theorem asT_e : asT f ρ = (f ρ).bind fun t ρ => .ok (.tr t) ρ := Eq.trans rfl rfl
@[simp] theorem asO_e {fo : M O} : asO fo ρ = (fo ρ).bind fun o ρ => .ok (.ob o) ρ := Eq.trans rfl rfl
@[simp] theorem sv_tr {t : T} : (VO.tr t).sv = .fz t := Eq.trans rfl rfl
@[simp] theorem sv_ob {o : O} : (VO.ob o).sv = .ow o := Eq.trans rfl rfl
@[simp] theorem xsNil_e : xsNil ρ = .ok [] ρ := Eq.trans rfl rfl
@[simp] theorem xsCons_e {fx : M VO} {fxs : M (List VO)} : xsCons fx fxs ρ = (fx ρ).bind fun x ρ => (fxs ρ).bind fun xs ρ => .ok (x :: xs) ρ := Eq.trans rfl rfl
@[simp] theorem put_e {x : SV} : put i x ρ = if i < ρ.length then .ok .nx (ρ.set i x) else .bad := Eq.trans rfl rfl
@[simp] theorem sSet_e {fx : M VO} : sSet i fx ρ = (fx ρ).bind fun x ρ => put i x.sv ρ := Eq.trans rfl rfl
@[simp] theorem put2_e {x y : VO} : put2 i j [x, y] ρ = if i < ρ.length ∧ j < ρ.length then .ok .nx ((ρ.set i x.sv).set j y.sv) else .bad := Eq.trans rfl rfl
@[simp] theorem sPar_e {fxs : M (List VO)} : sPar i j fxs ρ = (fxs ρ).bind (put2 i j) := Eq.trans rfl rfl
@[simp] theorem skip_e : skip ρ = .ok .nx ρ := Eq.trans rfl rfl
@[simp] theorem bad_e : bad ρ = .bad := Eq.trans rfl rfl
@[simp] theorem sq_e {s s' : MS} : sq s s' ρ = (s ρ).bind fun fl ρ => match fl with
  | .nx => s' ρ
  | .rt t => .ok (.rt t) ρ
  | .bk => .ok .bk ρ
  | .ct => .ok .ct ρ := Eq.trans rfl rfl
@[simp] theorem sRet_e : sRet f ρ = (f ρ).bind fun t ρ => .ok (.rt t) ρ := Eq.trans rfl rfl
@[simp] theorem sIf_e : sIf ga s1 s2 ρ = (ga ρ).bind fun b ρ => if b = true then s1 ρ else s2 ρ := Eq.trans rfl rfl
@[simp] theorem sExpr_e : sExpr f ρ = (f ρ).bind fun _ ρ => .ok .nx ρ := Eq.trans rfl rfl
@[simp] theorem sFor_e {src : M (List T)} {gt : MG} : sFor src gt s ρ = (src ρ).bind fun ts ρ => forL gt s ts ρ := Eq.trans rfl rfl
@[simp] theorem gN_e {t : T} : gN i t ρ = if i < ρ.length then some (ρ.set i (.fz t)) else none := Eq.trans rfl rfl
@[simp] theorem gT_e {gs : MGs} {ts : List T} : gT gs (.tup ts) ρ = gs ts ρ := Eq.trans rfl rfl
@[simp] theorem gsNil_e : gsNil [] ρ = some ρ := Eq.trans rfl rfl
@[simp] theorem gsCons_e {gt : MG} {gs : MGs} {t : T} {ts : List T} : gsCons gt gs (t :: ts) ρ = (gt t ρ).bind fun ρ => gs ts ρ := Eq.trans rfl rfl
@[simp] theorem seqT_l {ts : List T} : seqT (.lst ts) = some ts := Eq.trans rfl rfl
@[simp] theorem seqT_s {ts : List T} : seqT (.sl ts) = some ts := Eq.trans rfl rfl
@[simp] theorem seqT_t {ts : List T} : seqT (.tup ts) = some ts := Eq.trans rfl rfl
@[simp] theorem yes_e : yes ρ = .ok true ρ := Eq.trans rfl rfl
@[simp] theorem calU_e {G : Sg} : calU G fs ρ = (fs ρ).bind fun ts ρ => match G ts with
  | .bad => .bad
  | .exc e => .exc e
  | .ok t _ => .ok t ρ := Eq.trans rfl rfl
@[simp] theorem rdA_0 {x : SV} {r : Env} {t : T} : rdA 0 (.fz t :: r) = .ok t (.fz t :: r) := Eq.trans rfl rfl
theorem rdA_e : rdA i ρ = match ρ[i]? with
  | some (.fz t) => .ok t ρ
  | some (.ow o) => .ok (frzO o) (ρ.set i (.fz (frzO o)))
  | _ => .bad := Eq.trans rfl rfl
theorem has_e : has i ρ = match ρ[i]? with
  | some (.fz t) => .t t
  | some (.ow o) => .o o
  | some (.pa o) => .o o
  | _ => .no := Eq.trans rfl rfl
@[simp] theorem isHas_t {t : T} : isHas (.t t) = true := Eq.trans rfl rfl
@[simp] theorem isHas_o {o : O} : isHas (.o o) = true := Eq.trans rfl rfl
@[simp] theorem ixA_e : ixA i f ρ = if isHas (has i ρ) = true then (f ρ).bind fun y ρ => match has i ρ with
  | .t t => liftO (ixO t y) ρ
  | .o (.l ts) => match y with
    | .int j => liftO (atT ts j) ρ
    | _ => .bad
  | _ => .bad else .bad := Eq.trans rfl rfl
@[simp] theorem lenA_e : lenA i ρ = match has i ρ with
  | .t t => liftO (lenO [t]) ρ
  | .o (.l ts) => .ok (.int ts.length) ρ
  | _ => .bad := Eq.trans rfl rfl
theorem rdOwn_e : rdOwn i ρ = ρ[i]?.bind SV.obj := Eq.trans rfl rfl
@[simp] theorem obj_ow {o : O} : SV.obj (.ow o) = some o := Eq.trans rfl rfl
@[simp] theorem obj_pa {o : O} : SV.obj (.pa o) = some o := Eq.trans rfl rfl
@[simp] theorem obj_fz {t : T} : SV.obj (.fz t) = none := Eq.trans rfl rfl
theorem setOwn_e {o : O} : setOwn i o ρ = match ρ[i]? with
  | some x => ρ.set i (x.to o)
  | none => ρ := Eq.trans rfl rfl
@[simp] theorem to_ow {o o' : O} : (SV.ow o).to o' = .ow o' := Eq.trans rfl rfl
@[simp] theorem to_pa {o o' : O} : (SV.pa o).to o' = .pa o' := Eq.trans rfl rfl
@[simp] theorem withOwn_e {f : M α} : withOwn i f ρ = match rdOwn i ρ with
  | some _ => f ρ
  | none => .bad := Eq.trans rfl rfl
@[simp] theorem withL_e {f : M α} : withL i f ρ = if isL (rdOwn i ρ) = true then f ρ else .bad := Eq.trans rfl rfl
@[simp] theorem isL_l {ts : List T} : isL (some (.l ts)) = true := Eq.trans rfl rfl
@[simp] theorem sSetI_e {fi fv : M T} : sSetI i fi fv ρ = (fv ρ).bind fun t ρ => withOwn i (fun ρ => (fi ρ).bind fun y ρ => match rdOwn i ρ, y with
  | some (.l ts), .int j => match idx ts.length j with
    | some m => .ok .nx (setOwn i (.l (ts.set m t)) ρ)
    | none => .bad
  | _, _ => .bad) ρ := Eq.trans rfl rfl
@[simp] theorem apnM_e : apnM i f ρ = withL i (fun ρ => (f ρ).bind fun y ρ => match rdOwn i ρ with
  | some (.l ts) => if ts.length < 16777216 then .ok .non (setOwn i (.l (ts ++ [y])) ρ) else .bad
  | _ => .bad) ρ := Eq.trans rfl rfl
@[simp] theorem calM_e {G : SgM} : calM G i fs ρ = withOwn i (fun ρ => (fs ρ).bind fun ts ρ => match rdOwn i ρ with
  | some o => match G o ts with
    | .ok (t, o') _ => .ok t (setOwn i o' ρ)
    | _ => .bad
  | none => .bad) ρ := Eq.trans rfl rfl
@[simp] theorem lcM_e {vs : List Nat} {src : M (List T)} {gt : MG} {test : M Bool} {elt : M T} : lcM vs src gt test elt ρ = (src ρ).bind fun ts ρ => if freeS ρ vs = true then (lcL vs gt test elt ts [] ρ).bind fun l ρ => .ok (.l l) ρ else .bad := Eq.trans rfl rfl
@[simp] theorem poN_e : poN ρ = .ok none ρ := Eq.trans rfl rfl
@[simp] theorem slM_e {fl fh : MO} : slM fa fl fh ρ = (fa ρ).bind fun t ρ => (fl ρ).bind fun lo ρ => (fh ρ).bind fun hi ρ => liftO (slO t lo hi) ρ := Eq.trans rfl rfl
@[simp] theorem poS_e : poS f ρ = (f ρ).bind fun t ρ => match t with
  | .int i => .ok (some i) ρ
  | _ => .bad := Eq.trans rfl rfl
@[simp] theorem outF_rt {t : T} : outF (.ok (.rt t) ρ) = .ok t [] := Eq.trans rfl rfl
@[simp] theorem outF_nx : outF (.ok .nx ρ) = .ok .non [] := Eq.trans rfl rfl
@[simp] theorem outF_bad : outF .bad = .bad := Eq.trans rfl rfl
@[simp] theorem lent_e {o : O} {r : Env} : lent (.pa o :: r) = some o := Eq.trans rfl rfl
@[simp] theorem outM_rt {t : T} : outM (.ok (.rt t) ρ) = outV t ρ := Eq.trans rfl rfl
@[simp] theorem outM_nx : outM (.ok .nx ρ) = outV .non ρ := Eq.trans rfl rfl
@[simp] theorem outM_bad : outM .bad = .bad := Eq.trans rfl rfl
@[simp] theorem outV_e {t : T} {o : O} {r : Env} : outV t (.pa o :: r) = .ok (t, o) [] := Eq.trans rfl rfl
end
/-! ### operators on given kinds -/
section
variable {i j : Int} {a b : Bool} {x y : T} {xs ys : List T} {z w : Str}
@[simp] theorem intO_e {f : Int → Int → T} : intO f (.int i) (.int j) = some (f i j) := Eq.trans rfl rfl
@[simp] theorem intC_e {c : Int → Int → Bool} {f : Int → Int → Int} : intC c f (.int i) (.int j) = if c i j then some (.int (f i j)) else none := Eq.trans rfl rfl
@[simp] theorem mulO_e : mulO (.int i) (.int j) = if mulC i j then some (.int (i * j)) else none := Eq.trans rfl rfl
@[simp] theorem addO_int : addO (.int i) (.int j) = some (.int (i + j)) := Eq.trans rfl rfl
@[simp] theorem addO_lst : addO (.lst xs) (.lst ys) = if xs.length + ys.length ≤ 16777216 then some (.lst (xs ++ ys)) else none := Eq.trans rfl rfl
@[simp] theorem addO_tup : addO (.tup xs) (.tup ys) = if xs.length + ys.length ≤ 16777216 then some (.tup (xs ++ ys)) else none := Eq.trans rfl rfl
@[simp] theorem addO_str : addO (.str z) (.str w) = if z.length + w.length ≤ 16777216 then some (.str (z ++ w)) else none := Eq.trans rfl rfl
@[simp] theorem negO_e : negO (.int i) = some (.int (-i)) := Eq.trans rfl rfl
theorem modO_e (h : 0 < j) : modO (.int i) (.int j) = some (.int (i % j)) := by
  show (if decide (j ≠ 0) = true then some (T.int (i.fmod j)) else none) = _
  rw [if_pos (decide_eq_true (by omega)), Int.fmod_eq_emod_of_nonneg _ (by omega)]
theorem mulC_of {m n : Nat} (hi : i.natAbs < 2 ^ m) (hj : j.natAbs < 2 ^ n) (hm : 0 < m) (hn : 0 < n) (h : m + n ≤ 1000000) : mulC i j = true := by
  unfold mulC
  rw [decide_eq_true_eq]
  have h1 := PySem.Flt.log2_lt_of hm hi
  have h2 := PySem.Flt.log2_lt_of hn hj
  omega
@[simp] theorem eqO_int : eqO (.int i) (.int j) = some (.bl (decide (i = j))) := by
  simp [eqO, eqT, flatT, L2.scal]
@[simp] theorem neO_int : neO (.int i) (.int j) = some (.bl (!decide (i = j))) := by
  simp [neO, eqT, flatT, L2.scal]
@[simp] theorem eqO_bl : eqO (.bl a) (.bl b) = some (.bl (decide (a = b))) := by
  simp [eqO, eqT, flatT, L2.scal]
@[simp] theorem neO_bl : neO (.bl a) (.bl b) = some (.bl (!decide (a = b))) := by
  simp [neO, eqT, flatT, L2.scal]
@[simp] theorem eqO_str : eqO (.str z) (.str w) = some (.bl (decide (z = w))) := by
  simp [eqO, eqT, flatT, L2.scal]
@[simp] theorem neO_str : neO (.str z) (.str w) = some (.bl (!decide (z = w))) := by
  simp [neO, eqT, flatT, L2.scal]
@[simp] theorem eqO_nn : eqO .non .non = some (.bl true) := by
  simp [eqO, eqT, flatT, L2.scal]
@[simp] theorem is_bl : isNO false (.bl a) (.bl b) = some (.bl (decide (a = b))) := Eq.trans rfl rfl
@[simp] theorem isn_bl : isNO true (.bl a) (.bl b) = some (.bl (!decide (a = b))) := Eq.trans rfl rfl
@[simp] theorem is_nn : isNO false .non .non = some (.bl true) := Eq.trans rfl rfl
@[simp] theorem isn_nn : isNO true .non .non = some (.bl false) := Eq.trans rfl rfl
@[simp] theorem is_tn : isNO false (.tup xs) .non = some (.bl false) := Eq.trans rfl rfl
@[simp] theorem is_in : isNO false (.int i) .non = some (.bl false) := Eq.trans rfl rfl
@[simp] theorem isn_tn : isNO true (.tup xs) .non = some (.bl true) := Eq.trans rfl rfl
@[simp] theorem isn_in : isNO true (.int i) .non = some (.bl true) := Eq.trans rfl rfl
@[simp] theorem tyT_non : tyT .non = some .non := Eq.trans rfl rfl
@[simp] theorem tyT_bl : tyT (.bl a) = some .bl := Eq.trans rfl rfl
@[simp] theorem tyT_int : tyT (.int i) = some .int := Eq.trans rfl rfl
@[simp] theorem tyT_str : tyT (.str z) = some .str := Eq.trans rfl rfl
@[simp] theorem tyT_lst : tyT (.lst xs) = some .lst := Eq.trans rfl rfl
@[simp] theorem tyT_sl : tyT (.sl xs) = some .lst := Eq.trans rfl rfl
@[simp] theorem tyT_tup : tyT (.tup xs) = some .tup := Eq.trans rfl rfl
@[simp] theorem tyT_dk {ks : List L2.Key} {vs : List T} : tyT (.dk ks vs) = some .dct := Eq.trans rfl rfl
@[simp] theorem isiO_e {b : Ty} : isiO b x = (tyT x).map fun a => .bl (isTy a b) := Eq.trans rfl rfl
@[simp] theorem isi2O_e {b c : Ty} : isi2O b c x = (tyT x).map fun a => .bl (isTy a b || isTy a c) := Eq.trans rfl rfl
@[simp] theorem isTy_e {a b : Ty} : isTy a b = (decide (a = b) || (decide (a = .bl) && decide (b = .int))) := Eq.trans rfl rfl
@[simp] theorem tupO_e : tupO xs = if xs.length ≤ 16777216 then some (.tup xs) else none := Eq.trans rfl rfl
@[simp] theorem newL_e : newL xs = if xs.length ≤ 16777216 then some (.l xs) else none := Eq.trans rfl rfl
@[simp] theorem abs1O_e : abs1O [.int i] = some (.int (if i < 0 then -i else i)) := Eq.trans rfl rfl
@[simp] theorem lenO_l : lenO [.lst xs] = some (.int xs.length) := Eq.trans rfl rfl
@[simp] theorem lenO_s : lenO [.sl xs] = some (.int xs.length) := Eq.trans rfl rfl
@[simp] theorem lenO_t : lenO [.tup xs] = some (.int xs.length) := Eq.trans rfl rfl
@[simp] theorem lenO_str : lenO [.str z] = if z.length ≤ 16777216 then some (.int z.length) else none := Eq.trans rfl rfl
@[simp] theorem ixO_l : ixO (.lst xs) (.int i) = atT xs i := Eq.trans rfl rfl
@[simp] theorem ixO_s : ixO (.sl xs) (.int i) = atT xs i := Eq.trans rfl rfl
@[simp] theorem ixO_t : ixO (.tup xs) (.int i) = atT xs i := Eq.trans rfl rfl
@[simp] theorem all1O_e : all1O [.lst xs] = (blsT xs).map fun bs => .bl (bs.all id) := Eq.trans rfl rfl
@[simp] theorem rg1_e : rg1 [.int j] = if decide (-4611686018427387904 ≤ j) && decide (j < 4611686018427387904) then some (rgT 0 j.toNat) else none := Eq.trans rfl rfl
@[simp] theorem rg2_e : rg2 [.int i, .int j] = if decide (-4611686018427387904 ≤ i) && decide (i < 4611686018427387904) && decide (-4611686018427387904 ≤ j) && decide (j < 4611686018427387904) then some (rgT i (j - i).toNat) else none := Eq.trans rfl rfl
@[simp] theorem enum1_e : enum1 [x] = (seqT x).map (enumT 0) := Eq.trans rfl rfl
theorem atT_nat {n : Nat} {t : T} (h : xs[n]? = some t) : atT xs (n : Int) = some t := by
  have hl := (List.getElem?_eq_some_iff.mp h).1
  unfold atT idx
  rw [if_pos (by omega), if_pos (by omega)]
  simpa using h
theorem atT_pos {t : T} (h0 : 0 ≤ i) (h : xs[i.toNat]? = some t) : atT xs i = some t := by
  have := atT_nat h
  rwa [Int.toNat_of_nonneg h0] at this
end
/-! ### loops -/
@[simp] theorem forL_nil {g : MG} {s : MS} {ρ : Env} : forL g s [] ρ = .ok .nx ρ := Eq.trans rfl rfl
/-- [e for x in ts if t], nothing else changed -/
theorem lcL_map {ρ0 : Env} {i : Nat} {test : M Bool} {elt : M T} {p : T → Bool} {φ : T → T} (hi : i < ρ0.length) : ∀ {ts acc : List T}, (∀ t ∈ ts, test (ρ0.set i (.fz t)) = .ok (p t) (ρ0.set i (.fz t))) → (∀ t ∈ ts, p t = true → elt (ρ0.set i (.fz t)) = .ok (φ t) (ρ0.set i (.fz t))) →
    acc.length + ts.length ≤ 16777216 → lcL [i] (gN i) test elt ts acc ρ0 = .ok (acc ++ (ts.filter p).map φ) ρ0
  | [], acc, _, _, _ => by simp [lcL]
  | t :: ts, acc, h1, h2, hl => by
    have b1 : ∀ x, bring ρ0 (ρ0.set i x) [i] = ρ0 := fun x => by
      show (ρ0.set i x).set i (ρ0.getD i .un) = ρ0
      rw [List.set_set]
      apply List.ext_getElem?
      intro j
      by_cases hj : i = j
      · subst hj
        rw [List.getElem?_set_self (by simpa using hi), List.getD_eq_getElem?_getD, List.getElem?_eq_getElem hi]
        rfl
      · rw [List.getElem?_set_ne hj]
    have w1 : gN i t (wipeE ρ0 [i]) = some (ρ0.set i (.fz t)) := by
      show (if i < ((ρ0.set i .un)).length then some ((ρ0.set i .un).set i (.fz t)) else none) = _
      rw [if_pos (by simpa using hi), List.set_set]
    have h1t := h1 t (List.mem_cons_self ..)
    unfold lcL
    rw [w1]
    simp only [h1t, noX_ok, bind_ok]
    simp only [List.length_cons] at hl
    cases hp : p t with
    | true =>
      simp only [if_true, h2 t (List.mem_cons_self ..) hp, noX_ok, bind_ok, b1]
      rw [if_pos (by omega), lcL_map hi (fun t ht => h1 t (List.mem_cons_of_mem _ ht)) (fun t ht => h2 t (List.mem_cons_of_mem _ ht)) (by simp; omega)]
      simp [List.filter_cons, hp]
    | false =>
      simp only [Bool.false_eq_true, if_false, b1]
      rw [lcL_map hi (fun t ht => h1 t (List.mem_cons_of_mem _ ht)) (fun t ht => h2 t (List.mem_cons_of_mem _ ht)) (by omega)]
      simp [List.filter_cons, hp]
end FL

/-! FL13: small things. -/
namespace FL
open PySem PySem.Spec L2
theorem bad_sp {K : PySem.W.Frag} {mg : Str → Option Value} {vs : List V} {H : Hp} {Q : V → Hp → Prop} {E : XK} (h : spF K mg (fun _ => .bad) vs H Q E) : False := by
  obtain ⟨B, F, ts, _, _, _, _, z⟩ := h
  exact z
section
variable {i j : Int}
@[simp] theorem gtO_e : gtO (.int i) (.int j) = some (.bl (decide (j < i))) := Eq.trans rfl rfl
@[simp] theorem ltO_e : ltO (.int i) (.int j) = some (.bl (decide (i < j))) := Eq.trans rfl rfl
@[simp] theorem geO_e : geO (.int i) (.int j) = some (.bl (decide (j ≤ i))) := Eq.trans rfl rfl
@[simp] theorem leO_e : leO (.int i) (.int j) = some (.bl (decide (i ≤ j))) := Eq.trans rfl rfl
end
end FL

/-! FL14: == on data. -/
namespace FL
open PySem PySem.Spec L2
mutual
/-- numbers, texts, and rows of them, so deep -/
def dat : Nat → T → Bool
  | _, .non => true
  | _, .int _ => true
  | _, .str x => PyData.strOk x
  | k + 1, .tup ts => dats k ts
  | k + 1, .lst ts => dats k ts
  | _, _ => false
def dats : Nat → List T → Bool
  | _, [] => true
  | k, t :: ts => dat k t && dats k ts
end
mutual
theorem dat_toD : ∀ {k : Nat} {t : T}, dat k t = true → ∃ d, toD t = some d ∧ d.canLay0 = true ∧ d.depth ≤ k
  | k, .non, _ => ⟨.none, by simp only [toD], by simp only [PyData.canLay0], by simp [PyData.depth]⟩
  | k, .int i, _ => ⟨.int i, by simp only [toD], by simp only [PyData.canLay0], by simp [PyData.depth]⟩
  | k, .str x, h => ⟨.str x, by simp only [toD], by simpa only [PyData.canLay0, dat] using h, by simp [PyData.depth]⟩
  | k + 1, .tup ts, h => by
    obtain ⟨ds, e, c, l⟩ := dats_toD (k := k) (ts := ts) (by simpa only [dat] using h)
    exact ⟨.tuple ds, by simp only [toD, e, Option.map_some], by simpa only [PyData.canLay0] using c, by simp only [PyData.depth]; omega⟩
  | k + 1, .lst ts, h => by
    obtain ⟨ds, e, c, l⟩ := dats_toD (k := k) (ts := ts) (by simpa only [dat] using h)
    exact ⟨.list ds, by simp only [toD, e, Option.map_some], by simpa only [PyData.canLay0] using c, by simp only [PyData.depth]; omega⟩
  | 0, .tup ts, h => by simp [dat] at h
  | 0, .lst ts, h => by simp [dat] at h
  | _, .bl _, h => by simp [dat] at h
  | _, .sl _, h => by simp [dat] at h
  | _, .fn _, h => by simp [dat] at h
  | _, .dk _ _, h => by simp [dat] at h
  | _, .dt _ _, h => by simp [dat] at h
theorem dats_toD : ∀ {k : Nat} {ts : List T}, dats k ts = true → ∃ ds, toDs ts = some ds ∧ PyData.canLayAll0 ds = true ∧ PyData.depthAll ds ≤ k
  | k, [], _ => ⟨[], by simp only [toDs], by simp only [PyData.canLayAll0], by simp [PyData.depthAll]⟩
  | k, t :: ts, h => by
    simp only [dats, Bool.and_eq_true] at h
    obtain ⟨d, e1, c1, l1⟩ := dat_toD h.1
    obtain ⟨ds, e2, c2, l2⟩ := dats_toD h.2
    exact ⟨d :: ds, by simp only [toDs, e1, e2], by simp only [PyData.canLayAll0, c1, c2, Bool.and_self], by simp only [PyData.depthAll]; omega⟩
end
mutual
theorem eqv_dat : ∀ {k m : Nat} {t u : T} {d e : PyData}, dat k t = true → dat m u = true → toD t = some d → toD u = some e → (PyData.eqv d e = true ↔ t = u)
  | k, m, t, u, d, e, ht, hu, hd, he => by
    cases t <;> first
      | (simp [dat] at ht; done)
      | skip
    all_goals cases u <;> first
      | (simp [dat] at hu; done)
      | skip
    all_goals simp only [toD, Option.some.injEq, Option.map_eq_some_iff] at hd he
    all_goals first
      | (obtain ⟨ds, h1, rfl⟩ := hd; obtain ⟨es, h2, rfl⟩ := he
         cases k with
         | zero => simp [dat] at ht
         | succ k => cases m with
           | zero => simp [dat] at hu
           | succ m =>
             simp only [dat] at ht hu
             have := eqvs_dat ht hu h1 h2
             simp [PyData.eqv, this]
             done)
      | (obtain ⟨ds, h1, rfl⟩ := hd; subst he; simp [PyData.eqv]; done)
      | (obtain ⟨ds, h1, rfl⟩ := he; subst hd; simp [PyData.eqv]; done)
      | (subst hd; subst he; simp [PyData.eqv]; done)
theorem eqvs_dat : ∀ {k m : Nat} {ts us : List T} {ds es : List PyData}, dats k ts = true → dats m us = true → toDs ts = some ds → toDs us = some es → (PyData.eqvAll ds es = true ↔ ts = us)
  | k, m, [], [], ds, es, _, _, hd, he => by
    simp only [toDs, Option.some.injEq] at hd he
    subst hd he; simp [PyData.eqvAll]
  | k, m, t :: ts, [], ds, es, ht, _, hd, he => by
    simp only [dats, Bool.and_eq_true] at ht
    obtain ⟨d, e1, _, _⟩ := dat_toD ht.1
    obtain ⟨ds', e2, _, _⟩ := dats_toD ht.2
    simp only [toDs, e1, e2, Option.some.injEq] at hd he
    subst hd he; simp [PyData.eqvAll]
  | k, m, [], u :: us, ds, es, _, hu, hd, he => by
    simp only [dats, Bool.and_eq_true] at hu
    obtain ⟨d, e1, _, _⟩ := dat_toD hu.1
    obtain ⟨ds', e2, _, _⟩ := dats_toD hu.2
    simp only [toDs, e1, e2, Option.some.injEq] at hd he
    subst hd he; simp [PyData.eqvAll]
  | k, m, t :: ts, u :: us, ds, es, ht, hu, hd, he => by
    simp only [dats, Bool.and_eq_true] at ht hu
    obtain ⟨d, e1, _, _⟩ := dat_toD ht.1
    obtain ⟨ds', e2, _, _⟩ := dats_toD ht.2
    obtain ⟨f, e3, _, _⟩ := dat_toD hu.1
    obtain ⟨fs', e4, _, _⟩ := dats_toD hu.2
    simp only [toDs, e1, e2, e3, e4, Option.some.injEq] at hd he
    subst hd he
    simp only [PyData.eqvAll, Bool.and_eq_true, eqv_dat ht.1 hu.1 e1 e3, eqvs_dat ht.2 hu.2 e2 e4, List.cons.injEq]
end
/-- rows of ints -/
def its (L : List Int) : List T := L.map T.int
end FL

/-! FL15: loops: an accumulator; the first that stops; comprehensions that draw. -/
namespace FL
open PySem PySem.Spec L2
end FL

/-! FL16: x in y. -/
namespace FL
open PySem PySem.Spec PyProof.Rows L2
section
variable {X : Cx}
/-- is x among them -/
def amongT (x : T) (ys : List T) : Option Bool := match toD x, toDs ys with
  | some d, some ds => if SeqAt.shaped d && SeqAt.shaped (.list ds) then some (ds.any fun z => PyData.eqv z d) else none
  | _, _ => none
def inB (x y : T) : Option Bool := match y with
  | .lst ys => amongT x ys
  | .sl ys => amongT x ys
  | .tup ys => amongT x ys
  | .str z => match x with
    | .str ⟨cs⟩ => match cs.toList with
      | [c] => some (decide (c ∈ z.cps.toList))
      | _ => none
    | _ => none
  | _ => none
def inO (x y : T) : Option T := (inB x y).map T.bl
def ninO (x y : T) : Option T := (inB x y).map fun b => T.bl (!b)
def rInTup (K : PySem.W.Frag) : R2 := fun x y H Q => ∃ d ds, Dp K H x d ∧ Dp K H y (.tuple ds) ∧ SeqAt.shaped d = true ∧ SeqAt.shaped (.tuple ds) = true ∧ Q (.bl (ds.any fun z => PyData.eqv z d)) H
theorem op_inTup (hu : X.A.units + 65 < cLine) : OpR X (compareOp .In) (rInTup X.K) := by
  intro pins s σ H x y v u Q I rx ry h
  obtain ⟨d, ds, hd, he, sd, se, q⟩ := h
  obtain ⟨as, r1⟩ := Dp.reads I d x v hd rx
  obtain ⟨bs, r2⟩ := Dp.reads I (.tuple ds) y u he ry
  exact SeqAt.in_tuple_reads r2 r1 (SeqAt.canLay_of_shaped se) (SeqAt.canLay_of_shaped sd) (room_in_shaped sd hu) ⟨.bl _, H, I, rfl, q⟩
def rInA (X : Cx) : R2 := fun x y H Q => (rInD X.K x y H Q ∨ rInTup X.K x y H Q) ∨ rInS x y H Q
theorem op_inA (hu : X.A.units + 65 < cLine) : OpR X (compareOp .In) (rInA X) := ((op_inD hu).or (op_inTup hu)).or op_inS
theorem units65 {k : Nat} {A : Around} (hr : Room k A) : A.units + 65 < cLine := by have := hr.un; omega
theorem inB_cases {k : Bk} {F : Hp} {ρ : FL.Env} {σ : L2.St} {H : Hp} {x y : T} {v u : V} {b : Bool} (R : RSk X k F ρ σ H) (rx : Rep X.K X.mg F x v) (ry : Rep X.K X.mg F y u) (e : inB x y = some b) :
    (∃ d ds, Dp X.K H v d ∧ (Dp X.K H u (.list ds) ∨ Dp X.K H u (.tuple ds)) ∧ SeqAt.shaped d = true ∧ SeqAt.shaped (.list ds) = true ∧ (ds.any fun z => PyData.eqv z d) = b) ∨ ∃ (c : Nat) (z : Str), v = .str ⟨#[c]⟩ ∧ u = .str z ∧ decide (c ∈ z.cps.toList) = b := by
  have am : ∀ {ys : List T}, amongT x ys = some b → ∃ d ds, toD x = some d ∧ toDs ys = some ds ∧ SeqAt.shaped d = true ∧ SeqAt.shaped (.list ds) = true ∧ (ds.any fun z => PyData.eqv z d) = b := fun {ys} h => by
    unfold amongT at h
    split at h
    · rename_i d ds h1 h2
      split at h
      · rename_i h3
        rw [Bool.and_eq_true] at h3
        exact ⟨d, ds, h1, h2, h3.1, h3.2, Option.some.inj h⟩
      · cases h
    · cases h
  unfold inB at e
  split at e
  · rename_i ys
    obtain ⟨d, ds, h1, h2, h3, h4, h5⟩ := am e
    exact .inl ⟨d, ds, dp_of R.fh _ _ _ rx h1, .inl (dp_of R.fh _ _ _ ry (by simp only [toD, h2, Option.map_some])), h3, h4, h5⟩
  · rename_i ys
    obtain ⟨d, ds, h1, h2, h3, h4, h5⟩ := am e
    exact .inl ⟨d, ds, dp_of R.fh _ _ _ rx h1, .inl (dp_of R.fh _ _ _ ry (by simp only [toD, h2, Option.map_some])), h3, h4, h5⟩
  · rename_i ys
    obtain ⟨d, ds, h1, h2, h3, h4, h5⟩ := am e
    exact .inl ⟨d, ds, dp_of R.fh _ _ _ rx h1, .inr (dp_of R.fh _ _ _ ry (by simp only [toD, h2, Option.map_some])), h3, h4, h5⟩
  · rename_i z
    cases x with
    | str w =>
      obtain ⟨cs⟩ := w
      obtain ⟨l⟩ := cs
      match l, e with
      | [c], e => exact .inr ⟨c, z, rx, ry, Option.some.inj e⟩
    | _ => cases e
  · cases e
theorem ot_in : OpT X (rInA X) inO := fun k F ρ σ H Q x y t v u R rx ry e g => by
  unfold inO at e
  rw [Option.map_eq_some_iff] at e
  obtain ⟨b, e, rfl⟩ := e
  rcases inB_cases R rx ry e with ⟨d, ds, h1, h2, h3, h4, h5⟩ | ⟨c, z, h1, h2, h3⟩
  · rcases h2 with h2 | h2
    · exact .inl (.inl ⟨d, ds, h1, h2, h3, h4, by rw [h5]; exact g (.bl b) F H R (Same.refl _) rfl⟩)
    · exact .inl (.inr ⟨d, ds, h1, h2, h3, h4, by rw [h5]; exact g (.bl b) F H R (Same.refl _) rfl⟩)
  · exact .inr ⟨c, z, h1, h2, by rw [h3]; exact g (.bl b) F H R (Same.refl _) rfl⟩
end
end FL

/-! FL17: x[i] += e; [c] * n. -/
namespace FL
open PySem PySem.Spec PyProof.Rows L2
section
variable {X : Cx}
end
section
variable {X : Cx} {E : XK} {b e : Expr} {pos p p2 : Pos} {fi f : M T} {x : Str} {i : Nat}
end
end FL

/-! FL18: new lists: [..] * n, a + b. -/
namespace FL
open PySem PySem.Spec PyProof.Rows L2
section
variable {X : Cx} {E : XK} {a b : Expr} {pos : Pos} {fa fb : M T}
variable {o : T → T → Option O} {ρ : FL.Env} {ts us : List T} {k : Int}
end
end FL

/-! FL19: sorted(xs), data of one kind. -/
namespace FL
open PySem PySem.Spec PyProof.Rows L2
/-! mergeSort with fuel: the kernel reckons it -/
section
variable {α : Type}
def mrgF (le : α → α → Bool) : Nat → List α → List α → List α
  | 0, xs, ys => xs ++ ys
  | n + 1, [], ys => ys
  | n + 1, xs, [] => xs
  | n + 1, x :: xs, y :: ys => if le x y = true then x :: mrgF le n xs (y :: ys) else y :: mrgF le n (x :: xs) ys
theorem mrgF_eq (le : α → α → Bool) : ∀ (n : Nat) (xs ys : List α), xs.length + ys.length ≤ n → mrgF le n xs ys = List.merge xs ys le
  | 0, xs, ys, h => by
    have h1 : xs = [] := List.eq_nil_of_length_eq_zero (by omega)
    have h2 : ys = [] := List.eq_nil_of_length_eq_zero (by omega)
    subst h1; subst h2
    simp [mrgF, List.merge]
  | n + 1, [], ys, h => by simp [mrgF, List.merge]
  | n + 1, x :: xs, [], h => by simp [mrgF, List.merge]
  | n + 1, x :: xs, y :: ys, h => by
    simp only [List.length_cons] at h
    simp only [mrgF, List.merge]
    split
    · rw [mrgF_eq le n xs (y :: ys) (by simp only [List.length_cons]; omega)]
    · rw [mrgF_eq le n (x :: xs) ys (by simp only [List.length_cons]; omega)]
def msF (le : α → α → Bool) : Nat → List α → List α
  | 0, xs => xs
  | n + 1, [] => []
  | n + 1, [x] => [x]
  | n + 1, x :: y :: xs => mrgF le ((x :: y :: xs).length) (msF le n ((x :: y :: xs).take ((xs.length + 3) / 2))) (msF le n ((x :: y :: xs).drop ((xs.length + 3) / 2)))
theorem msF_eq (le : α → α → Bool) : ∀ (n : Nat) (xs : List α), xs.length ≤ n + 1 → msF le n xs = xs.mergeSort le
  | 0, [], h => by simp [msF]
  | 0, [x], h => by simp [msF]
  | 0, x :: y :: xs, h => by simp at h
  | n + 1, [], h => by simp [msF]
  | n + 1, [x], h => by simp [msF]
  | n + 1, x :: y :: xs, h => by
    simp only [List.length_cons] at h
    simp only [msF]
    rw [msF_eq le n _ (by simp only [List.length_take, List.length_cons]; omega), msF_eq le n _ (by simp only [List.length_drop, List.length_cons]; omega)]
    rw [mrgF_eq le _ _ _ (by simp only [List.length_mergeSort, List.length_take, List.length_drop, List.length_cons]; omega)]
    rw [List.mergeSort]
    simp only [List.MergeSort.Internal.splitInTwo_fst, List.MergeSort.Internal.splitInTwo_snd]
    rfl
def srt (le : α → α → Bool) (xs : List α) : List α := msF le xs.length xs
theorem srt_eq (le : α → α → Bool) (xs : List α) : srt le xs = xs.mergeSort le := msF_eq le _ _ (by omega)
end
section
variable {X : Cx}
theorem each_mem {β : Type} {R R' : Value → β → Prop} : ∀ {bs : List β} {vs : List Value}, PySem.W.EachIs R vs bs → (∀ b ∈ bs, ∀ v, R v b → R' v b) → PySem.W.EachIs R' vs bs
  | _, _, .nil, _ => .nil
  | _, _, .cons h t, f => .cons (f _ (List.mem_cons_self ..) _ h) (each_mem t fun b hb => f b (List.mem_cons_of_mem _ hb))
end
def okSort (ds : List PyData) : Bool := (ds.all fun d => ds.all fun e => PySem.W.alike d e) && (ds.all fun d => decide (d.depth ≤ 64)) && ((ds.all fun d => match d with
  | .tuple (_ :: _) => true
  | _ => false) || ds.all fun d => match d with
  | .none => false
  | .tuple _ => false
  | _ => true)
theorem okSort_spec {ds : List PyData} (h : okSort ds = true) : PySem.W.AllAlike ds ∧ PySem.W.Sortable ds ∧ ∀ d ∈ ds, d.depth ≤ 64 := by
  simp only [okSort, Bool.and_eq_true, Bool.or_eq_true, List.all_eq_true, decide_eq_true_eq] at h
  refine ⟨fun d hd e he => h.1.1 d hd e he, ?_, h.1.2⟩
  rcases h.2 with h | h
  · refine .inl fun d hd => ?_
    have := h d hd
    split at this
    · exact ⟨_, _, rfl⟩
    · cases this
  · refine .inr fun d hd => ?_
    have := h d hd
    constructor
    · rintro rfl; cases this
    · rintro xs rfl; cases this
section
variable {X : Cx} {E : XK} {e : Expr} {es : List Expr} {pos : Pos} {fs : M (List T)}
end
theorem units66 {k : Nat} {A : Around} (hr : Room k A) : A.units + 66 < cLine := by have := hr.un; omega
end FL

/-! FL20: range with a step. -/
namespace FL
open PySem PySem.Spec PyProof.Rows L2
section
variable {X : Cx} {E : XK} {pos : Pos}
end
end FL

/-! FL21: [e for x in a if p for y in b if q]. -/
namespace FL
open PySem PySem.Spec PyProof.Rows L2
section
variable {J : It} {n : Nat} {G : Hp → Prop} {Y : Nat → Hp → V → Hp → Prop}
end
section
variable {X : Cx} {E : XK} {f : M T}
end
end FL

set_option maxHeartbeats 4000000
/-! FL22: tuples and texts times a number; int of a truth value; division by any number. -/
namespace FL
open PySem PySem.Spec PyProof.Rows L2
theorem tuple_mulW1 (l : Addr) (items : Array Value) (n : Nat) (dd : Option Addr) (sl : Array (Option Value)) (x : Int) (u : Tok) (c0 : (decide (x < -(2 ^ 63)) || decide (x ≥ 2 ^ 63)) = false) (c1 : (items.isEmpty || x == 1) = true) :
    Meets (Builtin.«tuple.__mul__» ⟨[.ref l, .int x u], []⟩) (fun _ R s => s.heap.get? l = some { cls := .type "tuple", dict := dd, data := .seq items n, slots := sl } ∧
      R (.ok (.ret (Value.ref l))) s) :=
  .of_wp fun prog w A R s h => by
    obtain ⟨hp, g, d, tk, os⟩ := s
    obtain ⟨hl, h⟩ := h
    have f1 := AutoSeq1.idx_int
    have f2 : (Value.type "tuple" == Value.type "tuple") = true := by decide
    wp_walk using wpAny_loadPart' hl
    repeat (first
      | (refine wpAny_ite_false (decide_eq_false (by rw [c0]; exact Bool.false_ne_true)) ?_; wp_walk using wpAny_loadPart' hl)
      | (refine wpAny_ite_true (decide_eq_true c1) ?_; wp_walk using wpAny_loadPart' hl)
      | (refine wpAny_ite_true (decide_eq_true f2) ?_; wp_walk using wpAny_loadPart' hl))
    exact ⟨_, rfl, h⟩
theorem tuple_mulW0 (l : Addr) (items : Array Value) (n : Nat) (dd : Option Addr) (sl : Array (Option Value)) (x : Int) (u : Tok) (c0 : (decide (x < -(2 ^ 63)) || decide (x ≥ 2 ^ 63)) = false) (c1 : (items.isEmpty || x == 1) = false) (c2 : (decide (x ≤ 0) || items.isEmpty) = true) :
    Meets (Builtin.«tuple.__mul__» ⟨[.ref l, .int x u], []⟩) (fun _ R s => s.heap.get? l = some { cls := .type "tuple", dict := dd, data := .seq items n, slots := sl } ∧
      R (.ok (.ret (Value.ref s.heap.objs.size))) { s with heap := s.heap.push { cls := Value.type "tuple", data := Data.seq #[] }, toks := s.toks }) :=
  .of_wp fun prog w A R s h => by
    obtain ⟨hp, g, d, tk, os⟩ := s
    obtain ⟨hl, h⟩ := h
    have f1 := AutoSeq1.idx_int
    wp_walk using wpAny_loadPart' hl
    repeat (first
      | (refine wpAny_ite_false (decide_eq_false (by rw [c0]; exact Bool.false_ne_true)) ?_; wp_walk using wpAny_loadPart' hl)
      | (refine wpAny_ite_false (decide_eq_false (by rw [c1]; exact Bool.false_ne_true)) ?_; wp_walk using wpAny_loadPart' hl)
      | (refine wpAny_ite_true (decide_eq_true c2) ?_; wp_walk using wpAny_loadPart' hl))
    exact ⟨_, rfl, h⟩
def rRep1 (K : PySem.W.Frag) : R2 := fun x y H Q => ∃ l xs, x = .ref l ∧ y = .int 1 ∧ SqT K H l xs ∧ Q (.ref l) H
def rRep0 (K : PySem.W.Frag) : R2 := fun x y H Q => ∃ l k xs, x = .ref l ∧ y = .int k ∧ SqT K H l xs ∧ xs ≠ [] ∧ k ≤ 0 ∧ -1000000 ≤ k ∧ ∀ p, H p = none → Q (.ref p) (upd H p (.tup []))
section
variable {X : Cx}
theorem op_rep1 : OpR X (binaryOp .Mult) (rRep1 X.K) := by
  intro pins s σ H x y v u Q I rx ry h
  obtain ⟨l, xs, rfl, rfl, hT, q⟩ := h
  cases rx
  obtain ⟨t, rfl⟩ := ry
  obtain ⟨its, r, ⟨⟨cls, dd, data, sl⟩, ho, hc, n, hd⟩, hs⟩ := I.tuple hT
  simp only at hc hd
  subst hc hd
  refine wpAny_binaryOp_repeat_ref (T := "tuple") (U := "int") (by decide) ⟨_, ho, rfl⟩ (fun s' => typeIs_int s' 1 t) noFill_tuple_mul F.fills_int_mul F.slot_int_rmul repeat_tuple F.slot_int_index.lookup
    (call_meets F.slot_int_rmul (typeIs_int s 1 t) F.entry_int_rmul (F.args_int_rmul_2 _ _) (int_rmul_tuple 1 t l its.toArray n dd sl)
      ⟨ho, rfl, ⟨_, ho, rfl⟩, call_meets F.slot_tuple_mul ⟨_, ho, rfl⟩ F.entry_tuple_mul (F.args_tuple_mul_2 _ _) (tuple_mulW1 l its.toArray n dd sl 1 t (by decide) (by simp)) ⟨ho, ?_⟩⟩)
  exact ⟨.ref l, H, I, rfl, q⟩
theorem op_rep0 : OpR X (binaryOp .Mult) (rRep0 X.K) := by
  intro pins s σ H x y v u Q I rx ry h
  obtain ⟨l, k, xs, rfl, rfl, hT, hne, h1, h2, q⟩ := h
  cases rx
  obtain ⟨t, rfl⟩ := ry
  obtain ⟨its, r, ⟨⟨cls, dd, data, sl⟩, ho, hc, n, hd⟩, hs⟩ := I.tuple hT
  simp only at hc hd
  subst hc hd
  have hle : its.length = xs.length := r.length.symm
  have hn : its ≠ [] := fun e => hne (by
    rw [e] at hle
    exact List.eq_nil_of_length_eq_zero hle.symm)
  have hi : its.toArray.isEmpty = false := by
    cases its with
    | nil => exact absurd rfl hn
    | cons a b => rfl
  have c0 : (decide (k < -(2 ^ 63)) || decide (k ≥ 2 ^ 63)) = false := by
    rw [decide_eq_false (by omega), decide_eq_false (by omega)] <;> rfl
  have c1 : (its.toArray.isEmpty || k == 1) = false := by
    rw [hi, Bool.false_or]
    exact beq_eq_false_iff_ne.mpr (by omega)
  have c2 : (decide (k ≤ 0) || its.toArray.isEmpty) = true := by
    rw [hi, Bool.or_false]
    exact decide_eq_true (by omega)
  refine wpAny_binaryOp_repeat_ref (T := "tuple") (U := "int") (by decide) ⟨_, ho, rfl⟩ (fun s' => typeIs_int s' k t) noFill_tuple_mul F.fills_int_mul F.slot_int_rmul repeat_tuple F.slot_int_index.lookup
    (call_meets F.slot_int_rmul (typeIs_int s k t) F.entry_int_rmul (F.args_int_rmul_2 _ _) (int_rmul_tuple k t l its.toArray n dd sl)
      ⟨ho, rfl, ⟨_, ho, rfl⟩, call_meets F.slot_tuple_mul ⟨_, ho, rfl⟩ F.entry_tuple_mul (F.args_tuple_mul_2 _ _) (tuple_mulW0 l its.toArray n dd sl k t c0 c1 c2) ⟨ho, ?_⟩⟩)
  refine ⟨.ref s.heap.objs.size, _, I.laid (t' := s.toks) (o := .tup []) (fun b ob q => Heap.get?_push_of_some _ q) (Nat.le_refl _) ?_, rfl, q _ (I.hok.fresh (Nat.le_refl _))⟩
  exact ⟨by decide, _, .nil, IsTup.new _ _⟩
/-- a text times a number -/
def repS (z : Str) (k : Int) : Str := ⟨((List.replicate k.toNat z.cps.toList).flatten).toArray⟩
def rRepS : R2 := fun x y H Q => ∃ z k, x = .str z ∧ y = .int k ∧ -1000000 ≤ k ∧ k ≤ 1000000 ∧ z.length * k.toNat ≤ 1000000 ∧ Q (.str (repS z k)) H
theorem fold_app (xs : Array Nat) : ∀ (m : Nat) (acc : Array Nat), (List.replicate m xs).foldl (· ++ ·) acc = acc ++ ((List.replicate m xs.toList).flatten).toArray
  | 0, acc => by simp
  | m + 1, acc => by
    rw [List.replicate_succ, List.foldl_cons, fold_app xs m, List.replicate_succ, List.flatten_cons]
    apply Array.toList_inj.mp
    simp
theorem repS_eq (z : Str) (k : Int) : (if k < 1 then Str.empty else if (k == 1 || z.length == 0) = true then z else ⟨(List.replicate k.toNat z.cps).foldl (· ++ ·) #[]⟩) = repS z k := by
  unfold repS
  split
  · rename_i h
    have : k.toNat = 0 := by omega
    rw [this]; rfl
  · split
    · rename_i h1 h2
      rw [Bool.or_eq_true, beq_iff_eq, beq_iff_eq] at h2
      rcases h2 with rfl | h2
      · obtain ⟨⟨cs⟩⟩ := z
        simp
      · obtain ⟨⟨cs⟩⟩ := z
        have : cs = [] := by
          have : cs.length = 0 := h2
          exact List.eq_nil_of_length_eq_zero this
        subst this
        simp
    · rw [fold_app]; simp
theorem op_repS : OpR X (binaryOp .Mult) rRepS := by
  intro pins s σ H x y v u Q I rx ry h
  obtain ⟨z, k, rfl, rfl, h1, h2, h3, q⟩ := h
  obtain ⟨t, rfl⟩ := rx
  obtain ⟨u, rfl⟩ := ry
  refine PySem.P.mul_str (by rw [decide_eq_false (by omega), decide_eq_false (by omega)] <;> rfl) ?_ ?_ ?_
  · intro a b
    have hk : k.toNat ≥ 1 := by omega
    have : (z.length : Int) ≤ 1000000 := by
      have : z.length * 1 ≤ z.length * k.toNat := Nat.mul_le_mul_left _ hk
      omega
    have h5 : (1000000 : Int) ≤ (2 ^ 63 - 1) / k := by
      rw [Int.le_ediv_iff_mul_le (by omega)]
      have : 1000000 * k ≤ 1000000 * 1000000 := Int.mul_le_mul_of_nonneg_left h2 (by decide)
      omega
    omega
  · intro a b
    unfold Builtin.Str.tooLong
    rw [sizeLine_eq]
    exact decide_eq_false (by omega)
  · have e := repS_eq z k
    by_cases c1 : k < 1
    · rw [if_pos c1] at e ⊢
      exact ⟨by decide, .str (repS z k), H, I.tok _, ⟨_, by rw [← e]⟩, q⟩
    · rw [if_neg c1] at e ⊢
      by_cases c2 : (k == 1 || z.length == 0) = true
      · rw [if_pos c2] at e ⊢
        exact ⟨.str (repS z k), H, I, ⟨t, by rw [← e]⟩, q⟩
      · rw [if_neg c2] at e ⊢
        refine ⟨?_, .str (repS z k), H, I.tok _, ⟨_, by rw [← e]⟩, q⟩
        rw [e]
        have : (repS z k).length = k.toNat * z.length := by
          show (List.replicate k.toNat z.cps.toList).flatten.toArray.size = _
          rw [List.size_toArray, List.length_flatten, List.map_replicate, List.sum_replicate_nat]
          rfl
        rw [this, sizeLine_eq, Nat.mul_comm]
        omega
/-- any product -/
def mulA (x y : T) : Option T := match x, y with
  | .tup a, .int k => if k = 1 then some (.tup a) else if a = [] then none else if k ≤ 0 then (if -1000000 ≤ k then some (.tup []) else none) else if k ≤ 1000 ∧ a.length ≤ 1000 then some (.tup (List.replicate k.toNat a).flatten) else none
  | .str z, .int k => if -1000000 ≤ k ∧ k ≤ 1000000 ∧ z.length * k.toNat ≤ 1000000 then some (.str (repS z k)) else none
  | x, y => mulO x y
def rMulA (X : Cx) : R2 := fun x y H Q => rMulT X x y H Q ∨ rRepT X.K x y H Q ∨ rRep1 X.K x y H Q ∨ rRep0 X.K x y H Q ∨ rRepS x y H Q
theorem op_mulA : OpR X (binaryOp .Mult) (rMulA X) := op_mulT.or (op_repT.or (op_rep1.or (op_rep0.or op_repS)))
theorem ot_mulA : OpT X (rMulA X) mulA := fun k F ρ σ H Q x y t v u R rx ry e q => by
  unfold mulA at e
  split at e
  · rename_i a i
    obtain ⟨l, xs, rfl, hT, r1⟩ := rx
    have hl := r1.length
    have hu : u = .int i := ry
    subst hu
    by_cases h1 : i = 1
    · subst h1
      rw [if_pos rfl] at e; cases e
      exact .inr (.inr (.inl ⟨l, xs, rfl, rfl, same_SqT R.fh hT, q _ F H R (Same.refl _) ⟨l, xs, rfl, hT, r1⟩⟩))
    · rw [if_neg h1] at e
      by_cases h2 : a = []
      · rw [if_pos h2] at e; cases e
      · rw [if_neg h2] at e
        have hxn : xs ≠ [] := fun z => h2 (by rw [z] at hl; exact List.eq_nil_of_length_eq_zero hl)
        by_cases h3 : i ≤ 0
        · rw [if_pos h3] at e
          split at e
          · rename_i h4
            cases e
            refine .inr (.inr (.inr (.inl ⟨l, i, xs, rfl, rfl, same_SqT R.fh hT, hxn, h3, h4, fun p np => ?_⟩)))
            have sF : Same F (upd F p (.tup [])) := same_upd (R.fnone np)
            exact q _ _ _ (R.newF np) sF ⟨p, [], rfl, upd_same, .nil⟩
          · cases e
        · rw [if_neg h3] at e
          split at e
          · rename_i h4
            cases e
            rw [hl] at h4
            refine .inr (.inl ⟨l, i, xs, rfl, rfl, same_SqT R.fh hT, hxn, by omega, h4.1, h4.2, fun p np => ?_⟩)
            have sF : Same F (upd F p (.tup (List.replicate i.toNat xs).flatten)) := same_upd (R.fnone np)
            exact q _ _ _ (R.newF np) sF ⟨p, _, rfl, upd_same, (r1.rep _).mono sF⟩
          · cases e
  · rename_i z i
    have hu : u = .int i := ry
    have hv : v = .str z := rx
    subst hu; subst hv
    split at e
    · rename_i h
      cases e
      exact .inr (.inr (.inr (.inr ⟨z, i, rfl, rfl, h.1, h.2.1, h.2.2, q _ F H R (Same.refl _) rfl⟩)))
    · cases e
  · exact .inl (ot_mul k F ρ σ H Q x y t v u R rx ry e q)
/-! division by any number -/
def divC2 (_ j : Int) : Bool := decide (0 < j) && decide (j.natAbs.log2 < 9000) || decide (j ≠ 0) && decide (j.natAbs < 1073741824)
abbrev divA := intC divC2 fun i j => i.fdiv j
def rDivA : R2 := fun x y H Q => rI CDivW (fun i j => .int (i / j)) x y H Q ∨ rI CDivN (fun i j => .int (i.fdiv j)) x y H Q
theorem op_divA : OpR X (binaryOp .FloorDiv) rDivA := op_fdivW.or op_fdivN
theorem ot_divA : OpT X rDivA divA := fun k F ρ σ H Q x y t v u R rx ry e q => by
  obtain ⟨i, j, rfl, rfl, h, rfl⟩ := intC_some e
  unfold divC2 at h
  rw [Bool.or_eq_true, Bool.and_eq_true, Bool.and_eq_true] at h
  rcases h with h | h
  · have h1 := of_decide_eq_true h.1
    refine .inl ⟨i, j, rx, ry, ⟨h1, of_decide_eq_true h.2⟩, ?_⟩
    have e1 : i / j = i.fdiv j := (Int.fdiv_eq_ediv_of_nonneg _ (by omega)).symm
    exact q _ F H R (Same.refl _) (show V.int (i / j) = V.int (i.fdiv j) by rw [e1])
  · exact .inr ⟨i, j, rx, ry, ⟨of_decide_eq_true h.1, of_decide_eq_true h.2⟩, q _ F H R (Same.refl _) rfl⟩
/-! differences of truth values too -/
def b01 (b : Bool) : Int := if b then 1 else 0
def subA (x y : T) : Option T := match x, y with
  | .int i, .int j => some (.int (i - j))
  | .bl a, .bl b => some (.int (b01 a - b01 b))
  | _, _ => none
def rSubB : R2 := fun x y H Q => ∃ a b, x = .bl a ∧ y = .bl b ∧ Q (.int (b01 a - b01 b)) H
theorem op_subB : OpR X (binaryOp .Sub) rSubB := by
  intro pins s σ H x y v u Q I rx ry h
  obtain ⟨a, b, rfl, rfl, q⟩ := h
  cases rx
  cases ry
  exact PyProof.Rows.sub_bool ⟨.int (b01 a - b01 b), H, I.tok _, ⟨_, rfl⟩, q⟩
def rSubA : R2 := fun x y H Q => rI0 (fun i j => .int (i - j)) x y H Q ∨ rSubB x y H Q
theorem op_subA : OpR X (binaryOp .Sub) rSubA := op_sub.or op_subB
theorem ot_subA : OpT X rSubA subA := fun k F ρ σ H Q x y t v u R rx ry e q => by
  unfold subA at e
  split at e
  · rename_i i j
    cases e
    exact .inl ⟨i, j, rx, ry, q _ F H R (Same.refl _) rfl⟩
  · rename_i a b
    cases e
    exact .inr ⟨a, b, rx, ry, q _ F H R (Same.refl _) rfl⟩
  · cases e
/-! int of a truth value too -/
def intA (ts : List T) : Option T := match ts with
  | [.int i] => some (.int i)
  | [.bl b] => some (.int (if b then 1 else 0))
  | _ => none
theorem ct_intA : CalT X (fun xs H Q => (∃ i, xs = [.int i] ∧ Q (.int i) H) ∨ ∃ k, xs = [.bl k] ∧ Q (.int (if k then 1 else 0)) H) intA := fun k F ρ σ H Q ts t vs R rs e q => by
  unfold intA at e
  split at e
  · rename_i i
    cases e
    obtain ⟨v, rfl, h⟩ := rs.one_of
    exact .inl ⟨i, by rw [show v = V.int i from h], q _ F H R (Same.refl _) rfl⟩
  · rename_i b
    cases e
    obtain ⟨v, rfl, h⟩ := rs.one_of
    exact .inr ⟨b, by rw [show v = V.bl b from h], q _ F H R (Same.refl _) rfl⟩
  · cases e
end
end FL

/-! FL23: an object of one's own looked at without being given away: in, ==. -/
namespace FL
open PySem PySem.Spec PyProof.Rows L2
section
variable {X : Cx} {E : XK} {a : Expr} {fa : M T} {pos p : Pos} {x : Str} {i : Nat}
end
end FL

/-! FL24: raise of an own exception class. -/
namespace FL
open PySem PySem.Spec PyProof.Rows L2
/-- what a raise of an own class without fields wants of the module's class -/
structure ExcC (K : PySem.W.Frag) (mg : Str → Option Value) (c : Str) : Prop where
  ex : ∃ (C : Addr) (bmB : List Value) (B newId initId : String) (_ : ExcBaseFacts B newId initId bmB), PySem.W.excIn K C bmB newId = true ∧ mg c = some (.ref C) ∧ PySem.W.keepIn K (.ref C) = true ∧ PySem.W.subIn K (.ref C) (.type "BaseException") = some true ∧ PySem.W.typeIn K (.ref C) = some (.type "type")
theorem ExcC.of {K : PySem.W.Frag} {mg : Str → Option Value} {c : Str} {C : Addr} {bmB : List Value} {B newId initId : String} (F : ExcBaseFacts B newId initId bmB) (q : PySem.W.excIn K C bmB newId = true) (g : mg c = some (.ref C)) (k : PySem.W.keepIn K (.ref C) = true)
    (b : PySem.W.subIn K (.ref C) (.type "BaseException") = some true) (t : PySem.W.typeIn K (.ref C) = some (.type "type")) : ExcC K mg c := ⟨⟨C, bmB, B, newId, initId, F, q, g, k, b, t⟩⟩
section
variable {X : Cx} {E : XK} {c : Str} {p pos rpos : Pos}
end
end FL

set_option maxHeartbeats 2000000
/-! FL25: several except clauses, some with a name (as e). -/
namespace FL
open PySem PySem.Spec PyProof.Rows L2
abbrev HB := Addr → Value → Option Addr → TS
section
variable {X : Cx} {pins : List (Addr × Obj)} {a : Addr} {B : Heap} {σ : L2.St} {H : Hp} {cls : Value} {d : Option Addr} {s : Shared} {D : Ends} {Wout : WX}
end
section
variable {X : Cx} {body : List Stmt} {h₀ : ExceptHandler} {hds : List ExceptHandler} {l : List (Value × Option Nat × HB)} {pos : Pos} {tb : WX → TS} {Wout : WX}
end
end FL

set_option maxHeartbeats 2000000
/-! FL26: raise of an own class whose __init__ keeps one field. -/
namespace FL
open PySem PySem.Spec PyProof.Rows L2
/-- def __init__(self, f): self.f = f -/
def spInit (K : PySem.W.Frag) (f : Str) : Sp := fun vs H Q _ => ∃ (a C : Addr) (y : V), vs = [.ref a, y] ∧ H a = some (exo a C none) ∧ OexC K C ∧ PySem.W.findIn K (.ref C) f = some none ∧
  ∀ dx, H dx = none → dx ≠ a → Q .non (upd (upd H dx (exd dx [(f, y)])) a (exo a C (some dx)))
section
variable {P : Program} {w : World} {K : PySem.W.Frag} {mg : Str → Option Value} {base : Heap}
/-- what a raise of the class c with the field f wants -/
structure ExcF (P : Program) (w : World) (K : PySem.W.Frag) (mg : Str → Option Value) (base : Heap) (k : Nat) (c f : Str) : Prop where
  ex : ∃ (C fI : Addr) (fd : FuncData), mg c = some (.ref C) ∧ OexC K C ∧ PySem.W.findIn K (.ref C) f = some none ∧ PySem.W.findIn K (.ref C) "__init__" = some (some (.ref fI)) ∧ PySem.W.typeIn K (.ref fI) = some (.type "function") ∧
    Binds K fd ["self", f] [] ∧ FnOk P w K mg base (L2.CX P w) k fI fd ["self", f] (spInit K f)
theorem ExcF.mono {j k : Nat} {c f : Str} (h : ExcF P w K mg base j c f) (l : j ≤ k) : ExcF P w K mg base k c f := by
  obtain ⟨C, fI, fd, a, b, c, d, e, g, F⟩ := h.ex
  exact ⟨C, fI, fd, a, b, c, d, e, g, F.mono l⟩
end
section
variable {X : Cx} {E : XK} {c f : Str} {p pos rpos : Pos} {e : Expr} {fs : M (List T)} {k : Nat}
end
end FL

set_option maxHeartbeats 2000000
/-! FL27: the law's def that tells the name of an error. -/
namespace FL
open PySem PySem.Spec PyProof.Rows L2
/-- a clause: except c: return r; except c as e: return (r, e.f) if isinstance(e, ValueError) else .. -/
inductive Cl where
  | s (c r : Str) | f (c r f : Str)
def Cl.cls : Cl → Str
  | .s c _ => c
  | .f c _ _ => c
section
variable {X : Cx} {i : Nat} {hds : List ExceptHandler} {cls : List Cl}
end
end FL

set_option maxHeartbeats 2000000
/-! FL28: a lambda with no parameter, or one with a default, handed to a def. -/
namespace FL
open PySem PySem.Spec PyProof.Rows L2 LamX
section
variable {X : Cx} {pins : List (Addr × Obj)} {σ : L2.St} {H : Hp} {s : Shared}
end
/-- the parameters of the lambda: none, or one with an int as its default -/
inductive LamP where
  | none | one (d : Str) (i : Int)
def LamP.ds : LamP → List Str
  | .none => []
  | .one d _ => [d]
/-- what binding them gives -/
def LamP.to (lp : LamP) (binds : List (Str × Value)) : Prop := match lp with
  | .none => binds = []
  | .one d i => ∃ t, binds = [(d, .int i t)]
section
variable {X : Cx} {pins : List (Addr × Obj)} {σ : L2.St} {H : Hp} {s : Shared}
end
end FL

set_option maxHeartbeats 2000000
/-! FL29: the lambda called by the def that got it. -/
namespace FL
open PySem PySem.Spec PyProof.Rows L2 LamX
structure LamS2 (sc scope : Scope) (ds : List Str) : Prop where
  kind : scope.kind = .function
  co : scope.isCoroutine = false
  gen : scope.isGenerator = false
  own : ∀ y ∈ scope.names, y.2 ≠ .cell ∧ (y.2 = .local → y.1 ∈ ds)
  loc : ∀ d ∈ ds, scope.names.lookup d = some .local
  free : ∀ y ∈ scope.names, y.2 = .free → sc.names.lookup y.1 = some .cell ∨ sc.names.lookup y.1 = some .free
theorem LamS2.has {X : Cx} {scope : Scope} {ds : List Str} (L : LamS2 X.env.scope scope ds) (ok : X.Ok) : ∀ y ∈ scope.names, y.2 = .free → ∃ c, X.env.cells.lookup y.1 = some c := fun y hy e => by
  rcases L.free y hy e with k | k
  · exact ok.has _ (.inl k)
  · exact ok.has _ (.inr k)
section
variable {X : Cx} {pins : List (Addr × Obj)} {σ : L2.St} {H HZ : Hp} {s s1 : Shared}
end
section
variable {X : Cx}
end
end FL

set_option maxHeartbeats 2000000
/-! FL30: _law_error(lambda: f(..)) as an expression. -/
namespace FL
open PySem PySem.Spec PyProof.Rows L2 LamX
def exM (c c' : Str) : Bool := c == c' || c' == "TemperError"
structure ExM (K : PySem.W.Frag) (mg : Str → Option Value) (c c' : Str) : Prop where
  ok : ∃ C C' : Addr, mg c = some (.ref C) ∧ mg c' = some (.ref C') ∧ PySem.W.exmOne K (.ref C) (.ref C') = some (exM c c')
theorem ExM.of {K : PySem.W.Frag} {mg : Str → Option Value} {c c' : Str} {C C' : Addr} (h1 : mg c = some (.ref C)) (h2 : mg c' = some (.ref C')) (b : PySem.W.subIn K (.ref C') (.type "BaseException") = some true) (d : PySem.W.hasDictIn K C' = true) (t : PySem.W.typeIn K (.ref C') = some (.type "type")) (h : PySem.W.subIn K (.ref C) (.ref C') = some (exM c c')) : ExM K mg c c' :=
  ⟨C, C', h1, h2, PySem.W.exm_ref b d t h⟩
section
variable {K : PySem.W.Frag} {mg : Str → Option Value}
end
section
variable {X : Cx} {E : XK} {x y : Str} {g : Sg} {k i : Nat} {e : Expr} {es : List Expr} {fs : M (List T)} {p pos : Pos}
end
section
variable {X : Cx} {E : XK}
theorem lawTab_one {K : PySem.W.Frag} {mg : Str → Option Value} {P P' : Addr} (h : LawTab K mg P) (h' : LawTab K mg P') : P' = P := by
  obtain ⟨fa, o, fd, c, e, dd, vs, sl, a1, a2, a3, a4, a5, a6⟩ := h
  obtain ⟨fa', o', fd', c', e', dd', vs', sl', b1, b2, b3, b4, b5, b6⟩ := h'
  rw [a1] at b1; cases b1
  rw [a2] at b2; cases b2
  rw [a3] at b3; cases b3
  rw [a4] at b4; cases b4
  rw [a5] at b5; cases b5
  rw [a6] at b6; cases b6
  rfl
end
end FL

set_option maxHeartbeats 2000000
/-! FL31: the law's end, with its table of code objects. -/
namespace FL
open PySem PySem.Spec PyProof.Rows L2 LamX
/-- the law's code object at c, its table at P -/
structure LawCode (K : PySem.W.Frag) (c P : Addr) : Prop where
  ex : ∃ (dd : Option Addr) (vs : Array Value) (sl : Array (Option Value)) (file : Str) (tf : Tok) (flags : Int) (tg : Tok) (inF : Bool) (text : Int) (tt : Tok), K.lookup c = some ⟨.type "code", dd, .fields vs, sl⟩ ∧ vs[11]? = some (.ref P) ∧
    vs.getD 18 .none = .str file tf ∧ vs.getD 7 .none = .int flags tg ∧ vs.getD 9 .none = .bool inF ∧ vs.getD 10 .none = .int text tt ∧ c ≠ P ∧ K.lookup P = none
theorem LawCode.hd {K : PySem.W.Frag} {c P : Addr} {h : Heap} (L : LawCode K c P) (X : K.In h) : PySem.W.CodeHd h c P := by
  obtain ⟨dd, vs, sl, file, tf, flags, tg, inF, text, tt, h1, h2, h3, h4, h5, h6, h7, _⟩ := L.ex
  refine ⟨_, vs, file, tf, flags, tg, inF, text, tt, X _ _ h1, rfl, rfl, h2, ?_, h3, h4, h5, h6, h7⟩
  rw [Array.getD_eq_getD_getElem?, h2]; rfl
theorem law_end {l : PySem.W.OpenLaw} {w : World} {K : PySem.W.Frag} {mg : Str → Option Value} {h : Heap} {fa c P : Addr} {k : Nat} {x : Str} {fd : FuncData} {oc : Value} {od : Option Addr} {sl : Array (Option Value)} (KX : K.In h) (hm : mg "law" = some (.ref fa)) (lk : K.lookup fa = some ⟨oc, od, .func fd, sl⟩) (hcd : fd.code = .ref c) (LC : LawCode K c P) (own : OwnTab K fa h)
    (hb : ∀ (s : Shared) (u : Value), BindsTo s fd ⟨[u], []⟩ [(x, u)]) (F : ∀ base : Heap, K.In base → base.Ns mainGlobals mg → TabB base mg c P → LawTab K mg P → FnOk l.prog w K mg base (L2.CX l.prog w) k fa fd [x] (spLaw K mg)) :
    LawAtS l w K (L2.CX l.prog w) k 63 x mg fa h := by
  obtain ⟨dd, vs, sl2, file, tf, flags, tg, inF, text, tt, h1, h2, h3, h4, h5, h6, h7, h8⟩ := LC.ex
  have LT : LawTab K mg P := ⟨fa, _, fd, c, _, _, vs, _, hm, lk, rfl, hcd, h1, h2⟩
  refine ⟨fd, [(c, P)], spLaw K mg, fun p hp => ?_, fun p hp => ?_, fun p hp => ?_, hb, fun H a ns hl _ hH hS => ?_, fun base kb nb tb => F base kb nb (tb (c, P) (List.mem_singleton.mpr rfl)) LT⟩
  · rw [List.mem_singleton.mp hp]; exact own c P _ fd _ _ vs _ lk rfl hcd h1 h2
  · rw [List.mem_singleton.mp hp]; exact h8
  · rw [List.mem_singleton.mp hp]; exact LC.hd KX
  · refine ⟨a, ns, rfl, hS, hl, fun P' q => ?_, fun H' => rfl⟩
    rw [lawTab_one LT q]
    exact TabS.nil (hH (c, P) (List.mem_singleton.mpr rfl))
section
variable {P : Program} {w : World} {K : PySem.W.Frag} {mg : Str → Option Value} {base : Heap}
/-- the law's def by its body; its code object is at c -/
theorem law_ok {x qual : Str} {st : Stmt} {f c : Addr} {fd : FuncData} {N ps : List Str} {k : Nat} {fb : MS} (F : Fun K x qual st f fd) (hc : fd.code = .ref c) (S : FnScope N ps (defScope st))
    (hb : ∀ (A : Around) (outer : List PySem.Env) (s : Shared) (H : Hp) (E : XK), Room k (A.deeper (PyProof.Rows.envOfC qual (defScope st) s.heap.objs.size f (.ref c))) → FSs (cxOf (L2.CX P w) P w K mg base N qual (defScope st) f (.ref c) A outer s H E) E (defBody st) fb) :
    FnOk P w K mg base (L2.CX P w) (k + 1) f fd ps (spF K mg (fnF N.length ps.length fb)) := by
  obtain ⟨oc, od, kV, doc, pm, an, cdv, ct, osl, rfl, lk, hcd⟩ := F.ex
  have hc : cdv = .ref c := hc
  subst hc
  refine fn_of lk hcd S (fun vs H Q E h => ?_) fun A outer s H vs Q E hr h => ?_
  · obtain ⟨B, F, ts, _, _, _, r, d⟩ := h
    unfold fnF at d
    split at d
    · rename_i hl
      rw [← r.length]; exact hl.1
    · exact d.elim
  · obtain ⟨B, F', ts, sF, sB, tb, r, d⟩ := h
    refine ⟨_, hb A outer s H E hr, ⟨B, F', none, []⟩, F', ts.map SV.fz ++ List.replicate (N.length - ps.length) SV.un, ?_, ?_⟩
    · unfold fnF at d
      split at d
      · rename_i hl
        have q := start_slots (rw := []) (N := N) sF sB tb r (by omega)
        rw [hl.1] at q
        exact q
      · exact d.elim
    · unfold fnF at d
      split at d
      · cases e : fb (ts.map SV.fz ++ List.replicate (N.length - ps.length) SV.un) with
        | bad => rw [e] at d; exact d
        | exc x => rw [e] at d; exact d
        | ok fl ρ =>
          rw [e] at d
          cases fl with
          | nx => exact fun σ' F2 H' R s' => d .non F2 H' R.fh R.bh R.tb s' (fun a o q => R.fr a o q) rfl
          | bk => exact d.elim
          | ct => exact d.elim
          | rt t => exact fun v σ' F2 H' R s' rv => d v F2 H' R.fh R.bh R.tb s' (fun a o q => R.fr a o q) rv
      · exact d.elim
end
end FL

set_option maxHeartbeats 2000000
/-! FL32: what is never reached; empty dicts. -/
namespace FL
open PySem PySem.Spec PyProof.Rows L2
section
variable {X : Cx} {E : XK} {e : Expr} {pos : Pos}
end
end FL

set_option maxHeartbeats 2000000
/-! FL33: what is walked, a text among it. -/
namespace FL
open PySem PySem.Spec PyProof.Rows L2
/-- a text's signs -/
def chT (z : Str) : List T := z.cps.toList.map fun c => T.str ⟨#[c]⟩
def seqTA (t : T) : Option (List T) := match t with
  | .str z => some (chT z)
  | .lst ts => some ts
  | .sl ts => some ts
  | .tup ts => some ts
  | _ => none
def iSeqA (f : M T) : M (List T) := fun ρ => (f ρ).bind fun t ρ => liftO (seqTA t) ρ
section
variable {X : Cx} {E : XK} {e : Expr} {f : M T}
theorem pi_seqA {tg l : Expr} {tl : TE} (hl : PE X l tl) : PI X tg l (fun σ H R => tl σ H fun x H1 => (∃ z, x = .str z ∧ R (Its z) H1) ∨ ∃ a, x = .ref a ∧ ((∃ xs, SqL X.K H1 a xs) ∧ R (Itl X.K a) H1 ∨ (∃ xs, SqT X.K H1 a xs) ∧ R (Itt X.K a) H1)) := by
  refine ⟨fun pins s σ H R I h => ?_⟩
  refine thn (hl.run pins s σ H _ I h) fun v s1 ⟨y, H1, I1, r1, q1⟩ => ?_
  rcases q1 with ⟨x, ex, q⟩ | ⟨a, e, q⟩
  · subst ex
    obtain ⟨t, rfl⟩ := r1
    cases ha : x.cps.all (· < 128)
    · exact wpAny_pyIter_wide ha (pi_one (tk := s1.toks) I1 _ (turn_str _ x t "str_iterator" (.inr rfl)) ⟨_, Heap.get?_push_size _ rfl, rfl, rfl⟩ q)
    · exact wpAny_pyIter_ascii ha (pi_one (tk := s1.toks) I1 _ (turn_str _ x t "str_ascii_iterator" (.inl rfl)) ⟨_, Heap.get?_push_size _ rfl, rfl, rfl⟩ q)
  · subst e
    cases r1
    rcases q with ⟨⟨xs, hq⟩, q⟩ | ⟨⟨xs, hq⟩, q⟩
    · obtain ⟨its, rv, p, hz⟩ := I1.list hq
      refine wpAny_pyIter_list p.isList ?_
      refine ⟨s1.heap.objs.size, [s1.heap.objs.size], _, _, H1, rfl, I1.kept (t' := s1.toks) fun b o e => Heap.get?_push_of_some _ e, turn_list a _, ⟨_, Heap.get?_push_size _ rfl, rfl, rfl⟩, fun b hb => ?_, q⟩
      have e : b = s1.heap.objs.size := by simpa using hb
      subst e
      exact I1.fpOk (Nat.le_refl _) (I1.hok.fresh (Nat.le_refl _))
    · obtain ⟨its, rv, p, hz⟩ := I1.tuple hq
      refine wpAny_pyIter_tuple (show s1.heap.IsTuple a its.toArray from p) ?_
      refine ⟨s1.heap.objs.size, [s1.heap.objs.size], _, _, H1, rfl, I1.kept (t' := s1.toks) fun b o e => Heap.get?_push_of_some _ e, turn_tuple a _, ⟨_, Heap.get?_push_size _ rfl, rfl, rfl⟩, fun b hb => ?_, q⟩
      have e : b = s1.heap.objs.size := by simpa using hb
      subst e
      exact I1.fpOk (Nat.le_refl _) (I1.hok.fresh (Nat.le_refl _))
theorem fi_seqA {tg : Expr} (h : FE X E e f) : FI X E tg e (iSeqA f) := by
  refine pi_imp (pi_seqA h) fun σ H Q h => ?_
  obtain ⟨k, F, ρ, R, h⟩ := h
  refine ⟨k, F, ρ, R, (Den.bind h).imp fun t ρ1 h1 v F1 H1 R1 s1 r1 => ?_⟩
  obtain ⟨ts, e, q⟩ := Den.lift h1
  have o : (∃ z, t = .str z ∧ ts = chT z) ∨ seqT t = some ts := by
    unfold seqTA at e
    split at e
    · exact .inl ⟨_, rfl, (Option.some.inj e).symm⟩
    · exact .inr e
    · exact .inr e
    · exact .inr e
    · cases e
  rcases o with ⟨z, rfl, rfl⟩ | e
  · cases r1
    refine .inl ⟨z, rfl, q _ F1 H1 R1 s1 ?_⟩
    have w := walk_str (z := z)
    have hl : (chT z).length = z.cps.size := by unfold chT; simp
    unfold Wk
    rw [hl]
    refine w.mono (fun H' s => trivial) fun i H v H' _ _ y => ?_
    obtain ⟨e1, c, e2, rfl⟩ := y
    refine ⟨.str ⟨#[c]⟩, ?_, .inl ⟨e1, rfl⟩⟩
    unfold chT
    rw [List.getElem?_map, Array.getElem?_toList, e2]
    rfl
  · obtain ⟨p, vs, rfl, hs, r⟩ := seqT_rep (Same.refl F1) r1 e
    refine .inr ⟨p, rfl, ?_⟩
    rcases hs with hs | hs
    · refine .inl ⟨⟨vs, same_SqL R1.fh hs⟩, q _ F1 H1 R1 s1 ?_⟩
      have w := walk_list (K := X.K) (a := p) (xs := vs)
      rw [← r.length] at w
      exact w.mono (fun H' s => same_SqL s hs) fun i H v H' _ _ y => yat r y
    · refine .inr ⟨⟨vs, same_SqT0 R1.fh hs⟩, q _ F1 H1 R1 s1 ?_⟩
      have w := walk_tup (K := X.K) (a := p) (xs := vs)
      rw [← r.length] at w
      exact w.mono (fun H' s => same_SqT0 s hs) fun i H v H' _ _ y => yat r y
end
end FL

set_option maxHeartbeats 2000000
/-! FL34: a text's methods of one argument: index, count, join. -/
namespace FL
open PySem PySem.Spec PyProof.Rows L2
def sM1 (o : Str → T → Option T) (fo fe : M T) : M T := fun ρ => (fo ρ).bind fun x ρ => match x with
  | .str a => (fe ρ).bind fun y ρ => liftO (o a y) ρ
  | _ => .bad
section
variable {X : Cx} {E : XK} {ob e : Expr} {fo fe : M T} {apos pos : Pos}
def MtT (X : Cx) (r : V → List V → Hp → VK → Prop) (o : Str → T → Option T) : Prop := ∀ (k : Bk) (F : Hp) (ρ : Env) (σ : L2.St) (H : Hp) (Q : VK) (a : Str) (y t : T) (u : V), RSk X k F ρ σ H → Rep X.K X.mg F y u → o a y = some t → Go X k F ρ σ t Q → r (.str a) [u] H Q
theorem fe_m1 {id : String} {name : Str} {r : V → List V → Hp → VK → Prop} {o : Str → T → Option T} (slot : PySem.Slot "str" name id) (ty : typeOf (.builtin id) = pure (.type "method_descriptor")) (rule : MtR X id r) (hr : MtT X r o) (ha : FE X E ob fo) (hb : FE X E e fe)
    (hs : starEach [e] X.env = [(false, eval e X.env)] := by rfl) (hbase : attributeBase ob name X.env (eval ob X.env) = eval ob X.env := by rfl) (hline : (apos.endLine == pos.line) = true := by rfl) :
    FE X E (.Call (.Attribute ob name apos) [e] [] pos) (sM1 o fo fe) := pe_imp (pe_m1 slot ty rule ha hb hs hbase hline) fun σ H Q h => by
  obtain ⟨k, F, ρ, R, h⟩ := h
  refine ⟨k, F, ρ, R, (Den.bind h).imp fun x ρ1 h1 v F1 H1 R1 s1 r1 => ?_⟩
  cases x with
  | str a =>
    cases r1
    refine ⟨⟨a, rfl⟩, k, F1, ρ1, R1, (Den.bind h1).imp fun y ρ2 h2 u F2 H2 R2 s2 r2 => ?_⟩
    obtain ⟨t, e, q⟩ := Den.lift h2
    exact hr k F2 ρ2 σ H2 Q a y t u R2 r2 e fun v' F' H' R' s' r' => q v' F' H' R' (s1.trans (s2.trans s')) r'
  | _ => exact h1.elim
def sCount (a : Str) (y : T) : Option T := match y with
  | .str b => some (.int (Txt.count a b))
  | _ => none
theorem mt_sCount : MtT X (fun x xs H Q => ∃ a b, x = .str a ∧ xs = [.str b] ∧ Q (.int (Txt.count a b)) H) sCount := fun k F ρ σ H Q a y t u R r e q => by
  unfold sCount at e
  split at e
  · rename_i b
    cases r
    cases e
    exact ⟨a, b, rfl, rfl, q _ F H R (Same.refl _) rfl⟩
  · cases e
theorem fe_scount (ha : FE X E ob fo) (hb : FE X E e fe) (hs : starEach [e] X.env = [(false, eval e X.env)] := by rfl) (hbase : attributeBase ob "count" X.env (eval ob X.env) = eval ob X.env := by rfl) (hline : (apos.endLine == pos.line) = true := by rfl) :
    FE X E (.Call (.Attribute ob "count" apos) [e] [] pos) (sM1 sCount fo fe) := fe_m1 F.slot_str_count F.type_str_count mt_count mt_sCount ha hb hs hbase hline
end
end FL

set_option maxHeartbeats 2000000
/-! FL35: join, str(int), len(set(ints)), list.index, list.count, list(range(..)). -/
namespace FL
open PySem PySem.Spec PyProof.Rows L2
/-- the texts among trees -/
def strsT : List T → Option (List Str)
  | [] => some []
  | .str z :: ts => (strsT ts).map (z :: ·)
  | _ :: _ => none
theorem strsT_rep {K : PySem.W.Frag} {mg : Str → Option Value} {F : Hp} : ∀ {ts : List T} {vs : List V} {ys : List Str}, Reps K mg F ts vs → strsT ts = some ys → vs = ys.map V.str
  | [], vs, ys, r, e => by
    simp only [strsT, Option.some.injEq] at e
    subst e; exact r
  | t :: ts, vs, ys, r, e => by
    obtain ⟨v, w, rfl, r1, r2⟩ := r
    cases t <;> simp only [strsT, Option.map_eq_some_iff, reduceCtorEq] at e
    obtain ⟨zs, e, rfl⟩ := e
    have ev : v = .str _ := r1
    rw [ev, strsT_rep r2 e]; rfl
def sJoin (a : Str) (y : T) : Option T := match seqT y with
  | some ts => match strsT ts with
    | some ys => if (ys.map (·.length)).sum + ys.length * a.length ≤ 16777216 then some (.str (Txt.join a ys)) else none
    | none => none
  | none => none
def cntO (x y : T) : Option T := match x, y with
  | .lst xs, .int k => (intsT xs).map fun ns => .int (ns.count k : Nat)
  | _, _ => none
/-- the different ones of a list, as they come -/
def metI (ns : List Int) : List Int := PyProof.Rows.firstMet (fun i => ns.getD i 0) ns.length
section
variable {X : Cx} {E : XK} {ob e : Expr} {fo fe fa : M T} {apos cpos pos : Pos}
theorem mt_sJoin : MtT X (fun x xs H Q => ∃ a p, ∃ ys : List Str, x = .str a ∧ xs = [.ref p] ∧ (SqL X.K H p (ys.map V.str) ∨ SqT X.K H p (ys.map V.str)) ∧
    (ys.map (·.length)).sum + ys.length * a.length ≤ 16777216 ∧ Q (.str (Txt.join a ys)) H) sJoin := fun k F ρ σ H Q a y t u R r e q => by
  unfold sJoin at e
  split at e
  · rename_i ts hts
    split at e
    · rename_i ys hys
      split at e
      · rename_i hl
        cases e
        obtain ⟨p, vs, rfl, hs, r2⟩ := seqT_rep R.fh r hts
        have ev := strsT_rep r2 hys
        subst ev
        exact ⟨a, p, ys, rfl, rfl, hs, hl, q _ F H R (Same.refl _) rfl⟩
      · cases e
    · cases e
  · cases e
theorem fe_sjoin (ha : FE X E ob fo) (hb : FE X E e fe) (hs : starEach [e] X.env = [(false, eval e X.env)] := by rfl) (hbase : attributeBase ob "join" X.env (eval ob X.env) = eval ob X.env := by rfl) (hline : (apos.endLine == pos.line) = true := by rfl) :
    FE X E (.Call (.Attribute ob "join" apos) [e] [] pos) (sM1 sJoin fo fe) := fe_m1 F.slot_str_join F.type_str_join mt_join mt_sJoin ha hb hs hbase hline
/-- a list's method of one argument -/
def lM1 (o : List T → T → Option T) (fo fe : M T) : M T := fun ρ => (fo ρ).bind fun x ρ => match x with
  | .lst xs => (fe ρ).bind fun y ρ => liftO (o xs y) ρ
  | _ => .bad
def LMtT (X : Cx) (r : V → List V → Hp → VK → Prop) (o : List T → T → Option T) : Prop := ∀ (k : Bk) (F : Hp) (ρ : Env) (σ : L2.St) (H : Hp) (Q : VK) (xs : List T) (y t : T) (v u : V), RSk X k F ρ σ H → Rep X.K X.mg F (.lst xs) v → Rep X.K X.mg F y u → o xs y = some t → Go X k F ρ σ t Q → r v [u] H Q
theorem fe_lm1 {id : String} {name : Str} {r : V → List V → Hp → VK → Prop} {o : List T → T → Option T} (slot : PySem.Slot "list" name id) (ty : typeOf (.builtin id) = pure (.type "method_descriptor")) (rule : MtR X id r) (hr : LMtT X r o) (ha : FE X E ob fo) (hb : FE X E e fe)
    (hbase : attributeBase ob name X.env (eval ob X.env) = eval ob X.env := by rfl)
    (hfew : ((backTo cpos (starEach [e] X.env)).all (fun x => !x.1) && (backToKw cpos (keywordEach [] X.env)).all (fun x => x.1.isSome)
      && decide ([e].length + ([] : List Keyword).length + (if ([] : List Keyword).isEmpty then 0 else 1) < 30)) = true := by rfl)
    (hline : (apos.endLine == cpos.line) = true := by rfl) (hs : starEach [e] X.env = (false, eval e X.env) :: starEach [] X.env := by rfl) (hplain : (backTo cpos (starEach [] X.env)).any (·.1) = false := by rfl) :
    FE X E (.Call (.Attribute ob name apos) [e] [] cpos) (lM1 o fo fe) := by
  refine pe_imp (pe_bm PySem.F.plainAttrs_list slot ty rule ha (pa_cons hb pa_nil hs) hbase hfew hline hs hplain) fun σ H Q h => ?_
  obtain ⟨k, F, ρ, R, h⟩ := h
  refine ⟨k, F, ρ, R, (Den.bind h).imp fun x ρ1 h1 v F1 H1 R1 s1 r1 => ?_⟩
  cases x with
  | lst xs =>
    have r1' := r1
    obtain ⟨a, vs, rfl, e1, e2⟩ := r1
    refine ⟨.inl ⟨rfl, _, SqL.of (R1.fh _ _ e1)⟩, k, F1, ρ1, R1, (Den.bind h1).imp fun y ρ2 h2 u F2 H2 R2 s2 r2 => ?_⟩
    obtain ⟨t, e, q⟩ := Den.lift h2
    exact hr k F2 ρ2 σ H2 Q xs y t _ u R2 (r1'.mono s2) r2 e fun v' F' H' R' s' r' => q v' F' H' R' (s1.trans (s2.trans s')) r'
  | _ => exact h1.elim
theorem lm_count : LMtT X (rCntI X.K) (fun xs y => cntO (.lst xs) y) := fun k F ρ σ H Q xs y t v u R r1 r2 e q => by
  obtain ⟨a, vs, rfl, e1, e2⟩ := r1
  have e : cntO (.lst xs) y = some t := e
  cases y with
  | int kk =>
    have e : (intsT xs).map (fun ns => T.int (ns.count kk : Nat)) = some t := e
    rw [Option.map_eq_some_iff] at e
    obtain ⟨ns, hn, rfl⟩ := e
    have h : u = .int _ := r2
    subst h
    have ew := intsT_rep e2 hn
    subst ew
    exact ⟨a, ns, _, rfl, rfl, SqL.of (R.fh _ _ e1), q _ F H R (Same.refl _) rfl⟩
  | _ => cases e
theorem fe_lcount (ha : FE X E ob fo) (hb : FE X E e fe)
    (hbase : attributeBase ob "count" X.env (eval ob X.env) = eval ob X.env := by rfl)
    (hfew : ((backTo cpos (starEach [e] X.env)).all (fun x => !x.1) && (backToKw cpos (keywordEach [] X.env)).all (fun x => x.1.isSome)
      && decide ([e].length + ([] : List Keyword).length + (if ([] : List Keyword).isEmpty then 0 else 1) < 30)) = true := by rfl)
    (hline : (apos.endLine == cpos.line) = true := by rfl) (hs : starEach [e] X.env = (false, eval e X.env) :: starEach [] X.env := by rfl) (hplain : (backTo cpos (starEach [] X.env)).any (·.1) = false := by rfl) :
    FE X E (.Call (.Attribute ob "count" apos) [e] [] cpos) (lM1 (fun xs y => cntO (.lst xs) y) fo fe) := fe_lm1 PySem.F.slot_list_count PySem.F.type_list_count mt_lcount lm_count ha hb hbase hfew hline hs hplain
theorem met_le (f : Nat → Int) : ∀ n, (PyProof.Rows.firstMet f n).length ≤ n
  | 0 => Nat.le_refl _
  | n + 1 => by
    rw [PyProof.Rows.firstMet_succ]
    have := met_le f n
    show (if _ then _ else _ : List Int).length ≤ _
    split
    · omega
    · rw [List.length_append]; simp; omega
end
end FL

set_option maxHeartbeats 2000000
/-! FL36: dicts whose keys are ints, texts, or tuples of such. -/
namespace FL
open PySem PySem.Spec PyProof.Rows L2
def keyT (t : T) : Option L2.Key := match t with
  | .int n => some (.inl n)
  | .str z => some (.inr z)
  | _ => none
def keysT : List T → Option (List L2.Key)
  | [] => some []
  | t :: ts => match keyT t, keysT ts with
    | some k, some ks => some (k :: ks)
    | _, _ => none
def tKey : L2.Key → T
  | .inl n => .int n
  | .inr z => .str z
/-! ### tables -/
section
variable {κ : Type} [DecidableEq κ]
def valP : List κ → List T → κ → Option T
  | k' :: ks, t :: ts, k => if k' = k then some t else valP ks ts k
  | _, _, _ => none
def repP : List κ → List T → κ → T → List T
  | k' :: ks, t' :: ts, k, t => (if k' = k then t else t') :: repP ks ts k t
  | _, _, _, _ => []
def putP (ks : List κ) (ts : List T) (k : κ) (t : T) : List κ × List T := if (ks.any fun k' => decide (k' = k)) = true then (ks, repP ks ts k t) else (ks ++ [k], ts ++ [t])
variable {K : PySem.W.Frag} {mg : Str → Option Value} {F : Hp}
theorem rep_rep {t : T} {v : V} (h : Rep K mg F t v) : ∀ {kvs : List (κ × V)} {ts : List T} (k : κ), Reps K mg F ts (kvs.map (·.2)) → Reps K mg F (repP (kvs.map (·.1)) ts k t) ((kvs.map fun kv => if kv.1 = k then (kv.1, v) else kv).map (·.2))
  | [], ts, k, r => by
    have : ts = [] := by
      cases ts with
      | nil => rfl
      | cons t ts => obtain ⟨v, w, e, _⟩ := r; cases e
    subst this
    exact .nil
  | p :: kvs, ts, k, r => by
    cases ts with
    | nil => cases r
    | cons t' ts =>
      obtain ⟨v', w, e, r1, r2⟩ := r
      rw [List.map_cons] at e
      injection e with e1 e2
      subst e1; subst e2
      simp only [List.map_cons, repP]
      refine .cons ?_ (rep_rep h k r2)
      by_cases hk : p.1 = k
      · rw [if_pos hk, if_pos hk]; exact h
      · rw [if_neg hk, if_neg hk]; exact r1
theorem put_rep {t : T} {v : V} {kvs : List (κ × V)} {ts : List T} {k : κ} (h : Rep K mg F t v) (r : Reps K mg F ts (kvs.map (·.2))) :
    (putK kvs k v).map (·.1) = (putP (kvs.map (·.1)) ts k t).1 ∧ Reps K mg F (putP (kvs.map (·.1)) ts k t).2 ((putK kvs k v).map (·.2)) := by
  unfold putK putP
  have e : ((kvs.map (·.1)).any fun k' => decide (k' = k)) = kvs.any fun kv => decide (kv.1 = k) := by rw [List.any_map]; rfl
  rw [e]
  split
  · refine ⟨?_, rep_rep h k r⟩
    rw [List.map_map]
    refine List.map_congr_left fun kv _ => ?_
    show (if kv.1 = k then (kv.1, v) else kv).1 = kv.1
    split <;> rfl
  · refine ⟨by simp, ?_⟩
    rw [List.map_append]
    exact r.append (.one h)
end
section
variable {K : PySem.W.Frag} {mg : Str → Option Value} {F : Hp}
theorem keyT_rep {t : T} {v : V} {k : L2.Key} (r : Rep K mg F t v) (e : keyT t = some k) : v = kV k := by
  cases t <;> simp only [keyT, Option.some.injEq, reduceCtorEq] at e <;> subst e <;> exact r
theorem tKey_rep {k : L2.Key} : Rep K mg F (tKey k) (kV k) := by cases k <;> exact rfl
end
/-- what o holds at y; none: not to be asked -/
def getO (o : O) (y : T) : Option (Option T) := match o, y with
  | .dk ks ts, y => (keyT y).map (valP ks ts)
  | .dt ks ts, .tup us => (keysT us).map (valP ks ts)
  | _, _ => none
def OR (K : PySem.W.Frag) (mg : Str → Option Value) (F : Hp) : Option T → Option V → Prop
  | some t, some v => Rep K mg F t v
  | none, none => True
  | _, _ => False
def putO (o : O) (y t : T) : Option O := match o, y with
  | .dk ks ts, y => if ks.length < 16777216 then (keyT y).map fun k => .dk (putP ks ts k t).1 (putP ks ts k t).2 else none
  | .dt ks ts, .tup us => if ks.length < 16777216 then (keysT us).map fun k => .dt (putP ks ts k t).1 (putP ks ts k t).2 else none
  | _, _ => none
section
variable {K : PySem.W.Frag} {mg : Str → Option Value} {F H : Hp}
end
/-! ### by a slot -/
def getH (h : Has) (y : T) : Option (Option T) := match h with
  | .t (.dk ks ts) => getO (.dk ks ts) y
  | .t (.dt ks ts) => getO (.dt ks ts) y
  | .o o => getO o y
  | _ => none
def isDH (h : Has) : Bool := match h with
  | .t (.dk _ _) => true
  | .t (.dt _ _) => true
  | .o (.dk _ _) => true
  | .o (.dt _ _) => true
  | _ => false
section
variable {X : Cx} {E : XK} {b b2 e : Expr} {fb fc fv : M T} {pos p apos cpos : Pos} {x : Str} {i : Nat} {k : Bk} {F : Hp} {ρ : Env} {σ : L2.St} {H : Hp}
theorem OR.isSome {K : PySem.W.Frag} {mg : Str → Option Value} {r : Option T} {r' : Option V} (h : OR K mg F r r') : r.isSome = r'.isSome := by
  cases r <;> cases r' <;> first | rfl | cases h
/-! ### new ones, len, list -/
end
end FL

set_option maxHeartbeats 2000000
/-! FL37: dict comprehensions; sorted, list, len of dicts; displays. -/
namespace FL
open PySem PySem.Spec PyProof.Rows L2
/-! ### {k: v for x in xs if t} -/
def dcL (vs : List Nat) (g : MG) (test : M Bool) (ek ev : M T) : List T → List L2.Key × List T → Env → Res (List L2.Key × List T)
  | [], acc, ρ => .ok acc ρ
  | t :: ts, acc, ρ0 => match g t (wipeE ρ0 vs) with
    | none => .bad
    | some ρ1 => (noX (test ρ1)).bind fun b ρ2 => if b = true then (noX (ek ρ2)).bind fun y ρ3 => (noX (ev ρ3)).bind fun z ρ4 => match keyT y with
        | some k => if acc.1.length < 16777216 then dcL vs g test ek ev ts (putP acc.1 acc.2 k z) (bring ρ0 ρ4 vs) else .bad
        | none => .bad
      else dcL vs g test ek ev ts acc (bring ρ0 ρ2 vs)
def dcM (vs : List Nat) (src : M (List T)) (g : MG) (test : M Bool) (ek ev : M T) : M O := fun ρ => (src ρ).bind fun ts ρ => if freeS ρ vs = true then (dcL vs g test ek ev ts ([], []) ρ).bind fun l ρ => .ok (.dk l.1 l.2) ρ else .bad
theorem dc_walk {J : It} {n : Nat} {G : Hp → Prop} {Y : Nat → Hp → V → Hp → Prop} (wk : Walk J n G Y) {tgt : TG} {tst : TT} {kt vt : TE} {ixs : List Nat} {st : L2.St} {Hs : Hp} {da : Addr} {fin : Hp → Prop} (inv : Nat → Hp → Prop) (start : inv 0 (upd Hs da (.dK []))) (stay : ∀ i h, i ≤ n → inv i h → G h)
    (turn : ∀ i x h h', i < n → inv i h → Y i h x h' → tgt x (wipe st ixs) h' fun st2 h2 => wipe st2 ixs = wipe st ixs ∧ tst st2 h2 fun b h3 =>
      if b = true then kt st2 h3 fun y h4 => vt st2 h4 fun z h5 => ∃ (ps : List (L2.Key × V)) (k : L2.Key), y = kV k ∧ h5 da = some (.dK ps) ∧ ps.length < sizeLine ∧ inv (i + 1) (upd h5 da (.dK (putK ps k z))) else inv (i + 1) h3) (stop : ∀ h, inv n h → fin h) :
    ∃ W : Nat → Nat → Hp → Prop, (∃ m, W 0 m (upd Hs da (.dK []))) ∧ ∀ i m h, W i m h →
      (J.stop i h ∧ fin h) ∨ (J.go i h ∧ ∃ nx : Hp → Prop, (∀ h', nx h' → ∃ m', m' < m ∧ W (i + 1) m' h') ∧ ∀ x h', J.yld i h x h' → tgt x (wipe st ixs) h' fun st2 h2 => wipe st2 ixs = wipe st ixs ∧ tst st2 h2 fun b h3 =>
        if b = true then kt st2 h3 fun y h4 => vt st2 h4 fun z h5 => ∃ (ps : List (L2.Key × V)) (k : L2.Key), y = kV k ∧ h5 da = some (.dK ps) ∧ ps.length < sizeLine ∧ nx (upd h5 da (.dK (putK ps k z))) else nx h3) := by
  refine ⟨fun i m h => m + i = n ∧ inv i h, ⟨n, rfl, start⟩, fun i m h ⟨e, p⟩ => ?_⟩
  have g := stay i h (by omega) p
  by_cases lt : i < n
  · exact .inr ⟨wk.goes i h lt g, inv (i + 1), fun h' p' => ⟨m - 1, by omega, by omega, p'⟩, fun x h' y => turn i x h h' lt p (wk.yields i h x h' lt g y)⟩
  · have e2 : i = n := by omega
    subst e2
    exact .inl ⟨wk.stops h g, stop h p⟩
section
variable {X : Cx} {E : XK} {e c kx vx : Expr} {es : List Expr} {pos : Pos} {fk fv : M T}
theorem dc_of {own : List (Str × Nat)} {src : M (List T)} {gt : MG} {is : List Nat} {test : M Bool} (his : ∀ i ∈ is, i ∈ own.map (·.2)) {σ : L2.St} {H : Hp} {Q : VK} (h : tO X E (dcM (own.map (·.2)) src gt test fk fv) σ H Q) :
    tDc (tI X E src) (tG X is gt) (tT X E0 test) (tE X E0 fk) (tE X E0 fv) (own.map (·.2)) σ H Q := by
  obtain ⟨k, F, ρ, R, h⟩ := h
  refine ⟨k, F, ρ, R, (Den.bind h).imp fun ts ρ1 h1 J F1 H1 R1 s1 w1 => fun D nD => ?_⟩
  have hfree : freeS ρ1 (own.map (·.2)) = true := by
    cases e : freeS ρ1 (own.map (·.2)) with
    | true => rfl
    | false => rw [e] at h1; exact (show False from h1).elim
  rw [if_pos hfree] at h1
  have h2 := Den.bind h1
  refine dc_walk w1 (fun i H' => ∃ F' ρ' acc, RSk X k F' (ρ' ++ [SV.ow (.dk acc.1 acc.2)]) (σ ++ [some (.ref D)]) H' ∧ ρ'.length = σ.length ∧ Same F1 F' ∧ freeS ρ' (own.map (·.2)) = true ∧
    Den (dcL (own.map (·.2)) gt test fk fv (ts.drop i) acc ρ') (fun l ρ'' => Den (Res.ok (O.dk l.1 l.2) ρ'') (fun o ρ' => ∀ v F' H', RSk X k F' (ρ' ++ [SV.ow o]) (σ ++ [some v]) H' → Same F F' → ρ'.length = σ.length → Q v H') (XOk X.K X.mg k E)) (XOk X.K X.mg k E)) ?_ (fun i H' _ q => ?_) (fun i x H' H'' hlt q y => ?_) (fun H' q => ?_)
  · exact ⟨F1, ρ1, ([], []), R1.newO (o := .dk [] []) ⟨[], rfl, rfl, .nil⟩ nD, R1.len, Same.refl _, hfree, h2⟩
  · obtain ⟨F', ρ', acc, R', _, s', _⟩ := q
    exact s'.trans R'.fh
  · obtain ⟨F', ρ', acc, R', l', s', fr', d⟩ := q
    obtain ⟨t, F2, et, R2, s2, r2⟩ := (y.grow s').take R'
    have ed : ts.drop i = t :: ts.drop (i + 1) := by
      rw [List.drop_eq_getElem_cons hlt]
      rw [List.getElem?_eq_getElem hlt] at et
      rw [Option.some.inj et]
    rw [ed] at d
    unfold dcL at d
    obtain ⟨p, ho, ep, fp, bp, npm, hp, ro, R0⟩ := RS.aside R2 l'
    cases ep
    have f0 : k.F0 D = none := R2.f0.free fp
    split at d
    · exact d.elim
    · rename_i ρ2 e2
      let k' : Bk := ⟨upd k.B D ho, k.F0, k.pm, k.rw⟩
      refine ⟨k', F2, _, t, R0.wiped (own.map (·.2)), r2, ρ2, e2, fun σ3 F3 H3 R3 s3 l3 d3 => ⟨?_, ?_⟩⟩
      · rw [wipe_eq l3 fun j hj => d3 j fun z => hj (his j z)]
        exact wipe_eq (by rw [wipe_length]) fun j hj => wipe_get hj
      · have dk : ∀ {σ' : L2.St}, σ' = σ3 → σ'.length = σ.length ∧ ∀ j, j ∉ own.map (·.2) → σ'[j]? = σ[j]? := fun {σ'} e => by
          subst e
          refine ⟨by rw [l3, wipe_length], fun j hj => ?_⟩
          rw [d3 j fun z => hj (his j z), wipe_get hj]
        refine ⟨k', F3, ρ2, R3, Den.noX (y := XOk X.K X.mg k' E0) ((Den.bind d).imp fun b ρ4 d4 => fun F4 H4 R4 s4 => ?_)⟩
        split at d4
        · rename_i eb
          rw [if_pos eb]
          refine ⟨k', F4, ρ4, R4, Den.noX (y := XOk X.K X.mg k' E0) ((Den.bind d4).imp fun y1 ρ5 d5 => fun u F5 H5 R5 s5 r5 => ?_)⟩
          refine ⟨k', F5, ρ5, R5, Den.noX (y := XOk X.K X.mg k' E0) ((Den.bind d5).imp fun z ρ6 d6 => fun v F6 H6 R6' s6 r6 => ?_)⟩
          split at d6
          · rename_i kk hkk
            split at d6
            · rename_i hz
              have sx : Same F2 F6 := s3.trans (s4.trans (s5.trans s6))
              have R6 := RS.brought R6' R0 sx (dk rfl).1 (dk rfl).2 fr'
              have l6 : (bring ρ' ρ6 (own.map (·.2))).length = σ.length := R6.len
              have R7 := RS.back (ys := []) (ws := []) (by rw [List.append_nil, List.append_nil]; exact R6) l6 f0 bp npm (ro.mono sx)
              obtain ⟨a, h, ea, _, hh, roh, mk⟩ := RS.chg (o := .dk acc.1 acc.2) (o' := .dk (putP acc.1 acc.2 kk z).1 (putP acc.1 acc.2 kk z).2) R7 end_slot (.inl rfl)
              have eD : a = D := by
                rw [l6] at ea
                simpa using ea.symm
              subst eD
              obtain ⟨kvs, rfl, hk, hr⟩ := roh
              obtain ⟨p1, p2⟩ := put_rep (k := kk) r6 hr
              rw [hk] at p1 p2
              have hkl : kvs.length = acc.1.length := by rw [← hk, List.length_map]
              refine ⟨kvs, kk, keyT_rep r5 hkk, hh, by rw [szL, hkl]; exact hz, F6, bring ρ' ρ6 (own.map (·.2)), putP acc.1 acc.2 kk z, ?_, l6, s'.trans (s2.trans sx), freeS_bring fr' (by rw [R6'.len, (dk rfl).1, l']), d6⟩
              have q := mk (h' := .dK (putK kvs kk v)) ⟨_, rfl, p1, p2⟩
              rw [end_set] at q
              exact q
            · exact d6.elim
          · exact d6.elim
        · rename_i eb
          rw [if_neg eb]
          have sx : Same F2 F4 := s3.trans s4
          have R6 := RS.brought R4 R0 sx (dk rfl).1 (dk rfl).2 fr'
          have l6 : (bring ρ' ρ4 (own.map (·.2))).length = σ.length := R6.len
          have R7 := RS.back (ys := []) (ws := []) (by rw [List.append_nil, List.append_nil]; exact R6) l6 f0 bp npm (ro.mono sx)
          exact ⟨F4, bring ρ' ρ4 (own.map (·.2)), acc, R7, l6, s'.trans (s2.trans sx), freeS_bring fr' (by rw [R4.len, (dk rfl).1, l']), d4⟩
  · obtain ⟨F', ρ', acc, R', l', s', _, d⟩ := q
    rw [List.drop_length] at d
    exact d _ F' H' R' (s1.trans s') l'
theorem fo_dc {kx vx tg iter : Expr} {ifs : List Expr} {scope : Scope} {own : List (Str × Nat)} {src : M (List T)} {gt : MG} {is : List Nat} {test : M Bool} (hc : X.calm = true) (hN : X.N.Nodup) (hi : FI X E tg iter src) (ok : BlkOk X.N X.env.scope scope own)
    (hg : ∀ (s : Shared) (H : Hp) (C : Addr) (cl : List (Str × Addr)) (fp : List Addr), PG (X.blk s H scope (compEnvC scope cl C X.env) fp) tg (tG X is gt)) (his : ∀ i ∈ is, i ∈ own.map (·.2))
    (ht : ∀ (s : Shared) (H : Hp) (C : Addr) (cl : List (Str × Addr)) (fp : List Addr), PTs (X.blk s H scope (compEnvC scope cl C X.env) fp) ifs (tT X E0 test))
    (hk : ∀ (s : Shared) (H : Hp) (C : Addr) (cl : List (Str × Addr)) (fp : List Addr), PE (X.blk s H scope (compEnvC scope cl C X.env) fp) kx (tE X E0 fk))
    (he : ∀ (s : Shared) (H : Hp) (C : Addr) (cl : List (Str × Addr)) (fp : List Addr), PE (X.blk s H scope (compEnvC scope cl C X.env) fp) vx (tE X E0 fv)) (hs : ∀ x, foldedSetIterable iter X.env x = pure x := by intro _; rfl) :
    FO X E (.DictComp kx vx [⟨tg, iter, ifs, 0⟩] scope pos) (dcM (own.map (·.2)) src gt test fk fv) := pe_imp (pe_dc hc hN hi ok hg ht hk he hs) fun σ H Q h => dc_of his h
end
/-! ### sorted, list, len -/
def keyD : L2.Key → PyData
  | .inl n => .int n
  | .inr z => .str z
def sortDk (t : T) : Option O := match t with
  | .dk ks ts => if ks.length = ts.length then (if okSort (ks.map keyD) = true then some (.l ((srt (fun a b => PySem.W.dataLe false keyD a b) ks).map tKey)) else none) else none
  | _ => none
section
variable {X : Cx} {E : XK} {e : Expr} {fa : M T} {p pos : Pos}
theorem reps_keys {K : PySem.W.Frag} {mg : Str → Option Value} {F : Hp} : ∀ ks : List L2.Key, Reps K mg F (ks.map tKey) (ks.map kV)
  | [] => .nil
  | k :: ks => .cons tKey_rep (reps_keys ks)
/-- what stands behind a walk over a source, as a list of values; the heap has grown -/
theorem collect_src {P : Program} {w : World} {A : Around} {Ex : Value → Shared → Prop} {s : Shared} {T : String} {r d : Addr} {n : Nat} {Pj : Nat → Value → Prop} {OK : Heap → Prop} {fin : List Value → Shared → Prop} (src : PySem.W.KdlSrc P w T r d n Pj OK) (hh : A.handled = none) (ok : OK s.heap) (few : n ≤ sizeLine)
    (k : ∀ (h' : Heap) (tk : Nat) (acc : Array Value), (∀ b o, s.heap.get? b = some o → h'.get? b = some o) → s.heap.objs.size < h'.objs.size → ItemsOf Pj acc n → fin acc.toList { s with heap := h', toks := tk }) :
    wpAny (model P w) A (collect (.ref r)) fin Ex s := by
  have old := src.there _ ok
  unfold collect
  apply wpAny_bind
  apply wpAny_runValue
  apply codeAny_builtin entry_proto_collect'
  rw [Around.under_plainId PySem.F.plain_proto_collect _]
  show wpAny _ A.in1 (newList [] >>= fun q => again (.builtin "list.__iadd__" ⟨[q, .ref r], []⟩)) _ _ s
  refine wpAny_bind (wpAny_newObj_type (wpAny_pure ⟨plainId_quiet PySem.F.plain_list_iadd _, ?_⟩))
  apply codeAny_builtin entry_list_iadd'
  rw [Around.under_plainId PySem.F.plain_list_iadd _]
  have new : (s.heap.push { cls := .type "list", data := .seq ([] : List Value).toArray }).get? s.heap.objs.size = some { cls := .type "list", data := .seq #[] } := Heap.get?_push_size _ rfl
  show wpAny _ A.in1 (Builtin.List.listExtendWith (.ref s.heap.objs.size) (.ref r) (.ref s.heap.objs.size)) _ _ _
  have ext := PySem.W.kdl_extend (A := A) (s := { s with heap := s.heap.push { cls := .type "list", data := .seq ([] : List Value).toArray } })
    (R := fun (res : Result) (s' : Shared) => ∃ (h' : Heap) (tk : Nat) (acc : Array Value) (c : Nat), res = .ok (.ret (.ref s.heap.objs.size)) ∧ s' = { s with heap := h', toks := tk } ∧
      (∀ b o, s.heap.get? b = some o → h'.get? b = some o) ∧ h'.get? s.heap.objs.size = some { cls := .type "list", dict := none, data := .seq acc c, slots := #[] } ∧ ItemsOf Pj acc n)
    src hh (src.keep _ _ ok fun b _ o e => Heap.get?_push_of_some _ e) s.heap.objs.size (Nat.ne_of_gt old.1) (Nat.ne_of_gt old.2) (.ref s.heap.objs.size) 0 new
    (fun h' tk acc c kp at' its => ⟨h', tk, acc, c, rfl, rfl, fun b o e => kp b o (Nat.ne_of_lt (Heap.lt_size e)) (Heap.get?_push_of_some _ e), at', its⟩) few
  have close : ∀ (res : Result) (s2 : Shared), (∃ (h' : Heap) (tk : Nat) (acc : Array Value) (c : Nat), res = .ok (.ret (.ref s.heap.objs.size)) ∧ s2 = { s with heap := h', toks := tk } ∧
      (∀ b o, s.heap.get? b = some o → h'.get? b = some o) ∧ h'.get? s.heap.objs.size = some { cls := .type "list", dict := none, data := .seq acc c, slots := #[] } ∧ ItemsOf Pj acc n) →
      ∃ (h' : Heap) (tk : Nat) (acc : Array Value) (c : Nat), res = .ok (.ret (.ref s.heap.objs.size)) ∧ s2 = { s with heap := h', toks := tk } ∧ h'.get? s.heap.objs.size = some { cls := .type "list", dict := none, data := .seq acc c, slots := #[] } ∧ fin acc.toList { s with heap := h', toks := tk } := fun res s2 ⟨h', tk, acc, c, e, es, kp, at', its⟩ =>
    ⟨h', tk, acc, c, e, es, at', k h' tk acc kp (Heap.lt_size at') its⟩
  refine wpAny_mono ext (fun o s' x => ?_) fun _ _ x => ?_
  · cases o with
    | done _ =>
      obtain ⟨h', tk, acc, c, e, rfl, at', f⟩ := close _ _ x
      cases e
      show wpAny _ A (load s.heap.objs.size >>= _) _ _ _
      exact wpAny_bind (wpAny_load at' (wpAny_pure f))
    | again _ =>
      refine ⟨x.1, codeAny_mono x.2 fun res s2 y => ?_⟩
      obtain ⟨h', tk, acc, c, rfl, rfl, at', f⟩ := close _ _ y
      show wpAny _ A (load s.heap.objs.size >>= _) _ _ _
      exact wpAny_bind (wpAny_load at' (wpAny_pure f))
  · obtain ⟨_, _, _, _, e, _⟩ := x
    cases e
def rSortDk : List V → Hp → VK → Prop := fun vs H Q => ∃ (a : Addr) (kvs : List (L2.Key × V)), vs = [V.ref a] ∧ H a = some (.dK kvs) ∧ PySem.W.AllAlike ((kvs.map (·.1)).map keyD) ∧ PySem.W.Sortable ((kvs.map (·.1)).map keyD) ∧
  ∀ q, H q = none → Q (.ref q) (upd H q (.lst (((kvs.map (·.1)).mergeSort fun a b => PySem.W.dataLe false keyD a b).map kV)))
theorem reads_key {P : Program} {w : World} {h : Heap} {k : L2.Key} {u : Value} (r : keyIs k u = true) : Reads h u (keyD k) [] := by
  rcases keyIs_shape r with ⟨i, t, e1, e2⟩ | ⟨x, t, e1, e2⟩
  · subst e1; subst e2; exact .int _ _
  · subst e1; subst e2; exact .str _ _
theorem eachIs_of {R : Value → L2.Key → Prop} : ∀ {us : List Value} {ks : List L2.Key}, us.length = ks.length → (∀ (j : Nat) (u : Value) (k : L2.Key), us[j]? = some u → ks[j]? = some k → R u k) → PySem.W.EachIs R us ks
  | [], [], _, _ => .nil
  | [], _ :: _, h, _ => by simp at h
  | _ :: _, [], h, _ => by simp at h
  | u :: us, k :: ks, h, f => .cons (f 0 u k rfl rfl) (eachIs_of (by simpa using h) fun j u k h1 h2 => f (j + 1) u k (by simpa using h1) (by simpa using h2))
theorem vals_each : ∀ {us : List Value} {ks : List L2.Key}, PySem.W.EachIs (fun u k => keyIs k u = true) us ks → Vals (ks.map kV) us
  | _, _, .nil => .nil
  | _, _, .cons h t => .cons (keyIs_rel h) (vals_each t)
theorem depth_key (k : L2.Key) : (keyD k).depth ≤ 64 := by cases k <;> simp [keyD, PyData.depth]
theorem key_room (hu : X.A.units + 66 < cLine) (b : L2.Key) : X.A.in1.units + 1 + (keyD b).depth < cLine := by
  have h1 := depth_key b
  show X.A.units + 1 + 1 + (keyD b).depth < cLine
  omega
theorem cr_sortedDk (hc : X.calm = true) (hu : X.A.units + 66 < cLine) : CallR X (.builtin "sorted") rSortDk := by
  intro pins s σ H vs us Q I r h
  obtain ⟨a, kvs, rfl, hk, hal, hso, q⟩ := h
  rw [Vals.ref1 r]
  obtain ⟨z, lo, vs', rk, hd⟩ := (show ObjOk X.prog X.w H s.heap a (.dK kvs) from I.hok a _ hk)
  obtain ⟨ep, hat⟩ := hd.dictAt
  have hl : kvs.length = vs'.length := Paired.length rk
  refine Calls.call_function_entry kind_sorted plain_sorted entry_sorted (args_sorted1 _) ?_
  unfold Builtin.«sorted»
  refine wpAny_bind (m := checkCount "sorted" 1 1 _) (wpAny_pure ?_)
  refine wpAny_bind (collect_src (A := X.A.in1) (PySem.W.kdl_dict (knd := mixKind X.prog X.w) (kvs := vs') (ep := ep) lo) (I.ok.hd hc) hat (by rw [← hl]; exact z) fun h' tk acc hkeep hgt hacc => ?_)
  have hlen : acc.toList.length = kvs.length := by rw [Array.length_toList, hacc.1, hl]
  refine wpAny_bind (wpAny_newList ?_ (by rw [hlen]; exact z))
  have each : PySem.W.EachIs (fun u k => keyIs k u = true) acc.toList (kvs.map (·.1)) := eachIs_of (by rw [hlen, List.length_map]) fun j u k h1 h2 => by
    obtain ⟨k', y, hky, hi⟩ := hacc.2 j u (by rw [← Array.getElem?_toList]; exact h1)
    have e1 : (kvs.map (·.1))[j]? = some k' := by rw [KV.keys rk, List.getElem?_map, hky]; rfl
    rw [e1] at h2
    cases h2
    exact hi
  have hnew : (h'.push { cls := .type "list", data := .seq acc.toList.toArray }).get? h'.objs.size = some (seqObj "list" acc.toList.toArray 0) := Heap.get?_push_size _ rfl
  have er : PySem.W.EachIs (fun v b => ∃ as, Reads (h'.push { cls := .type "list", data := .seq acc.toList.toArray }) v (keyD b) as ∧ h'.objs.size ∉ as) acc.toList (kvs.map (·.1)) := each_mem each fun b _ v hb => ⟨[], reads_key (P := X.prog) (w := X.w) hb, by simp⟩
  refine wpAny_bind (wpAny_holding (wpAny_mono (PySem.W.list_sort_data (A := X.A.in1) (enc := keyD) (s := { s with heap := h'.push { cls := .type "list", data := .seq acc.toList.toArray }, toks := tk }) (R := fun u k => keyIs k u = true) (vs := acc.toList) (bs := kvs.map (·.1)) hnew each er hal hso (by rw [List.length_map]; exact z) (fun b _ => key_room hu b)
    (Q := fun _ s' => EP X pins σ Q (.ref h'.objs.size) s') (fun out ho hout => ?_)) (fun _ s' x => ?_) fun _ _ e => e))
  · obtain ⟨e0, he⟩ := PyProof.Rows.sortedHeap_at (out := List.toArray out) hnew
    have hz : ((((kvs.map (·.1)).mergeSort fun a b => PySem.W.dataLe false keyD a b).map kV)).length ≤ sizeLine := by rw [List.length_map, List.length_mergeSort, List.length_map]; exact z
    have hkp : ∀ b o, s.heap.get? b = some o → (PyProof.Rows.sortedHeap (h'.push { cls := .type "list", data := .seq acc.toList.toArray }) h'.objs.size acc.toList (List.toArray out)).get? b = some o := fun b o hb => by
      have h1 := hkeep b o hb
      have hlt : b < h'.objs.size := Heap.lt_size h1
      rw [PyProof.Rows.sortedHeap_old (Nat.ne_of_lt hlt) (by exact Nat.lt_of_lt_of_eq (Nat.lt_succ_of_lt hlt) (Heap.size_push ..).symm)]
      exact Heap.get?_push_of_some _ h1
    have hge : s.heap.objs.size ≤ h'.objs.size := Nat.le_of_lt hgt
    exact ⟨.ref _, upd H h'.objs.size (.lst _), I.laid (t' := tk) hkp hge ⟨hz, out, e0, vals_each hout, he⟩, rfl, q _ (I.hok.fresh hge)⟩
  · exact wpAny_pure ⟨_, rfl, x⟩
end
end FL

set_option maxHeartbeats 2000000
/-! FL38: sorted, list, len of dicts by name; displays; stars; min, max of data. -/
namespace FL
open PySem PySem.Spec PyProof.Rows L2
def one1 (o : T → Option O) (ts : List T) : Option O := match ts with
  | [t] => o t
  | _ => none
section
variable {X : Cx} {E : XK} {e kx vx : Expr} {es : List Expr} {f fa fk fv : M T} {fs : M (List T)} {p pos apos : Pos} {x : Str} {i : Nat}
theorem fo_sortedD (hc : X.calm = true) (hu : X.A.units + 66 < cLine) (hg : Gl X "sorted") (hm : X.mg "sorted" = none) (hv : bootBuiltins "sorted" = some (.builtin "sorted")) (ha : FA X E (e :: es) fs)
    (he : starEach (e :: es) X.env = (false, eval e X.env) :: starEach es X.env := by rfl) (hpl : (backTo pos (starEach es X.env)).any (·.1) = false := by rfl) : FO X E (.Call (.Name "sorted" p) (e :: es) [] pos) (calO (one1 sortDk) fs) := by
  refine pe_imp (pe_callB (cr_sortedDk hc hu) hg hm hv ha (by decide) (by decide) he hpl) fun σ H Q h => ?_
  obtain ⟨k, F, ρ, R, h⟩ := h
  refine ⟨k, F, ρ, R, (Den.bind h).imp fun ts ρ1 h1 vs F1 H1 R1 s1 r1 => ?_⟩
  obtain ⟨o, eo, q⟩ := Den.lift h1
  unfold one1 at eo
  split at eo
  · rename_i t
    unfold sortDk at eo
    split at eo
    · rename_i ks ts0
      split at eo
      · split at eo
        · rename_i hok
          cases eo
          obtain ⟨v, rfl, a, kvs, rfl, e1, e2, e3⟩ := r1.one_of
          obtain ⟨g1, g2, _⟩ := okSort_spec hok
          refine ⟨a, kvs, rfl, R1.fh _ _ e1, by rw [e2]; exact g1, by rw [e2]; exact g2, fun p0 np => ?_⟩
          rw [e2]
          rw [srt_eq] at q
          exact q _ F1 _ (R1.newO (o := .l _) ⟨_, rfl, reps_keys _⟩ np) s1 R1.len
        · cases eo
      · cases eo
    · cases eo
  · cases eo
end
/-! ### min, max of data -/
mutual
def plT : T → Bool
  | .non => true | .bl _ => true | .int _ => true | .str _ => true
  | .lst ts => plTs ts
  | .tup ts => plTs ts
  | _ => false
def plTs : List T → Bool
  | [] => true
  | t :: ts => plT t && plTs ts
end
end FL

set_option maxHeartbeats 2000000
/-! FL39: min, max of lists and tuples of data. -/
namespace FL
open PySem PySem.Spec PyProof.Rows L2
mutual
def ofD : PyData → T
  | .none => .non
  | .bool b => .bl b
  | .int i => .int i
  | .str z => .str z
  | .list ds => .lst (ofDs ds)
  | .tuple ds => .tup (ofDs ds)
  | _ => .non
def ofDs : List PyData → List T
  | [] => []
  | d :: ds => ofD d :: ofDs ds
end
mutual
theorem ofD_toD : ∀ (t : T) (d : PyData), plT t = true → toD t = some d → ofD d = t
  | .non, d, _, h => by simp only [toD, Option.some.injEq] at h; subst h; rfl
  | .bl b, d, _, h => by simp only [toD, Option.some.injEq] at h; subst h; rfl
  | .int i, d, _, h => by simp only [toD, Option.some.injEq] at h; subst h; rfl
  | .str z, d, _, h => by simp only [toD, Option.some.injEq] at h; subst h; rfl
  | .lst ts, d, p, h => by
    simp only [toD, Option.map_eq_some_iff] at h
    obtain ⟨ds, h, rfl⟩ := h
    simp only [ofD]
    rw [ofDs_toDs ts ds (by simpa only [plT] using p) h]
  | .tup ts, d, p, h => by
    simp only [toD, Option.map_eq_some_iff] at h
    obtain ⟨ds, h, rfl⟩ := h
    simp only [ofD]
    rw [ofDs_toDs ts ds (by simpa only [plT] using p) h]
  | .sl _, _, p, _ => by cases p
  | .fn _, _, p, _ => by cases p
  | .dk _ _, _, p, _ => by cases p
  | .dt _ _, _, p, _ => by cases p
theorem ofDs_toDs : ∀ (ts : List T) (ds : List PyData), plTs ts = true → toDs ts = some ds → ofDs ds = ts
  | [], ds, _, h => by simp only [toDs, Option.some.injEq] at h; subst h; rfl
  | t :: ts, ds, p, h => by
    simp only [toDs] at h
    split at h
    · rename_i d es h1 h2
      cases h
      simp only [plTs, Bool.and_eq_true] at p
      simp only [ofDs]
      rw [ofD_toD t d p.1 h1, ofDs_toDs ts es p.2 h2]
    · cases h
end
section
variable {X : Cx} {E : XK} {e : Expr} {es : List Expr} {fs : M (List T)} {pos : Pos}
theorem dpall {K : PySem.W.Frag} {H : Hp} : ∀ {bs : List (V × PyData)}, (∀ b ∈ bs, Dp K H b.1 b.2) → DpAll K H (bs.map Prod.fst) (bs.map Prod.snd)
  | [], _ => .nil
  | b :: bs, h => .cons (h b List.mem_cons_self) (dpall fun c hc => h c (List.mem_cons_of_mem _ hc))
def rMM (K : PySem.W.Frag) (pick : PyData → List PyData → PyData) : List V → Hp → VK → Prop := fun vs H Q => ∃ (a : Addr) (bs : List (V × PyData)) (d : PyData) (ds : List PyData), vs = [V.ref a] ∧ (SqL K H a (bs.map Prod.fst) ∨ SqT K H a (bs.map Prod.fst)) ∧ (∀ b ∈ bs, Dp K H b.1 b.2) ∧
  bs.map Prod.snd = d :: ds ∧ PySem.W.AlikeAll (d :: ds) ∧ PyData.depthAll (d :: ds) ≤ 60 ∧ ∀ v, (v, pick d ds) ∈ bs → Q v H
theorem mm_pick {pins : List (Addr × Obj)} {σ : L2.St} {H : Hp} {s : Shared} (I : Inv X pins σ H s) {bs : List (V × PyData)} {its : List Value} (rv : Vals (bs.map Prod.fst) its) (hd : ∀ b ∈ bs, Dp X.K H b.1 b.2) {i : Nat} {v : Value} (hi : its.toArray[i]? = some v) {h' : Heap}
    (kp : ∀ b o, s.heap.get? b = some o → h'.get? b = some o) {e : PyData} {as : List Addr} (r : Reads h' v e as) : ∃ w, (w, e) ∈ bs ∧ RelV w v := by
  have hi : its[i]? = some v := by simpa using hi
  have hl : bs.length = its.length := by simpa using rv.length
  have hlt : i < bs.length := by rw [hl]; exact (List.getElem?_eq_some_iff.mp hi).1
  obtain ⟨u, hu, hr⟩ := rv.get (i := i) (x := bs[i].1) (by rw [List.getElem?_map]; simp [hlt])
  rw [hi] at hu
  cases hu
  refine ⟨bs[i].1, ?_, hr⟩
  obtain ⟨as2, r2⟩ := Dp.reads I bs[i].2 bs[i].1 v (hd _ (List.getElem_mem hlt)) hr
  have e2 := ((PyProof.Rows.Reads.keeps kp r2).unique e as r).1
  rw [← e2]
  exact List.getElem_mem hlt
theorem cr_minD (hc : X.calm = true) (hu : X.A.units + 66 < cLine) : CallR X (.builtin "min") (rMM X.K PySem.W.minD) := by
  intro pins s σ H vs us Q I r h
  obtain ⟨a, bs, d, ds, rfl, hs, hd, hds, hal, hdp, q⟩ := h
  rw [Vals.ref1 r]
  have hun : X.A.units + 1 + PyData.depthAll (d :: ds) < cLine := by omega
  have fin : ∀ {its : List Value}, Vals (bs.map Prod.fst) its → ∀ (i : Nat) (v : Value) (h' : Heap) (tk : Nat) (as : List Addr), its.toArray[i]? = some v → Reads h' v (PySem.W.minD d ds) as → (∀ b o, s.heap.get? b = some o → h'.get? b = some o) → EP X pins σ Q v { s with heap := h', toks := tk } := fun rv i v h' tk as hi hr kp => by
    obtain ⟨w, hw, hr2⟩ := mm_pick I rv hd hi kp hr
    exact ⟨w, H, I.kept (t' := tk) kp, hr2, q w hw⟩
  rcases hs with hs | hs
  · obtain ⟨its, rv, hl, _⟩ := I.list hs
    obtain ⟨as, ra⟩ := Dp.readsAll I _ _ _ (dpall hd) rv
    rw [hds] at ra
    exact PySem.W.min_list_data (I.ok.hd hc) hl.isList (by simpa using ra) hal hun (fin rv)
  · obtain ⟨its, rv, hl, _⟩ := I.tuple hs
    obtain ⟨as, ra⟩ := Dp.readsAll I _ _ _ (dpall hd) rv
    rw [hds] at ra
    exact PySem.W.min_tuple_data (I.ok.hd hc) hl (by simpa using ra) hal hun (fin rv)
theorem cr_maxD (hc : X.calm = true) (hu : X.A.units + 66 < cLine) : CallR X (.builtin "max") (rMM X.K PySem.W.maxD) := by
  intro pins s σ H vs us Q I r h
  obtain ⟨a, bs, d, ds, rfl, hs, hd, hds, hal, hdp, q⟩ := h
  rw [Vals.ref1 r]
  have hun : X.A.units + 1 + PyData.depthAll (d :: ds) < cLine := by omega
  have fin : ∀ {its : List Value}, Vals (bs.map Prod.fst) its → ∀ (i : Nat) (v : Value) (h' : Heap) (tk : Nat) (as : List Addr), its.toArray[i]? = some v → Reads h' v (PySem.W.maxD d ds) as → (∀ b o, s.heap.get? b = some o → h'.get? b = some o) → EP X pins σ Q v { s with heap := h', toks := tk } := fun rv i v h' tk as hi hr kp => by
    obtain ⟨w, hw, hr2⟩ := mm_pick I rv hd hi kp hr
    exact ⟨w, H, I.kept (t' := tk) kp, hr2, q w hw⟩
  rcases hs with hs | hs
  · obtain ⟨its, rv, hl, _⟩ := I.list hs
    obtain ⟨as, ra⟩ := Dp.readsAll I _ _ _ (dpall hd) rv
    rw [hds] at ra
    exact PySem.W.max_list_data (I.ok.hd hc) hl.isList (by simpa using ra) hal hun (fin rv)
  · obtain ⟨its, rv, hl, _⟩ := I.tuple hs
    obtain ⟨as, ra⟩ := Dp.readsAll I _ _ _ (dpall hd) rv
    rw [hds] at ra
    exact PySem.W.max_tuple_data (I.ok.hd hc) hl (by simpa using ra) hal hun (fin rv)
/-- of a row of plain data, all alike -/
def mmO (pick : PyData → List PyData → PyData) (ts : List T) : Option T := match ts with
  | [x] => match seqT x with
    | some xs => match toDs xs with
      | some (d :: ds) => if plTs xs = true ∧ ((d :: ds).all fun a => (d :: ds).all fun b => PySem.W.alike a b) = true ∧ ((d :: ds).all fun a => match a with | .none => false | _ => true) = true ∧ PyData.depthAll (d :: ds) ≤ 60 then some (ofD (pick d ds)) else none
      | _ => none
    | none => none
  | _ => none
theorem zs_of {K : PySem.W.Frag} {mg : Str → Option Value} {F H : Hp} (s : Same F H) : ∀ {xs : List T} {vs : List V} {ds : List PyData}, Reps K mg F xs vs → toDs xs = some ds → plTs xs = true → ∃ bs : List (V × PyData), bs.map Prod.fst = vs ∧ bs.map Prod.snd = ds ∧ ∀ b ∈ bs, Dp K H b.1 b.2 ∧ Rep K mg F (ofD b.2) b.1
  | [], vs, ds, r, h, _ => by
    simp only [toDs, Option.some.injEq] at h
    subst h
    have r : vs = [] := r
    subst r
    exact ⟨[], rfl, rfl, fun _ h => by cases h⟩
  | t :: xs, vs, ds, r, h, p => by
    obtain ⟨v, w, rfl, r1, r2⟩ := r
    simp only [toDs] at h
    split at h
    · rename_i d es h1 h2
      cases h
      simp only [plTs, Bool.and_eq_true] at p
      obtain ⟨bs, b1, b2, b3⟩ := zs_of s r2 h2 p.2
      refine ⟨(v, d) :: bs, by simp [b1], by simp [b2], fun b hb => ?_⟩
      rcases List.mem_cons.mp hb with rfl | hb
      · refine ⟨dp_of s _ _ _ r1 h1, ?_⟩
        show Rep K mg F (ofD d) v
        rw [ofD_toD t d p.1 h1]; exact r1
      · exact b3 b hb
    · cases h
theorem ct_mm {pick : PyData → List PyData → PyData} : CalT X (rMM X.K pick) (mmO pick) := fun k F ρ σ H Q ts t vs R rs e q => by
  unfold mmO at e
  split at e
  · split at e
    · rename_i xs hx
      split at e
      · rename_i d ds hds
        split at e
        · rename_i hc
          cases e
          obtain ⟨v, rfl, r⟩ := rs.one_of
          obtain ⟨p, ws, rfl, hq, r2⟩ := seqT_rep R.fh r hx
          obtain ⟨bs, b1, b2, b3⟩ := zs_of R.fh r2 hds hc.1
          refine ⟨p, bs, d, ds, rfl, by rw [b1]; exact hq, fun b hb => (b3 b hb).1, b2, ⟨fun x hx y hy => ?_, fun x hx => ?_⟩, hc.2.2.2, fun w hw => ?_⟩
          · exact List.all_eq_true.mp (List.all_eq_true.mp hc.2.1 x hx) y hy
          · intro e0
            subst e0
            have := List.all_eq_true.mp hc.2.2.1 _ hx
            cases this
          · exact q w F H R (Same.refl _) (b3 _ hw).2
        · cases e
      · cases e
    · cases e
  · cases e
end
end FL

set_option maxHeartbeats 2000000
/-! FL40: several names of any kind, each given a value of its own. -/
namespace FL
open PySem PySem.Spec PyProof.Rows L2
section
variable {X : Cx} {E : XK} {fs : M (List VO)} {pos : Pos}
end
end FL

set_option maxHeartbeats 2000000
/-! FL41: new dicts walked; displays of two. -/
namespace FL
open PySem PySem.Spec PyProof.Rows L2
section
variable {X : Cx} {E : XK} {tg e kx vx kx2 vx2 : Expr} {pos : Pos} {te : TE} {fk fv fk2 fv2 : M T} {fo : M O}
end
end FL
namespace FL
open PySem PySem.Spec PyProof.Rows L2
section
variable {X : Cx} {E : XK} {b : Expr} {pos p : Pos} {fb : M T} {i : Nat} {x : Str}
end
end FL

set_option maxHeartbeats 2000000
/-! FL42: x[::-1] of a list. -/
namespace FL
open PySem PySem.Spec PyProof.Rows L2
section
variable {X : Cx} {E : XK} {e st : Expr} {te ts : TE} {pos p2 : Pos} {fa fb : M T}
theorem Reps.rev {K : PySem.W.Frag} {mg : Str → Option Value} {F : Hp} : ∀ {ts : List T} {vs : List V}, Reps K mg F ts vs → Reps K mg F ts.reverse vs.reverse
  | [], vs, h => by
    have : vs = [] := h
    subst this; exact .nil
  | t :: ts, vs, h => by
    obtain ⟨v, r, rfl, h1, h2⟩ := h
    rw [List.reverse_cons, List.reverse_cons]; exact (Reps.rev h2).append (Reps.one h1)
end
end FL

/-! FL43: zip(*e), walked by one name. -/
namespace FL
open PySem PySem.Spec L2 PyProof.Rows
section
variable {M : Model} {A : Around} {E : Value → Shared → Prop}
end
/-- what is zipped: whether a list, where it lies, its items -/
abbrev ZR := Bool × Addr × Array Value
def refsFrom (n k : Nat) : List Value := (List.range k).map fun i => Value.ref (n + i)
theorem SqAt.keep {c : Bool} {h h' : Heap} {a : Addr} {items : Array Value} (x : SqAt c h a items) (k : ∀ o, h.get? a = some o → h'.get? a = some o) : SqAt c h' a items := by
  cases c with
  | true => exact (show h.IsList a items from x).at k
  | false => exact (show h.IsTuple a items from x).at k
section
variable {prog : Program} {w : World} {A : Around} {E : Value → Shared → Prop} {s : Shared}
def tupObj (xs : List Value) : Obj := { cls := .type "tuple", data := .seq xs.toArray }
theorem sbx {x : Nat} {h h' : Heap} (hs : Heap.SameBut x h h') (c : Nat) (o : Obj) (n : c ≠ x) (e : h.get? c = some o) : h'.get? c = some o := hs.extBut c o n e
/-- a zip under way, behind i turns -/
structure ZN (bs : List ZR) (base : Nat) (h : Heap) (T : Value) (f : Bool) (i : Nat) : Prop where
  z : h.get? (base + bs.length + 2) = some { cls := .type "zip", dict := none, data := .fields #[T, .bool f, .bool false, .ref (base + bs.length), .ref (base + bs.length + 1)], slots := #[] }
  ti : h.get? (base + bs.length) = some (tupObj (refsFrom base bs.length))
  to : ∃ us, h.get? (base + bs.length + 1) = some (tupObj us) ∧ us.length = bs.length
  it : ∀ (k : Nat) r, bs[k]? = some r → ItAt r.1 h (base + k) r.2.1 i
/-- within a turn, behind j of the iterators -/
structure ZM (bs : List ZR) (base : Nat) (h0 g : Heap) (i j : Nat) : Prop where
  it : ∀ (k : Nat) r, bs[k]? = some r → ItAt r.1 g (base + k) r.2.1 (if k < j then i + 1 else i)
  sq : ∀ r ∈ bs, SqAt r.1 g r.2.1 r.2.2
  keep : ∀ (c : Nat) o, (c < base ∨ base + bs.length + 2 < c) → h0.get? c = some o → g.get? c = some o
  size : g.objs.size = h0.objs.size
theorem ZM.same {bs : List ZR} {base : Nat} {h0 g g' : Heap} {i j : Nat} {x : Nat} (M : ZM bs base h0 g i j) (hs : Heap.SameBut x g g') (hlo : ∀ r ∈ bs, @LT.lt Nat _ r.2.1 base) (h1 : base + bs.length ≤ x) (h2 : x ≤ base + bs.length + 2) : ZM bs base h0 g' i j :=
  ⟨fun k r e => (M.it k r e).keep fun o q => sbx hs _ _ (by have := (List.getElem?_eq_some_iff.mp e).1; omega) q, fun r m => (M.sq r m).keep fun o q => sbx hs _ _ (by have := hlo r m; omega) q, fun c o q e => sbx hs _ _ (by omega) (M.keep c o q e), by rw [hs.1]; exact M.size⟩
end
end FL

/-! FL44: zip(*e), the rest. -/
namespace FL
open PySem PySem.Spec L2 PyProof.Rows
section
variable {prog : Program} {w : World} {A : Around} {E : Value → Shared → Prop} {s : Shared}
end
/-! ### the walk -/
abbrev VR := Bool × Addr × List V
/-- rows as values, and as they stand in the heap -/
def RB (h : Heap) : List VR → List ZR → Prop
  | [], bs => bs = []
  | r :: rs, bs => ∃ b cs, bs = b :: cs ∧ b.1 = r.1 ∧ b.2.1 = r.2.1 ∧ SqAt b.1 h b.2.1 b.2.2 ∧ Vals r.2.2 b.2.2.toList ∧ RB h rs cs
section
variable {h : Heap}
theorem RB.len : ∀ {rs : List VR} {bs : List ZR}, RB h rs bs → bs.length = rs.length
  | [], bs, e => by
    have e : bs = [] := e
    subst e; rfl
  | r :: rs, bs, e => by
    obtain ⟨b, cs, rfl, _, _, _, _, q⟩ := e
    simp [RB.len q]
theorem RB.get : ∀ {rs : List VR} {bs : List ZR} {k : Nat} {r : VR}, RB h rs bs → rs[k]? = some r → ∃ b, bs[k]? = some b ∧ b.1 = r.1 ∧ b.2.1 = r.2.1
  | r :: rs, bs, 0, r', e, hk => by
    cases hk
    obtain ⟨b, cs, rfl, e1, e2, _⟩ := e
    exact ⟨b, rfl, e1, e2⟩
  | r :: rs, bs, k + 1, r', e, hk => by
    obtain ⟨b, cs, rfl, _, _, _, _, q⟩ := e
    exact RB.get (k := k) q hk
end
end FL

set_option maxHeartbeats 2000000
/-! FL45: any of lists and tuples of data. -/
namespace FL
open PySem PySem.Spec PyProof.Rows L2
section
variable {X : Cx}
end
end FL

set_option maxHeartbeats 2000000
/-! FL46: zip(a, b) walked by one name. -/
namespace FL
open PySem PySem.Spec PyProof.Rows L2 FL.ZN
end FL

set_option maxHeartbeats 2000000
/-! FL47: dict comprehensions whose keys are tuples, of one and of two clauses: what the model does. -/
namespace FL
open PySem PySem.Spec PyProof.Rows L2
section
variable {X : Cx}
end
section
variable {prog : Program} {w : World} {A : Around} {R : Result → Shared → Prop} {s : Shared} {kx vx t0 i0 t1 i1 : Expr} {ifs0 ifs1 : List Expr} {scope : Scope} {pos : Pos} {it : Value} {D : Addr} {env : PySem.Env}
end

section
variable {X : Cx}
end
end FL

set_option maxHeartbeats 2000000
/-! FL48: {k: v for x in a if p [for y in b if q]}, the keys tuples. -/
namespace FL
open PySem PySem.Spec PyProof.Rows L2
section
variable {X : Cx} {E : XK} {fk fv : M T}
end
end FL

set_option maxHeartbeats 2000000
/-! FL49: the keys of a dict, where they are tuples. -/
namespace FL
open PySem PySem.Spec PyProof.Rows L2
def tupKey (k : List L2.Key) : T := .tup (k.map tKey)
theorem reps_tkeys {K : PySem.W.Frag} {mg : Str → Option Value} {F : Hp} : ∀ k : List L2.Key, Reps K mg F (k.map tKey) (k.map kV)
  | [] => .nil
  | k :: ks => .cons tKey_rep (reps_tkeys ks)
section
variable {X : Cx} {k : Bk} {F H : Hp} {ρ : FL.Env} {σ : L2.St}
open Classical in
/-- tuples that stand in the heap are trees -/
noncomputable def addT (F H : Hp) (bs : List Addr) : Hp := fun a => if a ∈ bs then H a else F a
theorem addT_in {bs : List Addr} {a : Addr} (h : a ∈ bs) : addT F H bs a = H a := by unfold addT; exact if_pos h
theorem addT_out {bs : List Addr} {a : Addr} (h : a ∉ bs) : addT F H bs a = F a := by unfold addT; exact if_neg h
theorem addT_same {bs : List Addr} (s : Same F H) : Same F (addT F H bs) := fun a o e => by
  by_cases m : a ∈ bs
  · rw [addT_in m]; exact s _ _ e
  · rw [addT_out m]; exact e
theorem RS.addT {bs : List Addr} (R : RSk X k F ρ σ H) (ht : ∀ b ∈ bs, ∃ vs, H b = some (.tup vs)) : RSk X k (FL.addT F H bs) ρ σ H := by
  have sF := addT_same (bs := bs) R.fh
  have out : ∀ a o, H a = some o → (∀ vs, o ≠ .tup vs) → a ∉ bs := fun a o e n m => by
    obtain ⟨vs, e2⟩ := ht a m
    rw [e] at e2
    exact n vs (Option.some.inj e2)
  obtain ⟨α, h1, h2⟩ := R.ex
  refine ⟨R.len, fun a o e => ?_, R.bh, R.f0.trans sF, fun a o e => ?_, R.pt, ⟨R.tb.x, fun P q => ?_, R.tb.b⟩, α, fun i x hx => ?_, h2⟩
  · by_cases m : a ∈ bs
    · rw [addT_in m] at e; exact e
    · rw [addT_out m] at e; exact R.fh _ _ e
  · by_cases m : a ∈ bs
    · rw [addT_in m] at e
      obtain ⟨vs, e2⟩ := ht a m
      rw [e2] at e
      exact .inr (.inr ⟨vs, (Option.some.inj e).symm⟩)
    · rw [addT_out m] at e; exact R.fr _ _ e
  · rw [addT_out]
    · exact R.tb.f P q
    · intro m
      obtain ⟨vs, e2⟩ := ht P m
      obtain ⟨ps, z1, _⟩ := R.tb.x P q
      rw [z1] at e2; cases e2
  · have q := h1 i x hx
    cases x with
    | un => trivial
    | fz t => obtain ⟨v, a, b⟩ := q; exact ⟨v, a, b.mono sF⟩
    | raw n => exact q
    | ow o => obtain ⟨a, b, c, d, h, e1, e2⟩ := q; exact ⟨a, by rw [addT_out (out _ _ e1 e2.ntup)]; exact b, c, d, h, e1, e2.mono sF⟩
    | pa o => obtain ⟨a, b, c, d, h, e1, e2⟩ := q; exact ⟨a, by rw [addT_out (out _ _ e1 e2.ntup)]; exact b, c, d, h, e1, e2.mono sF⟩
theorem isKeys_tup {H : Hp} {kvs : List (List L2.Key × V)} {bs : List Addr} (h : IsKeys H kvs bs) : ∀ b ∈ bs, ∃ vs, H b = some (.tup vs) := by
  unfold IsKeys at h
  induction h with
  | nil => intro b m; cases m
  | @cons p q ps qs hq t ih =>
    intro b m
    rcases List.mem_cons.mp m with rfl | m
    · exact ⟨_, hq⟩
    · exact ih b m
theorem isKeys_reps {K : PySem.W.Frag} {mg : Str → Option Value} {F H : Hp} {kvs : List (List L2.Key × V)} {bs : List Addr} (h : IsKeys H kvs bs) (hf : ∀ b ∈ bs, F b = H b) : Reps K mg F (kvs.map fun p => tupKey p.1) (bs.map V.ref) := by
  unfold IsKeys at h
  induction h with
  | nil => exact .nil
  | @cons p q ps qs hq t ih =>
    refine .cons ⟨q, p.1.map kV, rfl, by rw [hf q List.mem_cons_self]; exact hq, reps_tkeys _⟩ (ih fun b m => hf b (List.mem_cons_of_mem _ m))
/-- the keys as trees -/
theorem RS.keys {kvs : List (List L2.Key × V)} {bs : List Addr} (R : RSk X k F ρ σ H) (h : IsKeys H kvs bs) : ∃ F', Same F F' ∧ RSk X k F' ρ σ H ∧ Reps X.K X.mg F' (kvs.map fun p => tupKey p.1) (bs.map V.ref) :=
  ⟨FL.addT F H bs, addT_same R.fh, R.addT (isKeys_tup h), isKeys_reps h fun b m => addT_in m⟩
end
section
variable {X : Cx} {E : XK} {e : Expr} {es : List Expr} {fs : M (List T)} {p pos : Pos}
end
end FL

set_option maxHeartbeats 2000000
/-! FL50: x = {k: v for ..}, the keys tuples. -/
namespace FL
open PySem PySem.Spec PyProof.Rows L2
section
variable {X : Cx}
end
section
variable {X : Cx} {E : XK} {a : Expr} {fa : M T} {pos p : Pos} {x : Str} {i : Nat}
end
end FL

set_option maxHeartbeats 2000000
/-! FL51: sorted(d), the keys tuples. -/
namespace FL
open PySem PySem.Spec PyProof.Rows L2
section
variable {X : Cx}
end
end FL

set_option maxHeartbeats 2000000
/-! FL52: sorted(d) as trees, the keys tuples. -/
namespace FL
open PySem PySem.Spec PyProof.Rows L2
section
variable {X : Cx} {E : XK} {e : Expr} {es : List Expr} {fs : M (List T)} {p pos : Pos}
end
end FL

set_option maxHeartbeats 2000000
/-! FL53: d.setdefault(k, v), the keys tuples. -/
namespace FL
open PySem PySem.Spec PyProof.Rows L2
section
variable {X : Cx} {pins : List (Addr × Obj)} {σ : L2.St} {H : Hp} {s : Shared} {a b : Addr} {r : Value} {d : V} {E : Value → Shared → Prop}
end
section
variable {X : Cx} {o e f : Expr} {td ty tx : TE} {apos cpos : Pos}
end
section
variable {X : Cx} {E : XK} {x : Str} {i : Nat} {b b2 : Expr} {fb fc : M T} {p apos cpos : Pos}
end
end FL

set_option maxHeartbeats 2000000
/-! FL54: zip(a, b) as the argument of dict(). -/
namespace FL
open PySem PySem.Spec L2 PyProof.Rows
section
variable {prog : Program} {w : World}
end
end FL

set_option maxHeartbeats 2000000
/-! FL55: dict(zip(a, b)), a's items tuples, all different. -/
namespace FL
open PySem PySem.Spec PyProof.Rows L2
end FL

set_option maxHeartbeats 2000000
/-! FL56: dict(zip(a, b)) as trees. -/
namespace FL
open PySem PySem.Spec PyProof.Rows L2
section
variable {X : Cx} {E : XK} {e e2 : Expr} {fs : M (List T)} {p p2 q pos : Pos}
end
end FL

set_option maxHeartbeats 2000000
/-! HL1: a store of lists that are changed through several names; expressions that read it. -/
namespace FL.HL
open PySem PySem.Spec PyProof.Rows L2 FL
/-- a value in the store: a tree that stays, or the n-th list of the store -/
inductive HV where
  | t (x : T) | r (n : Nat)
abbrev Sto := List (List HV)
def HRep (K : PySem.W.Frag) (mg : Str → Option Value) (F : Hp) (al : List Addr) : HV → V → Prop
  | .t x, v => Rep K mg F x v
  | .r n, v => ∃ a, al[n]? = some a ∧ v = .ref a
def HReps (K : PySem.W.Frag) (mg : Str → Option Value) (F : Hp) (al : List Addr) : List HV → List V → Prop
  | [], vs => vs = []
  | x :: xs, vs => ∃ v r, vs = v :: r ∧ HRep K mg F al x v ∧ HReps K mg F al xs r
section
variable {K : PySem.W.Frag} {mg : Str → Option Value} {F F' : Hp} {al al' : List Addr}
theorem HRep.mono {x : HV} {v : V} (h : HRep K mg F al x v) (s : Same F F') : HRep K mg F' al x v := by
  cases x with
  | t x => exact (show Rep K mg F x v from h).mono s
  | r n => exact h
theorem HReps.mono (s : Same F F') : ∀ {xs : List HV} {vs : List V}, HReps K mg F al xs vs → HReps K mg F' al xs vs
  | [], _, h => h
  | _ :: _, _, ⟨v, r, e, h, hs⟩ => ⟨v, r, e, h.mono s, HReps.mono s hs⟩
theorem HRep.more {x : HV} {v : V} (h : HRep K mg F al x v) (b : List Addr) : HRep K mg F (al ++ b) x v := by
  cases x with
  | t x => exact h
  | r n =>
    obtain ⟨a, e, q⟩ := h
    exact ⟨a, by rw [List.getElem?_append_left (List.getElem?_eq_some_iff.mp e).1]; exact e, q⟩
theorem HReps.more (b : List Addr) : ∀ {xs : List HV} {vs : List V}, HReps K mg F al xs vs → HReps K mg F (al ++ b) xs vs
  | [], _, h => h
  | _ :: _, _, ⟨v, r, e, h, hs⟩ => ⟨v, r, e, h.more b, HReps.more b hs⟩
theorem HReps.length : ∀ {xs : List HV} {vs : List V}, HReps K mg F al xs vs → xs.length = vs.length
  | [], vs, h => by
    have e : vs = [] := h
    subst e; rfl
  | _ :: _, _, ⟨v, r, e, _, hs⟩ => by rw [e, List.length_cons, List.length_cons, HReps.length hs]
theorem HReps.get : ∀ {xs : List HV} {vs : List V} {i : Nat} {x : HV}, HReps K mg F al xs vs → xs[i]? = some x → ∃ v, vs[i]? = some v ∧ HRep K mg F al x v
  | _ :: _, _, 0, x, ⟨v, r, e, h, _⟩, hx => by
    cases hx; subst e; exact ⟨v, rfl, h⟩
  | _ :: _, _, i + 1, x, ⟨v, r, e, _, hs⟩, hx => by
    subst e; exact HReps.get (i := i) hs hx
theorem HReps.set {x : HV} {v : V} (hx : HRep K mg F al x v) : ∀ {xs : List HV} {vs : List V} (i : Nat), HReps K mg F al xs vs → HReps K mg F al (xs.set i x) (vs.set i v)
  | [], vs, _, h => by
    have e : vs = [] := h
    subst e; exact rfl
  | _ :: _, _, 0, ⟨u, r, e, h, hs⟩ => by subst e; exact ⟨v, r, rfl, hx, hs⟩
  | _ :: _, _, i + 1, ⟨u, r, e, h, hs⟩ => by subst e; exact ⟨u, _, rfl, h, HReps.set hx i hs⟩
end
/-- the store stands in the heap, among what a reading keeps -/
structure KS0 (K : PySem.W.Frag) (mg : Str → Option Value) (k : Bk) (F : Hp) (al : List Addr) (μ : Sto) : Prop where
  rw : k.rw = al.map V.ref
  nd : al.Nodup
  len : al.length = μ.length
  pm : k.pm = none
  st : ∀ (n : Nat) (a : Addr) (xs : List HV), al[n]? = some a → μ[n]? = some xs → k.F0 a = none ∧ ∃ ws, k.B a = some (.lst ws) ∧ HReps K mg F al xs ws
abbrev KS (X : Cx) (k : Bk) (F : Hp) (al : List Addr) (μ : Sto) : Prop := KS0 X.K X.mg k F al μ
section
variable {X : Cx} {k : Bk} {F F' : Hp} {al : List Addr} {μ : Sto}
theorem KS.mono (S : KS X k F al μ) (s : Same F F') : KS X k F' al μ := ⟨S.rw, S.nd, S.len, S.pm, fun n a xs h1 h2 => by
  obtain ⟨q, ws, b, r⟩ := S.st n a xs h1 h2
  exact ⟨q, ws, b, r.mono s⟩⟩
/-- of a raw slot: its address -/
theorem KS.raw {ρ : Env} {σ : L2.St} {H : Hp} {i n : Nat} (S : KS X k F al μ) (R : RSk X k F ρ σ H) (h : ρ[i]? = some (.raw n)) : ∃ a, al[n]? = some a ∧ σ[i]? = some (some (.ref a)) := by
  obtain ⟨α, h1, _⟩ := R.ex
  obtain ⟨v, e1, e2⟩ := h1 i _ h
  rw [S.rw, List.getElem?_map, Option.map_eq_some_iff] at e2
  obtain ⟨a, e, rfl⟩ := e2
  exact ⟨a, e, e1⟩
/-- the n-th list, in the heap -/
theorem KS.cell {ρ : Env} {σ : L2.St} {H : Hp} {n : Nat} {xs : List HV} (S : KS X k F al μ) (R : RSk X k F ρ σ H) (h : μ[n]? = some xs) : ∃ a ws, al[n]? = some a ∧ H a = some (.lst ws) ∧ HReps X.K X.mg F al xs ws := by
  have hl : n < al.length := by rw [S.len]; exact (List.getElem?_eq_some_iff.mp h).1
  obtain ⟨_, ws, b, r⟩ := S.st n al[n] xs (List.getElem?_eq_getElem hl) h
  exact ⟨al[n], ws, List.getElem?_eq_getElem hl, R.bh _ _ b, r⟩
end
abbrev HM (α : Type) := Sto → M α
def tHT (X : Cx) (E : XK) (f : HM Bool) : TT := fun σ H Q => ∃ k al F ρ μ, RSk X k F ρ σ H ∧ KS X k F al μ ∧ Den (f μ ρ) (fun b ρ' => ∀ F' H', RSk X k F' ρ' σ H' → Same F F' → Q b H') (XOk X.K X.mg k E)
abbrev HT (X : Cx) (E : XK) (e : Expr) (f : HM Bool) : Prop := PT X e (tHT X E f)
section
variable {X : Cx} {E : XK} {a b c e : Expr} {es : List Expr} {fa fb f : HM T} {fr : HM Nat} {fs : HM (List T)} {f0 : M T} {pos : Pos}
/-- len of a list of the store -/
def hlen (fr : HM Nat) : HM T := fun μ ρ => (fr μ ρ).bind fun n ρ => match μ[n]? with
  | some xs => .ok (.int xs.length) ρ
  | none => .bad
end
end FL.HL

set_option maxHeartbeats 2000000
/-! HL2: statements over the store. -/
namespace FL.HL
open PySem PySem.Spec PyProof.Rows L2 FL
/-- what lies outside the store is as it was; new lists stand behind the old ones -/
structure Ext (k : Bk) (al : List Addr) (k' : Bk) (al' : List Addr) : Prop where
  pre : ∃ b, al' = al ++ b
  f0 : k'.F0 = k.F0
  pm : k'.pm = k.pm
  out : ∀ a, a ∉ al' → k'.B a = k.B a
  new : ∀ a, a ∈ al' → a ∉ al → k.B a = none
theorem Ext.refl (k : Bk) (al : List Addr) : Ext k al k al := ⟨⟨[], (List.append_nil _).symm⟩, rfl, rfl, fun _ _ => rfl, fun _ m n => absurd m n⟩
theorem Ext.trans {k k1 k2 : Bk} {al al1 al2 : List Addr} (h : Ext k al k1 al1) (g : Ext k1 al1 k2 al2) : Ext k al k2 al2 := by
  obtain ⟨b, e⟩ := h.pre
  obtain ⟨c, e'⟩ := g.pre
  have up : ∀ a, a ∉ al2 → a ∉ al1 := fun a n m => n (by rw [e']; exact List.mem_append_left _ m)
  refine ⟨⟨b ++ c, by rw [e', e, List.append_assoc]⟩, g.f0.trans h.f0, g.pm.trans h.pm, fun a n => ?_, fun a m n => ?_⟩
  · rw [g.out a n, h.out a (up a n)]
  · by_cases m1 : a ∈ al1
    · exact h.new a m1 n
    · rw [← h.out a m1]; exact g.new a m m1
/-- what lies outside the store stays -/
theorem Ext.keep {k k1 : Bk} {al al1 : List Addr} (h : Ext k al k1 al1) {a : Addr} {o : HO} (e : k.B a = some o) (n : a ∉ al) : k1.B a = some o := by
  by_cases m : a ∈ al1
  · rw [h.new a m n] at e; cases e
  · rw [h.out a m]; exact e
/-- the trees, and the store's lists -/
def onF (al : List Addr) (F H : Hp) : Hp := fun a => if a ∈ al then H a else F a
inductive HFl where
  | nx | rt (v : HV) | rtT (vs : List HV) | bk | ct | rtF (t : T)
def PostH (X : Cx) (k : Bk) (al : List Addr) (F : Hp) (D : Ends) (r : HFl × Sto) (ρ' : Env) : Prop := match r with
  | (.nx, μ') => ∀ k' al' σ' F' H', Ext k al k' al' → RSk X k' F' ρ' σ' H' → KS X k' F' al' μ' → Same F F' → D.nx σ' H'
  | (.bk, μ') => ∀ k' al' σ' F' H', Ext k al k' al' → RSk X k' F' ρ' σ' H' → KS X k' F' al' μ' → Same F F' → D.bk σ' H'
  | (.ct, μ') => ∀ k' al' σ' F' H', Ext k al k' al' → RSk X k' F' ρ' σ' H' → KS X k' F' al' μ' → Same F F' → D.ct σ' H'
  | (.rt x, μ') => ∀ k' al' σ' F' H' v, Ext k al k' al' → RSk X k' F' ρ' σ' H' → KS X k' F' al' μ' → Same F F' → HRep X.K X.mg F' al' x v → D.rt v H'
  | (.rtT xs, μ') => ∀ k' al' σ' F' H' a vs, Ext k al k' al' → RSk X k' F' ρ' σ' H' → KS X k' F' al' μ' → Same F F' → HReps X.K X.mg F' al' xs vs → F' a = some (.tup vs) → D.rt (.ref a) H'
  | (.rtF t, μ') => ∀ k' al' σ' F' H', Ext k al k' al' → RSk X k' F' ρ' σ' H' → KS X k' F' al' μ' → Same F F' → ∀ v F3 H3, Same F3 H3 → Same (hideTab X.K X.mg H') H3 → Tb X.K X.mg F3 (hideTab X.K X.mg H') H3 → Same (onF al' F' H') F3 → (∀ a o, F3 a = some o → (∃ u, onF al' F' H' a = some u) ∨ NB (hideTab X.K X.mg H') a o) → Rep X.K X.mg F3 t v → D.rt v H3
theorem PostH.ext {X : Cx} {k k1 : Bk} {al al1 : List Addr} {F F1 : Hp} {D : Ends} {r : HFl × Sto} {ρ : Env} (e : Ext k al k1 al1) (s : Same F F1) (h : PostH X k al F D r ρ) : PostH X k1 al1 F1 D r ρ := by
  obtain ⟨fl, μ⟩ := r
  cases fl with
  | nx => exact fun k' al' σ' F' H' x R S s' => h k' al' σ' F' H' (e.trans x) R S (s.trans s')
  | bk => exact fun k' al' σ' F' H' x R S s' => h k' al' σ' F' H' (e.trans x) R S (s.trans s')
  | ct => exact fun k' al' σ' F' H' x R S s' => h k' al' σ' F' H' (e.trans x) R S (s.trans s')
  | rt y => exact fun k' al' σ' F' H' v x R S s' r => h k' al' σ' F' H' v (e.trans x) R S (s.trans s') r
  | rtT ys => exact fun k' al' σ' F' H' a vs x R S s' r t => h k' al' σ' F' H' a vs (e.trans x) R S (s.trans s') r t
  | rtF t => exact fun k' al' σ' F' H' x R S s' => h k' al' σ' F' H' (e.trans x) R S (s.trans s')
abbrev MH := Sto → M (HFl × Sto)
section
variable {X : Cx} {E : XK} {e c : Expr} {pos : Pos} {f0 : MS} {st : Stmt} {sts a b : List Stmt} {s1 s2 : MH} {g : HM Bool} {f : HM T}
def conv : Fl → HFl
  | .nx => .nx
  | .rt t => .rt (.t t)
  | .bk => .bk
  | .ct => .ct
end
end FL.HL

set_option maxHeartbeats 2000000
/-! HL3: loops over the store. -/
namespace FL.HL
open PySem PySem.Spec PyProof.Rows L2 FL
section
variable {X : Cx} {E : XK} {e c tg iter : Expr} {pos : Pos} {body : List Stmt} {src : HM (List T)} {src0 : M (List T)} {g : MG} {is : List Nat} {sb : MH} {gt : HM Bool}
end
end FL.HL

set_option maxHeartbeats 2000000
/-! HL4: slots given references; cells of the store written; new cells. -/
namespace FL.HL
open PySem PySem.Spec PyProof.Rows L2 FL
section
variable {X : Cx} {k : Bk} {F : Hp} {ρ : Env} {σ : L2.St} {H : Hp} {al : List Addr} {μ : Sto}
theorem plain_lst {vs : List V} : plainO (.lst vs) := ⟨fun _ z => (by cases z), fun _ z => (by cases z)⟩
/-- a cell among what a reading keeps is written -/
theorem wr {a : Addr} {vs ws : List V} (R : RSk X k F ρ σ H) (e : k.B a = some (.lst vs)) (n0 : k.F0 a = none) : RSk X ⟨upd k.B a (.lst ws), k.F0, k.pm, k.rw⟩ F ρ σ (upd H a (.lst ws)) := by
  have hH : H a = some (.lst vs) := R.bh _ _ e
  have nF : F a = none := by
    cases q : F a with
    | none => rfl
    | some o =>
      rcases R.fr a o q with ⟨u, w⟩ | w | ⟨us, rfl⟩
      · rw [n0] at w; cases w
      · rw [e] at w; cases w
      · have z := R.fh _ _ q
        rw [R.bh _ _ e] at z
        cases z
  obtain ⟨α, h1, h2⟩ := R.ex
  refine ⟨R.len, fun b x q => ?_, same_upd2 R.bh, R.f0, fun b o q => ?_, fun b q => ?_, ?_, α, fun i x hx => ?_, h2⟩
  · rw [upd_ne (fun z => by subst z; rw [nF] at q; cases q)]; exact R.fh _ _ q
  · have ne : b ≠ a := fun z => by subst z; rw [nF] at q; cases q
    rcases R.fr b o q with w | w
    · exact .inl w
    · exact .inr (w.imp (fun w => by show upd k.B a (.lst ws) b = none; rw [upd_ne ne]; exact w) id)
  · obtain ⟨o, w⟩ := R.pt b q
    by_cases hb : b = a
    · subst hb; exact ⟨_, upd_same⟩
    · exact ⟨o, by rw [upd_ne hb]; exact w⟩
  · exact (R.tb.updH hH plain_lst).updB (upd_same) plain_lst
  · have q := h1 i x hx
    have far : ∀ b, k.B b = none → b ≠ a := fun b w z => by subst z; rw [e] at w; cases w
    cases x with
    | un => trivial
    | fz t => exact q
    | raw n => exact q
    | ow o => obtain ⟨a1, b1, c, d, u, e1, e2⟩ := q; exact ⟨a1, b1, by show upd k.B a (.lst ws) _ = none; rw [upd_ne (far _ c)]; exact c, d, u, by rw [upd_ne (far _ c)]; exact e1, e2⟩
    | pa o => obtain ⟨a1, b1, c, d, u, e1, e2⟩ := q; exact ⟨a1, b1, by show upd k.B a (.lst ws) _ = none; rw [upd_ne (far _ c)]; exact c, d, u, by rw [upd_ne (far _ c)]; exact e1, e2⟩
/-- the n-th list of the store is written -/
theorem KS.wr {a : Addr} {n : Nat} {xs ys : List HV} {ws : List V} (S : KS X k F al μ) (ha : al[n]? = some a) (hx : μ[n]? = some xs) (r : HReps X.K X.mg F al ys ws) : KS X ⟨upd k.B a (.lst ws), k.F0, k.pm, k.rw⟩ F al (μ.set n ys) := by
  refine ⟨S.rw, S.nd, by rw [List.length_set]; exact S.len, S.pm, fun m b zs h1 h2 => ?_⟩
  by_cases hm : m = n
  · subst hm
    rw [ha] at h1
    cases h1
    rw [List.getElem?_set_self (List.getElem?_eq_some_iff.mp hx).1] at h2
    cases h2
    exact ⟨(S.st m a xs ha hx).1, ws, upd_same, r⟩
  · rw [List.getElem?_set_ne (Ne.symm hm)] at h2
    obtain ⟨q, ws', b', r'⟩ := S.st m b zs h1 h2
    have ne : b ≠ a := fun z => by
      subst z
      exact hm ((List.getElem?_inj (List.getElem?_eq_some_iff.mp h1).1 S.nd).mp (h1.trans ha.symm))
    exact ⟨q, ws', by show upd k.B a (.lst ws) b = _; rw [upd_ne ne]; exact b', r'⟩
theorem Ext.wr {a : Addr} {ws : List V} (m : a ∈ al) : Ext k al ⟨upd k.B a (.lst ws), k.F0, k.pm, k.rw⟩ al := ⟨⟨[], (List.append_nil _).symm⟩, rfl, rfl, fun b n => upd_ne fun z => n (z ▸ m), fun b m' n => absurd m' n⟩
theorem KS.fresh {a b : Addr} {n : Nat} (S : KS X k F al μ) (R : RSk X k F ρ σ H) (na : H a = none) (h : al[n]? = some b) : b ≠ a := fun z => by
  subst z
  have hl : n < μ.length := by rw [← S.len]; exact (List.getElem?_eq_some_iff.mp h).1
  obtain ⟨_, ws, e, _⟩ := S.st n b μ[n] h (List.getElem?_eq_getElem hl)
  rw [R.bh _ _ e] at na; cases na
end
end FL.HL

set_option maxHeartbeats 2000000
/-! HL5: items of the store's lists as targets. -/
namespace FL.HL
open PySem PySem.Spec PyProof.Rows L2 FL
section
variable {X : Cx} {E : XK} {e i : Expr} {es : List Expr} {pos : Pos} {f : HM T} {fr : HM Nat} {fi : HM T} {fv : HM HV} {fs : HM (List HV)} {gs : List HV → HM Sto}
end
end FL.HL

set_option maxHeartbeats 2000000
/-! HL6: line[c] op= e. -/
namespace FL.HL
open PySem PySem.Spec PyProof.Rows L2 FL
section
variable {X : Cx} {E : XK} {b e o : Expr} {pos p2 : Pos} {fi f : HM T} {fr : HM Nat}
end
end FL.HL

set_option maxHeartbeats 2000000
/-! HL7: expressions that make lists of the store. -/
namespace FL.HL
open PySem PySem.Spec PyProof.Rows L2 FL
section
variable {X : Cx} {E : XK} {e : Expr} {es : List Expr} {f0 : M O} {fv : HM HV} {k : Bk} {F : Hp} {ρ : Env} {σ : L2.St} {H : Hp} {al : List Addr} {μ : Sto}
end
end FL.HL

set_option maxHeartbeats 2000000
/-! HL8: names given values of the store. -/
namespace FL.HL
open PySem PySem.Spec PyProof.Rows L2 FL
section
variable {X : Cx} {e : Expr} {pos : Pos} {fn : Sto → M (HV × Sto)} {k : Bk} {F : Hp} {ρ : Env} {σ : L2.St} {H : Hp} {al : List Addr} {μ : Sto}
def slot : HV → SV
  | .t t => .fz t
  | .r n => .raw n
end
end FL.HL

set_option maxHeartbeats 2000000
/-! HL9: lists of references walked. -/
namespace FL.HL
open PySem PySem.Spec PyProof.Rows L2 FL
section
variable {X : Cx} {iter : Expr} {pos : Pos} {body : List Stmt} {src : HM (List HV)} {sb : MH}
theorem HReps.at_ {K : PySem.W.Frag} {mg : Str → Option Value} {F : Hp} {al : List Addr} : ∀ {xs : List HV} {vs : List V} {i : Nat} {v : V}, HReps K mg F al xs vs → vs[i]? = some v → ∃ x, xs[i]? = some x ∧ HRep K mg F al x v
  | [], vs, i, v, h, e => by
    have q : vs = [] := h
    subst q; cases e
  | x :: xs, vs, 0, v, h, e => by
    obtain ⟨u, r, rfl, h1, h2⟩ := h
    cases e; exact ⟨x, rfl, h1⟩
  | x :: xs, vs, i + 1, v, h, e => by
    obtain ⟨u, r, rfl, h1, h2⟩ := h
    exact HReps.at_ (i := i) h2 e
theorem HReps.append {K : PySem.W.Frag} {mg : Str → Option Value} {F : Hp} {al : List Addr} : ∀ {xs ys : List HV} {vs ws : List V}, HReps K mg F al xs vs → HReps K mg F al ys ws → HReps K mg F al (xs ++ ys) (vs ++ ws)
  | [], _, vs, _, h, g => by
    have q : vs = [] := h
    subst q; exact g
  | x :: xs, _, vs, ws, h, g => by
    obtain ⟨u, r, rfl, h1, h2⟩ := h
    exact ⟨u, r ++ ws, rfl, h1, HReps.append h2 g⟩
end
end FL.HL

set_option maxHeartbeats 2000000
/-! HL10: an expression that only reads the store: its lists are taken as trees meanwhile. -/
namespace FL.HL
open PySem PySem.Spec PyProof.Rows L2 FL
section
variable {K : PySem.W.Frag} {mg : Str → Option Value} {F : Hp} {al : List Addr}
end
section
variable {X : Cx} {k : Bk} {F F3 : Hp} {al : List Addr} {μ : Sto} {ρ ρ3 : Env} {σ σ3 : L2.St} {H H3 : Hp}
theorem KS.fn (S : KS X k F al μ) (R : RSk X k F ρ σ H) {a : Addr} (m : a ∈ al) : F a = none ∧ k.F0 a = none ∧ ∃ ws, k.B a = some (.lst ws) ∧ H a = some (.lst ws) := by
  obtain ⟨n, hn⟩ := List.getElem?_of_mem m
  have hl : n < μ.length := by rw [← S.len]; exact (List.getElem?_eq_some_iff.mp hn).1
  obtain ⟨q, ws, e, _⟩ := S.st n a μ[n] hn (List.getElem?_eq_getElem hl)
  refine ⟨?_, q, ws, e, R.bh _ _ e⟩
  cases z : F a with
  | none => rfl
  | some o =>
    rcases R.fr a o z with ⟨u, w⟩ | w | ⟨us, rfl⟩
    · rw [q] at w; cases w
    · rw [e] at w; cases w
    · have y := R.fh _ _ z
      rw [R.bh _ _ e] at y
      cases y
variable {E : XK} {e c : Expr} {es : List Expr} {f0 : M T} {g0 : M Bool} {fs0 : M (List T)} {o0 : M O}
/-- a list that lies in the heap, of nobody yet, becomes one of the store -/
theorem KS.add {p : Addr} {vs : List V} {ys : List HV} (S : KS X k F al μ) (bp : k.B p = none) (f0 : k.F0 p = none) (rv : HReps X.K X.mg F al ys vs) :
    KS X ⟨upd k.B p (.lst vs), k.F0, k.pm, k.rw ++ [.ref p]⟩ F (al ++ [p]) (μ ++ [ys]) ∧ Ext k al ⟨upd k.B p (.lst vs), k.F0, k.pm, k.rw ++ [.ref p]⟩ (al ++ [p]) ∧ (al ++ [p])[μ.length]? = some p := by
  have fr : ∀ (n : Nat) (b : Addr), al[n]? = some b → b ≠ p := fun n b hb z => by
    subst z
    have hl : n < μ.length := by rw [← S.len]; exact (List.getElem?_eq_some_iff.mp hb).1
    obtain ⟨_, ws, e1, _⟩ := S.st n b μ[n] hb (List.getElem?_eq_getElem hl)
    rw [e1] at bp; cases bp
  refine ⟨?_, ⟨⟨[p], rfl⟩, rfl, rfl, fun b n => upd_ne fun z => n (List.mem_append_right _ (by rw [z]; exact List.mem_singleton_self _)), fun b m n => ?_⟩, by rw [← S.len, List.getElem?_append_right (Nat.le_refl _), Nat.sub_self]; rfl⟩
  · refine ⟨by show k.rw ++ [V.ref p] = (al ++ [p]).map V.ref; rw [S.rw, List.map_append]; rfl, ?_, by rw [List.length_append, List.length_append, S.len]; rfl, S.pm, fun m b zs h1 h2 => ?_⟩
    · rw [List.nodup_append]
      refine ⟨S.nd, by simp, fun x hx y hy e => ?_⟩
      rw [List.mem_singleton] at hy
      obtain ⟨m, hm⟩ := List.getElem?_of_mem hx
      exact fr m x hm (e.trans hy)
    · by_cases hm : m < al.length
      · rw [List.getElem?_append_left hm] at h1
        rw [List.getElem?_append_left (by rw [← S.len]; exact hm)] at h2
        obtain ⟨q1, ws', b', r'⟩ := S.st m b zs h1 h2
        exact ⟨q1, ws', by show upd k.B p (.lst vs) b = _; rw [upd_ne (fr m b h1)]; exact b', r'.more [p]⟩
      · have e : m = al.length := by
          have := (List.getElem?_eq_some_iff.mp h1).1
          rw [List.length_append] at this
          simp at this
          omega
        subst e
        rw [List.getElem?_append_right (Nat.le_refl _), Nat.sub_self] at h1
        rw [S.len, List.getElem?_append_right (Nat.le_refl _), Nat.sub_self] at h2
        cases h1; cases h2
        exact ⟨f0, vs, upd_same, rv.more [p]⟩
  · rcases List.mem_append.mp m with m | m
    · exact absurd m n
    · rw [List.mem_singleton] at m; subst m; exact bp
end
end FL.HL

set_option maxHeartbeats 2000000
/-! HL11: new lists of new lists; names; items; append; ranges; returns; tests that change the store. -/
namespace FL.HL
open PySem PySem.Spec PyProof.Rows L2 FL
section
variable {K : PySem.W.Frag} {mg : Str → Option Value} {B F0 F F' : Hp} {pm : Option Addr} {rw rw0 : List V} {ρ ρ' ρ0 : Env} {σ σ' : L2.St} {H H' H0 : Hp} {vs : List Nat}
end
/-- as Ext, but for the cell D -/
structure ExtD (D : Addr) (k : Bk) (al : List Addr) (k' : Bk) (al' : List Addr) : Prop where
  pre : ∃ b, al' = al ++ b
  f0 : k'.F0 = k.F0
  pm : k'.pm = k.pm
  out : ∀ a, a ∉ al' → a ≠ D → k'.B a = k.B a
  new : ∀ a, a ∈ al' → a ∉ al → k.B a = none
theorem ExtD.step {D : Addr} {k k1 k2 : Bk} {al al1 al2 : List Addr} {o o' : HO} (h : ExtD D k al k1 al1) (g : Ext k1 al1 k2 al2) (e : k1.B D = some o) : ExtD D k al ⟨upd k2.B D o', k2.F0, k2.pm, k2.rw⟩ al2 := by
  obtain ⟨b, eb⟩ := h.pre
  obtain ⟨c, ec⟩ := g.pre
  have up : ∀ a, a ∉ al2 → a ∉ al1 := fun a n m => n (by rw [ec]; exact List.mem_append_left _ m)
  refine ⟨⟨b ++ c, by rw [ec, eb, List.append_assoc]⟩, g.f0.trans h.f0, g.pm.trans h.pm, fun a n ne => ?_, fun a m n => ?_⟩
  · show upd k2.B D o' a = k.B a
    rw [upd_ne ne, g.out a n, h.out a (up a n) ne]
  · by_cases m1 : a ∈ al1
    · exact h.new a m1 n
    · have q := g.new a m m1
      have ne : a ≠ D := fun z => by subst z; rw [e] at q; cases q
      rw [← h.out a m1 ne]; exact q
section
variable {X : Cx} {k : Bk} {F : Hp} {al : List Addr} {μ : Sto}
theorem KS.updB {D : Addr} {o : HO} (S : KS X k F al μ) (n : D ∉ al) : KS X ⟨upd k.B D o, k.F0, k.pm, k.rw⟩ F al μ := ⟨S.rw, S.nd, S.len, S.pm, fun m b zs h1 h2 => by
  obtain ⟨q, ws, b', r⟩ := S.st m b zs h1 h2
  exact ⟨q, ws, by show upd k.B D o b = _; rw [upd_ne fun z => by subst z; exact n (List.mem_of_getElem? h1)]; exact b', r⟩⟩
end
/-! ### [new list for x in xs] -/
section
variable {X : Cx} {E : XK} {e c : Expr} {es : List Expr} {pos : Pos} {f : M T} {g : M Bool}
/-! ### names given values -/
def sets (ρ : Env) : List Nat → List HV → Env
  | i :: is, x :: xs => sets (ρ.set i (slot x)) is xs
  | _, _ => ρ
/-! ### ranges -/
/-! ### returns -/
end
end FL.HL

set_option maxHeartbeats 2000000
/-! HL12: tests that change the store; defs that read and change the caller's store; defs that return a new list. -/
namespace FL.HL
open PySem PySem.Spec PyProof.Rows L2 FL
section
variable {X : Cx} {E : XK} {a b e c : Expr} {rest es : List Expr} {pos : Pos} {fn : Sto → M (HV × Sto)} {fa fb : Sto → M (Bool × Sto)} {s1 s2 : MH}
end
/-! ### defs over the caller's store -/
structure StOk (K : PySem.W.Frag) (mg : Str → Option Value) (B F0 F : Hp) (al : List Addr) (μ : Sto) : Prop where
  nd : al.Nodup
  len : al.length = μ.length
  st : ∀ (n : Nat) (a : Addr) (xs : List HV), al[n]? = some a → μ[n]? = some xs → F0 a = none ∧ ∃ ws, B a = some (.lst ws) ∧ HReps K mg F al xs ws
inductive HRes where
  | v (x : HV) | tup (xs : List HV)
def HResRep (K : PySem.W.Frag) (mg : Str → Option Value) (F : Hp) (al : List Addr) : HRes → V → Prop
  | .v x, v => HRep K mg F al x v
  | .tup xs, v => ∃ a vs, v = .ref a ∧ F a = some (.tup vs) ∧ HReps K mg F al xs vs
abbrev SgH := List HV → Sto → Res (HRes × Sto)
def spH (K : PySem.W.Frag) (mg : Str → Option Value) (g : SgH) : Sp := fun vs H Q E => ∃ B F al μ xs, Same F H ∧ Same B H ∧ Tb K mg F B H ∧ HReps K mg F al xs vs ∧ StOk K mg B F F al μ ∧
  Den (g xs μ) (fun r _ => ∀ v B' F' H' al', (∃ b, al' = al ++ b) → (∀ a, a ∉ al' → B' a = B a) → (∀ a, a ∈ al' → a ∉ al → B a = none) → Same F' H' → Same B' H' → Tb K mg F' B' H' → Same F F' → (∀ a o, F' a = some o → (∃ u, F a = some u) ∨ NB B' a o) → StOk K mg B' F F' al' r.2 → HResRep K mg F' al' r.1 v → Q v H') (fun _ => False)
structure KnownH (P : Program) (w : World) (K : PySem.W.Frag) (mg : Str → Option Value) (base : Heap) (k : Nat) (nm : Str) (g : SgH) : Prop where
  ok : ∃ (f : Addr) (fd : FuncData) (ps : List Str), mg nm = some (.ref f) ∧ PySem.W.keepIn K (.ref f) = true ∧ Binds K fd ps [] ∧ FnOk P w K mg base (L2.CX P w) k f fd ps (spH K mg g)
theorem KnownH.mono {P : Program} {w : World} {K : PySem.W.Frag} {mg : Str → Option Value} {base : Heap} {j k : Nat} {nm : Str} {g : SgH} (h : KnownH P w K mg base j nm g) (l : j ≤ k) : KnownH P w K mg base k nm g := by
  obtain ⟨f, fd, ps, a, b, c, d⟩ := h.ok
  exact ⟨f, fd, ps, a, b, c, d.mono l⟩
section
variable {P : Program} {w : World} {K : PySem.W.Frag} {mg : Str → Option Value} {base : Heap}
end
section
variable {X : Cx} {e : Expr} {es : List Expr} {pos p : Pos} {fs : HM (List HV)} {x : Str} {g : SgH}
end
/-! ### a def that returns a new list -/
def spO (K : PySem.W.Frag) (mg : Str → Option Value) (g : List T → Res O) : Sp := fun vs H Q E => ∃ B F ts, Same F H ∧ Same B H ∧ Tb K mg F B H ∧ Reps K mg F ts vs ∧
  Den (g ts) (fun o _ => ∀ p h F' H', Same F' H' → Same B H' → Tb K mg F' B H' → Same F F' → (∀ a o, F' a = some o → (∃ u, F a = some u) ∨ NB B a o) → F' p = none → B p = none → H' p = some h → ORep K mg F' o h → Q (.ref p) H') (fun _ => False)
structure KnownO (P : Program) (w : World) (K : PySem.W.Frag) (mg : Str → Option Value) (base : Heap) (k : Nat) (nm : Str) (g : List T → Res O) : Prop where
  ok : ∃ (f : Addr) (fd : FuncData) (ps : List Str), mg nm = some (.ref f) ∧ PySem.W.keepIn K (.ref f) = true ∧ Binds K fd ps [] ∧ FnOk P w K mg base (L2.CX P w) k f fd ps (spO K mg g)
theorem KnownO.mono {P : Program} {w : World} {K : PySem.W.Frag} {mg : Str → Option Value} {base : Heap} {j k : Nat} {nm : Str} {g : List T → Res O} (h : KnownO P w K mg base j nm g) (l : j ≤ k) : KnownO P w K mg base k nm g := by
  obtain ⟨f, fd, ps, a, b, c, d⟩ := h.ok
  exact ⟨f, fd, ps, a, b, c, d.mono l⟩
section
variable {X : Cx} {e : Expr} {es : List Expr} {pos p : Pos} {fs : M (List T)} {x : Str} {fo : M O} {st : Stmt} {sts : List Stmt}
end
section
variable {P : Program} {w : World} {K : PySem.W.Frag} {mg : Str → Option Value} {base : Heap}
end
section
variable {X : Cx} {E : XK} {e : Expr} {es : List Expr} {pos p : Pos} {fs : M (List T)} {x : Str} {g : List T → Res O}
end
/-! ### a def that begins with an empty store and ends with trees -/
/-! ### a def that begins with an empty store, as a function upon trees -/
end FL.HL

set_option maxHeartbeats 2000000
/-! FL57: sorted(x), x a list or a tuple. -/
namespace FL
open PySem PySem.Spec PyProof.Rows L2
section
open PySem.Calls
variable {prog : Program} {w : World} {A : Around} {E : Value → Shared → Prop} {s : Shared} {κ : PyProof.Rows.KeyKind}
variable {β : Type} {vs : List Value} {bs : List β} {enc : β → PyData} {R : Value → β → Prop}
end
section
variable {X : Cx}
end
section
variable {X : Cx} {E : XK} {e : Expr} {es : List Expr} {pos : Pos} {fs : M (List T)}
end
end FL

set_option maxHeartbeats 2000000
/-! FL58: z[::-1] of a text; sum of a tuple of numbers. -/
namespace FL
open PySem PySem.Spec PyProof.Rows L2
def revStr (z : Str) : Str := ⟨z.cps.toList.reverse.toArray⟩
theorem revStr_len (z : Str) : (revStr z).length = z.length := by
  show (z.cps.toList.reverse.toArray).size = z.cps.size
  simp
section
variable {X : Cx} {E : XK} {e st : Expr} {te ts : TE} {pos p2 : Pos} {fa fb : M T}
theorem picked_rev (z : Str) : ((Builtin.Str.strSliceIndices none none (-1) z.length).filterMap (z.cps[·]?)).toArray = (revStr z).cps := by
  have e : Builtin.Str.strSliceIndices none none (-1) z.length = sliceRange ((z.length : Int) - 1) (-1) (-1) := rfl
  rw [e]
  show _ = z.cps.toList.reverse.toArray
  congr 1
  have hz : z.length = z.cps.toList.length := by show z.cps.size = _; simp
  generalize hl : z.cps.toList = its at *
  have hr : sliceRange ((z.length : Int) - 1) (-1) (-1) = (List.range its.length).map fun k => its.length - 1 - k := by
    rw [hz]
    unfold sliceRange
    rw [if_neg (by decide : ¬ ((-1 : Int) > 0))]
    by_cases h : its.length = 0
    · rw [if_neg (by omega), h]; rfl
    · rw [if_pos (by omega)]
      have e2 : (((its.length : Int) - 1 - -1 - -1 - 1) / - -1).toNat = its.length := by
        have : ((its.length : Int) - 1 - -1 - -1 - 1) = (its.length : Int) := by omega
        rw [this]
        show (((its.length : Int)) / 1).toNat = its.length
        rw [Int.ediv_one]; rfl
      show List.map _ (List.range (((its.length : Int) - 1 - -1 - -1 - 1) / - -1).toNat) = _
      rw [e2]
      refine List.map_congr_left fun k hk => ?_
      rw [List.mem_range] at hk
      omega
  rw [hr, List.filterMap_map]
  have g : ∀ n ≤ its.length, (List.range n).filterMap ((fun x => z.cps[x]?) ∘ fun k => its.length - 1 - k) = its.reverse.take n := fun n => by
    induction n with
    | zero => intro _; rfl
    | succ n ih =>
      intro hn
      rw [List.range_succ, List.filterMap_append, ih (by omega), List.take_add_one]
      congr 1
      have q : z.cps[its.length - 1 - n]? = its.reverse[n]? := by
        rw [List.getElem?_reverse (by omega), ← hl, Array.getElem?_toList]
      have one : ∀ (f : Nat → Option Nat) (m : Nat), List.filterMap f [m] = (f m).toList := fun f m => by
        rw [List.filterMap_cons]; cases f m <;> rfl
      rw [one]
      show (z.cps[its.length - 1 - n]?).toList = (its.reverse[n]?).toList
      rw [q]
  rw [g its.length (Nat.le_refl _)]
  rw [← List.length_reverse (as := its), List.take_length]
def tRevS (te ts : TE) : TE := fun σ H Q => te σ H fun x H1 => ts σ H1 fun y H2 => ∃ z, x = .str z ∧ y = .int (-1) ∧ z.length ≤ sizeLine ∧ Q (.str (revStr z)) H2
theorem pe_revS (he : PE X e te) (hs : PE X st ts) : PE X (.Subscript e (.Slice none none (some st) p2) pos) (tRevS te ts) := by
  refine ⟨fun pins s σ H Q I h => ?_⟩
  refine Subscript_ (thn (he.run pins s σ H _ I h) fun v s1 ⟨x, H1, I1, r1, q1⟩ => ?_)
  refine wpAny_Slice ?_
  rw [evalPart_none]
  refine wpAny_pure ?_
  refine wpAny_pure ?_
  rw [evalPart_some]
  refine thn (hs.run pins s1 σ H1 _ I1 q1) fun u s2 ⟨y, H2, I2, r2, q2⟩ => ?_
  obtain ⟨z, rfl, rfl, hz, q⟩ := q2
  obtain ⟨tz, rfl⟩ := r1
  obtain ⟨t, rfl⟩ := r2
  have I4 : Inv X pins σ H2 { s2 with heap := s2.heap.push { cls := .type "slice", data := .fields #[.none, .none, .int (-1) t] } } := I2.kept (t' := s2.toks) fun b ob q => Heap.get?_push_of_some _ q
  show wpAny (model X.prog X.w) X.A (subscriptTail e (.Slice none none (some st) p2) (.str z tz) (.ref s2.heap.objs.size)) (EP X pins σ Q) X.xe { s2 with heap := s2.heap.push { cls := .type "slice", data := .fields #[.none, .none, .int (-1) t] } }
  refine tail_any (ops := [.str z tz, .ref s2.heap.objs.size]) (typeIs_str _ _ _) F.slot_str_getitem.lookup ?_ (by with_unfolding_all rfl)
  refine wpAny_getItem_str_slice (l := none) (u := none) (st := some (-1, t)) ⟨_, Heap.get?_push_size _ rfl, rfl, rfl⟩ rfl ?_
  have em : sliceMade z tz none none (some (-1, t)) = Made.str (revStr z) := by
    unfold sliceMade
    rw [if_neg (by simp)]
    congr 1
    show Str.mk _ = _
    congr 1
    exact picked_rev z
  rw [em]
  exact ⟨by rw [revStr_len]; exact hz, .str _, H2, I4.tok _, ⟨_, rfl⟩, q⟩
def revS (x y : T) : Option T := match x, y with
  | .str z, .int i => if i = -1 ∧ z.length ≤ 16777216 then some (.str (revStr z)) else none
  | _, _ => none
theorem fe_revS (ha : FE X E e fa) (hb : FE X E st fb) : FE X E (.Subscript e (.Slice none none (some st) p2) pos) (op2 revS fa fb) := by
  refine pe_imp (pe_revS ha hb) fun σ H Q h => ?_
  obtain ⟨k, F, ρ, R, h⟩ := h
  refine ⟨k, F, ρ, R, (Den.bind h).imp fun x ρ1 h1 v F1 H1 R1 s1 r1 => ?_⟩
  refine ⟨k, F1, ρ1, R1, (Den.bind h1).imp fun y ρ2 h2 u F2 H2 R2 s2 r2 => ?_⟩
  obtain ⟨o, e, q⟩ := Den.lift h2
  unfold revS at e
  split at e
  · rename_i z i
    split at e
    · rename_i hi
      obtain ⟨rfl, hz⟩ := hi
      cases e
      have h3 : u = .int (-1) := r2
      subst h3
      have h4 : v = .str z := r1.mono s2
      subst h4
      exact ⟨z, rfl, rfl, by rw [szL]; exact hz, q _ F2 H2 R2 (s1.trans s2) rfl⟩
    · cases e
  · cases e
/-! sum of a tuple of numbers -/
end
end FL

set_option maxHeartbeats 2000000
/-! FL59: t[::-1], t[:0:-1] of a tuple. -/
namespace FL
open PySem PySem.Spec PyProof.Rows L2
open PySem.SeqAt
open PySem.MeetsSeq PySem.MeetsSeq2 PySem.MeetsSeq3
section
variable {prog : Program} {w : World} {A : Around} {E : Value → Shared → Prop} {s : Shared}
end
section
variable {X : Cx} {E : XK} {e st up : Expr} {te ts tu : TE} {pos p2 : Pos} {fa fb fu : M T}
theorem Reps.tl {K : PySem.W.Frag} {mg : Str → Option Value} {F : Hp} {ts : List T} {vs : List V} (h : Reps K mg F ts vs) : Reps K mg F ts.tail vs.tail := by
  have := h.drop 1
  simpa using this
end
end FL

set_option maxHeartbeats 2000000
/-! FL60: len(set(x)): tuples of numbers, lists of such tuples. -/
namespace FL
open PySem PySem.Spec PyProof.Rows L2
/-- the different ones, as they come -/
def ddGo {α : Type} [DecidableEq α] : List α → List α → List α
  | [], acc => acc
  | x :: xs, acc => if x ∈ acc then ddGo xs acc else ddGo xs (acc ++ [x])
def dd {α : Type} [DecidableEq α] (xs : List α) : List α := ddGo xs []
theorem ddGo_spec {α : Type} [DecidableEq α] : ∀ (xs acc : List α), acc.Nodup → (ddGo xs acc).Nodup ∧ ∀ a, a ∈ ddGo xs acc ↔ a ∈ acc ∨ a ∈ xs
  | [], acc, h => ⟨h, fun a => by simp [ddGo]⟩
  | x :: xs, acc, h => by
    unfold ddGo
    by_cases e : x ∈ acc
    · rw [if_pos e]
      obtain ⟨h1, h2⟩ := ddGo_spec xs acc h
      refine ⟨h1, fun a => ?_⟩
      rw [h2]
      constructor
      · rintro (h | h)
        · exact .inl h
        · exact .inr (List.mem_cons_of_mem _ h)
      · rintro (h | h)
        · exact .inl h
        · rcases List.mem_cons.mp h with rfl | h
          · exact .inl e
          · exact .inr h
    · rw [if_neg e]
      have hn : (acc ++ [x]).Nodup := by
        rw [List.nodup_append]
        refine ⟨h, by simp, fun a ha b hb => ?_⟩
        rw [List.mem_singleton.mp hb]
        intro e2; subst e2; exact e ha
      obtain ⟨h1, h2⟩ := ddGo_spec xs (acc ++ [x]) hn
      refine ⟨h1, fun a => ?_⟩
      rw [h2, List.mem_append, List.mem_singleton, List.mem_cons]
      constructor
      · rintro ((h | h) | h)
        · exact .inl h
        · exact .inr (.inl h)
        · exact .inr (.inr h)
      · rintro (h | h | h)
        · exact .inl (.inl h)
        · exact .inl (.inr h)
        · exact .inr h
theorem dd_nodup {α : Type} [DecidableEq α] (xs : List α) : (dd xs).Nodup := (ddGo_spec xs [] List.nodup_nil).1
theorem dd_mem {α : Type} [DecidableEq α] {xs : List α} {a : α} : a ∈ dd xs ↔ a ∈ xs := by
  rw [dd, (ddGo_spec xs [] List.nodup_nil).2]; simp
theorem dd_len {α : Type} [DecidableEq α] {xs ys : List α} (h : ys.Nodup) (e : ∀ a, a ∈ ys ↔ a ∈ xs) : ys.length = (dd xs).length :=
  ((List.perm_ext_iff_of_nodup h (dd_nodup xs)).mpr fun a => (e a).trans dd_mem.symm).length_eq
theorem ddGo_le {α : Type} [DecidableEq α] : ∀ (xs acc : List α), (ddGo xs acc).length ≤ acc.length + xs.length
  | [], acc => by simp [ddGo]
  | x :: xs, acc => by
    unfold ddGo
    split
    · have := ddGo_le xs acc; simp; omega
    · have := ddGo_le xs (acc ++ [x]); simp at this ⊢; omega
theorem dd_le {α : Type} [DecidableEq α] (xs : List α) : (dd xs).length ≤ xs.length := by have := ddGo_le xs []; simp at this; exact this
/-- tuples of numbers -/
def tupsT : List T → Option (List (List Int))
  | [] => some []
  | .tup ts :: us => match intsT ts, tupsT us with
    | some ns, some kss => some (ns :: kss)
    | _, _ => none
  | _ :: _ => none
def lenSetX (x : T) : Option T := match x with
  | .tup xs => match intsT xs with
    | some ns => if ns.length ≤ 4000 then some (.int ((dd ns).length : Nat)) else none
    | none => none
  | .lst xs => match intsT xs with
    | some ns => if ns.length ≤ 4000 then some (.int ((metI ns).length : Nat)) else none
    | none => match tupsT xs with
      | some ks => if ks.length < 64 then some (.int ((dd ks).length : Nat)) else none
      | none => none
  | _ => none
section
variable {X : Cx} {E : XK} {fa : M T}
def tLenSetX (K : PySem.W.Frag) (ta : TE) : TE := fun σ H Q => ta σ H fun x H1 => (∃ (l : Addr) (ns : List Int), x = .ref l ∧ SqL K H1 l (ns.map V.int) ∧ ns.length ≤ 4000 ∧ Q (.int ((metI ns).length : Nat)) H1)
  ∨ (∃ (l : Addr) (ns : List Int), x = .ref l ∧ SqT K H1 l (ns.map V.int) ∧ ns.length ≤ 4000 ∧ Q (.int ((dd ns).length : Nat)) H1)
  ∨ (∃ (l : Addr) (ks : List (Addr × List Int)), x = .ref l ∧ SqL K H1 l (ks.map fun p => V.ref p.1) ∧ (∀ p ∈ ks, SqT K H1 p.1 (p.2.map V.int)) ∧ ks.length < 64 ∧ Q (.int ((dd (ks.map (·.2))).length : Nat)) H1)
theorem pe_lenSetX {a : Expr} {ta : TE} {p p2 q pos : Pos} (hu : X.A.units + 64 < cLine) (hg : Gl X "len") (hm : X.mg "len" = none) (hg2 : Gl X "set") (hm2 : X.mg "set" = none) (ha : PE X a ta) (hc : X.calm = true := by rfl)
    (na : starEach [a] X.env = (false, eval a X.env) :: starEach [] X.env := by rfl) : PE X (.Call (.Name "len" p) [.Call (.Name "set" p2) [a] [] q] [] pos) (tLenSetX X.K ta) := by
  refine ⟨fun pins s σ H Q I h => ?_⟩
  refine Call_ (ld_blt I hg hm boot_len ?_)
  refine PyProof.Rows.callWith_builtin1 (PyProof.Rows.args_cons ?_ rfl) rfl rfl
  refine Call_ (ld_blt I hg2 hm2 boot_set ?_)
  refine PyProof.Rows.callWith_type1 (PyProof.Rows.args_cons (thn (ha.run pins s σ H _ I h) fun v s1 ⟨x, H1, I1, r1, q1⟩ => PyProof.Rows.args_nil ?_) na) na rfl
  rcases q1 with ⟨l, ns, rfl, hq, hl, q1⟩ | ⟨l, ns, rfl, hq, hl, q1⟩ | ⟨l, ks, rfl, hq, hk, hl, q1⟩
  · cases r1
    obtain ⟨its, r, pl, hz⟩ := I1.list hq
    have hlen : its.toArray.size = ns.length := by rw [List.size_toArray, ← r.length, List.length_map]
    refine call_set_list (I1.ok.hd hc) pl.isList (by simpa using RZ.intsAre_vals r) (by rw [hlen]; unfold scanBound; omega) fun h' tk hS hk => ?_
    refine PyProof.Rows.args_nil ?_
    rw [hlen] at hS
    obtain ⟨o, es, ep, t, ho, hex, hd, _, _, _, hf, hn⟩ := hS
    have hn : es.size = (metI ns).length := hn
    have hml := met_le (fun i => ns.getD i 0) ns.length
    have hml : (metI ns).length ≤ ns.length := hml
    have I2 : Inv X pins σ H1 { s1 with heap := h', toks := tk } := I1.kept fun b o e => hk b o (Heap.lt_size e) e
    exact call_len_set ho hex hd hf (by rw [hn] <;> omega) ⟨.int (metI ns).length, H1, I2.tok _, ⟨_, by rw [hn]⟩, q1⟩
  · cases r1
    obtain ⟨its, r, pl, hz⟩ := I1.tuple hq
    refine call_set_tupI ns (I1.ok.hd hc) pl (by simpa using RZ.intsAre_vals r) (by unfold scanBound; omega) fun h' tk c hS hc2 hk => ?_
    refine PyProof.Rows.args_nil ?_
    obtain ⟨o, es, ep, t, ho, hex, hd, _, hnd, hmem, _, hf, hn, _⟩ := hS
    have e : es.size = (dd ns).length := by
      have := dd_len (xs := ns) hnd fun a => by rw [← hmem a, decide_eq_true_eq]
      rw [← this, List.length_map, Array.length_toList]
    have hml := dd_le ns
    have I2 : Inv X pins σ H1 { s1 with heap := h', toks := tk } := I1.kept fun b o e => hk b o e
    exact call_len_set ho hex hd hf (by rw [e] <;> omega) ⟨.int (dd ns).length, H1, I2.tok _, ⟨_, by rw [e]⟩, q1⟩
  · cases r1
    obtain ⟨its, rv, pl, hz⟩ := I1.list hq
    refine call_set_tups (P := X.prog) (w := X.w) ks (I1.ok.hd hc) pl.isList (by simpa using refs_of_vals rv) (fun p hp => I1.isT (hk p hp)) hl (by omega) fun h' tk L es ep t R g k => ?_
    refine PyProof.Rows.args_nil ?_
    obtain ⟨o, ho, hex, hd⟩ := R.ob
    have R2 : SetTR X.prog X.w ({ s1 with heap := h', toks := tk } : Shared).heap s1.heap.objs.size L es ep t := R
    have e : es.size = (dd (ks.map (·.2))).length := by
      rw [R2.size]
      have := dd_len (xs := ks.map (·.2)) R.nd fun a => by
        constructor
        · intro h
          obtain ⟨p, hp, rfl⟩ := List.mem_map.mp h
          exact List.mem_map.mpr ⟨p, List.mem_of_mem_take (g.sub p hp), rfl⟩
        · intro h
          obtain ⟨p, hp, rfl⟩ := List.mem_map.mp h
          exact g.all p (by rw [List.take_length]; exact hp)
      rw [← this, List.length_map]
    have hf : t.fits es.size = true := R2.fits
    have hml := dd_le (ks.map (·.2))
    rw [List.length_map] at hml
    have I2 : Inv X pins σ H1 { s1 with heap := h', toks := tk } := I1.kept fun b o e => k b o e
    exact call_len_set ho hex hd hf (by rw [e] <;> omega) ⟨.int (dd (ks.map (·.2))).length, H1, I2.tok _, ⟨_, by rw [e]⟩, q1⟩
/-- tuples of numbers, as they lie -/
theorem tups_of {K : PySem.W.Frag} {mg : Str → Option Value} {F H : Hp} (s : Same F H) : ∀ {ts : List T} {kss : List (List Int)} {vs : List V}, tupsT ts = some kss → Reps K mg F ts vs → ∃ ks : List (Addr × List Int), vs = ks.map (fun p => V.ref p.1) ∧ ks.map (·.2) = kss ∧ ∀ p ∈ ks, SqT K H p.1 (p.2.map V.int)
  | [], kss, vs, e, r => by
    cases e
    have r : vs = [] := r
    subst r
    exact ⟨[], rfl, rfl, fun p h => (by cases h)⟩
  | t :: ts, kss, vs, e, r => by
    obtain ⟨v, w, rfl, r1, r2⟩ := r
    cases t with
    | tup us =>
      simp only [tupsT] at e
      split at e
      · rename_i ns kss' e1 e2
        cases e
        obtain ⟨p, xs, rfl, h1, h2⟩ := r1
        have ex := intsT_rep h2 e1
        subst ex
        obtain ⟨ks, rfl, rfl, hk⟩ := tups_of s e2 r2
        refine ⟨(p, ns) :: ks, rfl, rfl, fun q hq => ?_⟩
        rcases List.mem_cons.mp hq with rfl | hq
        · exact SqT.of (s _ _ h1)
        · exact hk q hq
      · cases e
    | _ => simp only [tupsT, reduceCtorEq] at e
theorem fe_lensetX {a : Expr} {p p2 q pos : Pos} (hu : X.A.units + 64 < cLine) (hg : Gl X "len") (hm : X.mg "len" = none) (hg2 : Gl X "set") (hm2 : X.mg "set" = none) (ha : FE X E a fa) (hc : X.calm = true := by rfl)
    (na : starEach [a] X.env = (false, eval a X.env) :: starEach [] X.env := by rfl) : FE X E (.Call (.Name "len" p) [.Call (.Name "set" p2) [a] [] q] [] pos) (op1 lenSetX fa) := by
  refine pe_imp (pe_lenSetX hu hg hm hg2 hm2 ha hc na) fun σ H Q h => ?_
  obtain ⟨k, F, ρ, R, h⟩ := h
  refine ⟨k, F, ρ, R, (Den.bind h).imp fun x ρ1 h1 v F1 H1 R1 s1 r1 => ?_⟩
  obtain ⟨t, e, q⟩ := Den.lift h1
  unfold lenSetX at e
  split at e
  · split at e
    · rename_i ns hn
      split at e
      · rename_i hl
        cases e
        obtain ⟨a, vs, rfl, e1, e2⟩ := r1
        have ew := intsT_rep e2 hn
        subst ew
        exact .inr (.inl ⟨a, ns, rfl, SqT.of (R1.fh _ _ e1), hl, q _ F1 H1 R1 s1 rfl⟩)
      · cases e
    · cases e
  · split at e
    · rename_i ns hn
      split at e
      · rename_i hl
        cases e
        obtain ⟨a, vs, rfl, e1, e2⟩ := r1
        have ew := intsT_rep e2 hn
        subst ew
        exact .inl ⟨a, ns, rfl, SqL.of (R1.fh _ _ e1), hl, q _ F1 H1 R1 s1 rfl⟩
      · cases e
    · split at e
      · rename_i ks hks
        split at e
        · rename_i hl
          cases e
          obtain ⟨a, vs, rfl, e1, e2⟩ := r1
          obtain ⟨kk, rfl, rfl, hk⟩ := tups_of R1.fh hks e2
          refine .inr (.inr ⟨a, kk, rfl, SqL.of (R1.fh _ _ e1), hk, by simpa using hl, q _ F1 H1 R1 s1 rfl⟩)
        · cases e
      · cases e
  · cases e
end
end FL

set_option maxHeartbeats 2000000
/-! FL61: four names, each given a value of its own. -/
namespace FL
open PySem PySem.Spec PyProof.Rows L2
section
variable {X : Cx} {E : XK} {fs : M (List VO)} {pos : Pos}
end
end FL

set_option maxHeartbeats 2000000
/-! FL62: sorted(set(x)), x a list of ints. -/
namespace FL
open PySem PySem.Spec PyProof.Rows L2
/-- a set that is just made -/
def nwSet (w : World) : Obj := { cls := .type "set", dict := none, data := .set #[] 0 (.fresh 0 0 (!w.params.followText "set-order")) }
section
variable {P : Program} {w : World} {A : Around} {E : Value → Shared → Prop} {s : Shared}
end
end FL

set_option maxHeartbeats 2000000
/-! FL63: sorted(set(x)) as a reading. -/
namespace FL
open PySem PySem.Spec PyProof.Rows L2
/-- the different ones, ascending -/
def sdI (ns : List Int) : List Int := (dd ns).mergeSort fun a b => decide (a ≤ b)
theorem sdI_perm {ns : List Int} : (sdI ns).Perm (dd ns) := List.mergeSort_perm _ _
theorem sdI_mem {ns : List Int} {a : Int} : a ∈ sdI ns ↔ a ∈ ns := by rw [sdI_perm.mem_iff, dd_mem]
theorem sdI_asc {ns : List Int} : (sdI ns).Pairwise (· < ·) := by
  have h1 := List.pairwise_mergeSort (le := fun a b : Int => decide (a ≤ b)) (fun a b c h1 h2 => by simp at *; omega) (fun a b => by simp; omega) (dd ns)
  have h2 : (sdI ns).Nodup := sdI_perm.nodup_iff.mpr (dd_nodup ns)
  have h3 : (sdI ns).Pairwise fun a b => a ≤ b := h1.imp fun h => by simpa using h
  exact (h3.and h2).imp fun h => by have := h.1; have := h.2; omega
theorem asc_uniq : ∀ {xs ys : List Int}, xs.Pairwise (· < ·) → ys.Pairwise (· < ·) → (∀ a, a ∈ xs ↔ a ∈ ys) → xs = ys
  | [], [], _, _, _ => rfl
  | [], y :: ys, _, _, h => by have := (h y).mpr (List.mem_cons_self ..); cases this
  | x :: xs, [], _, _, h => by have := (h x).mp (List.mem_cons_self ..); cases this
  | x :: xs, y :: ys, hx, hy, h => by
    obtain ⟨a1, a2⟩ := List.pairwise_cons.mp hx
    obtain ⟨b1, b2⟩ := List.pairwise_cons.mp hy
    have e : x = y := by
      rcases List.mem_cons.mp ((h x).mp (List.mem_cons_self ..)) with e | m
      · exact e
      · rcases List.mem_cons.mp ((h y).mpr (List.mem_cons_self ..)) with e2 | m2
        · exact e2.symm
        · have := a1 y m2; have := b1 x m; omega
    subst e
    rw [asc_uniq a2 b2 fun a => ?_]
    have := h a
    simp only [List.mem_cons] at this
    constructor
    · intro m
      rcases this.mp (.inr m) with e | m2
      · have := a1 a m; omega
      · exact m2
    · intro m
      rcases this.mpr (.inr m) with e | m2
      · have := b1 a m; omega
      · exact m2
section
variable {X : Cx} {E : XK} {e : Expr} {fs : M (List T)} {p p2 q pos : Pos}
end
end FL

set_option maxHeartbeats 2000000
/-! FL64: sorted(set(x)), however many there are. -/
namespace FL
open PySem PySem.Spec PyProof.Rows PyProof.V L2 PySem.W PySem.Calls
theorem each_weak {α β : Type} {R R' : α → β → Prop} (f : ∀ a b, R a b → R' a b) : ∀ {as : List α} {bs : List β}, EachIs R as bs → EachIs R' as bs
  | _, _, .nil => .nil
  | _, _, .cons h t => .cons (f _ _ h) (each_weak f t)
section
variable {P : Program} {w : World} {A : Around} {E : Value → Shared → Prop} {s : Shared} {a : Addr}
end
section
variable {X : Cx} {E : XK} {e : Expr} {fs : M (List T)} {p p2 q pos : Pos}
end
end FL

set_option maxHeartbeats 2000000
/-! FL65: sorted(d.items()), keys and values ints or texts. -/
namespace FL
open PySem PySem.Spec PyProof.Rows L2
section
variable {X : Cx} {e : Expr} {te : TE} {p apos cpos pos : Pos}
end
section
variable {X : Cx} {E : XK} {e : Expr} {f : M T} {p apos cpos pos : Pos}
end
end FL

/-! FL66: x < y, data alike (tuples of numbers, texts). -/
namespace FL
open PySem PySem.Spec PyProof.Rows L2
section
variable {X : Cx}
end
end FL

set_option maxHeartbeats 2000000
/-! FL67: for k, v in d.items(), d a dict of tuple keys that a name holds (and that is not used any more). -/
namespace FL
open PySem PySem.Spec PyProof.Rows L2
section
variable {P : Program} {w : World} {K : PySem.W.Frag} {tg : Expr} {d : Addr} {o : Obj} {es : Array DictEntry} {ep : Nat}
end
section
variable {X : Cx} {E : XK} {tg e : Expr} {td : TE} {apos cpos : Pos}
end
end FL

set_option maxHeartbeats 2000000
/-! FL68: list.count of data. -/
namespace FL
open PySem PySem.Spec PyProof.Rows L2
section
variable {X : Cx} {E : XK} {ob e : Expr} {fo fe fa : M T} {apos cpos pos : Pos}
end
end FL

set_option maxHeartbeats 2000000
/-! FL69: for k in {k: v for ..}, the keys tuples. -/
namespace FL
open PySem PySem.Spec PyProof.Rows L2
section
variable {P : Program} {w : World} {K : PySem.W.Frag} {tg : Expr} {d : Addr} {o : Obj} {es : Array DictEntry} {ep : Nat}
end
section
variable {X : Cx} {E : XK} {tg e : Expr} {td : TE} {fo : M O}
end
end FL

set_option maxHeartbeats 2000000
/-! FL70: len(d), d of tuple keys. -/
namespace FL
open PySem PySem.Spec PyProof.Rows L2
section
variable {X : Cx} {E : XK} {x : Str} {i : Nat} {p pos : Pos}
end
end FL

set_option maxHeartbeats 2000000
/-! FL71: for v in d.values(), d a dict of tuple keys that a name holds (and that is not used any more). -/
namespace FL
open PySem PySem.Spec PyProof.Rows L2
section
variable {P : Program} {w : World} {K : PySem.W.Frag} {tg : Expr} {d : Addr} {o : Obj} {es : Array DictEntry} {ep : Nat}
end
section
variable {X : Cx} {E : XK} {tg e : Expr} {td : TE} {apos cpos : Pos}
end
section
variable {X : Cx} {E : XK} {tg e : Expr} {apos cpos : Pos}
end
end FL

set_option maxHeartbeats 2000000
/-! FL72: for x in xs: d.setdefault(k, []).append(x), d a new dict of tuple keys. -/
namespace FL
open PySem PySem.Spec PyProof.Rows L2
/-- groups: keys and their items, in the order of their first ones -/
abbrev Gr := List (List L2.Key × List T)
section
variable {K : PySem.W.Frag} {mg : Str → Option Value} {B F0 F : Hp} {pm : Option Addr} {rw : List V} {ρ : FL.Env} {σ : L2.St} {H : Hp} {i : Nat}
end
/-- the dict D and its lists bs, among what a reading keeps -/
structure GK (K : PySem.W.Frag) (mg : Str → Option Value) (B F0 B1 F : Hp) (D : Addr) (bs : List Addr) (kvs : List (List L2.Key × V)) (γ : Gr) : Prop where
  d : B1 D = some (.dT kvs)
  ks : kvs.map (·.1) = γ.map (·.1)
  vs : kvs.map (·.2) = bs.map V.ref
  len : bs.length = γ.length
  nd : (D :: bs).Nodup
  ce : ∀ (j : Nat) b p, bs[j]? = some b → γ[j]? = some p → ∃ ws, B1 b = some (.lst ws) ∧ Reps K mg F p.2 ws
  out : ∀ a, a ∉ D :: bs → B1 a = B a
  inn : ∀ a, a ∈ D :: bs → B a = none ∧ F0 a = none
section
variable {K : PySem.W.Frag} {mg : Str → Option Value} {B F0 B1 F F' : Hp} {D : Addr} {bs : List Addr} {kvs : List (List L2.Key × V)} {γ : Gr}
theorem GK.mono (G : GK K mg B F0 B1 F D bs kvs γ) (s : Same F F') : GK K mg B F0 B1 F' D bs kvs γ := ⟨G.d, G.ks, G.vs, G.len, G.nd, fun j b p h1 h2 => let ⟨ws, q, r⟩ := G.ce j b p h1 h2; ⟨ws, q, r.mono s⟩, G.out, G.inn⟩
theorem GK.found (G : GK K mg B F0 B1 F D bs kvs γ) {j : Nat} {k : List L2.Key} {it : List T} {b : Addr} {ws : List V} {x : T} {v : V} (hb : bs[j]? = some b) (hg : γ[j]? = some (k, it)) (hw : B1 b = some (.lst ws)) (r : Rep K mg F x v) :
    GK K mg B F0 (upd B1 b (.lst (ws ++ [v]))) F D bs kvs (γ.set j (k, it ++ [x])) := by
  have bm : b ∈ bs := List.mem_of_getElem? hb
  have nD : D ≠ b := fun z => by subst z; exact (List.nodup_cons.mp G.nd).1 bm
  have hj := (List.getElem?_eq_some_iff.mp hg).1
  refine ⟨by rw [upd_ne nD]; exact G.d, ?_, G.vs, by rw [List.length_set]; exact G.len, G.nd, fun m b' p h1 h2 => ?_, fun a ha => ?_, G.inn⟩
  · rw [G.ks, List.map_set]
    refine List.ext_getElem? fun m => ?_
    by_cases hm : m = j
    · subst hm
      rw [List.getElem?_set_self (by simpa using hj), List.getElem?_map, hg]; rfl
    · rw [List.getElem?_set_ne (Ne.symm hm)]
  · by_cases hm : m = j
    · subst hm
      rw [hb] at h1; cases h1
      rw [List.getElem?_set_self hj] at h2; cases h2
      obtain ⟨ws', e1, e2⟩ := G.ce m b (k, it) hb hg
      rw [hw] at e1; cases e1
      exact ⟨_, upd_same, e2.append (.one r)⟩
    · rw [List.getElem?_set_ne (Ne.symm hm)] at h2
      obtain ⟨ws', e1, e2⟩ := G.ce m b' p h1 h2
      refine ⟨ws', ?_, e2⟩
      rw [upd_ne fun z => ?_]
      · exact e1
      · subst z
        have h3 : bs[m]? = bs[j]? := by rw [h1, hb]
        exact hm ((List.getElem?_inj (List.getElem?_eq_some_iff.mp h1).1 (List.nodup_cons.mp G.nd).2).mp h3)
  · rw [upd_ne fun z => ha (by rw [z]; exact List.mem_cons_of_mem _ bm)]
    exact G.out a ha
theorem GK.new (G : GK K mg B F0 B1 F D bs kvs γ) {p : Addr} {k : List L2.Key} {x : T} {v : V} (hp : p ∉ D :: bs) (hB : B p = none) (hF : F0 p = none) (r : Rep K mg F x v) :
    GK K mg B F0 (upd (upd (upd B1 p (.lst [])) D (.dT (kvs ++ [(k, .ref p)]))) p (.lst [v])) F D (bs ++ [p]) (kvs ++ [(k, .ref p)]) (γ ++ [(k, [x])]) := by
  have nD : D ≠ p := fun z => hp (by rw [z]; exact List.mem_cons_self ..)
  have nb : ∀ b ∈ bs, b ≠ p := fun b hb z => hp (by rw [← z]; exact List.mem_cons_of_mem _ hb)
  have nbD : ∀ b ∈ bs, b ≠ D := fun b hb z => (List.nodup_cons.mp G.nd).1 (z ▸ hb)
  refine ⟨by rw [upd_ne nD, upd_same], by rw [List.map_append, List.map_append, G.ks]; rfl, by rw [List.map_append, List.map_append, G.vs]; rfl, by rw [List.length_append, List.length_append, G.len]; rfl, ?_, fun m b q h1 h2 => ?_, fun a ha => ?_, fun a ha => ?_⟩
  · rw [← List.cons_append, List.nodup_append]
    exact ⟨G.nd, by simp, fun a ha b hb => by rw [List.mem_singleton] at hb; subst hb; exact fun z => hp (z ▸ ha)⟩
  · by_cases hm : m < bs.length
    · rw [List.getElem?_append_left hm] at h1
      rw [List.getElem?_append_left (by rw [← G.len]; exact hm)] at h2
      obtain ⟨ws, e1, e2⟩ := G.ce m b q h1 h2
      have bm := List.mem_of_getElem? h1
      exact ⟨ws, by rw [upd_ne (nb b bm), upd_ne (nbD b bm), upd_ne (nb b bm)]; exact e1, e2⟩
    · have hl := (List.getElem?_eq_some_iff.mp h1).1
      rw [List.length_append] at hl
      have em : m = bs.length := by simp at hl; omega
      subst em
      rw [List.getElem?_append_right (Nat.le_refl _), Nat.sub_self] at h1
      cases h1
      rw [G.len, List.getElem?_append_right (Nat.le_refl _), Nat.sub_self] at h2
      cases h2
      exact ⟨[v], upd_same, .one r⟩
  · rw [← List.cons_append, List.mem_append, List.mem_singleton, not_or] at ha
    rw [upd_ne ha.2, upd_ne (fun z => ha.1 (by rw [z]; exact List.mem_cons_self ..)), upd_ne ha.2]
    exact G.out a ha.1
  · rw [← List.cons_append, List.mem_append, List.mem_singleton] at ha
    rcases ha with ha | rfl
    · exact G.inn a ha
    · exact ⟨hB, hF⟩
end
section
variable {X : Cx} {E : XK} {pos : Pos}
end
end FL

set_option maxHeartbeats 3200000
/-! FL73: sorted(set(x)), x a list of texts. -/
namespace FL
open PySem PySem.Spec PyProof.Rows L2 PySem.W PySem.Calls
/-- the text that an entry of a set holds -/
def txE (e : Int × Value) : Str := match e.2 with
  | .str z _ => z
  | _ => Str.empty
/-- at a stands a set of just these texts, and its table can be walked -/
def TSet (w : World) (h : Heap) (a : Addr) (ks : List Str) : Prop :=
  ∃ o es ep t, (h.get? a = some o ∧ o.ExactSet ∧ o.data = .set es ep t) ∧ (∀ e ∈ es.toList, ∃ z tk, e = (hashStr w z, Value.str z tk)) ∧ ks.Perm (es.toList.map txE) ∧
    (ks.Nodup ∧ ks.length < scanBound) ∧ (t.fits es.size = true ∧ Ris t.place.toList) ∧ (w.params.followText "set-order" = true ∨ t.led = true)
theorem TSet.keep {w : World} {h h2 : Heap} {a : Addr} {ks : List Str} (T : TSet w h a ks) (k : ∀ o, h.get? a = some o → h2.get? a = some o) : TSet w h2 a ks := by
  obtain ⟨o, es, ep, t, ⟨a1, a2⟩, r⟩ := T
  exact ⟨o, es, ep, t, ⟨k _ a1, a2⟩, r⟩
theorem tx_elems {P : Program} {w : World} {l : List (Int × Value)} (g : ∀ e ∈ l, ∃ z tk, e = (hashStr w z, Value.str z tk)) : ElemsOf (PySem.strKind P w) l := by
  intro e he
  obtain ⟨z, tk, rfl⟩ := g e he
  exact ⟨⟨z, strKind_is P w z tk, rfl⟩, rfl⟩
section
variable {P : Program} {w : World} {A : Around} {E : Value → Shared → Prop} {s : Shared} {a : Addr} {ks : List Str}
theorem tset_put {way : Bool → Sem Unit} (hw : ∀ (b : Bool) (s1 : Shared) (Q1 : Unit → Shared → Prop), Q1 () s1 → wpAny (model P w) A (way b) Q1 E s1) {o : Obj} {es es1 : Array (Int × Value)} {ep : Nat} {t t2 : SetTable} {ns : List Str} {old : Bool} {R : Option Bool → Shared → Prop}
    (ho : s.heap.get? a = some o ∧ o.ExactSet ∧ o.data = .set es ep t) (g1 : ∀ e ∈ es1.toList, ∃ z tk, e = (hashStr w z, Value.str z tk)) (pm : ns.Perm (es1.toList.map txE)) (nd : ns.Nodup ∧ ns.length < scanBound) (f : t2.fits es1.size = true ∧ Ris t2.place.toList)
    (hl : w.params.followText "set-order" = true ∨ t2.led = true) (q : ∀ g, Heap.SameBut a s.heap g → TSet w g a ns → R (some true) { s with heap := g }) :
    wpAny (model P w) A (do
        storeSet a es1 t2
        if (!old && t2.tooFull) = true then do
            way (relayAll t2 es1 (SetTable.grown es1.size)).2.2
            storeSet a (relayAll t2 es1 (SetTable.grown es1.size)).1 (relayAll t2 es1 (SetTable.grown es1.size)).2.1
            pure (some true)
          else pure (some true)) R E s := by
  have len : ∀ es2 : Array (Int × Value), es2.toList.Perm es1.toList → es2.size < scanBound := fun es2 p => by
    have h1 := p.length_eq
    have h2 := pm.length_eq
    rw [List.length_map] at h2
    rw [Array.length_toList] at h1
    omega
  have b1 := Heap.SameBut.update s.heap a (Obj.putSet es1 t2)
  have h1 := store_at (es' := es1) (t' := t2) ho.1 ho.2.2
  refine wpAny_bind (wpAny_storeSet_of ho.1 ho.2.2 ?_ (fits_of_scanBound (len es1 (List.Perm.refl _))))
  split
  · have r1 := relayAll_perm t2 es1 (SetTable.grown es1.size)
    have r2 := relayAll_fits t2 es1 (SetTable.grown es1.size)
    have r3 := relayAll_ris t2 es1 (SetTable.grown es1.size)
    have r4 := relayAll_led t2 es1 (SetTable.grown es1.size)
    generalize relayAll t2 es1 (SetTable.grown es1.size) = Z at r1 r2 r3 r4 ⊢
    obtain ⟨es2, t3, gave⟩ := Z
    dsimp only at r1 r2 r3 r4 ⊢
    refine wpAny_bind (hw _ _ _ (wpAny_bind (wpAny_storeSet_of h1 rfl ?_ (fits_of_scanBound (len es2 r1)))))
    exact wpAny_pure (q _ (b1.trans (Heap.SameBut.update _ a _)) ⟨_, es2, _, t3, ⟨store_at h1 rfl, ho.2.1, rfl⟩, fun e he => g1 e (r1.mem_iff.mp he), pm.trans (r1.map txE).symm, nd, ⟨r2, r3⟩, hl.imp id fun z => r4.trans z⟩)
  · exact wpAny_pure (q _ b1 ⟨_, es1, _, t2, ⟨h1, ho.2.1, rfl⟩, g1, pm, nd, f, hl⟩)
theorem tset_add {k : Str} {tk : Tok} {Q : Bool → Shared → Prop} (T : TSet w s.heap a ks) (room : ks.length + 1 < scanBound)
    (hQ : ∀ b g ks', Heap.SameBut a s.heap g → TSet w g a ks' → (∀ j, j ∈ ks' ↔ j ∈ ks ∨ j = k) → ks'.length ≤ ks.length + 1 → Q b { s with heap := g }) :
    wpAny (model P w) A (setAddHashed a (.str k tk) ((PySem.strKind P w).hash k)) Q E s := by
  obtain ⟨o, es, ep, t, ⟨ho, hex, hd⟩, g, pm, ⟨nd, hb⟩, ⟨hf, hr⟩, hl⟩ := T
  have hn : es.size = ks.length := by rw [pm.length_eq, List.length_map, Array.length_toList]
  have el := tx_elems (P := P) g
  unfold setAddHashed setAddHashedIn
  refine wpAny_holding (wpAny_bind (wpAny_setState_of ho hd hf ?_))
  dsimp only
  rw [byScan_of (x := .str k tk) rfl (by omega) el]
  simp only [↓reduceIte]
  unfold setAddByScan
  refine wpAny_bind (wpAny_bind (wpAny_rule (wpAny_bind (wpAny_setScan_of (strKind_is P w k tk) ho hd hf el ?_))))
  cases hfi : List.findIdx? (fun e => (PySem.strKind P w).is k e.2) es.toList with
  | some j =>
    dsimp only
    obtain ⟨hj, pj, _⟩ := List.findIdx?_eq_some_iff_getElem.mp hfi
    have hk : k ∈ ks := pm.mem_iff.mpr (List.mem_map.mpr ⟨_, List.getElem_mem hj, by
      obtain ⟨z, tz, ez⟩ := g _ (List.getElem_mem hj)
      rw [ez] at pj ⊢
      exact (PySem.strKind P w).inj _ _ _ (strKind_is P w z tz) pj⟩)
    exact wpAny_pure (wpAny_pure (hQ _ s.heap ks (Heap.SameBut.refl a s.heap) ⟨o, es, ep, t, ⟨ho, hex, hd⟩, g, pm, ⟨nd, hb⟩, ⟨hf, hr⟩, hl⟩ (fun j => ⟨.inl, fun c => c.elim id fun e => e ▸ hk⟩) (Nat.le_succ _)))
  | none =>
    dsimp only
    have hk : k ∉ ks := fun c => by
      obtain ⟨e, he, q⟩ := List.mem_map.mp (pm.mem_iff.mp c)
      obtain ⟨z, tz, rfl⟩ := g e he
      have q : z = k := q
      subst q
      have c2 := List.findIdx?_eq_none_iff.mp hfi _ he
      rw [show (PySem.strKind P w).is z (hashStr w z, Value.str z tz).2 = true from strKind_is P w z tz] at c2
      cases c2
    have way : ∀ (b : Bool) (s1 : Shared) (Q1 : Unit → Shared → Prop), Q1 () s1 → wpAny (model P w) A (match b with | true => rule "set.scan.the-table-gave-way" | false => pure ()) Q1 E s1 := fun b s1 Q1 q => by
      cases b
      · exact wpAny_pure q
      · exact wpAny_rule q
    have l1 := layNew_perm t es (hashStr w k) (.str k tk)
    have l2 := layNew_fits t es (hashStr w k) (.str k tk)
    have l3 := layNew_ris t es (hashStr w k) (.str k tk) hr
    have l4 := layNew_led t es (hashStr w k) (.str k tk)
    show wpAny (model P w) A _ _ E s
    rw [show (PySem.strKind P w).hash k = hashStr w k from rfl]
    generalize layNew t es (hashStr w k) (.str k tk) = Z at l1 l2 l3 l4 ⊢
    obtain ⟨es1, t1, old, gave⟩ := Z
    dsimp only at l1 l2 l3 l4 ⊢
    rw [Array.toList_push] at l1
    have p1 : es1.toList.Perm ((hashStr w k, Value.str k tk) :: es.toList) := l1.trans (List.perm_append_singleton _ _)
    have g1 : ∀ e ∈ es1.toList, ∃ z tk, e = (hashStr w z, Value.str z tk) := fun e he => (List.mem_cons.mp (p1.mem_iff.mp he)).elim (fun q => ⟨k, tk, q⟩) (g e)
    have pm1 : (k :: ks).Perm (es1.toList.map txE) := (List.Perm.cons k pm).trans (p1.map txE).symm
    have nd1 : (k :: ks).Nodup := List.nodup_cons.mpr ⟨hk, nd⟩
    have n1 : es1.size = ks.length + 1 := by rw [← Array.length_toList, p1.length_eq, List.length_cons, Array.length_toList, hn]
    have mm : ∀ j, j ∈ k :: ks ↔ j ∈ ks ∨ j = k := fun j => by rw [List.mem_cons]; exact Or.comm
    have led1 : w.params.followText "set-order" = true ∨ t1.led = true := hl.imp id fun z => l4.trans z
    have b1 : (k :: ks).length < scanBound := by rw [List.length_cons]; exact room
    have fin : ∀ b g, Heap.SameBut a s.heap g → TSet w g a (k :: ks) → Q b { s with heap := g } := fun b g sb r => hQ b g _ sb r mm (by rw [List.length_cons]; omega)
    refine wpAny_bind (way _ _ _ ?_)
    split
    · refine wpAny_bind ?_
      rw [hashByValue_scannable 8 (x := .str k tk) rfl]
      refine wpAny_pure ?_
      refine tset_put ?_ ⟨ho, hex, hd⟩ g1 pm1 ⟨nd1, b1⟩ ?_ ?_ ?_
      · intro b s1 Q1 q; cases b <;> first | exact wpAny_pure q | exact wpAny_rule q
      · first
          | exact ⟨l2, l3⟩
          | (split <;> first | exact ⟨l2, l3⟩ | exact ⟨SetTable.fits_plain_off l2, l3⟩)
      · first | exact led1 | (split <;> exact led1)
      · intro g sb r; dsimp only; exact wpAny_pure (fin _ g sb r)
    · refine wpAny_bind (wpAny_pure ?_)
      simp only [↓reduceIte]
      refine tset_put ?_ ⟨ho, hex, hd⟩ g1 pm1 ⟨nd1, b1⟩ ⟨l2, l3⟩ led1 ?_
      · intro b s1 Q1 q; cases b <;> first | exact wpAny_pure q | exact wpAny_rule q
      · intro g sb r; dsimp only; exact wpAny_pure (fin _ g sb r)
theorem tset_new {h : Heap} (e : h.get? a = some (nwSet w)) : TSet w h a [] :=
  ⟨_, #[], 0, _, ⟨e, ⟨rfl, rfl, rfl⟩, rfl⟩, (fun e he => by simp at he), List.Perm.nil, ⟨List.nodup_nil, by decide⟩, ⟨by rfl, List.Pairwise.nil⟩, by
    show _ ∨ (!w.params.followText "set-order") = true
    cases w.params.followText "set-order"
    · exact .inr rfl
    · exact .inl rfl⟩
theorem tset_loop {I : Addr} {fp wr : List Addr} {G : Array GenState → Array GenState → Prop} {n : Nat} {Pv : Nat → Value → Prop} {St : Nat → Shared → Prop} {R : Result → Shared → Prop}
    (W : WalksS P w A.in1 I fp wr G n Pv St) (S : Addr) (out : S ∉ fp) (zs : List Str) (hn : n = zs.length) (hb : zs.length + 1 < scanBound) (val : ∀ i v, Pv i v → ∃ z t, zs[i]? = some z ∧ v = .str z t) :
    ∀ (m i : Nat) (s : Shared), n - i = m → i ≤ n → St i s → (∃ ks, TSet w s.heap S ks ∧ (∀ j, j ∈ ks ↔ j ∈ zs.take i) ∧ ks.length ≤ i) →
      (∀ s' ks, Moved (S :: wr) G s s' → TSet w s'.heap S ks → (∀ j, j ∈ ks ↔ j ∈ zs) → R (.ok (.ret .none)) s') → codeAny (model P w) A (.builtin "set.update.loop" ⟨[.ref S, .ref I], []⟩) R s := by
  have o2 : S ∉ wr := fun h => out (W.sub _ h)
  have sb : ∀ b ∈ wr, b ∈ S :: wr := fun b hb => List.mem_cons_of_mem _ hb
  intro m
  induction m with
  | zero =>
    intro i s em hi hst ⟨ks, T, mem, _⟩ hR
    obtain rfl : i = n := by omega
    refine codeAny_builtin PyProof.Rows.F.entry_set_update_loop ?_
    rw [Around.under_plainId PyProof.Rows.F.plain_set_update_loop _]
    show wpAny _ A.in1 (pyNext (.ref I) >>= _) _ _ s
    refine wpAny_bind (W.done s _ _ hst fun s' hm => ?_)
    show wpAny _ A.in1 (ret Value.none) _ _ s'
    rw [List.take_of_length_le (by omega)] at mem
    exact wpAny_pure (hR s' ks (hm.mono sb) (T.keep fun o e => hm.heap S o o2 e) mem)
  | succ m ih =>
    intro i s em hi hst ⟨ks, T, mem, lk⟩ hR
    refine codeAny_builtin PyProof.Rows.F.entry_set_update_loop ?_
    rw [Around.under_plainId PyProof.Rows.F.plain_set_update_loop _]
    show wpAny _ A.in1 (pyNext (.ref I) >>= _) _ _ s
    refine wpAny_bind (W.item i s _ _ (by omega) hst fun v s' hP hst' hm => ?_)
    obtain ⟨z, t, hz, rfl⟩ := val i v hP
    show wpAny _ A.in1 (holding [Value.str z t] (setAdd S (.str z t)) >>= _) _ _ s'
    unfold setAdd
    refine wpAny_bind (wpAny_holding (wpAny_holding (wpAny_bind ((PySem.strKind P w).pyHash (k := z) (strKind_is _ _ _ _) ?_))))
    refine tset_add (s := { s' with toks := s'.toks + 1 }) (T.keep fun o e => hm.heap S o o2 e) (by omega) fun b g ks2 same T2 mem2 len2 => ?_
    refine wpAny_pure ⟨plainId_quiet PyProof.Rows.F.plain_set_update_loop _, ih (i + 1) _ (by omega) (by omega) (W.frame _ s' _ _ hst' (Nat.le_succ _) fun b hb o e => ?_) ⟨ks2, T2, fun j => ?_, by omega⟩ fun s2 ks3 mv T3 mem3 => hR s2 ks3 (Moved.trans W.gtrans ((hm.mono sb).then_heap (Nat.le_succ _) fun b o hb e => ?_) mv) T3 mem3⟩
    · rw [same.2 b (fun h : b = S => out (by rw [← h]; exact hb))]; exact e
    · rw [mem2, mem, List.take_add_one, hz]
      simp [List.mem_append]
    · rw [same.2 b (fun h : b = S => hb (by rw [h]; exact List.mem_cons_self))]; exact e
theorem call_set_lstX {l : Addr} {its : Array Value} (zs : List Str) {Q : Value → Shared → Prop} (hh : A.handled = none) (hl : s.heap.IsList l its) (hz : StrsAre its.toList zs) (hb : zs.length + 1 < scanBound)
    (q : ∀ (g : Heap) (tk : Nat) (c : List Str), TSet w g s.heap.objs.size c → (∀ j, j ∈ c ↔ j ∈ zs) → (∀ b o, s.heap.get? b = some o → g.get? b = some o) → Q (.ref s.heap.objs.size) { s with heap := g, toks := tk }) :
    wpAny (model P w) A (call (.type "set") [.ref l]) Q E s := by
  have hn : its.size = zs.length := by
    have z := StrsAre.len_eq hz; rw [Array.length_toList] at z; exact z
  obtain ⟨c, tl, hmro⟩ := F.called_set.mro; have hmade := F.called_set.made; have hsub := F.called_set.sub
  refine wpAny_call (codeAny_of_tree ?_)
  show wpAny _ _ (callAny (.type "set") _) _ _ _; refine wpAny_pure ⟨Code.quiet_builtin _ (by decide +kernel), codeAny_builtin F.entry_type_call ?_⟩
  rw [Around.under_plain (weight_type_call_type "set" [.ref l] []) rfl]; have h1 := F.called_set.notType; have h2 := F.called_set.canCreate; have hct := F.typeCall_set_1 (.ref l)
  repeat (any_goals (first | assumption | wp_step))
  refine codeAny_mono (code_set_led1 (.ref l) (E := E) (Q₁ := fun obj s₁ => obj = .ref s.heap.objs.size ∧ s₁ = { s with heap := s.heap.push (nwSet w) }) ⟨rfl, rfl⟩) fun r s₁ hr => ?_
  cases r with
  | error e => exact hr
  | ok fl =>
    cases fl with
    | ret obj =>
      obtain ⟨rfl, rfl⟩ := hr
      have hS : (s.heap.push (nwSet w)).get? s.heap.objs.size = some (nwSet w) := Heap.get?_push_size _ rfl
      have hT : Shared.TypeIs { s with heap := s.heap.push (nwSet w) } (.ref s.heap.objs.size) "set" := ⟨_, hS, rfl⟩; have hli := F.called_set.init.lookup; have hbi := F.called_set.init.bind (.ref s.heap.objs.size)
      repeat (any_goals (first | assumption | wp_step))
      refine codeAny_mono (codeAny_call_builtin (R := wants (fun r s₂ => r = .none ∧ ∃ g tk c, s₂ = { s with heap := g, toks := tk } ∧ TSet w g s.heap.objs.size c ∧ (∀ j, j ∈ c ↔ j ∈ zs) ∧ (∀ b o, s.heap.get? b = some o → g.get? b = some o)) E) F.called_set.init.plain F.entry_set_init (check_set_init_1 hT ?_)) fun r₂ s₂ hr₂ => ?_
      · obtain ⟨ol, hol, hcl, nl, hdl⟩ := hl; obtain ⟨ocls, odict, odata, oslots⟩ := ol
        simp only at hcl hdl; subst hcl; subst hdl
        have hol' : (s.heap.push (nwSet w)).get? l = some { cls := .type "list", dict := odict, data := .seq its nl, slots := oslots } := Heap.get?_push_of_some _ hol
        have z1 := F.sub_list_set; have z2 := F.sub_list_frozenset; have z3 : (Value.type "list" == Value.type "dict") = false := by decide
        have hl1 : (s.heap.push (nwSet w)).IsList l its := ⟨_, hol', rfl, nl, rfl⟩
        unfold Builtin.«set.__init__» noKeywords Builtin.Frozenset.updateFrom; generalize hPI : pyIter = PI
        wp_walk
        subst hPI
        refine wpAny_pyIter_list hl1 ?_; refine wpAny_bind (wpAny_runValue ?_)
        have hlS : l < s.heap.objs.size := Heap.lt_size hol; have hh3 : A.in1.in1.in1.handled = none := by simp [hh]
        have hz1 : (s.heap.push (nwSet w)).objs.size = s.heap.objs.size + 1 := Heap.size_push ..
        have hneI : l ≠ (s.heap.push (nwSet w)).objs.size := by rw [Heap.size_push]; exact Nat.ne_of_lt (Nat.lt_succ_of_lt hlS)
        have hSf : s.heap.objs.size ∉ [(s.heap.push (nwSet w)).objs.size, l] := by
          rw [Heap.size_push]; simp only [List.mem_cons, List.mem_singleton, List.not_mem_nil, or_false, not_or]; exact ⟨Nat.ne_of_lt (Nat.lt_succ_self _), Nat.ne_of_gt hlS⟩
        have hval : ∀ (i : Nat) (v : Value), its[i]? = some v → ∃ z t, zs[i]? = some z ∧ v = .str z t := fun i v hv => by
          have hi : i < zs.length := by rw [← hn]; exact (Array.getElem?_eq_some_iff.mp hv).1
          obtain ⟨t, e⟩ := SS.strs_at hz i v (by rw [Array.getElem?_toList]; exact hv)
          exact ⟨zs[i], t, List.getElem?_eq_getElem hi, by rw [e, List.getD_eq_getElem?_getD, List.getElem?_eq_getElem hi] <;> rfl⟩
        refine tset_loop ((Walks.list hh3 _ l hneI its).toS) s.heap.objs.size hSf zs hn hb hval (its.size - 0) 0 _ (by omega) (Nat.zero_le _) ⟨⟨_, Heap.get?_push_size _ rfl, rfl, rfl⟩, (hl1.push _)⟩ ?hS0 ?hR
        case hS0 =>
          exact ⟨[], tset_new (Heap.get?_push_of_some _ hS), fun j => ⟨nofun, fun z => by rw [List.take_zero] at z; cases z⟩, Nat.le_refl 0⟩
        case hR =>
          intro s' c' hm hc' hS'; obtain ⟨g, g2, d', tk', os'⟩ := s'
          have eg : g2 = s.gens := hm.gens; have ed : d' = s.drawn := hm.drawn; have eo : os' = s.os := hm.os
          subst eg; subst ed; subst eo
          show wpAny _ _ _ _ _ _; refine wpAny_pure ?_
          show wpAny _ _ (ret Value.none) _ _ _
          refine wpAny_pure ⟨rfl, g, tk', c', rfl, hc', hS', fun b o e => ?_⟩
          have b0 : b < s.heap.objs.size := Heap.lt_size e; have b1 : b ≠ s.heap.objs.size := Nat.ne_of_lt b0
          have b2 : b ≠ (s.heap.push (nwSet w)).objs.size := by rw [Heap.size_push]; exact Nat.ne_of_lt (Nat.lt_succ_of_lt b0)
          exact hm.heap b o (by simp only [List.mem_cons, List.mem_singleton, List.not_mem_nil, or_false, not_or]; exact ⟨b1, b2⟩) (Heap.get?_push_of_some _ (Heap.get?_push_of_some _ e))
      · cases r₂ with
        | error e => exact hr₂
        | ok fl₂ =>
          cases fl₂ with
          | ret r =>
            obtain ⟨rfl, g, tk, c', rfl, hS', hc', hk'⟩ := hr₂
            repeat (any_goals (first | assumption | wp_step))
            exact q _ _ _ hS' hc' hk'
          | _ => exact hr₂.elim
    | _ => exact hr.elim
end
/-- texts in their order -/
def leS (x y : Str) : Bool := dataLe false PyData.str x y
theorem leS_iff {x y : Str} : leS x y = true ↔ ¬ y.cps.toList < x.cps.toList := by
  show (!dataLt (PyData.str y) (PyData.str x)) = true ↔ _
  rw [PySem.W.dataLt_str y x]
  simp
theorem leS_trans (x y z : Str) (h1 : leS x y = true) (h2 : leS y z = true) : leS x z = true := leS_iff.mpr (List.not_lt.mpr (List.le_trans (List.not_lt.mp (leS_iff.mp h1)) (List.not_lt.mp (leS_iff.mp h2))))
theorem leS_total (x y : Str) : (leS x y || leS y x) = true := by
  rw [Bool.or_eq_true, leS_iff, leS_iff]
  exact (List.le_total x.cps.toList y.cps.toList).elim (fun h => .inl (List.not_lt.mpr h)) (fun h => .inr (List.not_lt.mpr h))
theorem leS_anti {x y : Str} (h1 : leS x y = true) (h2 : leS y x = true) : x = y := by
  have e : x.cps.toList = y.cps.toList := List.le_antisymm (List.not_lt.mp (leS_iff.mp h1)) (List.not_lt.mp (leS_iff.mp h2))
  cases x
  cases y
  exact congrArg _ (Array.toList_inj.mp e)
/-- texts with one membership, each once, sorted: one list only -/
theorem sorted_one {xs ys : List Str} (h : xs.Perm ys) : xs.mergeSort leS = ys.mergeSort leS :=
  List.Perm.eq_of_pairwise (le := fun a b => leS a b = true) (fun _ _ _ _ h1 h2 => leS_anti h1 h2) (List.pairwise_mergeSort leS_trans leS_total xs) (List.pairwise_mergeSort leS_trans leS_total ys)
    ((List.mergeSort_perm _ _).trans (h.trans (List.mergeSort_perm _ _).symm))
def sdS (zs : List Str) : List Str := (dd zs).mergeSort leS
theorem sdS_of {zs ks : List Str} (nd : ks.Nodup) (m : ∀ j, j ∈ ks ↔ j ∈ zs) : ks.mergeSort leS = sdS zs := sorted_one ((List.perm_ext_iff_of_nodup nd (dd_nodup zs)).mpr fun a => (m a).trans dd_mem.symm)
theorem strs_each : ∀ {vs : List Value}, (∀ v ∈ vs, ∃ z tk, v = Value.str z tk) → EachIs (fun v z => ∃ tk, v = Value.str z tk) vs (vs.map fun v => txE (0, v))
  | [], _ => .nil
  | v :: vs, h => by
    obtain ⟨z, tk, rfl⟩ := h v List.mem_cons_self
    exact .cons ⟨tk, rfl⟩ (strs_each fun u hu => h u (List.mem_cons_of_mem _ hu))
theorem each_strs : ∀ {vs : List Value} {ks : List Str}, EachIs (fun v z => ∃ tk, v = Value.str z tk) vs ks → StrsAre vs ks
  | _, _, .nil => .nil
  | _, _, .cons ⟨tk, rfl⟩ h => .cons _ tk (each_strs h)
section
variable {P : Program} {w : World} {A : Around} {E : Value → Shared → Prop} {s : Shared} {a : Addr}
theorem sorted_setX {ks : List Str} {Q : Value → Shared → Prop} (T : TSet w s.heap a ks) (hh : A.handled = none) (hu : A.units + 66 < cLine)
    (hQ : ∀ s' p (out : Array Value) (c : Nat), (∀ b o, s.heap.get? b = some o → s'.heap.get? b = some o) → s'.gens = s.gens → s'.os = s.os → s.heap.objs.size ≤ p → s'.heap.get? p = some (seqObj "list" out c) →
      StrsAre out.toList (ks.mergeSort leS) → Q (.ref p) s') : wpAny (model P w) A (call (.builtin "sorted") [.ref a]) Q E s := by
  obtain ⟨o, es, ep, t, ⟨ho, hex, hd⟩, g, pm, ⟨nd, hb⟩, ⟨hf, hr⟩, hl⟩ := T
  have hn : es.size = ks.length := by rw [pm.length_eq, List.length_map, Array.length_toList]
  have bb : scanBound = 4096 := rfl
  refine Calls.call_function_entry kind_sorted plain_sorted entry_sorted (args_sorted1 _) ?_
  unfold Builtin.«sorted»
  refine wpAny_bind (m := checkCount "sorted" 1 1 _) (wpAny_pure ?_)
  refine wpAny_bind (collect_set (A := A.in1) hh ⟨o, ho, hex.1, hd⟩ hf (by omega) hr hl fun s1 vs k1 hz g1 o1 pv => ?_)
  have hvl : vs.length = ks.length := by rw [pv.length_eq, List.length_map, Array.length_toList]; exact hn
  have fits : vs.length ≤ sizeLine := by rw [sizeLine_eq]; omega
  have isE := strs_each (vs := vs) fun v hv => by
    obtain ⟨e, he, q⟩ := List.mem_map.mp (pv.mem_iff.mp hv)
    obtain ⟨z, tk, rfl⟩ := g e he
    exact ⟨z, tk, q.symm⟩
  have pk : (vs.map fun v => txE (0, v)).Perm ks := ((pv.map fun v => txE (0, v)).trans (by rw [List.map_map]; exact List.Perm.refl _)).trans pm.symm
  refine wpAny_bind (wpAny_newList ?_ fits)
  have hoL : (s1.heap.push (seqObj "list" vs.toArray 0)).get? s1.heap.objs.size = some (seqObj "list" vs.toArray 0) := Heap.get?_push_size _ rfl
  refine wpAny_bind (wpAny_holding ?_)
  refine list_sort_data (enc := PyData.str) (R := fun v z => ∃ tk, v = Value.str z tk) hoL isE (each_weak (fun v z h => by
    obtain ⟨tk, rfl⟩ := h
    exact ⟨[], .str z tk, by simp⟩) isE) (fun x hx y hy => by
    obtain ⟨i, _, rfl⟩ := List.mem_map.mp hx
    obtain ⟨j, _, rfl⟩ := List.mem_map.mp hy
    show PySem.W.alike (.str i) (.str j) = true
    simp only [PySem.W.alike]) (.inr fun x hx => by
    obtain ⟨i, _, rfl⟩ := List.mem_map.mp hx
    exact ⟨nofun, nofun⟩) (by rw [List.length_map]; exact fits) (fun b _ => by
    show A.in1.units + 1 + 0 < cLine
    have : A.in1.units = A.units + 1 := by rfl
    omega) fun out hol hout => ?_
  obtain ⟨c, hc⟩ := sortedHeap_at (vs := vs) (out := out.toArray) hoL
  refine wpAny_pure ⟨_, rfl, ?_⟩
  refine hQ { s1 with heap := sortedHeap (s1.heap.push (seqObj "list" vs.toArray 0)) s1.heap.objs.size vs out.toArray } s1.heap.objs.size out.toArray c (fun b u e => ?_) g1 o1 hz hc ?_
  · have q := k1 b u e
    have lt := Heap.lt_size q
    show (sortedHeap (s1.heap.push (seqObj "list" vs.toArray 0)) s1.heap.objs.size vs out.toArray).get? b = some u
    rw [sortedHeap_old (Nat.ne_of_lt lt) (by rw [size_push']; exact Nat.lt_succ_of_lt lt)]
    exact Heap.get?_push_of_some _ q
  · rw [← sorted_one pk]
    exact each_strs hout
end
/-- the different texts, in order -/
def ssX (t : T) : Option O := match t with
  | .lst xs => match strsT xs with
    | some zs => if zs.length ≤ 4000 then some (.l ((sdS zs).map T.str)) else none
    | none => none
  | _ => none
section
variable {X : Cx} {E : XK} {e : Expr} {fs : M (List T)} {p p2 q pos : Pos}
def TSetO (w : World) (a : Addr) (ks : List Str) : HO := .ext fun h => TSet w h a ks
def rSetX (K : PySem.W.Frag) (w : World) : List V → Hp → VK → Prop := fun xs H Q => ∃ (l : Addr) (zs : List Str), xs = [V.ref l] ∧ SqL K H l (zs.map V.str) ∧ zs.length ≤ 4000 ∧
  ∀ a ks, ks.Nodup → (∀ j, j ∈ ks ↔ j ∈ zs) → H a = none → Q (.ref a) (upd H a (TSetO w a ks))
def rSortedTx (w : World) : List V → Hp → VK → Prop := fun vs H Q => ∃ (a : Addr) (ks : List Str), vs = [V.ref a] ∧ H a = some (TSetO w a ks) ∧ ∀ p : Addr, H p = none → Q (.ref p) (upd H p (.lst ((ks.mergeSort leS).map V.str)))
theorem tset_nodup {w : World} {h : Heap} {a : Addr} {ks : List Str} (T : TSet w h a ks) : ks.Nodup ∧ ks.length < 4096 := by
  obtain ⟨_, _, _, _, _, _, _, n, _⟩ := T
  exact n
theorem cr_setX (hc : X.calm = true) : CallR X (.type "set") (rSetX X.K X.w) := by
  intro pins s σ H xs us Q I r h
  obtain ⟨l, zs, rfl, hl, hf, q⟩ := h
  rw [Vals.ref1 r]
  obtain ⟨its, rv, pl, hz⟩ := I.list hl
  refine call_set_lstX (P := X.prog) (w := X.w) zs (I.ok.hd hc) pl.isList (strsAre_of rv) (by unfold scanBound; omega) fun g tk c T mem hk => ?_
  exact ⟨.ref s.heap.objs.size, upd H s.heap.objs.size (TSetO X.w s.heap.objs.size c), I.laid (t' := tk) hk (Nat.le_refl _) (by
    have ⟨o, _, _, _, ho, _⟩ := T
    exact ⟨T, ⟨o, ho.1⟩, fun h1 h2 p k => TSet.keep p k⟩), rfl, q _ _ (tset_nodup T).1 mem (I.hok.fresh (Nat.le_refl _))⟩
theorem cr_sortedTx (hc : X.calm = true) (hu : X.A.units + 66 < cLine) : CallR X (.builtin "sorted") (rSortedTx X.w) := by
  intro pins s σ H vs us Q I r h
  obtain ⟨a, ks, rfl, ha, q⟩ := h
  have T : TSet X.w s.heap a ks := (I.hok a _ ha).1
  rw [Vals.ref1 r]
  refine sorted_setX T (I.ok.hd hc) hu fun s' p out c k g o hp hg hi => ?_
  have hlen : ((ks.mergeSort leS).map V.str).length ≤ sizeLine := by
    have := (tset_nodup T).2
    rw [List.length_map, List.length_mergeSort, sizeLine_eq]; omega
  have hn : H p = none := I.hok.fresh hp
  have J : Inv X pins σ (upd H p (.lst ((ks.mergeSort leS).map V.str))) { s with heap := s'.heap, gens := s'.gens, drawn := s'.drawn, toks := s'.toks } :=
    I.call (ch := []) (Un.laid k hp hn) (I.hok.laid k hp ⟨hlen, out.toList, c, vals_of_strs hi, hg⟩) (by rw [g]; exact I.bare) (fun _ z => nomatch z)
  have e : s' = { s with heap := s'.heap, gens := s'.gens, drawn := s'.drawn, toks := s'.toks } := by
    cases s'
    cases s
    cases o
    rfl
  rw [e]
  exact ⟨.ref p, _, J, rfl, q p hn⟩
theorem reps_strs {K : PySem.W.Frag} {mg : Str → Option Value} {F : Hp} : ∀ ns : List Str, Reps K mg F (ns.map T.str) (ns.map V.str)
  | [] => rfl
  | n :: ns => ⟨_, _, rfl, rfl, reps_strs ns⟩
theorem fo_sortsetX (hc : X.calm = true) (hu : X.A.units + 66 < cLine) (hg : Gl X "sorted") (hm : X.mg "sorted" = none) (hv : bootBuiltins "sorted" = some (.builtin "sorted")) (hg2 : Gl X "set") (hm2 : X.mg "set" = none) (hv2 : bootBuiltins "set" = some (.type "set")) (ha : FA X E [e] fs)
    (he : starEach [e] X.env = (false, eval e X.env) :: starEach [] X.env := by rfl) (hpl : (backTo q (starEach [] X.env)).any (·.1) = false := by rfl)
    (he2 : starEach [.Call (.Name "set" p2) [e] [] q] X.env = (false, eval (.Call (.Name "set" p2) [e] [] q) X.env) :: starEach [] X.env := by rfl) (hpl2 : (backTo pos (starEach [] X.env)).any (·.1) = false := by rfl) : FO X E (.Call (.Name "sorted" p) [.Call (.Name "set" p2) [e] [] q] [] pos) (calO (one1 ssX) fs) := by
  refine pe_imp (pe_callB (cr_sortedTx hc hu) hg hm hv (pa_cons (pe_callTy (cr_setX hc) hg2 hm2 hv2 ha (by decide) (by decide) he hpl) pa_nil he2) (by decide) (by decide) he2 hpl2) fun σ H Q h => ?_
  obtain ⟨k, F, ρ, R, h⟩ := h
  refine ⟨k, F, ρ, R, (Den.bind h).imp fun ts ρ1 h1 vs F1 H1 R1 s1 r1 => ?_⟩
  obtain ⟨o, eo, q⟩ := Den.lift h1
  unfold one1 at eo
  split at eo
  · unfold ssX at eo
    split at eo
    · split at eo
      · rename_i ns hns
        split at eo
        · rename_i hb
          cases eo
          obtain ⟨v, rfl, a, us, rfl, e1, e2⟩ := r1.one_of
          have eu := strsT_rep e2 hns
          subst eu
          refine ⟨a, ns, rfl, SqL.of (R1.fh _ _ e1), hb, fun d ks nd mem np0 => ?_⟩
          refine ⟨d, ks, rfl, upd_same, fun p0 np => ?_⟩
          rw [sdS_of nd mem]
          have R2 := R1.grow (same_upd (o := TSetO X.w d ks) np0)
          exact q _ F1 _ (R2.newO (o := .l _) ⟨_, rfl, reps_strs _⟩ np) s1 R1.len
        · cases eo
      · cases eo
    · cases eo
  · cases eo
end
end FL

/-! NL1: plain Lean programs of what the readings do; the judgements. -/
namespace FL.NL
open PySem

/-- a plain program: no claim; an exception; a value; a drawn number -/
inductive R (α : Type) where
  | bad | exc (e : Ex) | ok (a : α) | dr (m : Int) (k : Int → R α)
namespace R
variable {α β γ : Type}
def bind0 (r : R α) (k : α → R β) : R β := match r with
  | .bad => .bad
  | .exc e => .exc e
  | .ok a => k a
  | .dr m f => .dr m fun v => (f v).bind0 k
/-- one behind the other -/
@[irreducible] def bind (r : R α) (k : α → R β) : R β := bind0 r k
theorem bind_e {r : R α} {k : α → R β} : r.bind k = r.bind0 k := by unfold bind; rfl
@[simp] theorem bind_ok {a : α} {k : α → R β} : (R.ok a).bind k = k a := by rw [bind_e]; rfl
@[simp] theorem bind_bad {k : α → R β} : (R.bad : R α).bind k = .bad := by rw [bind_e]; rfl
@[simp] theorem bind_exc {e : Ex} {k : α → R β} : (R.exc e : R α).bind k = .exc e := by rw [bind_e]; rfl
@[simp] theorem bind_dr {m : Int} {f : Int → R α} {k : α → R β} : (R.dr m f).bind k = .dr m fun v => (f v).bind k := by
  rw [bind_e]
  show R.dr m (fun v => (f v).bind0 k) = _
  congr 1; funext v; rw [bind_e]
theorem bind_assoc {r : R α} {k : α → R β} {l : β → R γ} : (r.bind k).bind l = r.bind fun a => (k a).bind l := by
  induction r with
  | bad => simp only [bind_bad]
  | exc e => simp only [bind_exc]
  | ok a => simp only [bind_ok]
  | dr m f ih => simp only [bind_dr, ih]
/-- within a comprehension no exception is carried -/
def noX (r : R α) : R α := match r with
  | .bad => .bad
  | .exc _ => .bad
  | .ok a => .ok a
  | .dr m f => .dr m fun v => (f v).noX
@[simp] theorem noX_ok {a : α} : (R.ok a).noX = .ok a := Eq.trans rfl rfl
@[simp] theorem noX_bad : (R.bad : R α).noX = .bad := Eq.trans rfl rfl
/-- all ends are good -/
def All (Q : α → Prop) : R α → Prop
  | .bad => False
  | .exc _ => False
  | .ok a => Q a
  | .dr m k => 0 < m ∧ m < 18446744073709551616 ∧ ∀ v, 0 ≤ v → v < m → All Q (k v)
theorem All.bind {Q : β → Prop} {r : R α} {k : α → R β} (h : All (fun a => All Q (k a)) r) : All Q (r.bind k) := by
  rw [R.bind_e]
  induction r with
  | bad => exact h
  | exc e => exact h
  | ok a => exact h
  | dr m f ih => exact ⟨h.1, h.2.1, fun v h0 h1 => ih v (h.2.2 v h0 h1)⟩
theorem All.mono {Q Q' : α → Prop} {r : R α} (h : All Q r) (hi : ∀ a, Q a → Q' a) : All Q' r := by
  induction r with
  | bad => exact h
  | exc e => exact h
  | ok a => exact hi a h
  | dr m f ih => exact ⟨h.1, h.2.1, fun v h0 h1 => ih v (h.2.2 v h0 h1)⟩
@[simp] theorem All_ok {Q : α → Prop} {a : α} : All Q (.ok a) ↔ Q a := Iff.rfl
theorem All_noX {Q : α → Prop} {r : R α} (h : All Q r) : All Q r.noX := by
  induction r with
  | bad => exact h
  | exc e => exact h
  | ok a => exact h
  | dr m f ih => exact ⟨h.1, h.2.1, fun v h0 h1 => ih v (h.2.2 v h0 h1)⟩
end R

/-! ### what is known of the slots -/
/-- the row of drawn numbers -/
def RowOk (o : O) : Prop := ∃ (cs : List Int) (a b c : Int), o = .l [.sl (cs.map T.int), .int a, .int b, .int c] ∧ 0 ≤ a ∧ 0 ≤ b ∧ b < 2147483647
inductive Sp where
  | any | nf | is (x : SV) | lz (ts : List T) | row (lent : Bool)
abbrev Ctx := List Sp
def nfz (x : SV) : Bool := match x with
  | .un => true
  | .fz _ => true
  | _ => false
def Sp.ok : Sp → SV → Prop
  | .any, _ => True
  | .nf, x => nfz x = true
  | .is y, x => x = y
  | .lz ts, x => x = .ow (.l ts) ∨ x = .fz (.lst ts)
  | .row b, x => ∃ o, x = (if b = true then SV.pa o else SV.ow o) ∧ RowOk o
structure St (ρ : Env) (Γ : Ctx) : Prop where
  len : ρ.length = Γ.length
  get : ∀ (i : Nat) (p : Sp), Γ[i]? = some p → ∃ x, ρ[i]? = some x ∧ p.ok x
theorem St.is {ρ : Env} {Γ : Ctx} (h : St ρ Γ) {i : Nat} {x : SV} (e : Γ[i]? = some (.is x)) : ρ[i]? = some x := by
  obtain ⟨y, e1, e2⟩ := h.get i _ e
  have e2 : y = x := e2
  rw [e1, e2]
theorem St.set {ρ : Env} {Γ : Ctx} (h : St ρ Γ) {p : Sp} {x : SV} (hp : p.ok x) (i : Nat) : St (ρ.set i x) (Γ.set i p) := by
  refine ⟨by simp [h.len], fun j q e => ?_⟩
  by_cases hj : i = j
  · subst hj
    have hl : i < Γ.length := by
      have := (List.getElem?_eq_some_iff.mp e).1
      simpa using this
    rw [List.getElem?_set_self hl] at e
    cases e
    exact ⟨x, List.getElem?_set_self (by rw [h.len]; exact hl), hp⟩
  · rw [List.getElem?_set_ne hj] at e
    obtain ⟨y, e1, e2⟩ := h.get j q e
    exact ⟨y, by rw [List.getElem?_set_ne hj]; exact e1, e2⟩
inductive SpLe : Sp → Sp → Prop
  | refl (p : Sp) : SpLe p p
  | any (p : Sp) : SpLe p .any
  | nfz (t : T) : SpLe (.is (.fz t)) .nf
  | nun : SpLe (.is .un) .nf
  | low (ts : List T) : SpLe (.is (.ow (.l ts))) (.lz ts)
  | lfz (ts : List T) : SpLe (.is (.fz (.lst ts))) (.lz ts)
  | mkrow (cs : List Int) (c : Int) (h0 : 0 ≤ c) (h1 : c < 2147483647) : SpLe (.is (.ow (.l [.sl (cs.map T.int), .int 0, .int c, .int 0]))) (.row false)
theorem SpLe.ok {p q : Sp} (h : SpLe p q) {x : SV} (hx : p.ok x) : q.ok x := by
  cases h with
  | refl => exact hx
  | any p => trivial
  | nfz t => have hx : x = .fz t := hx; subst hx; rfl
  | nun => have hx : x = .un := hx; subst hx; rfl
  | low ts => exact .inl hx
  | lfz ts => exact .inr hx
  | mkrow cs c h0 h1 => exact ⟨_, hx, cs, 0, c, 0, rfl, by decide, h0, h1⟩
inductive Le : Ctx → Ctx → Prop
  | nil : Le [] []
  | cons {p q : Sp} {Γ Γ' : Ctx} (h : SpLe p q) (t : Le Γ Γ') : Le (p :: Γ) (q :: Γ')
theorem Le.length {Γ Γ' : Ctx} (h : Le Γ Γ') : Γ.length = Γ'.length := by
  induction h with
  | nil => rfl
  | cons _ _ ih => simp [ih]
theorem Le.get {Γ Γ' : Ctx} (h : Le Γ Γ') : ∀ {i : Nat} {q : Sp}, Γ'[i]? = some q → ∃ p, Γ[i]? = some p ∧ SpLe p q := by
  induction h with
  | nil => intro i q e; simp at e
  | cons hp _ ih =>
    intro i q e
    cases i with
    | zero => simp at e; subst e; exact ⟨_, rfl, hp⟩
    | succ i => exact ih (by simpa using e)
theorem St.le {ρ : Env} {Γ Γ' : Ctx} (h : St ρ Γ) (l : Le Γ Γ') : St ρ Γ' := by
  refine ⟨h.len.trans l.length, fun i q e => ?_⟩
  obtain ⟨p, e1, hl⟩ := l.get e
  obtain ⟨x, e2, hx⟩ := h.get i p e1
  exact ⟨x, e2, hl.ok hx⟩
theorem Le.k {p : Sp} {Γ Γ' : Ctx} (t : Le Γ Γ') : Le (p :: Γ) (p :: Γ') := .cons (.refl p) t
theorem Le.d {p : Sp} {Γ Γ' : Ctx} (t : Le Γ Γ') : Le (p :: Γ) (.any :: Γ') := .cons (.any p) t
theorem Le.n {t : T} {Γ Γ' : Ctx} (t' : Le Γ Γ') : Le (.is (.fz t) :: Γ) (.nf :: Γ') := .cons (.nfz t) t'
theorem Le.u {Γ Γ' : Ctx} (t' : Le Γ Γ') : Le (.is .un :: Γ) (.nf :: Γ') := .cons .nun t'
theorem Le.lo {ts : List T} {Γ Γ' : Ctx} (t : Le Γ Γ') : Le (.is (.ow (.l ts)) :: Γ) (.lz ts :: Γ') := .cons (.low ts) t
/-! ### judgements -/
variable {α β γ δ σ : Type}
/-- x (what a reading gives) is as the program r says; P: of r's value and x -/
def Good (P : γ → Res β → Prop) (x : Res β) : R γ → Prop
  | .bad => True
  | .exc e => x = .exc e
  | .ok v => P v x
  | .dr m k => 0 < m → m < 18446744073709551616 → ∃ v, 0 ≤ v ∧ v < m ∧ Good P x (k v)
theorem Good.bind {P : γ → Res β → Prop} {x : Res β} {r : R α} {k : α → R γ} (h : Good (fun a x => Good P x (k a)) x r) : Good P x (r.bind k) := by
  rw [R.bind_e]
  induction r with
  | bad => trivial
  | exc e => exact h
  | ok a => exact h
  | dr m f ih => exact fun h0 h1 => let ⟨v, a, b, c⟩ := h h0 h1; ⟨v, a, b, ih v c⟩
theorem good_ok {P : γ → Res β → Prop} {x : Res β} {a : α} {k : α → R γ} (h : Good P x (k a)) : Good P x ((R.ok a).bind k) := by rw [R.bind_ok]; exact h
theorem Good.mono {P P' : γ → Res β → Prop} {x : Res β} {r : R γ} (h : Good P x r) (hi : ∀ v, P v x → P' v x) : Good P' x r := by
  induction r with
  | bad => trivial
  | exc e => exact h
  | ok a => exact hi a h
  | dr m f ih => exact fun h0 h1 => let ⟨v, a, b, c⟩ := h h0 h1; ⟨v, a, b, ih v c⟩
/-- from what a part gives to what the whole gives -/
theorem Good.next {δ : Type} {P : γ → Res β → Prop} {y : Res δ} {x : Res β} {Q : α → Res δ → Prop} {r : R α} {k : α → R γ} (h : Good Q y r) (hx : ∀ e, y = .exc e → x = .exc e) (hi : ∀ a, Q a y → Good P x (k a)) : Good P x (r.bind k) := by
  rw [R.bind_e]
  induction r with
  | bad => trivial
  | exc e => exact hx e h
  | ok a => exact hi a h
  | dr m f ih => exact fun h0 h1 => let ⟨v, a, b, c⟩ := h h0 h1; ⟨v, a, b, ih v c⟩
theorem Good.all {P : γ → Res β → Prop} {x : Res β} {Q : γ → Prop} {r : R γ} (h : Good P x r) (a : R.All Q r) : ∃ v, Q v ∧ P v x := by
  induction r with
  | bad => exact a.elim
  | exc e => exact a.elim
  | ok v => exact ⟨v, a, h⟩
  | dr m f ih => obtain ⟨v, h0, h1, c⟩ := h a.1 a.2.1; exact ih v c (a.2.2 v h0 h1)
theorem Good.noX {P : γ → Res β → Prop} {x : Res β} {r : R γ} (h : Good P x r) : Good P x r.noX := by
  induction r with
  | bad => trivial
  | exc e => trivial
  | ok v => exact h
  | dr m f ih => exact fun h0 h1 => let ⟨v, a, b, c⟩ := h h0 h1; ⟨v, a, b, ih v c⟩
/-- an expression (a test, arguments, what is walked): r is its program with k behind it -/
def EW (Γ : Ctx) (e : M δ) (r : R γ) (k : α → R γ) (f : α → δ) (Γ' : Ctx) : Prop :=
  ∀ (β : Type) (P : γ → Res β → Prop) (K : δ → Env → Res β), (∀ a ρ, St ρ Γ' → Good P (K (f a) ρ) (k a)) → ∀ ρ, St ρ Γ → Good P ((e ρ).bind K) r
/-- a statement, or a block -/
def SW (Γ : Ctx) (s : MS) (r : R γ) (P : γ → Res Fl → Prop) : Prop := ∀ ρ, St ρ Γ → Good P (s ρ) r
/-- a target -/
def GW (Γ : Ctx) (g : MG) (t : T) (Γ' : Ctx) : Prop := ∀ ρ, St ρ Γ → ∃ ρ', g t ρ = some ρ' ∧ St ρ' Γ'
def GsW (Γ : Ctx) (g : MGs) (ts : List T) (Γ' : Ctx) : Prop := ∀ ρ, St ρ Γ → ∃ ρ', g ts ρ = some ρ' ∧ St ρ' Γ'
/-- an operation of trees is as r says -/
def Lo (x : Option δ) (r : R α) (f : α → δ) : Prop := match r with
  | .bad => True
  | .ok v => x = some (f v)
  | _ => False
theorem res_bind_assoc {x : Res α} {k : α → Env → Res β} {l : β → Env → Res γ} : (x.bind k).bind l = x.bind fun a ρ => (k a ρ).bind l := by
  cases x <;> rfl
section
variable {Γ Γ' Γ'' Γ3 : Ctx} {e e1 e2 e3 : M T} {r : R γ} {f : α → δ} {k : α → R γ}
theorem ew_pure {e : M δ} {a : α} (h : ∀ ρ, St ρ Γ → e ρ = .ok (f a) ρ) : EW Γ e (k a) k f Γ := fun β P K hk ρ hs => by
  rw [h ρ hs]; exact hk a ρ hs
theorem ew_bind {δ' α' : Type} {e : M δ'} {f : α' → δ'} {g : δ' → M δ} {f' : α → δ} {k1 : α' → R γ} (h : EW Γ e r k1 f Γ') (hg : ∀ a, EW Γ' (g (f a)) (k1 a) k f' Γ'') : EW Γ (fun ρ => (e ρ).bind g) r k f' Γ'' := fun β P K hk ρ hs => by
  rw [res_bind_assoc]
  exact h β P _ (fun a ρ' hs' => hg a β P K hk ρ' hs') ρ hs
theorem ew_lift {x : Option δ} {r0 : R α} (h : Lo x r0 f) : EW Γ (liftO x) (r0.bind k) k f Γ := fun β P K hk ρ hs => by
  rw [R.bind_e]
  cases r0 with
  | bad => trivial
  | exc e => exact h.elim
  | ok v =>
    have h : x = some (f v) := h
    rw [h]; exact hk v ρ hs
  | dr m f => exact h.elim
theorem ew_tot {x : Option δ} {a : α} (h : x = some (f a)) : EW Γ (liftO x) (k a) k f Γ := fun β P K hk ρ hs => by
  rw [h]; exact hk a ρ hs
/-! names, constants -/
theorem ew_var {i : Nat} (a : α) (f : α → T) {k : α → R γ} (h : Γ[i]? = some (.is (.fz (f a))) := by rfl) : EW Γ (rdA i) (k a) k f Γ :=
  ew_pure fun ρ hs => by unfold rdA; rw [hs.is h]
theorem ew_frz {i : Nat} (a : α) (f : α → T) {k : α → R γ} {o : O} (h : Γ[i]? = some (.is (.ow o)) := by rfl) (ho : frzO o = f a := by rfl) : EW Γ (rdA i) (k a) k f (Γ.set i (.is (.fz (f a)))) := fun β P K hk ρ hs => by
  unfold rdA
  rw [hs.is h]
  show Good P (K (frzO o) (ρ.set i (.fz (frzO o)))) _
  rw [ho]
  exact hk a _ (hs.set (p := .is _) rfl i)
theorem ew_con {t : T} (a : α) (f : α → T) {k : α → R γ} (h : f a = t := by rfl) : EW Γ (rdC t) (k a) k f Γ :=
  ew_pure fun ρ hs => by rw [h]; rfl
theorem ew_co {α' : Type} {e : M δ} {f : α → δ} {g : α' → δ} {k : α' → R γ} (c : α → α') (h : ∀ a, f a = g (c a)) (D : EW Γ e r (fun a => k (c a)) f Γ') : EW Γ e r k g Γ' := fun β P K hk ρ hs =>
  D β P K (fun a ρ' hs' => by rw [h a]; exact hk (c a) ρ' hs') ρ hs
theorem ew_cst {e : M δ} (a : α) (f : α → δ) {k : α → R γ} (h : ∀ ρ, e ρ = .ok (f a) ρ := by intro _; rfl) : EW Γ e (k a) k f Γ := ew_pure fun ρ _ => h ρ
theorem ew_bindv {e : M δ} {f : α → δ} {k : α → R γ} (D : EW Γ e r (fun a => (R.ok a).bind k) f Γ') : EW Γ e r k f Γ' := by simpa only [R.bind_ok] using D
/-- a plain value, whatever stands behind it -/
theorem ew_val {e : M δ} {a : α} {f : α → δ} (h : ∀ {γ : Type} (k : α → R γ), EW Γ e (k a) k f Γ') {ρ : Env} (hs : St ρ Γ) : ∃ ρ', e ρ = .ok (f a) ρ' ∧ St ρ' Γ' := by
  classical
  have := h (fun b => if b = a then R.ok () else .bad) δ (fun _ x => ∃ ρ', x = .ok (f a) ρ' ∧ St ρ' Γ') (fun y ρ => .ok y ρ) (fun b ρ' hs' => by
    by_cases hb : b = a
    · simp only [hb, if_true]; exact ⟨ρ', rfl, hs'⟩
    · simp only [hb, if_false]; trivial) ρ hs
  simp only [if_true] at this
  obtain ⟨ρ', e1, hs'⟩ := this
  refine ⟨ρ', ?_, hs'⟩
  cases he : e ρ with
  | bad => rw [he] at e1; cases e1
  | exc x => rw [he] at e1; cases e1
  | ok y ρ2 => rw [he] at e1; exact e1
/-! operators -/
theorem ew_op2 {α1 α2 : Type} {o : T → T → Option T} {f1 : α1 → T} {f2 : α2 → T} {f : α → T} {k1 : α1 → R γ} {w : α1 → α2 → α} (hw : ∀ a b, o (f1 a) (f2 b) = some (f (w a b)))
    (h1 : EW Γ e1 r k1 f1 Γ') (h2 : ∀ a, EW Γ' e2 (k1 a) (fun b => k (w a b)) f2 Γ'') : EW Γ (op2 o e1 e2) r k f Γ'' :=
  ew_bind h1 fun a => ew_bind (h2 a) fun b => ew_tot (hw a b)
theorem ew_op2p {α1 α2 : Type} {o : T → T → Option T} {f1 : α1 → T} {f2 : α2 → T} {f : α → T} {k1 : α1 → R γ} {r0 : α1 → α2 → R α} (hw : ∀ a b, Lo (o (f1 a) (f2 b)) (r0 a b) f)
    (h1 : EW Γ e1 r k1 f1 Γ') (h2 : ∀ a, EW Γ' e2 (k1 a) (fun b => (r0 a b).bind k) f2 Γ'') : EW Γ (op2 o e1 e2) r k f Γ'' :=
  ew_bind h1 fun a => ew_bind (h2 a) fun b => ew_lift (hw a b)
theorem ew_op1 {α1 : Type} {o : T → Option T} {f1 : α1 → T} {f : α → T} {w : α1 → α} (hw : ∀ a, o (f1 a) = some (f (w a)))
    (h1 : EW Γ e1 r (fun a => k (w a)) f1 Γ') : EW Γ (op1 o e1) r k f Γ' := ew_bind h1 fun a => ew_tot (hw a)
theorem ew_op1p {α1 : Type} {o : T → Option T} {f1 : α1 → T} {f : α → T} {r0 : α1 → R α} (hw : ∀ a, Lo (o (f1 a)) (r0 a) f)
    (h1 : EW Γ e1 r (fun a => (r0 a).bind k) f1 Γ') : EW Γ (op1 o e1) r k f Γ' := ew_bind h1 fun a => ew_lift (hw a)
/-! tests and truth values -/
def eB (b : Bool) : T := .bl b
def idB (b : Bool) : Bool := b
theorem ew_tst {k : Bool → R γ} (h : EW Γ e r k eB Γ') : EW Γ (tst e) r k idB Γ' := ew_bind h fun a => ew_tot (k := k) (f := idB) (a := a) rfl
theorem ew_truth {α1 : Type} {k : Bool → R γ} {f1 : α1 → T} {w : α1 → Bool} (hw : ∀ a, tru (f1 a) = some (w a)) (h : EW Γ e r (fun a => k (w a)) f1 Γ') : EW Γ (truth e) r k idB Γ' :=
  ew_bind h fun a => ew_tot (k := k) (f := idB) (a := w a) (hw a)
theorem ew_notT {g : M Bool} {k : Bool → R γ} (h : EW Γ g r (fun b => k (!b)) idB Γ') : EW Γ (notT g) r k idB Γ' := fun β P K hk ρ hs => by
  unfold notT
  rw [res_bind_assoc]
  exact h β P _ (fun b ρ' hs' => hk (!b) ρ' hs') ρ hs
/-- a part's program by itself -/
abbrev EV (Γ : Ctx) (e : M δ) (r : R α) (f : α → δ) (Γ' : Ctx) : Prop := EW Γ e r (fun a => .ok a) f Γ'
theorem ew_own {e : M δ} {r0 : R α} (h : EV Γ e r0 f Γ') : EW Γ e (r0.bind k) k f Γ' := fun β P K hk ρ hs => by
  have := h (β := δ) (P := fun a x => ∃ ρ', x = .ok (f a) ρ' ∧ St ρ' Γ') (fun y ρ => .ok y ρ) (fun a ρ' hs' => ⟨ρ', rfl, hs'⟩) ρ hs
  have e2 : ((e ρ).bind fun y ρ => Res.ok y ρ) = e ρ := by cases e ρ <;> rfl
  rw [e2] at this
  refine this.next (fun x hx => by rw [hx]; rfl) fun a ⟨ρ', hx, hs'⟩ => ?_
  rw [hx]; exact hk a ρ' hs'
/-- and, or, with effects on the right -/
theorem ew_andTx {g h : M Bool} {k : Bool → R γ} {rb : R Bool} (h1 : EW Γ g r (fun a => (if a = true then rb else .ok false).bind k) idB Γ') (h2 : EV Γ' h rb idB Γ') : EW Γ (andT g h) r k idB Γ' := fun β P K hk ρ hs => by
  unfold andT
  rw [res_bind_assoc]
  refine h1 β P _ (fun a ρ' hs' => ?_) ρ hs
  cases a with
  | true => exact ew_own h2 β P K (fun b ρ2 hs2 => hk b ρ2 hs2) ρ' hs'
  | false => exact good_ok (hk false ρ' hs')
theorem ew_orTx {g h : M Bool} {k : Bool → R γ} {rb : R Bool} (h1 : EW Γ g r (fun a => (if a = true then .ok true else rb).bind k) idB Γ') (h2 : EV Γ' h rb idB Γ') : EW Γ (orT g h) r k idB Γ' := fun β P K hk ρ hs => by
  unfold orT
  rw [res_bind_assoc]
  refine h1 β P _ (fun a ρ' hs' => ?_) ρ hs
  cases a with
  | false => exact ew_own h2 β P K (fun b ρ2 hs2 => hk b ρ2 hs2) ρ' hs'
  | true => exact good_ok (hk true ρ' hs')
/-! the same as values -/
theorem ew_notV {k : Bool → R γ} (h : EW Γ e r (fun b => k (!b)) eB Γ') : EW Γ (notV e) r k eB Γ' := fun β P K hk ρ hs => by
  unfold notV
  rw [res_bind_assoc]
  exact h β P _ (fun b ρ' hs' => hk (!b) ρ' hs') ρ hs
theorem ew_andV {k : Bool → R γ} {b2 : Bool} (h1 : EW Γ e1 r (fun a => k (a && b2)) eB Γ') (h2 : ∀ {γ : Type} (k : Bool → R γ), EW Γ' e2 (k b2) k eB Γ') : EW Γ (andV e1 e2) r k eB Γ' := fun β P K hk ρ hs => by
  unfold andV
  rw [res_bind_assoc]
  refine h1 β P _ (fun a ρ' hs' => ?_) ρ hs
  cases a with
  | true => exact h2 k β P K (fun b ρ2 hs2 => hk b ρ2 hs2) ρ' hs'
  | false => exact hk false ρ' hs'
/-- a if t else b: both plain -/
theorem ew_if {g : M Bool} {a b : α} {f : α → T} (h : EW Γ g r (fun c => k (if c = true then a else b)) idB Γ') (ha : ∀ {γ : Type} (k : α → R γ), EW Γ' e1 (k a) k f Γ') (hb : ∀ {γ : Type} (k : α → R γ), EW Γ' e2 (k b) k f Γ') : EW Γ (ifE g e1 e2) r k f Γ' := fun β P K hk ρ hs => by
  unfold ifE
  rw [res_bind_assoc]
  refine h β P _ (fun c ρ' hs' => ?_) ρ hs
  cases c with
  | true => exact ha k β P K (fun b ρ2 hs2 => hk b ρ2 hs2) ρ' hs'
  | false => exact hb k β P K (fun b ρ2 hs2 => hk b ρ2 hs2) ρ' hs'
/-- a < b < c, all plain -/
theorem ew_chn {α1 α2 α3 : Type} {o o' : T → T → Option T} {f1 : α1 → T} {f2 : α2 → T} {f3 : α3 → T} {k1 : α1 → R γ} {k : Bool → R γ} {w : α1 → α2 → Bool} {w' : α2 → α3 → Bool} {c : α3} (hw : ∀ a b, o (f1 a) (f2 b) = some (.bl (w a b))) (hw' : ∀ a b, o' (f2 a) (f3 b) = some (.bl (w' a b)))
    (h1 : EW Γ e1 r k1 f1 Γ') (h2 : ∀ a, EW Γ' e2 (k1 a) (fun b => k (w a b && w' b c)) f2 Γ'') (h3 : ∀ {γ : Type} (k : α3 → R γ), EW Γ'' e3 (k c) k f3 Γ'') : EW Γ (chn o o' e1 e2 e3) r k eB Γ'' := by
  refine ew_bind h1 fun a => ew_bind (h2 a) fun b => ?_
  intro β P K hk ρ hs
  rw [hw a b]
  show Good P ((match (some (T.bl (w a b))).bind toB with
    | some true => (e3 ρ).bind fun z ρ => liftO (o' (f2 b) z) ρ
    | some false => Res.ok (.bl false) ρ
    | none => .bad).bind K) _
  cases h : w a b with
  | false => exact hk false ρ hs
  | true => 
    show Good P (((e3 ρ).bind fun z ρ => liftO (o' (f2 b) z) ρ).bind K) _
    rw [res_bind_assoc]
    refine h3 (fun c => k (w' b c)) β P _ (fun z ρ' hs' => ?_) ρ hs
    rw [hw' b z]
    exact hk _ ρ' hs'
/-! arguments, calls -/
def aN (_ : Unit) : List T := []
def aC (f : α → T) (g : β → List T) (p : α × β) : List T := f p.1 :: g p.2
theorem ew_nil {k : Unit → R γ} : EW Γ rdNil (k ()) k aN Γ := ew_pure fun ρ hs => rfl
theorem ew_cons {α1 α2 : Type} {es : M (List T)} {f1 : α1 → T} {f2 : α2 → List T} {k1 : α1 → R γ} {k : α1 × α2 → R γ} (h1 : EW Γ e r k1 f1 Γ') (h2 : ∀ a, EW Γ' es (k1 a) (fun b => k (a, b)) f2 Γ'') : EW Γ (rdCons e es) r k (aC f1 f2) Γ'' := by
  refine ew_bind h1 fun a => ew_bind (h2 a) fun b => ?_
  exact ew_pure (a := (a, b)) fun ρ hs => rfl
theorem ew_calF {α1 : Type} {o : List T → Option T} {es : M (List T)} {f1 : α1 → List T} {f : α → T} {w : α1 → α} (hw : ∀ a, o (f1 a) = some (f (w a))) (h : EW Γ es r (fun a => k (w a)) f1 Γ') : EW Γ (calF o es) r k f Γ' := ew_bind h fun a => ew_tot (hw a)
theorem ew_calFp {α1 : Type} {o : List T → Option T} {es : M (List T)} {f1 : α1 → List T} {f : α → T} {r0 : α1 → R α} (hw : ∀ a, Lo (o (f1 a)) (r0 a) f) (h : EW Γ es r (fun a => (r0 a).bind k) f1 Γ') : EW Γ (calF o es) r k f Γ' := ew_bind h fun a => ew_lift (hw a)
theorem ew_calO {α1 : Type} {o : List T → Option O} {es : M (List T)} {f1 : α1 → List T} {f : α → O} {w : α1 → α} (hw : ∀ a, o (f1 a) = some (f (w a))) (h : EW Γ es r (fun a => k (w a)) f1 Γ') : EW Γ (calO o es) r k f Γ' := ew_bind h fun a => ew_tot (hw a)
theorem ew_calOp {α1 : Type} {o : List T → Option O} {es : M (List T)} {f1 : α1 → List T} {f : α → O} {r0 : α1 → R α} (hw : ∀ a, Lo (o (f1 a)) (r0 a) f) (h : EW Γ es r (fun a => (r0 a).bind k) f1 Γ') : EW Γ (calO o es) r k f Γ' := ew_bind h fun a => ew_lift (hw a)
theorem ew_calI {α1 : Type} {o : List T → Option (List T)} {es : M (List T)} {f1 : α1 → List T} {f : α → List T} {w : α1 → α} (hw : ∀ a, o (f1 a) = some (f (w a))) (h : EW Γ es r (fun a => k (w a)) f1 Γ') : EW Γ (calI o es) r k f Γ' := ew_bind h fun a => ew_tot (hw a)
theorem ew_calIp {α1 : Type} {o : List T → Option (List T)} {es : M (List T)} {f1 : α1 → List T} {f : α → List T} {r0 : α1 → R α} (hw : ∀ a, Lo (o (f1 a)) (r0 a) f) (h : EW Γ es r (fun a => (r0 a).bind k) f1 Γ') : EW Γ (calI o es) r k f Γ' := ew_bind h fun a => ew_lift (hw a)
/-- a def is as the program says -/
structure Fn (F : Sg) (ts : List T) (r : R α) (f : α → T) : Prop where
  ok : Good (fun v x => x = .ok (f v) []) (F ts) r
theorem ew_call {α1 : Type} {F : Sg} {es : M (List T)} {f1 : α1 → List T} {f : α → T} {N : α1 → R α} (hF : ∀ a, Fn F (f1 a) (N a) f) (h : EW Γ es r (fun a => (N a).bind k) f1 Γ') : EW Γ (calU F es) r k f Γ' := by
  refine ew_bind h fun a => ?_
  intro β P K hk ρ hs
  refine Good.next (hF a).ok (fun e he => by rw [he]; rfl) fun v hv => ?_
  rw [hv]; exact hk v ρ hs
/-- a def that changes the row -/
def FnM (F : SgM) (ts : List T) (r : R α) (f : α → T) : Prop := ∀ o, RowOk o → Good (fun v x => ∃ o' ρ, RowOk o' ∧ x = .ok (f v, o') ρ) (F o ts) r.noX
theorem Good.calm {P : γ → Res β → Prop} {y : Res (T × O)} {x : Res β} {Q : α → Res (T × O) → Prop} {r : R α} {k : α → R γ} (h : Good Q y r.noX) (hi : ∀ a, Q a y → Good P x (k a)) : Good P x (r.noX.bind k) := by
  rw [R.bind_e]
  induction r with
  | bad => trivial
  | exc e => trivial
  | ok a => exact hi a h
  | dr m f ih => exact fun h0 h1 => let ⟨v, a, b, c⟩ := h h0 h1; ⟨v, a, b, ih v c⟩
theorem ew_callM {α1 : Type} {i : Nat} {F : SgM} {es : M (List T)} {f1 : α1 → List T} {f : α → T} {N : α1 → R α} {b : Bool} (hF : ∀ a, FnM F (f1 a) (N a) f) (h : EW Γ es r (fun a => (N a).noX.bind k) f1 Γ') (h0 : Γ[i]? = some (.row b) := by rfl) (hi : Γ'[i]? = some (.row b) := by rfl) : EW Γ (calM F i es) r k f Γ' := by
  intro β P K hk ρ hs
  unfold calM withOwn
  obtain ⟨x0, ex0, o0, hx0, _⟩ := hs.get i _ h0
  have e0 : rdOwn i ρ = some o0 := by unfold rdOwn; rw [ex0, hx0]; cases b <;> rfl
  rw [e0]
  simp only
  rw [res_bind_assoc]
  refine h β P _ (fun a ρ' hs' => ?_) ρ hs
  obtain ⟨x, ex, o, hx, ho⟩ := hs'.get i _ hi
  have e1 : rdOwn i ρ' = some o := by unfold rdOwn; rw [ex, hx]; cases b <;> rfl
  rw [e1]
  refine (hF a o ho).calm fun v ⟨o', ρ2, ho', hv⟩ => ?_
  simp only
  rw [hv]
  refine hk v _ ?_
  unfold setOwn
  rw [ex]
  refine ⟨by simpa using hs'.len, fun j q ej => ?_⟩
  by_cases hj : i = j
  · subst hj
    rw [hi] at ej; cases ej
    have hl := (List.getElem?_eq_some_iff.mp ex).1
    refine ⟨_, List.getElem?_set_self hl, o', ?_, ho'⟩
    rw [hx]; cases b <;> rfl
  · simp only [List.getElem?_set_ne hj]; exact hs'.get j q ej
end
end FL.NL

/-! NL2: statements, loops, comprehensions, defs. -/
namespace FL.NL
open PySem
variable {α β γ δ σ : Type}
section
variable {Γ Γ' Γ'' Γ3 : Ctx} {e e1 e2 e3 : M T} {r : R γ} {f : α → T} {k : α → R γ} {s s1 s2 : MS} {P : γ → Res Fl → Prop} {i j : Nat}
theorem blt_lt {a b : Nat} (h : Nat.blt a b = true) : a < b := Nat.le_of_ble_eq_true h
/-! ### ends of blocks -/
/-- a block that only goes on -/
def PN (Δ : σ → Ctx) (v : σ) (x : Res Fl) : Prop := ∃ ρ, x = .ok .nx ρ ∧ St ρ (Δ v)
/-- a loop's body that only goes on -/
def PL (Δ : σ → Ctx) (v : σ) (x : Res Fl) : Prop := ∃ ρ, (x = .ok .nx ρ ∨ x = .ok .ct ρ) ∧ St ρ (Δ v)
/-- a def's body -/
def PF (f : α → T) (v : α) (x : Res Fl) : Prop := (∃ ρ, x = .ok (.rt (f v)) ρ) ∨ (f v = .non ∧ ∃ ρ, x = .ok .nx ρ)
/-- the body of a def that was lent the row -/
def PM (f : α → T) (v : α) (x : Res Fl) : Prop := ∃ ρ o, lent ρ = some o ∧ RowOk o ∧ (x = .ok (.rt (f v)) ρ ∨ (f v = .non ∧ x = .ok .nx ρ))
/-- how a loop's turn ends -/
inductive Ct (σ β : Type) where
  | nx (s : σ) | bk (s : σ) | rt (b : β)
/-- how a loop ends -/
inductive Lp (σ β : Type) where
  | nx (s : σ) | rt (b : β)
def PC (Pr : β → Res Fl → Prop) (Δ : σ → Ctx) (v : Ct σ β) (x : Res Fl) : Prop := match v with
  | .nx s => ∃ ρ, (x = .ok .nx ρ ∨ x = .ok .ct ρ) ∧ St ρ (Δ s)
  | .bk s => ∃ ρ, x = .ok .bk ρ ∧ St ρ (Δ s)
  | .rt b => (∃ t ρ, x = .ok (.rt t) ρ) ∧ Pr b x
theorem sw_last (h : SW Γ (sq s skip) r P) : SW Γ s r P := fun ρ hs => by
  have e : sq s skip ρ = s ρ := by
    unfold sq
    cases s ρ with
    | bad => rfl
    | exc e => rfl
    | ok fl ρ' => cases fl <;> rfl
  rw [← e]; exact h ρ hs
theorem sw_skip (h : SW Γ s r P) : SW Γ (sq skip s) r P := h
theorem sw_endN {Δ : σ → Ctx} (st : σ) (l : Le Γ (Δ st)) : SW Γ skip (.ok st) (PN Δ) := fun ρ hs => ⟨ρ, rfl, hs.le l⟩
theorem sw_endL {Δ : σ → Ctx} (st : σ) (l : Le Γ (Δ st)) : SW Γ skip (.ok st) (PL Δ) := fun ρ hs => ⟨ρ, .inl rfl, hs.le l⟩
theorem sw_endF {f : α → T} (a : α) (h : f a = .non := by rfl) : SW Γ skip (.ok a) (PF f) := fun ρ hs => .inr ⟨h, ρ, rfl⟩
theorem sw_endC {Pr : β → Res Fl → Prop} {Δ : σ → Ctx} (st : σ) (l : Le Γ (Δ st)) : SW Γ skip (.ok (.nx st)) (PC Pr Δ) := fun ρ hs => ⟨ρ, .inl rfl, hs.le l⟩
theorem sq_dead {s : MS} (hd : ∀ ρ, match s ρ with | .ok .nx _ => False | _ => True) : sq s s2 = s := by
  funext ρ
  have := hd ρ
  unfold sq
  cases e : s ρ with
  | bad => rfl
  | exc e => rfl
  | ok fl ρ' =>
    rw [e] at this
    cases fl with
    | nx => exact this.elim
    | rt t => rfl
    | bk => rfl
    | ct => rfl
theorem dead_ret {e : M T} : ∀ ρ, match sRet e ρ with | .ok .nx _ => False | _ => True := fun ρ => by
  unfold sRet
  cases e ρ <;> trivial
theorem sw_retF {r : R α} (h : EW Γ e r (fun a => .ok a) f Γ') : SW Γ (sq (sRet e) s2) r (PF f) := by
  rw [sq_dead dead_ret]
  intro ρ hs
  exact h Fl (PF f) (fun t ρ => .ok (.rt t) ρ) (fun a ρ' hs' => .inl ⟨ρ', rfl⟩) ρ hs
theorem sw_retM {r : R α} (h : EW Γ e r (fun a => .ok a) f Γ') (h0 : Γ'[0]? = some (.row true) := by rfl) : SW Γ (sq (sRet e) s2) r (PM f) := by
  rw [sq_dead dead_ret]
  intro ρ hs
  refine h Fl (PM f) (fun t ρ => .ok (.rt t) ρ) (fun a ρ' hs' => ?_) ρ hs
  obtain ⟨x, ex, o, hx, ho⟩ := hs'.get 0 _ h0
  have hx : x = .pa o := hx
  subst hx
  refine ⟨ρ', o, ?_, ho, .inl rfl⟩
  cases ρ' with
  | nil => simp at ex
  | cons y ys => simp at ex; subst ex; rfl
theorem sw_retCF {Δ : σ → Ctx} {r : R (Ct σ α)} (h : EW Γ e r (fun a => .ok (Ct.rt a)) f Γ') : SW Γ (sq (sRet e) s2) r (PC (PF f) Δ) := by
  rw [sq_dead dead_ret]
  intro ρ hs
  exact h Fl (PC (PF f) Δ) (fun t ρ => .ok (.rt t) ρ) (fun a ρ' hs' => ⟨⟨_, _, rfl⟩, .inl ⟨ρ', rfl⟩⟩) ρ hs
/-! ### simple statements -/
theorem sw_set (h : EW Γ e r k f Γ') (hn : ∀ a, SW (Γ'.set i (.is (.fz (f a)))) s2 (k a) P) (hi : Nat.blt i Γ'.length = true := by rfl) : SW Γ (sq (sSet i (asT e)) s2) r P := fun ρ hs => by
  have e1 : sq (sSet i (asT e)) s2 ρ = (e ρ).bind fun t ρ => if i < ρ.length then s2 (ρ.set i (.fz t)) else .bad := by
    unfold sq sSet asT put
    cases e ρ with
    | bad => rfl
    | exc e => rfl
    | ok t ρ' =>
      show ((if i < ρ'.length then Res.ok Fl.nx (ρ'.set i (.fz t)) else .bad).bind _) = if i < ρ'.length then _ else _
      split <;> rfl
  rw [e1]
  refine h Fl P _ (fun a ρ' hs' => ?_) ρ hs
  rw [if_pos (by rw [hs'.len]; exact blt_lt hi)]
  exact hn a _ (hs'.set (p := .is _) rfl i)
theorem sw_bad : SW Γ (sq bad s2) (.bad : R γ) P := fun ρ hs => trivial
/-- plain values -/
theorem sq_ok {s s2 : MS} {ρ ρ' : Env} (h : s ρ = .ok .nx ρ') : sq s s2 ρ = s2 ρ' := by unfold sq; rw [h]; rfl
theorem sw_setp (a : α) (h : ∀ {γ : Type} (k : α → R γ), EW Γ e (k a) k f Γ') (hn : SW (Γ'.set i (.is (.fz (f a)))) s2 r P) (hi : Nat.blt i Γ'.length = true := by rfl) : SW Γ (sq (sSet i (asT e)) s2) r P := fun ρ hs => by
  obtain ⟨ρ', e1, hs'⟩ := ew_val h hs
  have e2 : sSet i (asT e) ρ = .ok .nx (ρ'.set i (.fz (f a))) := by
    have hl : i < ρ'.length := by rw [hs'.len]; exact blt_lt hi
    simp [e1, hl]
  rw [sq_ok e2]
  exact hn _ (hs'.set (p := .is _) rfl i)
theorem sw_setOp {eo : M O} {f : α → O} (a : α) (h : ∀ {γ : Type} (k : α → R γ), EW Γ eo (k a) k f Γ') (hn : SW (Γ'.set i (.is (.ow (f a)))) s2 r P) (hi : Nat.blt i Γ'.length = true := by rfl) : SW Γ (sq (sSet i (asO eo)) s2) r P := fun ρ hs => by
  obtain ⟨ρ', e1, hs'⟩ := ew_val h hs
  have e2 : sSet i (asO eo) ρ = .ok .nx (ρ'.set i (.ow (f a))) := by
    have hl : i < ρ'.length := by rw [hs'.len]; exact blt_lt hi
    simp [e1, hl]
  rw [sq_ok e2]
  exact hn _ (hs'.set (p := .is _) rfl i)
/-- the row of drawn numbers is made -/
theorem sw_row {cs : List Int} {c : Int} (hj : Γ[j]? = some (.is (.fz (.sl (cs.map T.int)))) := by rfl) (h0 : 0 ≤ c := by decide) (h1 : c < 2147483647 := by decide) (hi : Nat.blt i Γ.length = true := by rfl) (hn : SW (Γ.set i (.row false)) s2 r P) :
    SW Γ (sq (sSet i (asO (calO newL (rdCons (rdA j) (rdCons (rdC (.int 0)) (rdCons (rdC (.int c)) (rdCons (rdC (.int 0)) rdNil))))))) s2) r P := fun ρ hs => by
  have e1 : sq (sSet i (asO (calO newL (rdCons (rdA j) (rdCons (rdC (.int 0)) (rdCons (rdC (.int c)) (rdCons (rdC (.int 0)) rdNil))))))) s2 ρ = s2 (ρ.set i (.ow (.l [.sl (cs.map T.int), .int 0, .int c, .int 0]))) := by
    simp [rdA_e, hs.is hj, hs.len, blt_lt hi]
  rw [e1]
  exact hn _ (hs.set (p := .row false) ⟨_, rfl, cs, 0, c, 0, rfl, by decide, h0, h1⟩ i)
/-! several values -/
def xN (_ : Unit) : List VO := []
def xC (f : α → VO) (g : β → List VO) (p : α × β) : List VO := f p.1 :: g p.2
def vT (f : α → T) (a : α) : VO := .tr (f a)
def vO (f : α → O) (a : α) : VO := .ob (f a)
theorem ew_xnil {k : Unit → R γ} : EW Γ xsNil (k ()) k xN Γ := ew_pure fun ρ hs => rfl
theorem ew_xcons {α1 α2 : Type} {ev : M VO} {es : M (List VO)} {f1 : α1 → VO} {f2 : α2 → List VO} {k1 : α1 → R γ} {k : α1 × α2 → R γ} (h1 : EW Γ ev r k1 f1 Γ') (h2 : ∀ a, EW Γ' es (k1 a) (fun b => k (a, b)) f2 Γ'') : EW Γ (xsCons ev es) r k (xC f1 f2) Γ'' := by
  refine ew_bind h1 fun a => ew_bind (h2 a) fun b => ?_
  exact ew_pure (a := (a, b)) fun ρ hs => rfl
theorem ew_asT (h : EW Γ e r k f Γ') : EW Γ (asT e) r k (vT f) Γ' := ew_bind h fun a => ew_pure (a := a) fun ρ hs => rfl
theorem ew_asO {eo : M O} {f : α → O} (h : EW Γ eo r k f Γ') : EW Γ (asO eo) r k (vO f) Γ' := ew_bind h fun a => ew_pure (a := a) fun ρ hs => rfl
theorem sw_parp {α1 α2 : Type} {es : M (List VO)} {f1 : α1 → VO} {f2 : α2 → VO} (a : α1) (b : α2) (h : ∀ {γ : Type} (k : α1 × α2 × Unit → R γ), EW Γ es (k (a, b, ())) k (xC f1 (xC f2 xN)) Γ') (hn : SW ((Γ'.set i (.is (f1 a).sv)).set j (.is (f2 b).sv)) s2 r P) (hi : Nat.blt i Γ'.length = true := by rfl) (hj : Nat.blt j Γ'.length = true := by rfl) : SW Γ (sq (sPar i j es) s2) r P := fun ρ hs => by
  obtain ⟨ρ', e1, hs'⟩ := ew_val h hs
  have e2 : sPar i j es ρ = .ok .nx ((ρ'.set i (f1 a).sv).set j (f2 b).sv) := by
    have hl : i < ρ'.length := by rw [hs'.len]; exact blt_lt hi
    have hl2 : j < ρ'.length := by rw [hs'.len]; exact blt_lt hj
    simp [e1, xC, xN, hl, hl2]
  rw [sq_ok e2]
  exact hn _ ((hs'.set (p := .is _) rfl i).set (p := .is _) rfl j)
/-! targets -/
theorem gw_n {t : T} (hi : Nat.blt i Γ.length = true := by rfl) : GW Γ (gN i) t (Γ.set i (.is (.fz t))) := fun ρ hs => by
  refine ⟨ρ.set i (.fz t), ?_, hs.set (p := .is _) rfl i⟩
  unfold gN
  rw [if_pos (by rw [hs.len]; exact blt_lt hi)]
theorem gs_nil : GsW Γ gsNil [] Γ := fun ρ hs => ⟨ρ, rfl, hs⟩
theorem gs_cons {g : MG} {gs : MGs} {t : T} {ts : List T} (h1 : GW Γ g t Γ') (h2 : GsW Γ' gs ts Γ'') : GsW Γ (gsCons g gs) (t :: ts) Γ'' := fun ρ hs => by
  obtain ⟨ρ1, e1, hs1⟩ := h1 ρ hs
  obtain ⟨ρ2, e2, hs2⟩ := h2 ρ1 hs1
  refine ⟨ρ2, ?_, hs2⟩
  unfold gsCons
  simp only [e1, Option.bind_some, e2]
theorem gw_t {gs : MGs} {ts : List T} (h : GsW Γ gs ts Γ') : GW Γ (gT gs) (.tup ts) Γ' := fun ρ hs => by
  obtain ⟨ρ', e, hs'⟩ := h ρ hs
  exact ⟨ρ', e, hs'⟩
/-! expressions as statements; lists changed -/
theorem sw_expr (h : EW Γ e r k f Γ') (hn : ∀ a, SW Γ' s2 (k a) P) : SW Γ (sq (sExpr e) s2) r P := fun ρ hs => by
  have e1 : sq (sExpr e) s2 ρ = (e ρ).bind fun t ρ => s2 ρ := by
    unfold sq sExpr
    cases e ρ <;> rfl
  rw [e1]
  exact h Fl P _ (fun a ρ' hs' => hn a ρ' hs') ρ hs
@[irreducible] def appR (xs : List α) (a : α) : R (List α) := if xs.length < 16777216 then .ok (xs ++ [a]) else .bad
theorem sw_app {xs : List α} {k : List α → R γ} {f : α → T} (h0 : Γ[i]? = some (.is (.ow (.l (xs.map f)))) := by rfl) (h : EW Γ e r (fun a => (appR xs a).bind k) f Γ') (h1 : Γ'[i]? = some (.is (.ow (.l (xs.map f)))) := by rfl) (hn : ∀ ys : List α, SW (Γ'.set i (.is (.ow (.l (ys.map f))))) s2 (k ys) P) :
    SW Γ (sq (sExpr (apnM i e)) s2) r P := fun ρ hs => by
  have e1 : sq (sExpr (apnM i e)) s2 ρ = (e ρ).bind fun y ρ => match rdOwn i ρ with
    | some (.l ts) => if ts.length < 16777216 then s2 (setOwn i (.l (ts ++ [y])) ρ) else .bad
    | _ => .bad := by
    unfold sq sExpr apnM withL
    have : rdOwn i ρ = some (.l (xs.map f)) := by unfold rdOwn; rw [hs.is h0]; rfl
    rw [this]
    simp only [isL_l, if_true]
    cases e ρ with
    | bad => rfl
    | exc e => rfl
    | ok t ρ' =>
      simp only [bind_ok]
      cases rdOwn i ρ' with
      | none => rfl
      | some o =>
        cases o with
        | l ts => simp only; split <;> rfl
        | dk _ _ => rfl
        | dt _ _ => rfl
  rw [e1]
  refine h Fl P _ (fun a ρ' hs' => ?_) ρ hs
  have e2 : rdOwn i ρ' = some (.l (xs.map f)) := by unfold rdOwn; rw [hs'.is h1]; rfl
  rw [e2]
  simp only [List.length_map]
  unfold appR
  by_cases hl : xs.length < 16777216
  · rw [if_pos hl, if_pos hl]
    refine good_ok (hn (xs ++ [a]) _ ?_)
    have e3 : setOwn i (.l (xs.map f ++ [f a])) ρ' = ρ'.set i (.ow (.l ((xs ++ [a]).map f))) := by
      unfold setOwn; rw [hs'.is h1]; simp [SV.to]
    rw [e3]
    exact hs'.set (p := .is _) rfl i
  · rw [if_neg hl, if_neg hl]; rw [R.bind_bad]; trivial
def eI (i : Int) : T := .int i
/-- x[j] += e on a list of numbers -/
@[irreducible] def augR (xs : List Int) (j : Int) (w : Int → Int) : R (List Int) := match idx xs.length j with
  | some m => .ok (xs.set m (w (xs.getD m 0)))
  | none => .bad
end
end FL.NL

/-! NL3: ifs, loops, comprehensions, defs. -/
namespace FL.NL
open PySem
variable {α β γ δ σ : Type}
section
variable {Γ Γ' Γ'' Γ3 : Ctx} {e e1 e2 e3 : M T} {r ra rb : R γ} {f : α → T} {k : α → R γ} {s s1 s2 sa sb : MS} {P : γ → Res Fl → Prop} {i j : Nat} {c : M Bool}
theorem sq_nx {ρ ρ' : Env} (h : s ρ = .ok .nx ρ') : sq s s2 ρ = s2 ρ' := by unfold sq; rw [h]; rfl
theorem sq_exc {ρ : Env} {e : Ex} (h : s ρ = .exc e) : sq s s2 ρ = .exc e := by unfold sq; rw [h]; rfl
theorem sq_rt {ρ ρ' : Env} {t : T} (h : s ρ = .ok (.rt t) ρ') : sq s s2 ρ = s ρ := by unfold sq; rw [h]; rfl
/-! ### if -/
theorem sq_if : sq (sIf c sa sb) s2 = sIf c (sq sa s2) (sq sb s2) := by
  funext ρ
  unfold sq sIf
  rw [res_bind_assoc]
  congr 1
  funext b ρ'
  cases b <;> rfl
theorem sw_if (hc : EW Γ c r (fun b => if b = true then ra else rb) idB Γ') (ha : SW Γ' (sq sa s2) ra P) (hb : SW Γ' (sq sb s2) rb P) : SW Γ (sq (sIf c sa sb) s2) r P := fun ρ hs => by
  rw [sq_if]
  unfold sIf
  refine hc Fl P _ (fun b ρ' hs' => ?_) ρ hs
  cases b with
  | true => exact ha ρ' hs'
  | false => exact hb ρ' hs'
/-- both ways go on -/
theorem sw_ifj {Δ : σ → Ctx} {ra rb : R σ} {k : σ → R γ} (hc : EW Γ c r (fun b => (if b = true then ra else rb).bind k) idB Γ') (ha : SW Γ' sa ra (PN Δ)) (hb : SW Γ' sb rb (PN Δ)) (hn : ∀ v, SW (Δ v) s2 (k v) P) : SW Γ (sq (sIf c sa sb) s2) r P := fun ρ hs => by
  have hj : ∀ (st : MS) (rr : R σ), SW Γ' st rr (PN Δ) → ∀ ρ', St ρ' Γ' → Good P (sq st s2 ρ') (rr.bind k) := fun st rr h ρ' hs' => by
    refine (h ρ' hs').next (fun e he => sq_exc he) fun v ⟨ρ2, e2, hs2⟩ => ?_
    have : sq st s2 ρ' = s2 ρ2 := by unfold sq; rw [e2]; rfl
    rw [this]
    exact hn v ρ2 hs2
  rw [sq_if]
  unfold sIf
  refine hc Fl P _ (fun b ρ' hs' => ?_) ρ hs
  cases b with
  | true => exact hj sa ra ha ρ' hs'
  | false => exact hj sb rb hb ρ' hs'
/-! ### for -/
def forR (xs : List α) (body : α → σ → R σ) (s0 : σ) : R σ := match xs with
  | [] => .ok s0
  | x :: xs => (body x s0).bind fun s1 => forR xs body s1
def forC (xs : List α) (body : α → σ → R (Ct σ β)) (s0 : σ) : R (Lp σ β) := match xs with
  | [] => .ok (.nx s0)
  | x :: xs => (body x s0).bind fun c => match c with
    | .nx s1 => forC xs body s1
    | .bk s1 => .ok (.nx s1)
    | .rt b => .ok (.rt b)
theorem forR_good {fx : α → T} {g : MG} {b : MS} {body : α → σ → R σ} {Δ : σ → Ctx} {Γ1 : α → σ → Ctx} (ht : ∀ x v, GW (Δ v) g (fx x) (Γ1 x v)) (hb : ∀ x v, SW (Γ1 x v) b (body x v) (PL Δ)) :
    ∀ (xs : List α) (v : σ) (ρ : Env), St ρ (Δ v) → Good (fun v x => ∃ ρ, x = Res.ok Fl.nx ρ ∧ St ρ (Δ v)) (forL g b (xs.map fx) ρ) (forR xs body v)
  | [], v, ρ, hs => ⟨ρ, rfl, hs⟩
  | x :: xs, v, ρ, hs => by
    obtain ⟨ρ1, e1, hs1⟩ := ht x v ρ hs
    have e2 : forL g b ((x :: xs).map fx) ρ = (b ρ1).bind fun fl ρ => match fl with
      | .nx => forL g b (xs.map fx) ρ
      | .ct => forL g b (xs.map fx) ρ
      | .bk => .ok .nx ρ
      | .rt t => .ok (.rt t) ρ := by
      show (match g (fx x) ρ with | none => _ | some ρ => _) = _
      rw [e1] <;> rfl
    rw [e2]
    refine (hb x v ρ1 hs1).next (fun e he => by rw [he]; rfl) fun v2 ⟨ρ2, hx, hs2⟩ => ?_
    have := forR_good ht hb xs v2 ρ2 hs2
    rcases hx with hx | hx <;> (rw [hx]; exact this)
theorem sw_for {fx : α → T} {g : MG} {b : MS} {src : M (List T)} {body : α → σ → R σ} {Δ : σ → Ctx} {Γ1 : α → σ → Ctx} {k : σ → R γ} (v0 : σ)
    (hsrc : EW Γ src r (fun xs => (forR xs body v0).bind k) (List.map fx) Γ') (l : Le Γ' (Δ v0)) (ht : ∀ x v, GW (Δ v) g (fx x) (Γ1 x v)) (hb : ∀ x v, SW (Γ1 x v) b (body x v) (PL Δ)) (hn : ∀ v, SW (Δ v) s2 (k v) P) : SW Γ (sq (sFor src g b) s2) r P := fun ρ hs => by
  have e1 : sq (sFor src g b) s2 ρ = (src ρ).bind fun ts ρ => sq (fun ρ => forL g b ts ρ) s2 ρ := by
    unfold sq sFor
    rw [res_bind_assoc]
  rw [e1]
  refine hsrc Fl P _ (fun xs ρ' hs' => ?_) ρ hs
  refine (forR_good ht hb xs v0 ρ' (hs'.le l)).next (fun e he => sq_exc he) fun v ⟨ρ2, hx, hs2⟩ => ?_
  rw [sq_nx (s := fun ρ => forL g b (xs.map fx) ρ) hx]
  exact hn v ρ2 hs2
theorem forC_good {fx : α → T} {g : MG} {b : MS} {body : α → σ → R (Ct σ β)} {Δ : σ → Ctx} {Γ1 : α → σ → Ctx} {Pr : β → Res Fl → Prop} (ht : ∀ x v, GW (Δ v) g (fx x) (Γ1 x v)) (hb : ∀ x v, SW (Γ1 x v) b (body x v) (PC Pr Δ)) :
    ∀ (xs : List α) (v : σ) (ρ : Env), St ρ (Δ v) → Good (fun (v : Lp σ β) x => match v with
      | .nx v => ∃ ρ, x = Res.ok Fl.nx ρ ∧ St ρ (Δ v)
      | .rt b => (∃ t ρ, x = .ok (.rt t) ρ) ∧ Pr b x) (forL g b (xs.map fx) ρ) (forC xs body v)
  | [], v, ρ, hs => ⟨ρ, rfl, hs⟩
  | x :: xs, v, ρ, hs => by
    obtain ⟨ρ1, e1, hs1⟩ := ht x v ρ hs
    have e2 : forL g b ((x :: xs).map fx) ρ = (b ρ1).bind fun fl ρ => match fl with
      | .nx => forL g b (xs.map fx) ρ
      | .ct => forL g b (xs.map fx) ρ
      | .bk => .ok .nx ρ
      | .rt t => .ok (.rt t) ρ := by
      show (match g (fx x) ρ with | none => _ | some ρ => _) = _
      rw [e1] <;> rfl
    rw [e2]
    refine (hb x v ρ1 hs1).next (fun e he => by rw [he]; rfl) fun c hc => ?_
    cases c with
    | nx v2 =>
      obtain ⟨ρ2, hx, hs2⟩ := hc
      have := forC_good ht hb xs v2 ρ2 hs2
      rcases hx with hx | hx <;> (rw [hx]; exact this)
    | bk v2 =>
      obtain ⟨ρ2, hx, hs2⟩ := hc
      rw [hx]; exact ⟨ρ2, rfl, hs2⟩
    | rt bb =>
      obtain ⟨⟨t, ρ2, hx⟩, hp⟩ := hc
      rw [hx] at hp ⊢; exact ⟨⟨t, ρ2, rfl⟩, hp⟩
/-- a loop that may return: h tells how the outer end is met -/
theorem sw_forC {fx : α → T} {g : MG} {b : MS} {src : M (List T)} {body : α → σ → R (Ct σ β)} {Δ : σ → Ctx} {Γ1 : α → σ → Ctx} {Pr : β → Res Fl → Prop} {k : Lp σ β → R γ} (v0 : σ)
    (hsrc : EW Γ src r (fun xs => (forC xs body v0).bind k) (List.map fx) Γ') (l : Le Γ' (Δ v0)) (ht : ∀ x v, GW (Δ v) g (fx x) (Γ1 x v)) (hb : ∀ x v, SW (Γ1 x v) b (body x v) (PC Pr Δ))
    (hn : ∀ v, SW (Δ v) s2 (k (.nx v)) P) (hr : ∀ b x, (∃ t ρ, x = .ok (.rt t) ρ) → Pr b x → Good P x (k (.rt b))) : SW Γ (sq (sFor src g b) s2) r P := fun ρ hs => by
  have e1 : sq (sFor src g b) s2 ρ = (src ρ).bind fun ts ρ => sq (fun ρ => forL g b ts ρ) s2 ρ := by
    unfold sq sFor
    rw [res_bind_assoc]
  rw [e1]
  refine hsrc Fl P _ (fun xs ρ' hs' => ?_) ρ hs
  refine (forC_good ht hb xs v0 ρ' (hs'.le l)).next (fun e he => sq_exc he) fun v hv => ?_
  cases v with
  | nx v =>
    obtain ⟨ρ2, hx, hs2⟩ := hv
    rw [sq_nx (s := fun ρ => forL g b (xs.map fx) ρ) hx]
    exact hn v ρ2 hs2
  | rt bb =>
    obtain ⟨⟨t, ρ2, hx⟩, hp⟩ := hv
    rw [sq_rt (s := fun ρ => forL g b (xs.map fx) ρ) hx]
    exact hr bb _ ⟨t, ρ2, hx⟩ hp
/-- the outer end is a def's -/
theorem rt_F {f : α → T} (b : α) (x : Res Fl) (_ : ∃ t ρ, x = .ok (.rt t) ρ) (h : PF f b x) : Good (PF f) x (.ok b) := h
theorem rt_C {Pr : β → Res Fl → Prop} {Δ : σ → Ctx} (b : β) (x : Res Fl) (h0 : ∃ t ρ, x = .ok (.rt t) ρ) (h : Pr b x) : Good (PC Pr Δ) x (.ok (.rt b)) := ⟨h0, h⟩
/-! ### while -/
/-! ### comprehensions -/
def freeC (Γ : Ctx) (vs : List Nat) : Bool := vs.all fun v => match Γ[v]? with
  | some (.is .un) => true
  | some (.is (.fz _)) => true
  | some .nf => true
  | _ => false
def wipeC (Γ : Ctx) : List Nat → Ctx
  | [] => Γ
  | v :: vs => (wipeC Γ vs).set v (.is .un)
def setAll (Γ : Ctx) (l : List (Nat × Sp)) : Ctx := match l with
  | [] => Γ
  | (i, p) :: l => setAll (Γ.set i p) l
theorem setAll_len : ∀ {l : List (Nat × Sp)} {Γ : Ctx}, (setAll Γ l).length = Γ.length
  | [], _ => rfl
  | (i, p) :: l, Γ => by unfold setAll; rw [setAll_len, List.length_set]
theorem setAll_get : ∀ {l : List (Nat × Sp)} {Γ : Ctx} {i : Nat}, (l.all fun q => decide (q.1 ≠ i)) = true → (setAll Γ l)[i]? = Γ[i]?
  | [], _, _, _ => rfl
  | (j, p) :: l, Γ, i, h => by
    simp only [List.all_cons, Bool.and_eq_true, decide_eq_true_eq] at h
    unfold setAll
    rw [setAll_get h.2, List.getElem?_set_ne h.1]
theorem St.free {ρ : Env} {vs : List Nat} (h : St ρ Γ) (hf : freeC Γ vs = true) : freeS ρ vs = true := by
  unfold freeC at hf
  unfold freeS
  rw [List.all_eq_true] at hf ⊢
  intro v hv
  have := hf v hv
  split at this
  · rename_i e; rw [h.is e]
  · rename_i e; rw [h.is e]
  · rename_i e
    obtain ⟨x, ex, hx⟩ := h.get _ _ e
    rw [ex]
    have hx : nfz x = true := hx
    cases x <;> first | rfl | cases hx
  · cases this
theorem St.wipe {ρ : Env} (h : St ρ Γ) : ∀ vs : List Nat, St (wipeE ρ vs) (wipeC Γ vs)
  | [] => h
  | v :: vs => (h.wipe vs).set (p := .is .un) rfl v
theorem St.bring {ρ0 ρ : Env} {vs : List Nat} {l : List (Nat × Sp)} (h0 : St ρ0 Γ) (h : St ρ (setAll Γ l)) (hv : (l.all fun q => vs.contains q.1) = true) : St (bring ρ0 ρ vs) Γ := by
  have hl : ρ.length = Γ.length := by rw [h.len, setAll_len]
  refine ⟨by rw [bring_length, hl], fun i p e => ?_⟩
  have hlt : i < Γ.length := (List.getElem?_eq_some_iff.mp e).1
  by_cases hi : i ∈ vs
  · obtain ⟨x, ex, hx⟩ := h0.get i p e
    refine ⟨x, ?_, hx⟩
    rw [bring_get.2 hi (by omega), List.getD_eq_getElem?_getD, ex]; rfl
  · have hn : (l.all fun q => decide (q.1 ≠ i)) = true := by
      rw [List.all_eq_true] at hv ⊢
      intro q hq
      have := hv q hq
      rw [decide_eq_true_eq]
      intro e; subst e
      exact hi (by simpa using this)
    rw [← setAll_get (Γ := Γ) hn] at e
    obtain ⟨x, ex, hx⟩ := h.get i p e
    exact ⟨x, by rw [bring_get.1 hi]; exact ex, hx⟩
def cmpGo (p : α → R Bool) (e : α → R β) : List α → R (List β)
  | [] => .ok []
  | x :: xs => (p x).noX.bind fun b => if b = true then (e x).noX.bind fun y => (cmpGo p e xs).bind fun ys => .ok (y :: ys) else cmpGo p e xs
@[irreducible] def cmpR (xs : List α) (p : α → R Bool) (e : α → R β) : R (List β) := if xs.length ≤ 16777216 then cmpGo p e xs else .bad
@[irreducible] def cmpP (xs : List α) (p : α → Bool) (e : α → β) : R (List β) := if xs.length ≤ 16777216 then .ok ((xs.filter p).map e) else .bad
@[irreducible] def mapP (xs : List α) (e : α → β) : R (List β) := if xs.length ≤ 16777216 then .ok (xs.map e) else .bad
theorem cmpR_P {xs : List α} {p : α → Bool} {e : α → β} : cmpR xs (fun x => .ok (p x)) (fun x => .ok (e x)) = cmpP xs p e := by
  have : ∀ xs : List α, cmpGo (fun x => .ok (p x)) (fun x => .ok (e x)) xs = .ok ((xs.filter p).map e) := fun xs => by
    induction xs with
    | nil => rfl
    | cons x xs ih =>
      simp only [cmpGo, R.noX_ok, R.bind_ok, ih]
      cases h : p x <;> simp [h]
  unfold cmpR cmpP
  rw [this]
theorem cmpR_M {xs : List α} {e : α → β} : cmpR xs (fun _ => .ok true) (fun x => .ok (e x)) = mapP xs e := by
  have h : xs.filter (fun _ => true) = xs := List.filter_eq_self.mpr fun _ _ => rfl
  rw [cmpR_P]
  unfold cmpP mapP
  rw [h]
def oL (f : α → T) (xs : List α) : O := .l (xs.map f)
section
variable {vs : List Nat} {g : MG} {test : M Bool} {elt : M T} {fx : α → T} {fe : β → T} {sl : α → List (Nat × Sp)} {src : M (List T)}
theorem noX_of {δ : Type} {x : Res δ} {e : Ex} (h : FL.noX x = .exc e) : False := by cases x <;> cases h
theorem EV.nx {δ : Type} {e : M δ} {r : R α} {f : α → δ} (h : EV Γ e r f Γ') {ρ : Env} (hs : St ρ Γ) : Good (fun a x => ∃ ρ', x = .ok (f a) ρ' ∧ St ρ' Γ') (FL.noX (e ρ)) r.noX := by
  have h1 := h (β := δ) (P := fun a x => ∃ ρ', x = .ok (f a) ρ' ∧ St ρ' Γ') (fun y ρ => .ok y ρ) (fun a ρ' hs' => ⟨ρ', rfl, hs'⟩) ρ hs
  have e2 : ((e ρ).bind fun y ρ => Res.ok y ρ) = e ρ := by cases e ρ <;> rfl
  rw [e2] at h1
  have : ∀ rr : R α, Good (fun a x => ∃ ρ', x = .ok (f a) ρ' ∧ St ρ' Γ') (e ρ) rr → Good (fun a x => ∃ ρ', x = .ok (f a) ρ' ∧ St ρ' Γ') (FL.noX (e ρ)) rr.noX := fun rr => by
    induction rr with
    | bad => exact fun _ => trivial
    | exc e => exact fun _ => trivial
    | ok a => exact fun ⟨ρ', e, hs⟩ => ⟨ρ', by rw [e]; rfl, hs⟩
    | dr m f ih => exact fun h h0 h1 => let ⟨v, a, b, c⟩ := h h0 h1; ⟨v, a, b, ih v c⟩
  exact this r h1
theorem cmp_good {p : α → R Bool} {e : α → R β} (ht : ∀ x, GW (wipeC Γ vs) g (fx x) (setAll Γ (sl x))) (hv : ∀ x, ((sl x).all fun q => vs.contains q.1) = true) (hp : ∀ x, EV (setAll Γ (sl x)) test (p x) idB (setAll Γ (sl x))) (he : ∀ x, EV (setAll Γ (sl x)) elt (e x) fe (setAll Γ (sl x))) :
    ∀ (xs : List α) (acc : List T) (ρ : Env), acc.length + xs.length ≤ 16777216 → St ρ Γ → Good (fun (ys : List β) x => ∃ ρ', x = .ok (acc ++ ys.map fe) ρ' ∧ St ρ' Γ) (lcL vs g test elt (xs.map fx) acc ρ) (cmpGo p e xs)
  | [], acc, ρ, _, hs => ⟨ρ, by simp [lcL], hs⟩
  | x :: xs, acc, ρ, hl, hs => by
    obtain ⟨ρ1, e1, hs1⟩ := ht x _ (hs.wipe vs)
    show Good _ (match g (fx x) (wipeE ρ vs) with | none => _ | some ρ1 => _) _
    rw [e1]
    simp only [List.length_cons] at hl
    refine ((hp x).nx hs1).next (fun e he => (noX_of he).elim) fun b ⟨ρ2, e2, hs2⟩ => ?_
    simp only [e2, bind_ok]
    cases b with
    | false =>
      show Good _ (if false = true then _ else _) (if false = true then _ else _)
      rw [if_neg (by decide), if_neg (by decide)]
      exact cmp_good ht hv hp he xs acc _ (by omega) (hs.bring hs2 (hv x))
    | true =>
      show Good _ (if true = true then _ else _) (if true = true then _ else _)
      rw [if_pos rfl, if_pos rfl]
      refine ((he x).nx hs2).next (fun e he => (noX_of he).elim) fun y ⟨ρ3, e3, hs3⟩ => ?_
      simp only [e3, bind_ok]
      rw [if_pos (by omega)]
      have := cmp_good ht hv hp he xs (acc ++ [fe y]) _ (by simp; omega) (hs.bring hs3 (hv x))
      refine this.next (fun e he => he) fun ys ⟨ρ4, e4, hs4⟩ => ?_
      exact ⟨ρ4, by rw [e4]; simp, hs4⟩
theorem ew_lc {p : α → R Bool} {e : α → R β} {k : List β → R γ} (hsrc : EW Γ src r (fun xs => (cmpR xs p e).bind k) (List.map fx) Γ') (hf : freeC Γ' vs = true) (ht : ∀ x, GW (wipeC Γ' vs) g (fx x) (setAll Γ' (sl x))) (hv : ∀ x, ((sl x).all fun q => vs.contains q.1) = true)
    (hp : ∀ x, EV (setAll Γ' (sl x)) test (p x) idB (setAll Γ' (sl x))) (he : ∀ x, EV (setAll Γ' (sl x)) elt (e x) fe (setAll Γ' (sl x))) : EW Γ (lcM vs src g test elt) r k (oL fe) Γ' := fun β' P K hk ρ hs => by
  unfold lcM
  rw [res_bind_assoc]
  refine hsrc β' P _ (fun xs ρ1 hs1 => ?_) ρ hs
  rw [if_pos (hs1.free hf), res_bind_assoc]
  show Good P _ ((cmpR xs p e).bind k)
  unfold cmpR
  by_cases hl : xs.length ≤ 16777216
  · rw [if_pos hl]
    refine (cmp_good ht hv hp he xs [] ρ1 (by simpa using hl) hs1).next (fun e he => by rw [he]; rfl) fun ys ⟨ρ2, e2, hs2⟩ => ?_
    rw [e2]
    exact hk ys ρ2 hs2
  · rw [if_neg hl]; rw [R.bind_bad]; trivial
theorem ew_lcM {e : α → β} {k : List β → R γ} (hsrc : EW Γ src r (fun xs => (mapP xs e).bind k) (List.map fx) Γ') (hf : freeC Γ' vs = true) (ht : ∀ x, GW (wipeC Γ' vs) g (fx x) (setAll Γ' (sl x))) (hv : ∀ x, ((sl x).all fun q => vs.contains q.1) = true)
    (he : ∀ x, EV (setAll Γ' (sl x)) elt (.ok (e x)) fe (setAll Γ' (sl x))) : EW Γ (lcM vs src g yes elt) r k (oL fe) Γ' := by
  refine ew_lc (p := fun x => .ok true) (e := fun x => .ok (e x)) ?_ hf ht hv (fun x => ew_pure (a := true) (f := idB) (k := fun a => R.ok a) fun ρ hs => rfl) he
  simp only [cmpR_M]
  exact hsrc
theorem ew_lcX {e : α → R β} {k : List β → R γ} (hsrc : EW Γ src r (fun xs => (cmpR xs (fun _ => .ok true) e).bind k) (List.map fx) Γ') (hf : freeC Γ' vs = true) (ht : ∀ x, GW (wipeC Γ' vs) g (fx x) (setAll Γ' (sl x))) (hv : ∀ x, ((sl x).all fun q => vs.contains q.1) = true)
    (he : ∀ x, EV (setAll Γ' (sl x)) elt (e x) fe (setAll Γ' (sl x))) : EW Γ (lcM vs src g yes elt) r k (oL fe) Γ' :=
  ew_lc (p := fun x => .ok true) hsrc hf ht hv (fun x => ew_pure (a := true) (f := idB) (k := fun a => R.ok a) fun ρ hs => rfl) he
end
/-! ### two clauses -/
/-! ### defs -/
def ctx0 (n m : Nat) (ts : List T) : Ctx := ts.map (fun t => Sp.is (.fz t)) ++ List.replicate (n - m) (.is .un)
theorem st0 {n m : Nat} {ts : List T} : St (ts.map SV.fz ++ List.replicate (n - m) SV.un) (ctx0 n m ts) := by
  refine ⟨by simp [ctx0], fun i p e => ?_⟩
  unfold ctx0 at e
  by_cases hi : i < ts.length
  · rw [List.getElem?_append_left (by simpa using hi), List.getElem?_map] at e
    obtain ⟨t, et, rfl⟩ := Option.map_eq_some_iff.mp e
    exact ⟨.fz t, by rw [List.getElem?_append_left (by simpa using hi), List.getElem?_map, et]; rfl, rfl⟩
  · rw [List.getElem?_append_right (by simp; omega), List.getElem?_replicate] at e
    simp only [List.length_map] at e
    split at e
    · cases e
      exact ⟨.un, by rw [List.getElem?_append_right (by simp; omega), List.getElem?_replicate]; simp only [List.length_map]; rw [if_pos (by assumption)], rfl⟩
    · cases e
theorem fn_of {n m : Nat} {body : MS} {ts : List T} {r : R α} {f : α → T} (h : SW (ctx0 n m ts) body r (PF f)) (hl : ts.length = m := by rfl) (hm : m ≤ n := by decide) : Fn (fnF n m body) ts r f := by
  refine ⟨?_⟩
  unfold fnF
  rw [if_pos ⟨hl, hm⟩]
  have := h _ (st0 (n := n) (m := m) (ts := ts))
  revert this
  generalize body (ts.map SV.fz ++ List.replicate (n - m) SV.un) = x
  intro this
  have go : ∀ rr : R α, Good (PF f) x rr → Good (fun v x => x = .ok (f v) []) (outF x) rr := fun rr => by
    induction rr with
    | bad => exact fun _ => trivial
    | exc e =>
        intro h
        have h : x = .exc e := h
        subst h; rfl
    | ok a =>
        intro h
        rcases h with ⟨ρ, rfl⟩ | ⟨h1, ρ, rfl⟩
        · exact rfl
        · show outF (.ok .nx ρ) = .ok (f a) []
          rw [h1]; rfl
    | dr m f ih => exact fun h h0 h1 => let ⟨v, a, b, c⟩ := h h0 h1; ⟨v, a, b, ih v c⟩
  exact go r this
def ctxM (n m : Nat) (ts : List T) : Ctx := .row true :: (ts.map (fun t => Sp.is (.fz t)) ++ List.replicate (n - m) (.is .un))
theorem fm_of {n m : Nat} {body : MS} {ts : List T} {r : R α} {f : α → T} (h : SW (ctxM n m ts) body r (PM f)) (hl : ts.length + 1 = m := by rfl) (hm : m ≤ n := by decide) : FnM (fnM n m body) ts r f := fun o ho => by
  unfold fnM
  rw [if_pos ⟨hl, hm⟩]
  have hs : St (SV.pa o :: (ts.map SV.fz ++ List.replicate (n - m) SV.un)) (ctxM n m ts) := by
    have h0 := st0 (n := n) (m := m) (ts := ts)
    refine ⟨by simp [ctxM], fun i p e => ?_⟩
    cases i with
    | zero => cases e; exact ⟨_, rfl, o, rfl, ho⟩
    | succ i => exact h0.get i p e
  have := h _ hs
  revert this
  generalize body (SV.pa o :: (ts.map SV.fz ++ List.replicate (n - m) SV.un)) = x
  intro this
  have go : ∀ rr : R α, Good (PM f) x rr → Good (fun v x => ∃ o' ρ, RowOk o' ∧ x = .ok (f v, o') ρ) (outM x) rr.noX := fun rr => by
    induction rr with
    | bad => exact fun _ => trivial
    | exc e => exact fun _ => trivial
    | ok a =>
        intro h
        obtain ⟨ρ, o', hlt, ho', h⟩ := h
        rcases h with rfl | ⟨h1, rfl⟩
        · refine ⟨o', [], ho', ?_⟩
          show outV (f a) ρ = _
          unfold outV; rw [hlt]
        · refine ⟨o', [], ho', ?_⟩
          show outV .non ρ = _
          unfold outV; rw [hlt, h1]
    | dr m f ih => exact fun h h0 h1 => let ⟨v, a, b, c⟩ := h h0 h1; ⟨v, a, b, ih v c⟩
  exact go r this
end
end FL.NL

/-! NL4: encodings; the operators on them. -/
namespace FL.NL
open PySem
variable {α β γ δ σ : Type}
/-! ### encodings -/
def eS (x : Str) : T := .str x
def eU (_ : Unit) : T := .non
def eL (f : α → T) (xs : List α) : T := .lst (xs.map f)
def eT (f : α → T) (xs : List α) : T := .tup (xs.map f)
def eZ (f : α → T) (xs : List α) : T := .sl (xs.map f)
/-- a tuple of parts of their own kinds -/
def eP (f : α → List T) (p : α) : T := .tup (f p)
def eO (f : α → T) (o : Option α) : T := match o with
  | none => .non
  | some a => f a
/-! ### numbers -/
section
variable {a b : Int} {p q : Bool}
theorem add_I (a b : Int) : addO (eI a) (eI b) = some (eI (a + b)) := rfl
theorem sub_I (a b : Int) : subA (eI a) (eI b) = some (eI (a - b)) := rfl
theorem lt_I (a b : Int) : ltO (eI a) (eI b) = some (eB (decide (a < b))) := rfl
theorem gt_I (a b : Int) : gtO (eI a) (eI b) = some (eB (decide (a > b))) := rfl
theorem le_Ib (a b : Int) : leO (eI a) (eI b) = some (.bl (decide (a ≤ b))) := rfl
theorem neg_I (a : Int) : negO (eI a) = some (eI (-a)) := rfl
@[irreducible] def mulR (a b : Int) : R Int := if a.natAbs.log2 + b.natAbs.log2 < 1000000 then .ok (a * b) else .bad
theorem mul_I (a b : Int) : Lo (mulA (eI a) (eI b)) (mulR a b) eI := by
  show Lo (if mulC a b = true then some (T.int (a * b)) else none) _ _
  unfold mulR mulC
  by_cases h : a.natAbs.log2 + b.natAbs.log2 < 1000000
  · rw [if_pos h, if_pos (decide_eq_true h)]; exact rfl
  · rw [if_neg h]; trivial
theorem mulR_ok (ha : a.natAbs < 2 ^ 64) (hb : b.natAbs < 2 ^ 64) : mulR a b = .ok (a * b) := by
  unfold mulR
  rw [if_pos (of_decide_eq_true (mulC_of (m := 64) (n := 64) ha hb (by decide) (by decide) (by decide)))]
theorem mulR_64 (h1 : -18446744073709551616 < a) (h2 : a < 18446744073709551616) (h3 : -18446744073709551616 < b) (h4 : b < 18446744073709551616) : mulR a b = .ok (a * b) := mulR_ok (by omega) (by omega)
@[irreducible] def divR (a b : Int) : R Int := if divC2 a b = true then .ok (a.fdiv b) else .bad
theorem div_I (a b : Int) : Lo (divA (eI a) (eI b)) (divR a b) eI := by
  show Lo (if divC2 a b = true then some (T.int (a.fdiv b)) else none) _ _
  unfold divR
  by_cases h : divC2 a b = true
  · rw [if_pos h, if_pos h]; exact rfl
  · rw [if_neg h, if_neg h]; trivial
theorem divR_pos (h : 0 < b) (h2 : b < 18446744073709551616) : divR a b = .ok (a / b) := by
  unfold divR divC2
  have h3 : b.natAbs.log2 < 9000 := Nat.lt_of_lt_of_le (PySem.Flt.log2_lt_of (show 0 < 64 by decide) (show b.natAbs < 2 ^ 64 by omega)) (by decide)
  rw [decide_eq_true h, decide_eq_true h3, Int.fdiv_eq_ediv_of_nonneg _ (by omega)]; rfl
@[irreducible] def modR (a b : Int) : R Int := if b ≠ 0 then .ok (a.fmod b) else .bad
theorem modR_pos (h : 0 < b) : modR a b = .ok (a % b) := by
  unfold modR
  rw [if_pos (by omega), Int.fmod_eq_emod_of_nonneg _ (by omega)]
def absI (a : Int) : Int := if a < 0 then -a else a
theorem abs_I (p : Int × Unit) : abs1O (aC eI aN p) = some (eI (absI p.1)) := rfl
def minI (a b : Int) : Int := if b < a then b else a
/-! ### equality -/
def Eqc [DecidableEq α] (f : α → T) : Prop := ∀ a b, eqT (f a) (f b) = some (decide (a = b))
theorem eq_of [DecidableEq α] {f : α → T} (h : Eqc f) (a b : α) : eqO (f a) (f b) = some (eB (decide (a = b))) := by
  unfold eqO; rw [h a b]; rfl
theorem eqc_I : Eqc eI := fun a b => by
  have := eqO_int (i := a) (j := b)
  unfold eqO at this
  cases h : eqT (eI a) (eI b) with
  | none => unfold eI at h; rw [h] at this; cases this
  | some c => unfold eI at h; rw [h] at this; simp at this; rw [this]
/-- an encoding of data of a depth that is known -/
def Dat (n : Nat) (f : α → T) : Prop := (∀ a, dat n (f a) = true) ∧ ∀ a b, f a = f b → a = b
theorem dat_I {n : Nat} : Dat n eI := ⟨fun a => by unfold eI; cases n <;> rfl, fun a b h => by cases h; rfl⟩
theorem dats_map {n : Nat} {f : α → T} (h : ∀ a, dat n (f a) = true) : ∀ xs : List α, dats n (xs.map f) = true
  | [] => rfl
  | x :: xs => by rw [List.map_cons]; unfold dats; rw [h x, dats_map h xs]; rfl
/-! ### is None -/
theorem is_O {f : α → T} (h : ∀ a, isNO false (f a) .non = some (eB false)) (o : Option α) : isNO false (eO f o) .non = some (eB o.isNone) := by
  cases o with
  | none => rfl
  | some a => exact h a
/-! ### rows: +, *, index, len, slices -/
@[irreducible] def catS (x y : Str) : R Str := if x.length + y.length ≤ 16777216 then .ok (x ++ y) else .bad
theorem add_S (x y : Str) : Lo (addO (eS x) (eS y)) (catS x y) eS := by
  show Lo (if x.length + y.length ≤ 16777216 then some (T.str (x ++ y)) else none) _ _
  unfold catS
  by_cases h : x.length + y.length ≤ 16777216
  · rw [if_pos h, if_pos h]; exact rfl
  · rw [if_neg h, if_neg h]; trivial
def atR (xs : List α) (i : Int) : R α := match (idx xs.length i).bind fun j => xs[j]? with
  | some a => .ok a
  | none => .bad
theorem atT_map (f : α → T) (xs : List α) (i : Int) : Lo (atT (xs.map f) i) (atR xs i) f := by
  unfold atT atR
  rw [List.length_map]
  cases h : idx xs.length i with
  | none => trivial
  | some j =>
    simp only [Option.bind_some, List.getElem?_map]
    cases xs[j]? with
    | none => trivial
    | some a => exact rfl
theorem ix_L (f : α → T) (xs : List α) (i : Int) : Lo (ixO (eL f xs) (eI i)) (atR xs i) f := atT_map f xs i
theorem atR_pos {xs : List α} {i : Int} {a : α} (h0 : 0 ≤ i) (h : xs[i.toNat]? = some a) : atR xs i = .ok a := by
  have hl := (List.getElem?_eq_some_iff.mp h).1
  unfold atR idx
  rw [if_pos h0, if_pos (by omega)]
  simp [h]
/-- x[i], x a name -/
theorem ew_ixA {γ α1 : Type} {Γ Γ' : Ctx} {i : Nat} {fi : M T} {r : R γ} {t : T} {f : α → T} {k : α → R γ} {r0 : α1 → R α} {f1 : α1 → T} (hw : ∀ j, Lo (ixO t (f1 j)) (r0 j) f) (h : EW Γ fi r (fun j => (r0 j).bind k) f1 Γ') (h0 : Γ[i]? = some (.is (.fz t)) := by rfl) (h1 : Γ'[i]? = some (.is (.fz t)) := by rfl) : EW Γ (ixA i fi) r k f Γ' := fun β P K hk ρ hs => by
  have e0 : has i ρ = .t t := by rw [has_e, hs.is h0]
  have e1 : ixA i fi ρ = (fi ρ).bind fun y ρ => match has i ρ with
    | .t t => liftO (ixO t y) ρ
    | .o (.l ts) => match y with
      | .int j => liftO (atT ts j) ρ
      | _ => .bad
    | _ => .bad := by
    unfold ixA; rw [e0]; rfl
  rw [e1, res_bind_assoc]
  refine h β P _ (fun j ρ' hs' => ?_) ρ hs
  have e2 : has i ρ' = .t t := by rw [has_e, hs'.is h1]
  rw [e2]
  exact ew_lift (Γ := Γ') (k := k) (hw j) β P K hk ρ' hs'
/-! len -/
theorem len_L (f : α → T) (p : List α × Unit) : lenO (aC (eL f) aN p) = some (eI p.1.length) := by
  show some (T.int ((p.1.map f).length : Nat)) = _; rw [List.length_map]; rfl
@[irreducible] def lenS (z : Str) : R Int := if z.length ≤ 16777216 then .ok z.length else .bad
theorem len_S (p : Str × Unit) : Lo (lenO (aC eS aN p)) (lenS p.1) eI := by
  show Lo (if p.1.length ≤ 16777216 then some (T.int p.1.length) else none) _ _
  unfold lenS
  by_cases h : p.1.length ≤ 16777216
  · rw [if_pos h, if_pos h]; exact rfl
  · rw [if_neg h, if_neg h]; trivial
theorem ew_lenA {γ : Type} {Γ : Ctx} {i : Nat} {t : T} {k : Int → R γ} (a : Int) (hw : lenO [t] = some (eI a)) (h0 : Γ[i]? = some (.is (.fz t)) := by rfl) : EW Γ (lenA i) (k a) k eI Γ := ew_pure fun ρ hs => by
  unfold lenA; rw [has_e, hs.is h0]; simp only [hw, lift_some]
theorem ew_lenS {γ : Type} {Γ : Ctx} {i : Nat} {z : Str} {k : Int → R γ} (h0 : Γ[i]? = some (.is (.fz (eS z))) := by rfl) : EW Γ (lenA i) ((lenS z).bind k) k eI Γ := by
  have : EW Γ (liftO (lenO [eS z])) ((lenS z).bind k) k eI Γ := ew_lift (len_S (z, ()))
  intro β P K hk ρ hs
  have e : lenA i ρ = liftO (lenO [eS z]) ρ := by unfold lenA; rw [has_e, hs.is h0]
  rw [e]; exact this β P K hk ρ hs
/-! slices -/
def cutL (xs : List α) (lo hi : Option Int) : List α := (xs.drop (HT.sIx xs.length 0 lo)).take (HT.sIx xs.length xs.length hi - HT.sIx xs.length 0 lo)
def oI (o : Option Int) : Option Int := o
theorem ew_poN {γ : Type} {Γ : Ctx} {k : Option Int → R γ} : EW Γ poN (k none) k oI Γ := ew_pure fun ρ hs => rfl
theorem ew_poS {γ : Type} {Γ Γ' : Ctx} {e : M T} {r : R γ} {k : Option Int → R γ} (h : EW Γ e r (fun i => k (some i)) eI Γ') : EW Γ (poS e) r k oI Γ' := ew_bind h fun a => ew_pure (a := some a) fun ρ hs => rfl
theorem ew_slp {γ α1 β1 : Type} {Γ Γ' Γ'' Γ3 : Ctx} {e : M T} {fl fh : MO} {r : R γ} {f1 : α1 → T} {f : β1 → T} {k : β1 → R γ} {k1 : α1 → R γ} {k2 : α1 → Option Int → R γ} {w : α1 → Option Int → Option Int → R β1} (hw : ∀ a lo hi, Lo (slO (f1 a) lo hi) (w a lo hi) f)
    (h : EW Γ e r k1 f1 Γ') (hl : ∀ a, EW Γ' fl (k1 a) (k2 a) oI Γ'') (hh : ∀ a lo, EW Γ'' fh (k2 a lo) (fun hi => (w a lo hi).bind k) oI Γ3) : EW Γ (slM e fl fh) r k f Γ3 :=
  ew_bind h fun a => ew_bind (hl a) fun lo => ew_bind (hh a lo) fun hi => ew_lift (hw a lo hi)
@[irreducible] def slS (z : Str) (lo hi : Option Int) : R Str := if z.length ≤ 16777216 then .ok (L2.cutS z lo hi) else .bad
theorem sl_S (z : Str) (lo hi : Option Int) : Lo (slO (eS z) lo hi) (slS z lo hi) eS := by
  show Lo (if z.length ≤ 16777216 then some (T.str (L2.cutS z lo hi)) else none) _ _
  unfold slS
  by_cases h : z.length ≤ 16777216
  · rw [if_pos h, if_pos h]; exact rfl
  · rw [if_neg h, if_neg h]; trivial
/-! ### displays, tuple, list, what is walked -/
theorem tup_P {g : α → List T} (h : ∀ p, Nat.ble (g p).length 16777216 = true) (p : α) : tupO (g p) = some (eP g p) := by
  unfold tupO; rw [if_pos (Nat.le_of_ble_eq_true (h p))]; rfl
theorem new_L {g : α → List T} {f : β → T} {w : α → List β} (h : ∀ p, g p = (w p).map f) (h2 : ∀ p, (w p).length ≤ 16777216) (p : α) : newL (g p) = some (oL f (w p)) := by
  have : (g p).length ≤ 16777216 := by rw [h, List.length_map]; exact h2 p
  unfold newL; rw [if_pos this, h]; rfl
theorem ew_frzM {γ : Type} {Γ Γ' : Ctx} {e : M O} {r : R γ} {f : α → T} {k : List α → R γ} (h : EW Γ e r k (oL f) Γ') : EW Γ (frzM e) r k (eL f) Γ' := ew_bind h fun a => ew_pure (a := a) fun ρ hs => rfl
/-! ranges -/
def rg (lo : Int) (n : Nat) : List Int := (List.range n).map fun i => lo + ((i : Nat) : Int)
theorem rgT_rg (lo : Int) (n : Nat) : rgT lo n = (rg lo n).map eI := by
  unfold rgT rg; rw [List.map_map]; rfl
def b62 (i : Int) : Prop := -4611686018427387904 ≤ i ∧ i < 4611686018427387904
instance : Decidable (b62 i) := by unfold b62; exact inferInstance
@[irreducible] def rgR (lo hi : Int) : R (List Int) := if b62 lo ∧ b62 hi then .ok (rg lo (hi - lo).toNat) else .bad
theorem rg_1 (p : Int × Unit) : Lo (rg1 (aC eI aN p)) (rgR 0 p.1) (List.map eI) := by
  show Lo (if decide (-4611686018427387904 ≤ p.1) && decide (p.1 < 4611686018427387904) then some (rgT 0 p.1.toNat) else none) _ _
  unfold rgR b62
  by_cases h : -4611686018427387904 ≤ p.1 ∧ p.1 < 4611686018427387904
  · have h2 : (-4611686018427387904 ≤ (0 : Int) ∧ (0 : Int) < 4611686018427387904) ∧ -4611686018427387904 ≤ p.1 ∧ p.1 < 4611686018427387904 := ⟨by decide, h⟩
    have e1 : (decide (-4611686018427387904 ≤ p.1) && decide (p.1 < 4611686018427387904)) = true := by simp [h]
    rw [if_pos e1, if_pos h2, rgT_rg, Int.sub_zero]; exact rfl
  · have h2 : ¬ ((-4611686018427387904 ≤ (0 : Int) ∧ (0 : Int) < 4611686018427387904) ∧ -4611686018427387904 ≤ p.1 ∧ p.1 < 4611686018427387904) := fun e => h e.2
    rw [if_neg h2]; trivial
theorem rg_2 (p : Int × Int × Unit) : Lo (rg2 (aC eI (aC eI aN) p)) (rgR p.1 p.2.1) (List.map eI) := by
  show Lo (if decide (-4611686018427387904 ≤ p.1) && decide (p.1 < 4611686018427387904) && decide (-4611686018427387904 ≤ p.2.1) && decide (p.2.1 < 4611686018427387904) then some (rgT p.1 (p.2.1 - p.1).toNat) else none) _ _
  unfold rgR b62
  by_cases h : (-4611686018427387904 ≤ p.1 ∧ p.1 < 4611686018427387904) ∧ -4611686018427387904 ≤ p.2.1 ∧ p.2.1 < 4611686018427387904
  · rw [if_pos h, if_pos (by simp [h]), rgT_rg]; exact rfl
  · rw [if_neg h]; trivial
def enumL : Nat → List α → List (Int × α × Unit)
  | _, [] => []
  | n, x :: xs => ((n : Int), x, ()) :: enumL (n + 1) xs
theorem enum_map (f : α → T) : ∀ (n : Nat) (xs : List α), enumT n (xs.map f) = (enumL n xs).map (eP (aC eI (aC f aN)))
  | _, [] => rfl
  | n, x :: xs => by rw [List.map_cons]; unfold enumT enumL; rw [enum_map f (n + 1) xs]; rfl
theorem enum_L (f : α → T) (p : List α × Unit) : enum1 (aC (eL f) aN p) = some ((enumL 0 p.1).map (eP (aC eI (aC f aN)))) := by
  show some (enumT 0 (p.1.map f)) = _; rw [enum_map]
/-! sums, all, any, max, min -/
theorem intsT_map : ∀ xs : List Int, intsT (xs.map eI) = some xs
  | [] => rfl
  | x :: xs => by rw [List.map_cons]; show (intsT (xs.map eI)).map (x :: ·) = _; rw [intsT_map xs]; rfl
theorem blsT_map' : ∀ xs : List Bool, blsT (xs.map eB) = some xs
  | [] => rfl
  | x :: xs => by rw [List.map_cons]; show (blsT (xs.map eB)).map (x :: ·) = _; rw [blsT_map' xs]; rfl
theorem all_L (p : List Bool × Unit) : all1O (aC (eL eB) aN p) = some (eB (p.1.all idB)) := by
  show (blsT (p.1.map eB)).map (fun bs => T.bl (bs.all id)) = _; rw [blsT_map']; rfl
theorem op2c {γ α1 : Type} {Γ Γ' : Ctx} {e1 : M T} {t : T} {r : R γ} {o : T → T → Option T} {f1 : α1 → T} {f : α → T} {k : α → R γ} {w : α1 → α} (hw : ∀ a, o (f1 a) t = some (f (w a))) (h : EW Γ e1 r (fun a => k (w a)) f1 Γ') : EW Γ (op2 o e1 (rdC t)) r k f Γ' :=
  ew_bind h fun a => by
    intro β P K hk ρ hs
    show Good P ((liftO (o (f1 a) t) ρ).bind K) _
    rw [hw a]; exact hk _ ρ hs
/-! among -/
theorem toDs_map {f : α → T} (h : Dat 8 f) : ∀ xs : List α, ∃ ds, toDs (xs.map f) = some ds ∧ ∀ (a : α) (d : PyData), toD (f a) = some d → ((ds.any fun z => PyData.eqv z d) = true ↔ a ∈ xs) := fun xs => by
  induction xs with
  | nil => exact ⟨[], by simp only [List.map_nil, toDs], fun a d _ => by simp⟩
  | cons x xs ih =>
    obtain ⟨ds, e1, h1⟩ := ih
    obtain ⟨dx, ex, _, _⟩ := dat_toD (h.1 x)
    refine ⟨dx :: ds, by simp only [List.map_cons, toDs, ex, e1], fun a d hd => ?_⟩
    rw [List.any_cons, Bool.or_eq_true, h1 a d hd, eqv_dat (h.1 x) (h.1 a) ex hd, List.mem_cons]
    constructor
    · rintro (e | e)
      · exact .inl (h.2 _ _ e).symm
      · exact .inr e
    · rintro (e | e)
      · subst e; exact .inl rfl
      · exact .inr e
/-! ### name op= e -/
end
end FL.NL

/-! NL6: in; sorted; two clauses. -/
namespace FL.NL
open PySem
variable {α β γ : Type}
theorem among_of [DecidableEq α] {f : α → T} (h : Dat 8 f) (a : α) (xs : List α) : amongT (f a) (xs.map f) = some (decide (a ∈ xs)) := by
  obtain ⟨d, e1, c1, l1⟩ := dat_toD (h.1 a)
  obtain ⟨ds, e2, c2, l2⟩ := dats_toD (dats_map h.1 xs)
  obtain ⟨ds', e3, h3⟩ := toDs_map h xs
  rw [e2] at e3
  cases e3
  have s1 : SeqAt.shaped d = true := by unfold SeqAt.shaped; rw [c1, Bool.true_and, decide_eq_true_eq]; omega
  have s2 : SeqAt.shaped (.list ds) = true := by
    unfold SeqAt.shaped
    have : PyData.canLay0 (.list ds) = true := by simpa only [PyData.canLay0] using c2
    rw [this, Bool.true_and, decide_eq_true_eq]
    simp only [PyData.depth]; omega
  unfold amongT
  simp only [e1, e2, s1, s2, Bool.and_self, if_true]
  congr 1
  rw [Bool.eq_iff_iff, h3 a d e1, decide_eq_true_eq]
theorem in_L [DecidableEq α] {f : α → T} (h : Dat 8 f) (a : α) (xs : List α) : inO (f a) (eL f xs) = some (eB (decide (a ∈ xs))) := by
  show (amongT (f a) (xs.map f)).map T.bl = _
  rw [among_of h]; rfl
theorem in_T [DecidableEq α] {f : α → T} (h : Dat 8 f) (a : α) (xs : List α) : inO (f a) (eT f xs) = some (eB (decide (a ∈ xs))) := by
  show (amongT (f a) (xs.map f)).map T.bl = _
  rw [among_of h]; rfl
theorem nin_L [DecidableEq α] {f : α → T} (h : Dat 8 f) (a : α) (xs : List α) : ninO (f a) (eL f xs) = some (eB (!decide (a ∈ xs))) := by
  show (amongT (f a) (xs.map f)).map (fun b => T.bl (!b)) = _
  rw [among_of h]; rfl
section
variable {Γ Γ' : Ctx} {i : Nat} {e : M T} {r : R γ} {k : Bool → R γ}
end
/-! ### two clauses -/
section
variable {Γ : Ctx} {vs vs1 : List Nat} {g g1 : MG} {test test1 : M Bool} {elt : M T} {fx : α → T} {fe : β → T} {sl : α → List (Nat × Sp)} {src : M (List T)}
theorem ew_yes {γ : Type} {k : Bool → R γ} : EW Γ yes (k true) k idB Γ := ew_pure fun ρ hs => rfl
end
end FL.NL

/-! NL7: values of any kind; readings as programs; errors told. -/
namespace FL.NL
open PySem
variable {α β γ δ σ : Type}
section
variable {Γ Γ' : Ctx} {r : R γ} {k : T → R γ} {ths : List Str} {cls : List Cl} {fs : M (List T)} {F : Sg} {f1 : α → List T} {i : Nat}
end
/-! ### values of any kind brought to a type -/
theorem sw_re {Γ Γ0 : Ctx} {s : MS} {r : R γ} {P : γ → Res Fl → Prop} (h : SW Γ0 s r P) (e : Γ = Γ0 := by rfl) : SW Γ s r P := e ▸ h
/-- t is f of what as finds -/
def As (as : T → R α) (f : α → T) : Prop := ∀ t, match as t with
  | .ok a => t = f a
  | .bad => True
  | _ => False
def asI (t : T) : R Int := match t with | .int i => .ok i | _ => .bad
def asS (t : T) : R Str := match t with | .str x => .ok x | _ => .bad
def asB (t : T) : R Bool := match t with | .bl x => .ok x | _ => .bad
def asT (t : T) : R (List T) := match t with | .tup x => .ok x | _ => .bad
def as2 (t : T) : R (T × T × Unit) := match t with | .tup [a, b] => .ok (a, b, ()) | _ => .bad
theorem as_I : As asI eI := fun t => by cases t <;> first | exact rfl | trivial
theorem as_S : As asS eS := fun t => by cases t <;> first | exact rfl | trivial
theorem as_B : As asB eB := fun t => by cases t <;> first | exact rfl | trivial
/-! len, index, is, isinstance -/
end FL.NL

/-! NL8: all ends of programs over drawn values. -/
namespace FL.NL
open PySem
variable {α β γ σ : Type}
namespace R
end R
end FL.NL

/-! NL9: what is walked, a text among it. -/
namespace FL.NL
open PySem
section
variable {α γ : Type} {Γ Γ' : Ctx} {e : M T}
theorem ew_iLA {r : R γ} {f : α → T} {k : List α → R γ} (h : EW Γ e r k (eL f) Γ') : EW Γ (iSeqA e) r k (List.map f) Γ' := ew_bind h fun a => ew_pure (a := a) fun ρ hs => rfl
/-- a text's signs -/
def chS (z : Str) : List Str := z.cps.toList.map fun c => ⟨#[c]⟩
theorem chT_eq (z : Str) : chT z = (chS z).map eS := by unfold chT chS; rw [List.map_map]; rfl
theorem ew_iSA {r : R γ} {k : List Str → R γ} (h : EW Γ e r (fun z => k (chS z)) eS Γ') : EW Γ (iSeqA e) r k (List.map eS) Γ' := fun β P K hk ρ hs => by
  unfold iSeqA
  rw [res_bind_assoc]
  refine h β P _ (fun t ρ' hs' => ?_) ρ hs
  show Good P (K (chT t) ρ') (k (chS t))
  have := hk (chS t) ρ' hs'
  rw [chT_eq]
  exact this
end
end FL.NL

/-! NL10: a text's methods of one argument. -/
namespace FL.NL
open PySem
section
variable {α α2 γ : Type} {Γ Γ' Γ'' : Ctx} {e1 e2 : M T} {r : R γ} {k : α → R γ}
theorem ew_m1 {o : Str → T → Option T} {f2 : α2 → T} {f : α → T} {k1 : Str → R γ} {w : Str → α2 → α} (hw : ∀ a b, o a (f2 b) = some (f (w a b)))
    (h1 : EW Γ e1 r k1 eS Γ') (h2 : ∀ a, EW Γ' e2 (k1 a) (fun b => k (w a b)) f2 Γ'') : EW Γ (sM1 o e1 e2) r k f Γ'' :=
  ew_bind h1 fun a => ew_bind (h2 a) fun b => ew_tot (hw a b)
theorem ew_m1p {o : Str → T → Option T} {f2 : α2 → T} {f : α → T} {k1 : Str → R γ} {r0 : Str → α2 → R α} (hw : ∀ a b, Lo (o a (f2 b)) (r0 a b) f)
    (h1 : EW Γ e1 r k1 eS Γ') (h2 : ∀ a, EW Γ' e2 (k1 a) (fun b => (r0 a b).bind k) f2 Γ'') : EW Γ (sM1 o e1 e2) r k f Γ'' :=
  ew_bind h1 fun a => ew_bind (h2 a) fun b => ew_lift (hw a b)
def scountI (a b : Str) : Int := Txt.count a b
theorem scount_S (a b : Str) : sCount a (eS b) = some (eI (scountI a b)) := rfl
end
end FL.NL

/-! NL11: a law's turn, draw by draw. -/
namespace FL.NL
open PySem
variable {α β γ σ : Type}
theorem to {Q : β → Prop} {r : R α} {a : α} {k : α → R β} (e : r = .ok a) (h : R.All Q (k a)) : R.All Q (r.bind k) := by rw [e, R.bind_ok]; exact h
theorem mem1 {p : α → Bool} {L : List α} (h : L.all p = true) {a : α} (ha : a ∈ L) : p a = true := List.all_eq_true.mp h a ha
theorem mem2 {p : α → β → Bool} {L : List α} {M : α → List β} (h : (L.all fun a => (M a).all fun b => p a b) = true) {a : α} (ha : a ∈ L) {b : β} (hb : b ∈ M a) : p a b = true := mem1 (p := fun b => p a b) (mem1 (p := fun a => (M a).all fun b => p a b) h ha) hb
theorem mem3 {p : α → β → γ → Bool} {L : List α} {M : α → List β} {N : α → β → List γ} (h : (L.all fun a => (M a).all fun b => (N a b).all fun c => p a b c) = true) {a : α} (ha : a ∈ L) {b : β} (hb : b ∈ M a) {c : γ} (hc : c ∈ N a b) : p a b c = true :=
  mem1 (p := fun c => p a b c) (mem2 (p := fun a b => (N a b).all fun c => p a b c) h ha hb) hc
end FL.NL

/-! NL12: values of closed steps. -/
namespace FL.NL
open PySem
variable {α β γ σ : Type}
instance : Inhabited T := ⟨.non⟩
instance : Inhabited Str := ⟨PySem.Str.ofString ""⟩
end FL.NL

/-! NL13: operations of trees as they are. -/
namespace FL.NL
open PySem
section
variable {α α1 α2 γ : Type} {Γ Γ' Γ'' : Ctx} {e1 e2 : M T} {es : M (List T)} {r : R γ}
def optR (x : Option T) : R T := match x with
  | some t => .ok t
  | none => .bad
def optL (x : Option O) : R (List T) := match x with
  | some (.l ts) => .ok ts
  | _ => .bad
end
end FL.NL

/-! NL14: return within a loop of a def that was lent the row. -/
namespace FL.NL
open PySem PySem.Spec FL
section
variable {α σ : Type} {Γ Γ' : Ctx} {e : M T} {s2 : MS} {f : α → T}
end
section
variable {α β γ σ : Type}
end
end FL.NL

/-! NL15: drawn lists whose entries are not known. -/
namespace FL.NL
open PySem
variable {α β γ σ : Type}
theorem Le.e {x y : T} (h : x = y) {Γ Γ' : Ctx} (t : Le Γ Γ') : Le (.is (.fz x) :: Γ) (.is (.fz y) :: Γ') := by
  subst h; exact .k t
theorem sy_sIx {n d k : Nat} (h : k ≤ n) : HT.sIx n d (some (k : Int)) = k := by
  rw [HT.sIx_nat]; omega
theorem sy_cutFrom {xs : List α} {k : Nat} (h : k ≤ xs.length) : cutL xs (some (k : Int)) none = xs.drop k := by
  unfold cutL
  rw [sy_sIx h]
  show ((xs.drop k).take (xs.length - k)) = _
  rw [List.take_of_length_le (by simp)]
theorem len2 {r : List α} (h : r.length = 2) : ∃ a b, r = [a, b] := by
  match r, h with
  | [a, b], _ => exact ⟨a, b, rfl⟩
end FL.NL

/-! NL16: range with a step. -/
namespace FL.NL
open PySem
/-- a name, then the others -/
theorem ew_consv {α1 α2 γ : Type} {i : Nat} (a : α1) (f1 : α1 → T) {es : M (List T)} {f2 : α2 → List T} {k : α1 × α2 → R γ} {r : R γ} {Γ Γ'' : Ctx} (h2 : EW Γ es r (fun b => k (a, b)) f2 Γ'') (h : Γ[i]? = some (.is (.fz (f1 a))) := by rfl) : EW Γ (rdCons (rdA i) es) r k (aC f1 f2) Γ'' := fun β P K hk ρ hs => by
  have e : rdCons (rdA i) es ρ = (es ρ).bind fun xs ρ => .ok (f1 a :: xs) ρ := by
    unfold rdCons rdA
    rw [hs.is h]
    rfl
  rw [e, res_bind_assoc]
  exact h2 β P _ (fun b ρ' hs' => hk (a, b) ρ' hs') ρ hs
end FL.NL

/-! NL17: operations of trees, brought to a type. -/
namespace FL.NL
open PySem
section
variable {α β γ α1 α2 : Type} {Γ Γ' Γ'' : Ctx} {e e1 e2 : M T} {es : M (List T)} {r : R γ}
theorem As.val {as : T → R α} {f : α → T} (h : As as f) {t : T} {r : R α} (e : as t = r) : r = .bad ∨ ∃ a, r = .ok a ∧ t = f a := by
  have z := h t
  rw [e] at z
  cases r with
  | bad => exact .inl rfl
  | exc x => exact z.elim
  | ok a => exact .inr ⟨a, rfl, z⟩
  | dr m g => exact z.elim
theorem As.mk {as : T → R α} {f : α → T} (h : ∀ t r, as t = r → r = .bad ∨ ∃ a, r = .ok a ∧ t = f a) : As as f := fun t => by
  rcases h t _ rfl with e | ⟨a, e, q⟩
  · rw [e]; trivial
  · rw [e]; exact q
/-- several trees -/
def AsS (as : List T → R α) (f : α → List T) : Prop := ∀ ts r, as ts = r → r = .bad ∨ ∃ a, r = .ok a ∧ ts = f a
theorem AsS.val {as : List T → R α} {f : α → List T} (h : AsS as f) {t : List T} {r : R α} (e : as t = r) : r = .bad ∨ ∃ a, r = .ok a ∧ t = f a := h t r e
def asAll (as : T → R α) : List T → R (List α)
  | [] => .ok []
  | t :: ts => (as t).bind fun a => (asAll as ts).bind fun l => .ok (a :: l)
theorem asS_All {as : T → R α} {f : α → T} (h : As as f) : AsS (asAll as) (List.map f)
  | [], r, e => .inr ⟨[], e.symm, rfl⟩
  | t :: ts, r, e => by
    unfold asAll at e
    rcases h.val (t := t) rfl with e1 | ⟨a, e1, q⟩
    · rw [e1, R.bind_bad] at e; exact .inl e.symm
    · rcases asS_All h ts _ rfl with e2 | ⟨l, e2, q2⟩
      · rw [e1, R.bind_ok, e2, R.bind_bad] at e; exact .inl e.symm
      · rw [e1, R.bind_ok, e2, R.bind_ok] at e; exact .inr ⟨_, e.symm, by rw [q, q2]; rfl⟩
def asO (as : T → R α) (t : T) : R (Option α) := match t with | .non => .ok none | t => (as t).bind fun a => .ok (some a)
/-! the operations -/
theorem lo_as {as : T → R α} {f : α → T} (h : As as f) (x : Option T) : Lo x ((optR x).bind as) f := by
  cases x with
  | none => unfold optR; rw [R.bind_bad]; trivial
  | some t =>
    unfold optR; rw [R.bind_ok]
    rcases h.val (t := t) rfl with e | ⟨a, e, q⟩
    · rw [e]; trivial
    · rw [e, q]; exact rfl
theorem lo_asL {as : List T → R (List α)} {f : α → T} (h : AsS as (List.map f)) (x : Option O) : Lo x ((optL x).bind as) (oL f) := by
  cases x with
  | none => unfold optL; rw [R.bind_bad]; trivial
  | some o =>
    cases o with
    | l ts =>
      unfold optL; simp only [R.bind_ok]
      rcases h.val (t := ts) rfl with e | ⟨a, e, q⟩
      · rw [e]; trivial
      · rw [e, q]; exact rfl
    | dk _ _ => unfold optL; simp only [R.bind_bad]; trivial
    | dt _ _ => unfold optL; simp only [R.bind_bad]; trivial
/-- the least, the greatest -/
def mmR (pick : PyData → List PyData → PyData) (as : T → R α) (x : T) : R α := (optR (mmO pick [x])).bind as
theorem ew_mm {pick : PyData → List PyData → PyData} {as : T → R α} {f : α → T} {f1 : α1 → T} {k : α → R γ} (hf : As as f) (h : EW Γ es r (fun a => (mmR pick as (f1 a.1)).bind k) (aC f1 aN) Γ') : EW Γ (calF (mmO pick) es) r k f Γ' := ew_calFp (r0 := fun (a : α1 × Unit) => mmR pick as (f1 a.1)) (fun _ => lo_as hf _) h
/-- s.join(x) -/
def joinR (s : Str) (x : T) : R Str := (optR (sJoin s x)).bind asS
theorem ew_join {f2 : α2 → T} {k1 : Str → R γ} {k : Str → R γ} (h1 : EW Γ e1 r k1 eS Γ') (h2 : ∀ a, EW Γ' e2 (k1 a) (fun b => (joinR a (f2 b)).bind k) f2 Γ'') : EW Γ (sM1 sJoin e1 e2) r k eS Γ'' := ew_m1p (fun a b => lo_as as_S _) h1 h2
def cntR (x : List T) (y : T) : R Int := (optR (cntO (.lst x) y)).bind asI
theorem ew_cnt {f1 : α1 → T} {f2 : α2 → T} {k1 : List α1 → R γ} {k : Int → R γ} (h1 : EW Γ e1 r k1 (eL f1) Γ') (h2 : ∀ a, EW Γ' e2 (k1 a) (fun b => (cntR (a.map f1) (f2 b)).bind k) f2 Γ'') : EW Γ (lM1 (fun xs y => cntO (.lst xs) y) e1 e2) r k eI Γ'' :=
  ew_bind h1 fun a => ew_bind (h2 a) fun b => ew_lift (lo_as as_I _)
/-- x in y, texts -/
def inSR (x y : Str) : R Bool := (optR (inO (eS x) (eS y))).bind asB
theorem ew_inS {k1 : Str → R γ} {k : Bool → R γ} (h1 : EW Γ e1 r k1 eS Γ') (h2 : ∀ a, EW Γ' e2 (k1 a) (fun b => (inSR a b).bind k) eS Γ'') : EW Γ (op2 inO e1 e2) r k eB Γ'' := ew_op2p (fun a b => lo_as as_B _) h1 h2
end
end FL.NL

/-! NL18: constants as arguments; zip(*rows); stars in displays. -/
namespace FL.NL
open PySem
/-- a constant, then the others -/
theorem ew_consc {α1 α2 γ : Type} {t : T} (a : α1) (f1 : α1 → T) {es : M (List T)} {f2 : α2 → List T} {k : α1 × α2 → R γ} {r : R γ} {Γ Γ'' : Ctx} (h2 : EW Γ es r (fun b => k (a, b)) f2 Γ'') (h : f1 a = t := by rfl) : EW Γ (rdCons (rdC t) es) r k (aC f1 f2) Γ'' := fun β P K hk ρ hs => by
  have e : rdCons (rdC t) es ρ = (es ρ).bind fun xs ρ => .ok (f1 a :: xs) ρ := by
    unfold rdCons rdC
    rw [h]
    rfl
  rw [e, res_bind_assoc]
  exact h2 β P _ (fun b ρ' hs' => hk (a, b) ρ' hs') ρ hs
/-- a name's value, hidden from the unifier's patterns -/
def vv {α : Type} (a : α) : α := a
/-- tests with no effects -/
theorem sw_ifp {γ : Type} {Γ Γ' : Ctx} {c : M Bool} {sa sb s2 : MS} {ra rb : R γ} {P : γ → Res Fl → Prop} (b : Bool) (hc : ∀ {γ : Type} (k : Bool → R γ), EW Γ c (k b) k idB Γ') (ha : SW Γ' (sq sa s2) ra P) (hb : SW Γ' (sq sb s2) rb P) : SW Γ (sq (sIf c sa sb) s2) (if b = true then ra else rb) P := sw_if (hc (fun b => if b = true then ra else rb)) ha hb
/-! zip(*rows) -/
/-! displays of one type, with stars -/
/-! among, however it is decided -/
theorem in_Lg {α : Type} [DecidableEq α] {f : α → T} (h : Dat 8 f) [D : ∀ (a : α) (xs : List α), Decidable (a ∈ xs)] (a : α) (xs : List α) : inO (f a) (eL f xs) = some (eB (decide (a ∈ xs))) := by
  have e := in_L h a xs
  rw [e]; congr
theorem in_Tg {α : Type} [DecidableEq α] {f : α → T} (h : Dat 8 f) [D : ∀ (a : α) (xs : List α), Decidable (a ∈ xs)] (a : α) (xs : List α) : inO (f a) (eT f xs) = some (eB (decide (a ∈ xs))) := by
  have e := in_T h a xs
  rw [e]; congr
/-! and, or: the left side with no effects -/
theorem ew_andTxp {γ : Type} {Γ Γ' : Ctx} {g h : M Bool} {k : Bool → R γ} {rb : R Bool} (b : Bool) (h1 : ∀ {γ : Type} (k : Bool → R γ), EW Γ g (k b) k idB Γ') (h2 : EV Γ' h rb idB Γ') : EW Γ (andT g h) ((if b = true then rb else .ok false).bind k) k idB Γ' := ew_andTx (h1 fun a => (if a = true then rb else .ok false).bind k) h2
theorem ew_orTxp {γ : Type} {Γ Γ' : Ctx} {g h : M Bool} {k : Bool → R γ} {rb : R Bool} (b : Bool) (h1 : ∀ {γ : Type} (k : Bool → R γ), EW Γ g (k b) k idB Γ') (h2 : EV Γ' h rb idB Γ') : EW Γ (orT g h) ((if b = true then .ok true else rb).bind k) k idB Γ' := ew_orTx (h1 fun a => (if a = true then .ok true else rb).bind k) h2
/-! operands with no effects -/
section
variable {α α1 α2 γ : Type} {Γ Γ' Γ'' : Ctx} {e1 e2 : M T} {o : T → T → Option T} {f1 : α1 → T} {f2 : α2 → T} {f : α → T} {k : α → R γ} {r : R γ}
theorem ew_op2b {w : α1 → α2 → α} (hw : ∀ a b, o (f1 a) (f2 b) = some (f (w a b))) (a : α1) (h1 : ∀ {γ : Type} (k : α1 → R γ), EW Γ e1 (k a) k f1 Γ') (b : α2) (h2 : ∀ {γ : Type} (k : α2 → R γ), EW Γ' e2 (k b) k f2 Γ'') : EW Γ (op2 o e1 e2) (k (w a b)) k f Γ'' :=
  ew_op2 hw (h1 fun a => k (w a b)) fun a => h2 fun b => k (w a b)
theorem ew_op2pb {r0 : α1 → α2 → R α} (hw : ∀ a b, Lo (o (f1 a) (f2 b)) (r0 a b) f) (a : α1) (h1 : ∀ {γ : Type} (k : α1 → R γ), EW Γ e1 (k a) k f1 Γ') (b : α2) (h2 : ∀ {γ : Type} (k : α2 → R γ), EW Γ' e2 (k b) k f2 Γ'') : EW Γ (op2 o e1 e2) ((r0 a b).bind k) k f Γ'' :=
  ew_op2p hw (h1 fun a => (r0 a b).bind k) fun a => h2 fun b => (r0 a b).bind k
theorem ew_op2r {w : α1 → α2 → α} (hw : ∀ a b, o (f1 a) (f2 b) = some (f (w a b))) (b : α2) (h2 : ∀ {γ : Type} (k : α2 → R γ), EW Γ' e2 (k b) k f2 Γ'') (h1 : EW Γ e1 r (fun a => k (w a b)) f1 Γ') : EW Γ (op2 o e1 e2) r k f Γ'' :=
  ew_op2 hw h1 fun a => h2 fun b => k (w a b)
theorem ew_op2pr {r0 : α1 → α2 → R α} (hw : ∀ a b, Lo (o (f1 a) (f2 b)) (r0 a b) f) (b : α2) (h2 : ∀ {γ : Type} (k : α2 → R γ), EW Γ' e2 (k b) k f2 Γ'') (h1 : EW Γ e1 r (fun a => (r0 a b).bind k) f1 Γ') : EW Γ (op2 o e1 e2) r k f Γ'' :=
  ew_op2p hw h1 fun a => h2 fun b => (r0 a b).bind k
theorem ew_op2l {w : α1 → α2 → α} (hw : ∀ a b, o (f1 a) (f2 b) = some (f (w a b))) (a : α1) (h1 : ∀ {γ : Type} (k : α1 → R γ), EW Γ e1 (k a) k f1 Γ') (h2 : EW Γ' e2 r (fun b => k (w a b)) f2 Γ'') : EW Γ (op2 o e1 e2) r k f Γ'' := fun β P K hk ρ hs => by
  obtain ⟨ρ', e, hs'⟩ := ew_val h1 hs
  have e0 : op2 o e1 e2 ρ = (e2 ρ').bind fun y ρ => liftO (o (f1 a) y) ρ := by unfold op2; rw [e]; rfl
  rw [e0, res_bind_assoc]
  refine h2 β P _ (fun b ρ2 hs2 => ?_) ρ' hs'
  rw [hw a b]; exact hk _ ρ2 hs2
theorem ew_consp {β : Type} {es : M (List T)} {g : β → List T} {k : α1 × β → R γ} (a : α1) (h1 : ∀ {γ : Type} (k : α1 → R γ), EW Γ e1 (k a) k f1 Γ') (h2 : EW Γ' es r (fun b => k (a, b)) g Γ'') : EW Γ (rdCons e1 es) r k (aC f1 g) Γ'' := fun δ P K hk ρ hs => by
  obtain ⟨ρ', e, hs'⟩ := ew_val h1 hs
  have e0 : rdCons e1 es ρ = (es ρ').bind fun xs ρ => .ok (f1 a :: xs) ρ := by unfold rdCons; rw [e]; rfl
  rw [e0, res_bind_assoc]
  exact h2 δ P _ (fun b ρ2 hs2 => hk (a, b) ρ2 hs2) ρ' hs'
end
/-! plain values, told in full -/
def EP {α δ : Type} (Γ : Ctx) (e : M δ) (a : α) (f : α → δ) : Prop := ∀ ρ, St ρ Γ → e ρ = .ok (f a) ρ
theorem ew_of {α δ γ : Type} {Γ : Ctx} {e : M δ} {a : α} {f : α → δ} {k : α → R γ} (h : EP Γ e a f) : EW Γ e (k a) k f Γ := ew_pure h
theorem ep_var {α : Type} {Γ : Ctx} {i : Nat} (a : α) (f : α → T) (h : Γ[i]? = some (.is (.fz (f a))) := by rfl) : EP Γ (rdA i) a f := fun ρ hs => by
  unfold rdA
  rw [hs.is h]
theorem ep_nil {Γ : Ctx} : EP Γ rdNil () aN := fun ρ hs => rfl
theorem ep_cons {α β : Type} {Γ : Ctx} {e : M T} {es : M (List T)} {a : α} {b : β} {f : α → T} {g : β → List T} (h1 : EP Γ e a f) (h2 : EP Γ es b g) : EP Γ (rdCons e es) (a, b) (aC f g) := fun ρ hs => by
  unfold rdCons
  rw [h1 ρ hs]
  show (es ρ).bind _ = _
  rw [h2 ρ hs]; rfl
theorem ep_tupP {α : Type} {Γ : Ctx} {es : M (List T)} {p : α} {g : α → List T} (h : EP Γ es p g) (hl : Nat.ble (g p).length 16777216 = true := by rfl) : EP Γ (calF tupO es) p (eP g) := fun ρ hs => by
  show (es ρ).bind _ = _
  rw [h ρ hs]
  show liftO (tupO (g p)) ρ = _
  unfold tupO
  rw [if_pos (Nat.le_of_ble_eq_true hl)]; rfl
/-! sums -/
/-! sets -/
def lsetXR (x : T) : R Int := (optR (lenSetX x)).bind asI
theorem ew_lsetX {α1 γ : Type} {Γ Γ' : Ctx} {e1 : M T} {f1 : α1 → T} {k : Int → R γ} {r : R γ} (h : EW Γ e1 r (fun a => (lsetXR (f1 a)).bind k) f1 Γ') : EW Γ (op1 lenSetX e1) r k eI Γ' := ew_op1p (fun a => lo_as as_I _) h
/-! reversed -/
@[irreducible] def revSR (z : Str) (i : Int) : R Str := if i = -1 ∧ z.length ≤ 16777216 then .ok (revStr z) else .bad
theorem rev_S (z : Str) (i : Int) : Lo (revS (eS z) (eI i)) (revSR z i) eS := by
  show Lo (if i = -1 ∧ z.length ≤ 16777216 then some (T.str (revStr z)) else none) _ _
  unfold revSR
  by_cases h : i = -1 ∧ z.length ≤ 16777216
  · rw [if_pos h, if_pos h]; exact rfl
  · rw [if_neg h, if_neg h]; trivial
end FL.NL

/-! NL19: dicts whose keys are tuples of ints and whose values are ints. -/
namespace FL.NL
open PySem
section
variable {Γ Γ' Γ'' : Ctx} {i : Nat} {e1 e2 : M T} {γ : Type}
end
end FL.NL

/-! NL20: dicts whose keys are tuples of ints, every value True: sets that keep their order. -/
namespace FL.NL
open PySem
section
variable {Γ Γ' : Ctx} {i : Nat} {e : M T} {s2 : MS} {γ : Type} {r : R γ} {P : γ → Res Fl → Prop}
end
end FL.NL

/-! NL21: four names at once. -/
namespace FL.NL
open PySem
section
variable {Γ Γ' : Ctx} {i j l m : Nat} {s2 : MS} {γ : Type} {r : R γ} {P : γ → Res Fl → Prop}
end
end FL.NL

/-! NL22: dicts of any keys (ints, texts, tuples of such) and any values. -/
namespace FL.NL
open PySem
abbrev Dic (κ α : Type) := List (κ × α)
section
variable {κ α β : Type} [DecidableEq κ]
def mGt : Dic κ α → κ → Option α
  | [], _ => none
  | p :: d, k => if p.1 = k then some p.2 else mGt d k
def mRp : Dic κ α → κ → α → Dic κ α
  | [], _, _ => []
  | p :: d, k, v => (p.1, if p.1 = k then v else p.2) :: mRp d k v
def mSt (d : Dic κ α) (k : κ) (v : α) : Dic κ α := if (d.any fun p => decide (p.1 = k)) = true then mRp d k v else d ++ [(k, v)]
@[irreducible] def msR (d : Dic κ α) (k : κ) (v : α) : R (Dic κ α) := if d.length < 16777216 then .ok (mSt d k v) else .bad
def mK (d : Dic κ α) : List κ := d.map Prod.fst
def mV (f : α → T) (d : Dic κ α) : List T := d.map fun p => f p.2
theorem valP_M (f : α → T) (k : κ) : ∀ d : Dic κ α, valP (mK d) (mV f d) k = (mGt d k).map f
  | [] => rfl
  | p :: d => by
    show (if p.1 = k then some (f p.2) else valP (mK d) (mV f d) k) = _
    unfold mGt
    by_cases h : p.1 = k
    · rw [if_pos h, if_pos h]; rfl
    · rw [if_neg h, if_neg h]; exact valP_M f k d
theorem repP_M (f : α → T) (k : κ) (v : α) : ∀ d : Dic κ α, repP (mK d) (mV f d) k (f v) = mV f (mRp d k v)
  | [] => rfl
  | p :: d => by
    show (if p.1 = k then f v else f p.2) :: repP (mK d) (mV f d) k (f v) = f (if p.1 = k then v else p.2) :: mV f (mRp d k v)
    rw [repP_M f k v d]
    by_cases h : p.1 = k
    · rw [if_pos h, if_pos h]
    · rw [if_neg h, if_neg h]
theorem mRp_K (k : κ) (v : α) : ∀ d : Dic κ α, mK (mRp d k v) = mK d
  | [] => rfl
  | p :: d => by
    show p.1 :: mK (mRp d k v) = p.1 :: mK d
    rw [mRp_K k v d]
theorem putP_M (f : α → T) (d : Dic κ α) (k : κ) (v : α) : putP (mK d) (mV f d) k (f v) = (mK (mSt d k v), mV f (mSt d k v)) := by
  unfold putP mSt
  have e : ((mK d).any fun k' => decide (k' = k)) = d.any fun p => decide (p.1 = k) := by unfold mK; rw [List.any_map]; rfl
  rw [e]
  by_cases h : (d.any fun p => decide (p.1 = k)) = true
  · rw [if_pos h, if_pos h, repP_M, mRp_K]
  · rw [if_neg h, if_neg h]
    unfold mK mV
    simp
/-- what a kind of keys must give -/
structure KOk (ek : κ → T) (ob : List κ → List T → O) : Prop where
  get : ∀ ks ts k, getO (ob ks ts) (ek k) = some (valP ks ts k)
  put : ∀ ks ts k t, putO (ob ks ts) (ek k) t = if ks.length < 16777216 then some (ob (putP ks ts k t).1 (putP ks ts k t).2) else none
  tget : ∀ ks ts k, getH (.t (frzO (ob ks ts))) (ek k) = some (valP ks ts k)
  dO : ∀ ks ts, isDH (.o (ob ks ts)) = true
  dT : ∀ ks ts, isDH (.t (frzO (ob ks ts))) = true
def oM (ob : List κ → List T → O) (f : α → T) (d : Dic κ α) : O := ob (mK d) (mV f d)
def eM (ob : List κ → List T → O) (f : α → T) (d : Dic κ α) : T := frzO (oM ob f d)
def obK (kf : κ → L2.Key) (ks : List κ) (ts : List T) : O := .dk (ks.map kf) ts
structure Fk (ek : κ → T) (kf : κ → L2.Key) : Prop where
  key : ∀ k, keyT (ek k) = some (kf k)
  inj : ∀ a b, kf a = kf b → a = b
  tr : ∀ k, tKey (kf k) = ek k
theorem repP_map {μ : Type} [DecidableEq μ] {kf : κ → μ} (hi : ∀ a b, kf a = kf b → a = b) (k : κ) (t : T) : ∀ (ks : List κ) (ts : List T), repP (ks.map kf) ts (kf k) t = repP ks ts k t
  | [], ts => by cases ts <;> rfl
  | _ :: _, [] => rfl
  | a :: ks, u :: ts => by
    show (if kf a = kf k then t else u) :: repP (ks.map kf) ts (kf k) t = (if a = k then t else u) :: repP ks ts k t
    rw [repP_map hi k t ks ts]
    by_cases h : a = k
    · rw [if_pos h, if_pos (by rw [h])]
    · rw [if_neg h, if_neg (fun e => h (hi _ _ e))]
theorem putP_map {μ : Type} [DecidableEq μ] {kf : κ → μ} (hi : ∀ a b, kf a = kf b → a = b) (k : κ) (t : T) (ks : List κ) (ts : List T) : putP (ks.map kf) ts (kf k) t = ((putP ks ts k t).1.map kf, (putP ks ts k t).2) := by
  unfold putP
  have e : ((ks.map kf).any fun k' => decide (k' = kf k)) = ks.any fun k' => decide (k' = k) := by
    rw [List.any_map]
    congr 1
    funext a
    show decide (kf a = kf k) = decide (a = k)
    by_cases h : a = k
    · simp [h]
    · have : kf a ≠ kf k := fun e => h (hi _ _ e)
      simp [h, this]
  rw [e]
  by_cases h : (ks.any fun k' => decide (k' = k)) = true
  · rw [if_pos h, if_pos h, repP_map hi]
  · rw [if_neg h, if_neg h]; simp
end
def kfI (i : Int) : L2.Key := .inl i
def kfS (s : Str) : L2.Key := .inr s
theorem fk_S : Fk eS kfS := ⟨fun _ => rfl, fun a b h => by unfold kfS at h; injection h, fun _ => rfl⟩
section
variable {κ α : Type} [DecidableEq κ] {ek : κ → T} {ob : List κ → List T → O} {f : α → T} {Γ Γ' Γ'' : Ctx} {i : Nat} {e e1 e2 : M T} {s2 : MS} {γ : Type} {r : R γ} {P : γ → Res Fl → Prop} {d : Dic κ α}
/-- the slot holds the dict -/
abbrev IsM (ob : List κ → List T → O) (f : α → T) (d : Dic κ α) (p : Option Sp) : Prop := p = some (.is (.ow (oM ob f d))) ∨ p = some (.is (.fz (eM ob f d)))
theorem IsM.get (hk : KOk ek ob) (h : IsM ob f d Γ[i]?) {ρ : Env} (hs : St ρ Γ) (k : κ) : isDH (has i ρ) = true ∧ getH (has i ρ) (ek k) = some ((mGt d k).map f) := by
  rcases h with h | h
  · have o0 : has i ρ = .o (oM ob f d) := by unfold has; rw [hs.is h]
    rw [o0]
    refine ⟨hk.dO _ _, ?_⟩
    show getO (oM ob f d) (ek k) = _
    unfold oM
    rw [hk.get, valP_M]
  · have o0 : has i ρ = .t (eM ob f d) := by unfold has; rw [hs.is h]
    rw [o0]
    refine ⟨hk.dT _ _, ?_⟩
    unfold eM oM
    rw [hk.tget, valP_M]
theorem ew_frzMM {eo : M O} {k : Dic κ α → R γ} (h : EW Γ eo r k (oM ob f) Γ') : EW Γ (frzM eo) r k (eM ob f) Γ' := ew_bind h fun a => ew_pure (a := a) fun ρ hs => rfl
/-- sorted(d) -/
def sMR (o : T → Option O) (as : T → R κ) (x : T) : R (List κ) := (optL (o x)).bind (asAll as)
theorem ew_sortM {as : T → R κ} (hf : As as ek) {o : T → Option O} {es : M (List T)} {k : List κ → R γ} (h : EW Γ es r (fun a => (sMR o as (eM ob f a.1)).bind k) (aC (eM ob f) aN) Γ') : EW Γ (calO (one1 o) es) r k (oL ek) Γ' :=
  ew_calOp (r0 := fun (a : Dic κ α × Unit) => sMR o as (eM ob f a.1)) (fun a => show Lo (one1 o (aC (eM ob f) aN a)) (sMR o as (eM ob f a.1)) (oL ek) from lo_asL (f := ek) (asS_All hf) (o (eM ob f a.1))) h
end
/-! ### raise, told -/
section
variable {Γ Γ' : Ctx} {γ : Type} {P : γ → Res Fl → Prop} {c g : Str}
end
/-! ### {k: v for ..} -/
section
variable {κ α β α2 : Type} [DecidableEq κ]
def dcGo (p : α → R Bool) (kk : α → R κ) (vv : α → R β) : List α → Dic κ β → R (Dic κ β)
  | [], acc => .ok acc
  | x :: xs, acc => (p x).noX.bind fun b => if b = true then (kk x).noX.bind fun k => (vv x).noX.bind fun v => (msR acc k v).bind fun acc => dcGo p kk vv xs acc else dcGo p kk vv xs acc
variable {vs vs1 : List Nat} {g g1 : MG} {test test1 : M Bool} {ek0 ev0 : M T} {fx : α → T} {fx1 : α2 → T} {ek : κ → T} {fv : β → T} {sl : α → List (Nat × Sp)} {sl1 : α → α2 → List (Nat × Sp)} {Γ Γ0 : Ctx}
theorem mK_len (d : Dic κ β) : (mK d).length = d.length := by unfold mK; rw [List.length_map]
theorem dcK_good {kf : κ → L2.Key} (hk : Fk ek kf) {p : α → R Bool} {kk : α → R κ} {vv : α → R β} (ht : ∀ x, GW (wipeC Γ vs) g (fx x) (setAll Γ (sl x))) (hv : ∀ x, ((sl x).all fun q => vs.contains q.1) = true) (hp : ∀ x, EV (setAll Γ (sl x)) test (p x) idB (setAll Γ (sl x))) (he : ∀ x, EV (setAll Γ (sl x)) ek0 (kk x) ek (setAll Γ (sl x))) (hw : ∀ x, EV (setAll Γ (sl x)) ev0 (vv x) fv (setAll Γ (sl x))) :
    ∀ (xs : List α) (acc : Dic κ β) (ρ : Env), St ρ Γ → Good (fun (d : Dic κ β) x => ∃ ρ', x = .ok ((mK d).map kf, mV fv d) ρ' ∧ St ρ' Γ) (dcL vs g test ek0 ev0 (xs.map fx) ((mK acc).map kf, mV fv acc) ρ) (dcGo p kk vv xs acc)
  | [], acc, ρ, hs => ⟨ρ, rfl, hs⟩
  | x :: xs, acc, ρ, hs => by
    obtain ⟨ρ1, e1, hs1⟩ := ht x _ (hs.wipe vs)
    show Good _ (match g (fx x) (wipeE ρ vs) with | none => _ | some ρ1 => _) _
    rw [e1]
    refine ((hp x).nx hs1).next (fun e he => (noX_of he).elim) fun b ⟨ρ2, e2, hs2⟩ => ?_
    simp only [e2, bind_ok]
    cases b with
    | false =>
      show Good _ (if false = true then _ else _) (if false = true then _ else _)
      rw [if_neg (by decide), if_neg (by decide)]
      exact dcK_good hk ht hv hp he hw xs acc _ (hs.bring hs2 (hv x))
    | true =>
      show Good _ (if true = true then _ else _) (if true = true then _ else _)
      rw [if_pos rfl, if_pos rfl]
      refine ((he x).nx hs2).next (fun e he => (noX_of he).elim) fun k ⟨ρ3, e3, hs3⟩ => ?_
      simp only [e3, bind_ok]
      refine ((hw x).nx hs3).next (fun e he => (noX_of he).elim) fun v ⟨ρ4, e4, hs4⟩ => ?_
      simp only [e4, bind_ok, hk.key]
      show Good _ (if ((mK acc).map kf).length < 16777216 then _ else _) _
      rw [List.length_map, mK_len]
      unfold msR
      by_cases hl : acc.length < 16777216
      · rw [if_pos hl, if_pos hl, R.bind_ok]
        have := dcK_good hk ht hv hp he hw xs (mSt acc k v) _ (hs.bring hs4 (hv x))
        rw [putP_map hk.inj, putP_M]
        exact this
      · rw [if_neg hl, if_neg hl, R.bind_bad]; trivial
theorem ew_dcK {γ : Type} {r : R γ} {src : M (List T)} {kf : κ → L2.Key} (hk : Fk ek kf) {p : α → R Bool} {kk : α → R κ} {vv : α → R β} {k : Dic κ β → R γ} (hsrc : EW Γ0 src r (fun xs => (dcGo p kk vv xs []).bind k) (List.map fx) Γ) (hf : freeC Γ vs = true) (ht : ∀ x, GW (wipeC Γ vs) g (fx x) (setAll Γ (sl x))) (hv : ∀ x, ((sl x).all fun q => vs.contains q.1) = true)
    (hp : ∀ x, EV (setAll Γ (sl x)) test (p x) idB (setAll Γ (sl x))) (he : ∀ x, EV (setAll Γ (sl x)) ek0 (kk x) ek (setAll Γ (sl x))) (hw : ∀ x, EV (setAll Γ (sl x)) ev0 (vv x) fv (setAll Γ (sl x))) : EW Γ0 (dcM vs src g test ek0 ev0) r k (oM (obK kf) fv) Γ := fun β' P K hK ρ hs => by
  unfold dcM
  rw [res_bind_assoc]
  refine hsrc β' P _ (fun xs ρ1 hs1 => ?_) ρ hs
  rw [if_pos (hs1.free hf), res_bind_assoc]
  show Good P _ ((dcGo p kk vv xs []).bind k)
  refine (dcK_good hk ht hv hp he hw xs [] ρ1 hs1).next (fun e he => by
    have he : dcL vs g test ek0 ev0 (xs.map fx) ([], []) ρ1 = .exc e := he
    rw [he]; rfl) fun d ⟨ρ2, e2, hs2⟩ => ?_
  have e2 : dcL vs g test ek0 ev0 (xs.map fx) ([], []) ρ1 = .ok ((mK d).map kf, mV fv d) ρ2 := e2
  rw [e2]
  exact hK d ρ2 hs2
end
end FL.NL

/-! NL23: sorted(set(x)). -/
namespace FL.NL
open PySem
@[irreducible] def ssR (xs : List Int) : R (List Int) := if xs.length ≤ 4000 then .ok (sdI xs) else .bad
end FL.NL

/-! NL24: sorted(d.items()). -/
namespace FL.NL
open PySem
end FL.NL

/-! NL25: x < y, data alike (PD's Key tells the same in the math texts; here for the rules alone). -/
namespace FL.NL
open PySem PySem.W
section
variable {α β : Type}
end
end FL.NL

/-! NL26: in, for things of any kind (partial). -/
namespace FL.NL
open PySem
variable {α β γ : Type} {α1 α2 : Type}
def inPR' (x y : T) : R Bool := (optR (ninO x y)).bind asB
end FL.NL

/-! NL27: for k, v in d.items(), d a name that holds a dict of tuple keys and is not used any more. -/
namespace FL.NL
open PySem
end FL.NL

/-! NL28: list.count of data. -/
namespace FL.NL
open PySem PySem.Spec PyProof.Rows L2
variable {α1 α2 γ : Type} {Γ Γ' Γ'' : Ctx} {e1 e2 : M T} {r : R γ}
end FL.NL

/-! NL29: for k in {k: v for ..}, the keys tuples. -/
namespace FL.NL
open PySem
end FL.NL

/-! NL30: len(d), d of tuple keys. -/
namespace FL.NL
open PySem
end FL.NL

/-! NL31: rows unpacked. -/
namespace FL.NL
open PySem
end FL.NL

/-! NL32: groups (for x in xs: d.setdefault(k, []).append(x)), and d.values(). -/
namespace FL.NL
open PySem
section
variable {κ α γ : Type} [DecidableEq κ] {Γ Γ1 Δ : Ctx} {Γ2 : α → Ctx} {gi i : Nat} {src : M (List T)} {g : MG} {kfm : M T} {s2 : MS} {r : R γ} {kr : α → R κ} {f : α → T} {ek : κ → T} {kf : κ → List L2.Key} {k : Dic κ (List α) → R γ} {P : γ → Res Fl → Prop}
end
end FL.NL

/-! NL33: any(row of ints); dict(zip(keys, values)). -/
namespace FL.NL
open PySem
end FL.NL

/-! NL34: sorted(set(x)), x a list of texts. -/
namespace FL.NL
open PySem
theorem strsT_map : ∀ xs : List Str, strsT (xs.map eS) = some xs
  | [] => rfl
  | x :: xs => by
    show (strsT (xs.map eS)).map (x :: ·) = _
    rw [strsT_map xs]; rfl
@[irreducible] def sxR (xs : List Str) : R (List Str) := if xs.length ≤ 4000 then .ok (sdS xs) else .bad
theorem sx_S (p : List Str × Unit) : Lo (one1 ssX (aC (eL eS) aN p)) (sxR p.1) (oL eS) := by
  show Lo (match strsT (p.1.map eS) with
    | some ns => if ns.length ≤ 4000 then some (O.l ((sdS ns).map T.str)) else none
    | none => none) _ _
  rw [strsT_map]
  unfold sxR
  simp only
  by_cases h : p.1.length ≤ 4000
  · rw [if_pos h, if_pos h]; exact rfl
  · rw [if_neg h, if_neg h]; trivial
theorem ew_ssetX {Γ Γ' : Ctx} {γ : Type} {r : R γ} {es : M (List T)} {k : List Str → R γ} (h : EW Γ es r (fun a => (sxR a.1).bind k) (aC (eL eS) aN) Γ') : EW Γ (calO (one1 ssX) es) r k (oL eS) Γ' :=
  ew_calOp (r0 := fun (a : List Str × Unit) => sxR a.1) (fun a => sx_S a) h
end FL.NL

/-! PD: typed data in order: sorted, min, max. -/
namespace FL.NL
open PySem PySem.W
section
variable {α β : Type}
/-- encoded data, all alike -/
structure Key (f : α → T) (d : α → PyData) (n : Nat) : Prop where
  td : ∀ a, toD (f a) = some (d a)
  al : ∀ a b, alike (d a) (d b) = true
  nn : ∀ a, d a ≠ .none
  dp : ∀ a, (d a).depth ≤ n
  pl : ∀ a, plT (f a) = true
theorem key_I : Key eI PyData.int 0 := ⟨fun _ => rfl, fun _ _ => rfl, fun _ => nofun, fun _ => Nat.le_refl _, fun _ => rfl⟩
theorem key_S : Key eS PyData.str 0 := ⟨fun _ => rfl, fun _ _ => rfl, fun _ => nofun, fun _ => Nat.le_refl _, fun _ => rfl⟩
theorem toDs_key {f : α → T} {d : α → PyData} (h : ∀ a, toD (f a) = some (d a)) : ∀ xs : List α, toDs (xs.map f) = some (xs.map d)
  | [] => by simp [toDs]
  | x :: xs => by simp only [List.map_cons, toDs, h x, toDs_key h xs]
theorem depthAll_map {d : α → PyData} {n : Nat} (h : ∀ a, (d a).depth ≤ n) : ∀ xs : List α, PyData.depthAll (xs.map d) ≤ n
  | [] => by simp [PyData.depthAll]
  | x :: xs => by simp only [List.map_cons, PyData.depthAll]; have := h x; have := depthAll_map h xs; omega
theorem plTs_map {f : α → T} (h : ∀ a, plT (f a) = true) : ∀ xs : List α, plTs (xs.map f) = true
  | [] => rfl
  | x :: xs => by simp only [List.map_cons, plTs, h x, plTs_map h xs, Bool.and_self]
/-- in what order -/
def kLt (d : α → PyData) (a b : α) : Bool := dataLt (d a) (d b)
theorem kLt_irr {d : α → PyData} (a : α) : kLt d a a = false := PyProof.Rows.lex_irrefl _
theorem kLt_trans {d : α → PyData} {a b c : α} (h : kLt d a b = true) (h2 : kLt d b c = true) : kLt d a c = true := PyProof.Rows.lex_trans _ _ _ h h2
theorem kLt_asy {d : α → PyData} {a b : α} (h : kLt d a b = true) : kLt d b a = false := by
  cases e : kLt d b a with
  | false => rfl
  | true => have := kLt_trans h e; rw [kLt_irr] at this; cases this
theorem kLt_neg {d : α → PyData} {a b c : α} (h : kLt d a b = false) (h2 : kLt d b c = false) : kLt d a c = false := by
  cases e : kLt d a c with
  | false => rfl
  | true => rcases PyProof.Rows.lex_negTrans _ _ _ e with h3 | h3
            · exact absurd (h.symm.trans h3) nofun
            · exact absurd (h2.symm.trans h3) nofun
theorem kLt_tot {d : α → PyData} {a b : α} (h : kLt d a b = false) (h2 : kLt d b a = false) : keyToks (d a) = keyToks (d b) := PyProof.Rows.lex_total _ _ h h2
/-- different data have different keys -/
def Inj (d : α → PyData) : Prop := ∀ a b, keyToks (d a) = keyToks (d b) → a = b
theorem inj_I : Inj PyData.int := fun a b h => by simpa [keyToks] using h
/-! sorting -/
def kSort (d : α → PyData) (xs : List α) : List α := xs.mergeSort fun a b => !kLt d b a
theorem kSort_perm {d : α → PyData} {xs : List α} : (kSort d xs).Perm xs := List.mergeSort_perm _ _
def Asc (d : α → PyData) (xs : List α) : Prop := xs.Pairwise fun a b => kLt d b a = false
theorem kSort_asc {d : α → PyData} {xs : List α} : Asc d (kSort d xs) := by
  have := List.pairwise_mergeSort (le := fun a b => !kLt d b a) (fun a b c h1 h2 => by
    simp only [Bool.not_eq_true'] at h1 h2 ⊢
    exact kLt_neg h2 h1) (fun a b => by
    cases e : kLt d b a with
    | false => rfl
    | true => simp [kLt_asy e]) xs
  exact this.imp fun h => by simpa using h
theorem asc_one {d : α → PyData} (hi : Inj d) : ∀ {xs ys : List α}, xs.Perm ys → Asc d xs → Asc d ys → xs = ys
  | [], ys, hq, _, _ => by simpa using hq.symm.eq_nil
  | x :: xs, [], hq, _, _ => by simpa using hq.eq_nil
  | x :: xs, y :: ys, hq, h1, h2 => by
    obtain ⟨a1, a2⟩ := List.pairwise_cons.mp h1
    obtain ⟨b1, b2⟩ := List.pairwise_cons.mp h2
    have e : x = y := by
      have m1 := hq.mem_iff.mp (List.mem_cons_self (a := x) (l := xs))
      have m2 := hq.mem_iff.mpr (List.mem_cons_self (a := y) (l := ys))
      rcases List.mem_cons.mp m1 with e | m1
      · exact e
      · rcases List.mem_cons.mp m2 with e | m2
        · exact e.symm
        · exact hi _ _ (kLt_tot (b1 x m1) (a1 y m2))
    subst e
    rw [asc_one hi (List.Perm.cons_inv hq) a2 b2]
theorem kSort_one {d : α → PyData} (hi : Inj d) {xs ys : List α} (h : xs.Perm ys) : kSort d xs = kSort d ys := asc_one hi (kSort_perm.trans (h.trans kSort_perm.symm)) kSort_asc kSort_asc
theorem asAll_map {as : T → R α} {f : α → T} (h : ∀ a, as (f a) = .ok a) : ∀ xs : List α, asAll as (xs.map f) = .ok xs
  | [] => rfl
  | x :: xs => by simp only [List.map_cons, asAll, h x, R.bind_ok, asAll_map h xs]
/-! the least, the greatest -/
def kMin (d : α → PyData) (x : α) (xs : List α) : α := xs.foldl (fun a y => if kLt d y a = true then y else a) x
def kMax (d : α → PyData) (x : α) (xs : List α) : α := xs.foldl (fun a y => if kLt d a y = true then y else a) x
theorem minD_map {d : α → PyData} : ∀ (xs : List α) (x : α), minD (d x) (xs.map d) = d (kMin d x xs)
  | [], x => rfl
  | y :: xs, x => by
    have := minD_map (d := d) xs (if kLt d y x = true then y else x)
    unfold minD kMin at this ⊢
    simp only [List.map_cons, List.foldl_cons]
    rw [← this]
    unfold kLt
    split <;> rfl
theorem maxD_map {d : α → PyData} : ∀ (xs : List α) (x : α), maxD (d x) (xs.map d) = d (kMax d x xs)
  | [], x => rfl
  | y :: xs, x => by
    have := maxD_map (d := d) xs (if kLt d x y = true then y else x)
    unfold maxD kMax at this ⊢
    simp only [List.map_cons, List.foldl_cons]
    rw [← this]
    unfold kLt
    split <;> rfl
theorem mm_ok {pick : PyData → List PyData → PyData} {f : α → T} {d : α → PyData} {n : Nat} (K : Key f d n) (hn : n ≤ 60) {as : T → R α} (ha : ∀ a, as (f a) = .ok a) {x : α} {xs : List α} {b : α} (hp : pick (d x) (xs.map d) = d b) {t : T} (ht : seqT t = some ((x :: xs).map f)) : mmR pick as t = .ok b := by
  have e : mmO pick [t] = some (f b) := by
    unfold mmO
    have et := toDs_key K.td (x :: xs)
    rw [List.map_cons (f := d)] at et
    simp only [ht, et]
    have c1 : plTs ((x :: xs).map f) = true := plTs_map K.pl (x :: xs)
    have c2 : ((d x :: xs.map d).all fun a => (d x :: xs.map d).all fun b => alike a b) = true := by
      simp only [← List.map_cons, List.all_map, List.all_eq_true, Function.comp]
      exact fun a _ b _ => K.al a b
    have c3 : ((d x :: xs.map d).all fun a => match a with | .none => false | _ => true) = true := by
      simp only [← List.map_cons, List.all_map, List.all_eq_true, Function.comp]
      intro a _
      have := K.nn a
      split
      · rename_i h; exact absurd h this
      · rfl
    have c4 : PyData.depthAll (d x :: xs.map d) ≤ 60 := Nat.le_trans (depthAll_map K.dp (x :: xs)) hn
    rw [if_pos ⟨c1, c2, c3, c4⟩, hp, ofD_toD _ _ (K.pl b) (K.td b)]
  unfold mmR
  rw [e]
  unfold optR
  rw [R.bind_ok, ha]
theorem min_ok {f : α → T} {d : α → PyData} {n : Nat} (K : Key f d n) (hn : n ≤ 60) {as : T → R α} (ha : ∀ a, as (f a) = .ok a) {x : α} {xs : List α} : mmR minD as (eL f (x :: xs)) = .ok (kMin d x xs) := mm_ok K hn ha (minD_map xs x) rfl
theorem max_ok {f : α → T} {d : α → PyData} {n : Nat} (K : Key f d n) (hn : n ≤ 60) {as : T → R α} (ha : ∀ a, as (f a) = .ok a) {x : α} {xs : List α} : mmR maxD as (eL f (x :: xs)) = .ok (kMax d x xs) := mm_ok K hn ha (maxD_map xs x) rfl
theorem kMin_spec {d : α → PyData} : ∀ (xs : List α) (x : α), kMin d x xs ∈ x :: xs ∧ ∀ y ∈ x :: xs, kLt d y (kMin d x xs) = false
  | [], x => ⟨List.mem_singleton.mpr rfl, fun y hy => by rw [List.mem_singleton.mp hy]; exact kLt_irr x⟩
  | y :: xs, x => by
    obtain ⟨h1, h2⟩ := kMin_spec (d := d) xs (if kLt d y x = true then y else x)
    have e : kMin d x (y :: xs) = kMin d (if kLt d y x = true then y else x) xs := rfl
    rw [e]
    refine ⟨?_, fun z hz => ?_⟩
    · rcases List.mem_cons.mp h1 with h | h
      · rw [h]; split <;> simp
      · exact List.mem_cons_of_mem _ (List.mem_cons_of_mem _ h)
    · have h3 := h2 _ (List.mem_cons_self ..)
      rcases List.mem_cons.mp hz with rfl | hz
      · by_cases c : kLt d y z = true
        · rw [if_pos c] at h3 ⊢; exact kLt_neg (kLt_asy c) h3
        · rw [if_neg c] at h3 ⊢; exact h3
      · rcases List.mem_cons.mp hz with rfl | hz
        · by_cases c : kLt d z x = true
          · rw [if_pos c] at h3 ⊢; exact h3
          · rw [if_neg c] at h3 ⊢; exact kLt_neg (by simpa using c) h3
        · exact h2 z (List.mem_cons_of_mem _ hz)
theorem kLt_I {a b : Int} : kLt PyData.int a b = decide (a < b) := dataLt_int a b
end
end FL.NL

/-! PA: powers, quotients of intervals, loops (law-free; lines of MA .. MA4). -/
namespace FL.NL
open PySem
variable {α β σ : Type}
/-! MA: powers, quotients of intervals. -/
theorem forR_fold {body : α → σ → R σ} {g : σ → α → σ} (I : σ → Prop) : ∀ {xs : List α} {s : σ}, I s → (∀ x ∈ xs, ∀ s, I s → body x s = .ok (g s x) ∧ I (g s x)) → forR xs body s = .ok (xs.foldl g s) ∧ I (xs.foldl g s)
  | [], s, h, _ => ⟨rfl, h⟩
  | x :: xs, s, h, hb => by
    obtain ⟨e, h1⟩ := hb x (List.mem_cons_self ..) s h
    have := forR_fold (g := g) I (xs := xs) h1 fun x hx => hb x (List.mem_cons_of_mem _ hx)
    refine ⟨?_, this.2⟩
    show (body x s).bind _ = _
    rw [e, R.bind_ok, this.1]; rfl
theorem R.All_bind {Q : β → Prop} {r : R α} {k : α → R β} : R.All Q (r.bind k) ↔ R.All (fun a => R.All Q (k a)) r := by
  induction r with
  | bad => rw [R.bind_bad]; exact Iff.rfl
  | exc e => rw [R.bind_exc]; exact Iff.rfl
  | ok a => rw [R.bind_ok]; exact Iff.rfl
  | dr m f ih =>
    rw [R.bind_dr]
    exact ⟨fun h => ⟨h.1, h.2.1, fun v h0 h1 => (ih v).1 (h.2.2 v h0 h1)⟩, fun h => ⟨h.1, h.2.1, fun v h0 h1 => (ih v).2 (h.2.2 v h0 h1)⟩⟩
theorem sq_lt {b : Int} {s : Nat} (h : b.natAbs < 2 ^ s) : (b * b).natAbs < 2 ^ (2 * s) := by
  rw [Int.natAbs_mul, Nat.two_mul, Nat.pow_add]
  exact Nat.mul_lt_mul'' h h
theorem rg_len {lo : Int} {n : Nat} : (rg lo n).length = n := by simp [rg]
theorem rgR_0 {n : Int} (h0 : 0 ≤ n) (h : n < 4611686018427387904) : rgR 0 n = .ok (rg 0 n.toNat) := by
  unfold rgR b62
  rw [if_pos ⟨⟨by decide, by decide⟩, by omega, h⟩, Int.sub_zero]
theorem rg_succ {lo : Int} {n : Nat} : rg lo (n + 1) = lo :: rg (lo + 1) n := by
  unfold rg
  rw [List.range_succ_eq_map, List.map_cons, List.map_map]
  congr 1
  · simp
  · apply List.map_congr_left
    intro j _
    simp only [Function.comp, Nat.succ_eq_add_one]
    omega
theorem atR_nat {α : Type} {xs : List α} {i : Int} {n : Nat} {a : α} (h : xs[n]? = some a) (e : i = n) : atR xs i = .ok a := by
  subst e
  exact atR_pos (by omega) (by simpa using h)
theorem atR_app {α : Type} {pre : List α} {x : α} {xs : List α} {i : Int} (e : i = pre.length) : atR (pre ++ x :: xs) i = .ok x := atR_nat (n := pre.length) (by simp) e
/-- a quotient's numbers -/
def stp (p x : Int) (s : Int × Int) : Int × Int := if x > 0 then (s.1 * p ^ x.toNat, s.2) else (s.1, s.2 * p ^ (-x).toNat)
def nd : List Int → List Int → Int × Int → Int × Int
  | p :: L, x :: X, s => nd L X (stp p x s)
  | _, _, s => s
theorem pw_pos {p : Int} (h : 0 < p) (n : Nat) : 0 < p ^ n := Int.pow_pos h
structure LX (L X : List Int) : Prop where
  len : L.length = X.length
  few : L.length ≤ 8
  pr : ∀ p ∈ L, 0 < p ∧ p < 64
  ex : ∀ x ∈ X, -2500 ≤ x ∧ x ≤ 2500
theorem LX.tl {p x : Int} {L X : List Int} (h : LX (p :: L) (x :: X)) : LX L X := ⟨by simpa using h.len, by have := h.few; simp at this; omega, fun q hq => h.pr q (List.mem_cons_of_mem _ hq), fun q hq => h.ex q (List.mem_cons_of_mem _ hq)⟩
/-! MA2: intervals brought within the first prime. -/
/-- the numbers are those of the tail times the head's -/
theorem nd_mul : ∀ {L X : List Int} {s : Int × Int}, nd L X s = (s.1 * (nd L X (1, 1)).1, s.2 * (nd L X (1, 1)).2)
  | [], _, s => by simp [nd]
  | _ :: _, [], s => by simp [nd]
  | p :: L, x :: X, s => by
    show nd L X (stp p x s) = (s.1 * (nd L X (stp p x (1, 1))).1, s.2 * (nd L X (stp p x (1, 1))).2)
    rw [nd_mul (s := stp p x s), nd_mul (s := stp p x (1, 1))]
    unfold stp
    split <;> simp [Int.mul_assoc]
def up (x : Int) : Nat := x.toNat
theorem nd_cons {p x : Int} {L X : List Int} : nd (p :: L) (x :: X) (1, 1) = (p ^ x.toNat * (nd L X (1, 1)).1, p ^ (-x).toNat * (nd L X (1, 1)).2) := by
  show nd L X (stp p x (1, 1)) = _
  rw [nd_mul]
  unfold stp
  split
  · rename_i h
    have : (-x).toNat = 0 := by omega
    simp [this]
  · rename_i h
    have : x.toNat = 0 := by omega
    simp [this]
theorem pw_add {P : Int} (a b : Nat) : P ^ (a + b) = P ^ a * P ^ b := Int.pow_add ..
/-! the limits that are drawn -/
def lims : List (List Int) := [[2, 3, 5], [2, 3], [2, 3, 5, 7], [2, 3, 7], [3, 5, 7], [2, 5], [2, 3, 5, 7, 11], [2, 7, 11, 13], [2, 7]]
theorem R.All_nx {α : Type} {Q : α → Prop} {r : R α} : R.All Q r.noX ↔ R.All Q r := by
  induction r with
  | bad => exact Iff.rfl
  | exc e => exact Iff.rfl
  | ok a => exact Iff.rfl
  | dr m f ih => exact ⟨fun h => ⟨h.1, h.2.1, fun v h0 h1 => (ih v).1 (h.2.2 v h0 h1)⟩, fun h => ⟨h.1, h.2.1, fun v h0 h1 => (ih v).2 (h.2.2 v h0 h1)⟩⟩
/-- a comprehension whose items are drawn -/
theorem cmp_all {α β : Type} {e : α → R β} (Q : β → Prop) : ∀ {xs : List α} {W : List β → Prop}, xs.length ≤ 16777216 → (∀ x ∈ xs, R.All Q (e x)) → (∀ ys : List β, ys.length = xs.length → (∀ y ∈ ys, Q y) → W ys) → R.All W (cmpR xs (fun _ => .ok true) e) := fun {xs W} hl he hw => by
  have key : ∀ (xs : List α) (W : List β → Prop), (∀ x ∈ xs, R.All Q (e x)) → (∀ ys : List β, ys.length = xs.length → (∀ y ∈ ys, Q y) → W ys) → R.All W (cmpGo (fun _ => .ok true) e xs) := fun xs => by
    induction xs with
    | nil => exact fun W _ hw => hw [] rfl (fun y hy => nomatch hy)
    | cons x xs ih =>
      intro W he hw
      show R.All W ((R.ok true).noX.bind _)
      rw [R.noX_ok, R.bind_ok, if_pos rfl, R.All_bind, R.All_nx]
      refine (he x (List.mem_cons_self ..)).mono fun y hy => ?_
      rw [R.All_bind]
      refine ih _ (fun x hx => he x (List.mem_cons_of_mem _ hx)) fun ys hl hq => ?_
      refine hw (y :: ys) (by simp [hl]) fun z hz => ?_
      rcases List.mem_cons.mp hz with rfl | hz
      · exact hy
      · exact hq z hz
  unfold cmpR
  rw [if_pos hl]
  exact key xs W he hw
theorem lims_pr : ∀ L ∈ lims, L.length ≤ 5 ∧ 2 ≤ L.length ∧ ∀ p ∈ L, 2 ≤ p ∧ p < 64 := by decide
theorem cmpR_ok {α β : Type} {e : α → R β} {g : α → β} {xs : List α} (hl : xs.length ≤ 16777216) (h : ∀ x ∈ xs, e x = .ok (g x)) : cmpR xs (fun _ => .ok true) e = .ok (xs.map g) := by
  have key : ∀ xs : List α, (∀ x ∈ xs, e x = .ok (g x)) → cmpGo (fun _ => .ok true) e xs = .ok (xs.map g) := fun xs => by
    induction xs with
    | nil => exact fun _ => rfl
    | cons x xs ih =>
      intro h
      show ((R.ok true).noX.bind _) = _
      rw [R.noX_ok, R.bind_ok, if_pos rfl, h x (List.mem_cons_self ..), R.noX_ok, R.bind_ok, ih fun x hx => h x (List.mem_cons_of_mem _ hx), R.bind_ok]; rfl
  unfold cmpR
  rw [if_pos hl]
  exact key xs h
/-! MA3: the exponents of a quotient. -/
theorem nd_pos : ∀ {L X : List Int}, (∀ p ∈ L, 2 ≤ p) → 0 < (nd L X (1, 1)).1 ∧ 0 < (nd L X (1, 1)).2
  | [], _, _ => by simp [nd]
  | _ :: _, [], _ => by simp [nd]
  | p :: L, x :: X, h => by
    rw [nd_cons]
    have ih := nd_pos (X := X) fun q hq => h q (List.mem_cons_of_mem _ hq)
    have hp := h p (List.mem_cons_self ..)
    exact ⟨Int.mul_pos (pw_pos (by omega) _) ih.1, Int.mul_pos (pw_pos (by omega) _) ih.2⟩
/-! MA4: differences, comparisons; loops of a law. -/
def subL : List Int → List Int → List Int
  | x :: X, y :: Y => (x - y) :: subL X Y
  | _, _ => []
theorem subL_len : ∀ {X Y : List Int}, X.length = Y.length → (subL X Y).length = X.length
  | [], _, _ => rfl
  | _ :: _, [], h => by simp at h
  | x :: X, y :: Y, h => by simp only [subL, List.length_cons]; rw [subL_len (by simpa using h)]
theorem subL_bd {A B : Int} : ∀ {X Y : List Int}, (∀ x ∈ X, -A ≤ x ∧ x ≤ A) → (∀ y ∈ Y, -B ≤ y ∧ y ≤ B) → ∀ z ∈ subL X Y, -(A + B) ≤ z ∧ z ≤ A + B
  | [], _, _, _, z, hz => by simp [subL] at hz
  | _ :: _, [], _, _, z, hz => by simp [subL] at hz
  | x :: X, y :: Y, h1, h2, z, hz => by
    simp only [subL, List.mem_cons] at hz
    have a := h1 x (List.mem_cons_self ..)
    have b := h2 y (List.mem_cons_self ..)
    rcases hz with rfl | hz
    · omega
    · exact subL_bd (fun q hq => h1 q (List.mem_cons_of_mem _ hq)) (fun q hq => h2 q (List.mem_cons_of_mem _ hq)) z hz
/-- the sign of an interval -/
def sg (L X : List Int) : Int := b01 (decide ((nd L X (1, 1)).1 > (nd L X (1, 1)).2)) - b01 (decide ((nd L X (1, 1)).1 < (nd L X (1, 1)).2))
end FL.NL

/-! PS: intervals by size. -/
namespace FL.NL
def nu (L X : List Int) : Int := (nd L X (1, 1)).1
def de (L X : List Int) : Int := (nd L X (1, 1)).2
theorem nu_cons {p x : Int} {L X : List Int} : nu (p :: L) (x :: X) = p ^ x.toNat * nu L X := by unfold nu; rw [nd_cons]
theorem de_cons {p x : Int} {L X : List Int} : de (p :: L) (x :: X) = p ^ (-x).toNat * de L X := by unfold de; rw [nd_cons]
theorem nu_pos {L X : List Int} (h : ∀ p ∈ L, 2 ≤ p) : 0 < nu L X := (nd_pos (X := X) h).1
theorem de_pos {L X : List Int} (h : ∀ p ∈ L, 2 ≤ p) : 0 < de L X := (nd_pos (X := X) h).2
theorem nu_nil {X : List Int} : nu [] X = 1 := by cases X <;> rfl
theorem de_nil {X : List Int} : de [] X = 1 := by cases X <;> rfl
/-- the numbers of a difference -/
theorem nd_sub : ∀ {L X Y : List Int}, X.length = L.length → Y.length = L.length → nu L (subL X Y) * (de L X * nu L Y) = de L (subL X Y) * (nu L X * de L Y)
  | [], X, Y, hx, hy => by simp [nu_nil, de_nil]
  | p :: L, [], Y, hx, hy => by simp at hx
  | p :: L, x :: X, [], hx, hy => by simp at hy
  | p :: L, x :: X, y :: Y, hx, hy => by
    have ih := nd_sub (L := L) (X := X) (Y := Y) (by simpa using hx) (by simpa using hy)
    simp only [subL, nu_cons, de_cons]
    have e : (x - y).toNat + (-x).toNat + y.toNat = (-(x - y)).toNat + x.toNat + (-y).toNat := by omega
    have e2 : p ^ (x - y).toNat * p ^ (-x).toNat * p ^ y.toNat = p ^ (-(x - y)).toNat * p ^ x.toNat * p ^ (-y).toNat := by
      rw [← pw_add, ← pw_add, ← pw_add, ← pw_add, e]
    generalize p ^ (x - y).toNat = a at *
    generalize p ^ (-x).toNat = b at *
    generalize p ^ y.toNat = c at *
    generalize p ^ (-(x - y)).toNat = a' at *
    generalize p ^ x.toNat = b' at *
    generalize p ^ (-y).toNat = c' at *
    generalize nu L (subL X Y) = n1 at *
    generalize de L (subL X Y) = d1 at *
    calc a * n1 * (b * de L X * (c * nu L Y)) = (a * b * c) * (n1 * (de L X * nu L Y)) := by simp only [Int.mul_assoc, Int.mul_left_comm, Int.mul_comm]
      _ = (a' * b' * c') * (d1 * (nu L X * de L Y)) := by rw [e2, ih]
      _ = _ := by simp only [Int.mul_assoc, Int.mul_left_comm, Int.mul_comm]
/-- narrower -/
def lt' (L X Y : List Int) : Bool := decide (nu L X * de L Y < nu L Y * de L X)
theorem sub_lt {L X Y : List Int} (hp : ∀ p ∈ L, 2 ≤ p) (hx : X.length = L.length) (hy : Y.length = L.length) : (nu L (subL X Y) < de L (subL X Y)) ↔ nu L X * de L Y < nu L Y * de L X := by
  have e := nd_sub hx hy
  have a := Int.mul_pos (de_pos (X := X) hp) (nu_pos (X := Y) hp)
  have b := Int.mul_pos (nu_pos (X := X) hp) (de_pos (X := Y) hp)
  have c := nu_pos (X := subL X Y) hp
  have d := de_pos (X := subL X Y) hp
  rw [show nu L Y * de L X = de L X * nu L Y from Int.mul_comm ..]
  generalize de L X * nu L Y = A at *
  generalize nu L X * de L Y = B at *
  generalize nu L (subL X Y) = n at *
  generalize de L (subL X Y) = k at *
  constructor
  · intro h
    by_cases hc : B < A
    · exact hc
    · exfalso
      have h1 : n * A ≤ n * B := Int.mul_le_mul_of_nonneg_left (by omega) (by omega)
      have h2 : n * B < k * B := Int.mul_lt_mul_of_pos_right h b
      omega
  · intro h
    by_cases hc : n < k
    · exact hc
    · exfalso
      have h1 : k * B < k * A := Int.mul_lt_mul_of_pos_left h (by omega)
      have h2 : k * A ≤ n * A := Int.mul_le_mul_of_nonneg_right (by omega) (by omega)
      omega
theorem sub_gt {L X Y : List Int} (hp : ∀ p ∈ L, 2 ≤ p) (hx : X.length = L.length) (hy : Y.length = L.length) : (de L (subL X Y) < nu L (subL X Y)) ↔ nu L Y * de L X < nu L X * de L Y := by
  have e := nd_sub hx hy
  have a := Int.mul_pos (de_pos (X := X) hp) (nu_pos (X := Y) hp)
  have b := Int.mul_pos (nu_pos (X := X) hp) (de_pos (X := Y) hp)
  have c := nu_pos (X := subL X Y) hp
  have d := de_pos (X := subL X Y) hp
  rw [show nu L Y * de L X = de L X * nu L Y from Int.mul_comm ..]
  generalize de L X * nu L Y = A at *
  generalize nu L X * de L Y = B at *
  generalize nu L (subL X Y) = n at *
  generalize de L (subL X Y) = k at *
  constructor
  · intro h
    by_cases hc : A < B
    · exact hc
    · exfalso
      have h1 : k * B ≤ k * A := Int.mul_le_mul_of_nonneg_left (by omega) (by omega)
      have h2 : k * A < n * A := Int.mul_lt_mul_of_pos_right h a
      omega
  · intro h
    by_cases hc : k < n
    · exact hc
    · exfalso
      have h1 : k * A < k * B := Int.mul_lt_mul_of_pos_left h (by omega)
      have h2 : n * A ≤ k * A := Int.mul_le_mul_of_nonneg_right (by omega) (by omega)
      omega
/-! the order -/
section
variable {L X Y Z : List Int}
theorem lt_irr : lt' L X X = false := by simp [lt']
end
/-! sorting by insertion -/
def ins (L x : List Int) : List (List Int) → List (List Int)
  | [] => [x]
  | y :: ys => if lt' L x y = true then x :: y :: ys else y :: ins L x ys
/-- rising -/
def Ris (L : List Int) (xs : List (List Int)) : Prop := xs.Pairwise fun a b => lt' L b a = false
theorem ins_perm {L x : List Int} : ∀ {ys : List (List Int)}, (ins L x ys).Perm (x :: ys)
  | [] => .refl _
  | y :: ys => by
    unfold ins
    split
    · exact .refl _
    · exact (List.Perm.cons y ins_perm).trans (.swap x y ys)
/-- where x goes in a rising list: behind `low` items that are not wider -/
theorem ins_at {L x : List Int} : ∀ {a b : List (List Int)}, (∀ y ∈ a, lt' L x y = false) → (∀ y ∈ b.head?, lt' L x y = true) → ins L x (a ++ b) = a ++ x :: b
  | [], [], _, _ => rfl
  | [], y :: b, _, h => by
    simp only [List.nil_append, ins]
    rw [if_pos (h y (by simp))]
  | y :: a, b, h, h2 => by
    have : lt' L x y = false := h y (List.mem_cons_self ..)
    simp only [List.cons_append, ins, this, Bool.false_eq_true, if_false]
    rw [ins_at (fun z hz => h z (List.mem_cons_of_mem _ hz)) h2]
end FL.NL

/-! PL: loops: the first that fits; common divisors; the least that fits. -/
namespace FL.NL
open PySem
section
variable {α β σ : Type}
/-- the least number of rounds -/
theorem rounds_least {m f : Int} (hm : 0 < m) {r : Int} (hr : m ∣ r * f) : m / (Int.gcd m f : Nat) ∣ r := by
  have hg : 0 < Int.gcd m f := Int.gcd_pos_of_ne_zero_left f (by omega)
  obtain ⟨M, hM⟩ : ((Int.gcd m f : Nat) : Int) ∣ m := Int.gcd_dvd_left ..
  obtain ⟨F, hF⟩ : ((Int.gcd m f : Nat) : Int) ∣ f := Int.gcd_dvd_right ..
  generalize hgg : Int.gcd m f = g at *
  have hgp : (0 : Int) < g := by omega
  have e1 : m / (g : Int) = M := by rw [hM]; exact Int.mul_ediv_cancel_left _ (by omega)
  rw [e1]
  have hc : Int.gcd M F = 1 := by
    have : Int.gcd ((g : Int) * M) (g * F) = g * Int.gcd M F := by rw [Int.gcd_mul_left]; simp
    rw [← hM, ← hF, hgg] at this
    exact Nat.eq_of_mul_eq_mul_left (by omega) (by omega)
  have h2 : M ∣ r * F := by
    obtain ⟨k, hk⟩ := hr
    refine ⟨k, Int.eq_of_mul_eq_mul_left (a := g) (by omega) ?_⟩
    calc (g : Int) * (r * F) = r * (g * F) := by rw [Int.mul_left_comm]
      _ = r * f := by rw [← hF]
      _ = m * k := hk
      _ = g * M * k := by rw [← hM]
      _ = g * (M * k) := by rw [Int.mul_assoc]
  have h3 : M.natAbs ∣ r.natAbs * F.natAbs := by rw [← Int.natAbs_mul]; exact Int.natAbs_dvd_natAbs.mpr h2
  exact Int.natAbs_dvd_natAbs.mp (Nat.Coprime.dvd_of_dvd_mul_right hc h3)
theorem mem_rg {lo x : Int} {n : Nat} : x ∈ rg lo n ↔ lo ≤ x ∧ x < lo + n := by
  unfold rg
  simp only [List.mem_map, List.mem_range]
  constructor
  · rintro ⟨k, hk, rfl⟩; omega
  · rintro ⟨h0, h1⟩; exact ⟨(x - lo).toNat, by omega, by omega⟩
theorem cmp_fil {α β : Type} {p : α → R Bool} {q : α → Bool} {e : α → R β} {g : α → β} {xs : List α} (hl : xs.length ≤ 16777216) (hp : ∀ x ∈ xs, p x = .ok (q x)) (he : ∀ x ∈ xs, e x = .ok (g x)) : cmpR xs p e = .ok ((xs.filter q).map g) := by
  have key : ∀ xs : List α, (∀ x ∈ xs, p x = .ok (q x)) → (∀ x ∈ xs, e x = .ok (g x)) → cmpGo p e xs = .ok ((xs.filter q).map g) := fun xs => by
    induction xs with
    | nil => exact fun _ _ => rfl
    | cons x xs ih =>
      intro hp he
      have i := ih (fun y hy => hp y (List.mem_cons_of_mem _ hy)) (fun y hy => he y (List.mem_cons_of_mem _ hy))
      show ((p x).noX.bind _) = _
      rw [hp x (List.mem_cons_self ..), R.noX_ok, R.bind_ok]
      cases hq : q x with
      | false => simp only [Bool.false_eq_true, if_false, i, List.filter_cons, hq]
      | true => simp only [if_true, he x (List.mem_cons_self ..), R.noX_ok, R.bind_ok, i, List.filter_cons, hq, List.map_cons]
  unfold cmpR
  rw [if_pos hl]
  exact key xs hp he
end
end FL.NL

/-! PG3: three gaps. -/
namespace FL.NL
/-- an additive function to the rests by m -/
structure Rst (m : Int) (r : Int → Int) : Prop where
  lo : ∀ a, 0 ≤ r a
  hi : ∀ a, r a < m
  zr : r 0 = 0
  ad : ∀ a b, r (a + b) = r a + r b ∨ r (a + b) = r a + r b - m
end FL.NL

/-! PT: tools: comprehensions, counts, sets of notes. -/
namespace FL.NL
open PySem PySem.W
section
variable {α α2 β σ : Type}
theorem cmpR_fil {xs : List α} {p : α → R Bool} {q : α → Bool} (h : xs.length ≤ 16777216) (hp : ∀ x ∈ xs, p x = .ok (q x)) : cmpR xs p (fun x => .ok x) = .ok (xs.filter q) := by
  rw [cmp_fil (g := fun x => x) h hp fun _ _ => rfl]; simp
theorem augR_ok {xs : List Int} {j : Int} {w : Int → Int} (h0 : 0 ≤ j) (h1 : j < xs.length) : augR xs j w = .ok (xs.set j.toNat (w (xs.getD j.toNat 0))) := by
  unfold augR idx
  rw [if_pos h0, if_pos (by omega)]
theorem cut_from {xs : List α} {k : Int} (h0 : 0 ≤ k) (h1 : k ≤ xs.length) : cutL xs (some k) none = xs.drop k.toNat := by
  have := sy_cutFrom (xs := xs) (k := k.toNat) (by omega)
  rwa [Int.toNat_of_nonneg h0] at this
theorem rgR_ok {a b : Int} (h0 : -4611686018427387904 ≤ a) (h1 : a < 4611686018427387904) (h2 : -4611686018427387904 ≤ b) (h3 : b < 4611686018427387904) : rgR a b = .ok (rg a (b - a).toNat) := by
  unfold rgR b62
  rw [if_pos ⟨⟨h0, h1⟩, h2, h3⟩]
theorem rg_pair {a : Int} {n : Nat} : (rg a n).Pairwise (· < ·) := by
  unfold rg
  rw [List.pairwise_map]
  exact List.pairwise_lt_range.imp fun h => by omega
/-! counts of pairs -/
def bmp (s : List Int) (j : Int) : List Int := s.set j.toNat (s.getD j.toNat 0 + 1)
theorem bmp_len {s : List Int} {j : Int} : (bmp s j).length = s.length := by unfold bmp; simp
theorem bmp_comm {s : List Int} {i j : Int} : bmp (bmp s i) j = bmp (bmp s j) i := by
  unfold bmp
  apply List.ext_getElem?
  intro k
  simp only [List.getElem?_set, List.getD_eq_getElem?_getD, List.length_set]
  by_cases h : i.toNat = j.toNat
  · rw [h]
  · by_cases h1 : i.toNat = k <;> by_cases h2 : j.toNat = k <;> simp [h1, h2] <;> omega
def prs : List Int → List (Int × Int)
  | [] => []
  | x :: r => r.map (fun y => (x, y)) ++ prs r
def dst (m a b : Int) : Int := min ((b - a).natAbs : Int) (m - (b - a).natAbs)
theorem dst_sym {m a b : Int} : dst m a b = dst m b a := by unfold dst; rw [show (b - a).natAbs = (a - b).natAbs by omega]
def dsts (m : Int) (xs : List Int) : List Int := (prs xs).map fun p => dst m p.1 p.2
theorem dsts_cons {m x : Int} {xs : List Int} : dsts m (x :: xs) = xs.map (dst m x) ++ dsts m xs := by
  unfold dsts
  show List.map _ (xs.map (fun y => (x, y)) ++ prs xs) = _
  simp [Function.comp_def]
theorem dsts_perm {m : Int} {xs ys : List Int} (h : xs.Perm ys) : (dsts m xs).Perm (dsts m ys) := by
  induction h with
  | nil => exact .refl _
  | cons x h ih => rw [dsts_cons, dsts_cons]; exact (h.map _).append ih
  | swap x y l =>
    simp only [dsts_cons, List.map_cons, dst_sym (a := y) (b := x), List.cons_append]
    refine List.Perm.cons _ ?_
    rw [← List.append_assoc, ← List.append_assoc]
    exact List.perm_append_comm.append_right _
  | trans _ _ h1 h2 => exact h1.trans h2
theorem prs_map {g : Int → Int} : ∀ xs : List Int, prs (xs.map g) = (prs xs).map fun p => (g p.1, g p.2)
  | [] => rfl
  | x :: xs => by simp [prs, prs_map xs, Function.comp_def]
theorem prs_mem : ∀ {xs : List Int} {p : Int × Int}, p ∈ prs xs → p.1 ∈ xs ∧ p.2 ∈ xs
  | x :: xs, p, h => by
    unfold prs at h
    rcases List.mem_append.mp h with h | h
    · obtain ⟨y, hy, rfl⟩ := List.mem_map.mp h
      exact ⟨List.mem_cons_self .., List.mem_cons_of_mem _ hy⟩
    · have := prs_mem h
      exact ⟨List.mem_cons_of_mem _ this.1, List.mem_cons_of_mem _ this.2⟩
theorem dsts_map {m : Int} {g : Int → Int} {xs : List Int} (h : ∀ a ∈ xs, ∀ b ∈ xs, dst m (g a) (g b) = dst m a b) : dsts m (xs.map g) = dsts m xs := by
  unfold dsts
  rw [prs_map, List.map_map]
  exact List.map_congr_left fun p hp => h _ (prs_mem hp).1 _ (prs_mem hp).2
def cnts (n : Nat) (ds : List Int) : List Int := ds.foldl bmp (List.replicate n 0)
theorem cnts_perm {n : Nat} {xs ys : List Int} (h : xs.Perm ys) : cnts n xs = cnts n ys := h.foldl_eq' (fun x _ y _ z => bmp_comm) _
theorem foldl_len : ∀ {ds s : List Int}, (ds.foldl bmp s).length = s.length
  | [], s => rfl
  | d :: ds, s => by rw [List.foldl_cons, foldl_len, bmp_len]
/-- rising notes -/
structure NSet (m : Int) (xs : List Int) : Prop where
  up : xs.Pairwise (· < ·)
  bd : ∀ x ∈ xs, 0 ≤ x ∧ x < m
theorem NSet.sub {m : Int} {xs : List Int} (h : xs.Sublist (rg 0 m.toNat)) : NSet m xs := ⟨rg_pair.sublist h, fun x hx => by have := mem_rg.mp (h.subset hx); omega⟩
theorem NSet.len {m : Int} {xs : List Int} (h : NSet m xs) : xs.length ≤ m.toNat := by
  have : xs.Sublist (rg 0 m.toNat) := by
    have key : ∀ (n : Nat) (lo : Int) (xs : List Int), xs.Pairwise (· < ·) → (∀ x ∈ xs, lo ≤ x ∧ x < lo + n) → xs.Sublist (rg lo n) := fun n => by
      induction n with
      | zero =>
        intro lo xs _ hb
        cases xs with
        | nil => exact List.nil_sublist _
        | cons x xs => have := hb x (List.mem_cons_self ..); omega
      | succ n ih =>
        intro lo xs hp hb
        rw [rg_succ]
        cases xs with
        | nil => exact List.nil_sublist _
        | cons x xs =>
          obtain ⟨h1, h2⟩ := List.pairwise_cons.mp hp
          have hx := hb x (List.mem_cons_self ..)
          by_cases e : x = lo
          · subst e
            exact List.Sublist.cons₂ _ (ih _ _ h2 fun y hy => by have := h1 y hy; have := hb y (List.mem_cons_of_mem _ hy); omega)
          · refine List.Sublist.cons _ (ih _ _ hp fun y hy => ?_)
            have := hb y hy
            rcases List.mem_cons.mp hy with rfl | hy
            · omega
            · have := h1 y hy; omega
    exact key _ _ _ h.up fun x hx => by have := h.bd x hx; omega
  have := this.length_le
  rwa [rg_len] at this
theorem NSet.asc {m : Int} {xs : List Int} (h : NSet m xs) : Asc PyData.int xs := h.up.imp fun h => by rw [kLt_I]; exact decide_eq_false (by omega)
theorem asc_up {xs : List Int} (h : Asc PyData.int xs) (n : xs.Nodup) : xs.Pairwise (· < ·) := by
  have := List.pairwise_and_iff.mpr ⟨h, n⟩
  refine this.imp fun ⟨h1, h2⟩ => ?_
  rw [kLt_I] at h1
  have := of_decide_eq_false h1
  omega
theorem emod_a {m z : Int} (h0 : 0 ≤ z) (h1 : z < m) : z % m = z := Int.emod_eq_of_lt h0 h1
theorem emod_b {m z : Int} (h0 : m ≤ z) (h1 : z < 2 * m) : z % m = z - m := by
  rw [← Int.sub_emod_right]; exact Int.emod_eq_of_lt (by omega) (by omega)
theorem emod_c {m z : Int} (h0 : -m ≤ z) (h1 : z < 0) : z % m = z + m := by
  rw [← Int.add_emod_right]; exact Int.emod_eq_of_lt (by omega) (by omega)
theorem emod_3 {m z : Int} (h0 : -m ≤ z) (h1 : z < 2 * m) : z % m = if z < 0 then z + m else if z < m then z else z - m := by
  split
  · exact emod_c h0 (by omega)
  · split
    · exact emod_a (by omega) (by omega)
    · exact emod_b (by omega) (by omega)
/-- an image of a set of notes -/
def turn (m s k x : Int) : Int := (s * x + k) % m
def img (m s k : Int) (xs : List Int) : List Int := kSort PyData.int (xs.map (turn m s k))
theorem turn_turn {m s k s' k' x : Int} : turn m s' k' (turn m s k x) = turn m (s' * s) ((s' * k + k') % m) x := by
  unfold turn
  have e : s' * (s * x + k) + k' = s' * s * x + (s' * k + k') := by rw [Int.mul_add, ← Int.mul_assoc, Int.add_assoc]
  rw [Int.add_emod_emod, ← e, Int.add_emod (s' * ((s * x + k) % m)), Int.mul_emod s' ((s * x + k) % m), Int.emod_emod, ← Int.mul_emod, ← Int.add_emod]
theorem turn_3 {m s k x : Int} (hs : s = 1 ∨ s = -1) (hk : 0 ≤ k ∧ k < m) (hx : 0 ≤ x ∧ x < m) : turn m s k x = if s * x + k < 0 then s * x + k + m else if s * x + k < m then s * x + k else s * x + k - m := by
  unfold turn
  rcases hs with rfl | rfl
  · exact emod_3 (by omega) (by omega)
  · exact emod_3 (by omega) (by omega)
theorem turn_dst {m s k a b : Int} (hs : s = 1 ∨ s = -1) (hk : 0 ≤ k ∧ k < m) (ha : 0 ≤ a ∧ a < m) (hb : 0 ≤ b ∧ b < m) : dst m (turn m s k a) (turn m s k b) = dst m a b := by
  rw [turn_3 hs hk ha, turn_3 hs hk hb]
  unfold dst
  rcases hs with rfl | rfl <;> (split <;> (try split) <;> (try split) <;> (try split) <;> omega)
theorem img_dsts {m s k : Int} {xs : List Int} (hs : s = 1 ∨ s = -1) (hk : 0 ≤ k ∧ k < m) (h : NSet m xs) : (dsts m (img m s k xs)).Perm (dsts m xs) := by
  have := dsts_map (m := m) (g := turn m s k) (xs := xs) fun a ha b hb => turn_dst hs hk (h.bd a ha) (h.bd b hb)
  rw [← this]
  exact dsts_perm kSort_perm
theorem img_img {m s k s' k' : Int} {xs : List Int} : img m s' k' (img m s k xs) = img m (s' * s) ((s' * k + k') % m) xs := by
  unfold img
  have : ((kSort PyData.int (xs.map (turn m s k))).map (turn m s' k')).Perm (xs.map (turn m (s' * s) ((s' * k + k') % m))) := by
    refine (kSort_perm.map _).trans ?_
    rw [List.map_map]
    exact .of_eq (List.map_congr_left fun x _ => turn_turn)
  exact kSort_one inj_I this
/-- all images: the moved ones, then the moved ones of it upside down -/
def imgs (m : Int) (xs : List Int) : List (List Int) := (rg 0 m.toNat).map (fun k => img m 1 k xs) ++ (rg 0 m.toNat).map (fun k => img m (-1) k xs)
theorem mem_imgs {m : Int} (hm : 0 < m) {xs w : List Int} : w ∈ imgs m xs ↔ ∃ s k, (s = 1 ∨ s = -1) ∧ (0 ≤ k ∧ k < m) ∧ w = img m s k xs := by
  unfold imgs
  rw [List.mem_append, List.mem_map, List.mem_map]
  constructor
  · rintro (⟨k, hk, rfl⟩ | ⟨k, hk, rfl⟩)
    · have := mem_rg.mp hk; exact ⟨1, k, .inl rfl, by omega, rfl⟩
    · have := mem_rg.mp hk; exact ⟨-1, k, .inr rfl, by omega, rfl⟩
  · rintro ⟨s, k, rfl | rfl, hk, rfl⟩
    · exact .inl ⟨k, mem_rg.mpr (by omega), rfl⟩
    · exact .inr ⟨k, mem_rg.mpr (by omega), rfl⟩
theorem imgs_dsts {m : Int} (hm : 0 < m) {xs w : List Int} (hx : NSet m xs) (h : w ∈ imgs m xs) : (dsts m w).Perm (dsts m xs) := by
  obtain ⟨s, k, hs, hk, rfl⟩ := (mem_imgs hm).mp h
  exact img_dsts hs hk hx
abbrev dTI : List Int → PyData := fun xs => PyData.tuple (xs.map PyData.int)
/-- the least image -/
def least (m : Int) (xs : List Int) : List Int := match imgs m xs with
  | [] => []
  | y :: ys => kMin dTI y ys
end
end FL.NL

/-! PU: counts of pairs of a set of notes and of the others. -/
namespace FL.NL
open PySem PySem.W
section
variable {α β : Type}
theorem lset_TI {xs : List Int} (h : xs.length ≤ 4000) : (optR (lenSetX (eT eI xs))).bind asI = .ok ((dd xs).length : Nat) := by
  have e : lenSetX (eT eI xs) = some (.int ((dd xs).length : Nat)) := by
    show (match intsT (xs.map eI) with
      | some ns => if ns.length ≤ 4000 then some (T.int ((dd ns).length : Nat)) else none
      | none => none) = _
    rw [NL.intsT_map]
    simp only [h, if_true]
  rw [e]
  unfold optR
  rw [R.bind_ok]; rfl
end
/-- pairs told by one note -/
def row (m d a : Int) (ys : List Int) : Nat := ys.countP fun y => decide (dst m a y = d)
def rows (m d : Int) (xs ys : List Int) : Nat := (xs.map fun a => row m d a ys).sum
end FL.NL

/-! PE: even sets: what they are, and that there is one alone. -/
namespace FL.NL
open PySem PySem.W
/-! ### floors -/
theorem fl_of {n D e : Int} (hn : 0 < n) (h0 : 0 ≤ e) (h1 : e < n) : (n * D + e) / n = D := by
  rw [Int.add_comm, Int.add_mul_ediv_left _ _ (by omega), Int.ediv_eq_zero_of_lt h0 h1]; omega
theorem fl_add {n Y K : Int} (hn : 0 < n) : K / n ≤ (Y + K) / n - Y / n ∧ (Y + K) / n - Y / n ≤ K / n + 1 := by
  have a1 := Int.mul_ediv_add_emod Y n
  have a2 := Int.mul_ediv_add_emod K n
  have b1 := Int.emod_nonneg Y (show n ≠ 0 by omega)
  have b2 := Int.emod_lt_of_pos Y hn
  have c1 := Int.emod_nonneg K (show n ≠ 0 by omega)
  have c2 := Int.emod_lt_of_pos K hn
  have e : Y + K = n * (Y / n + K / n) + (Y % n + K % n) := by rw [Int.mul_add]; omega
  by_cases h : Y % n + K % n < n
  · have := fl_of (D := Y / n + K / n) hn (show 0 ≤ Y % n + K % n by omega) h
    rw [← e] at this
    omega
  · have e2 : Y + K = n * (Y / n + K / n + 1) + (Y % n + K % n - n) := by rw [Int.mul_add, Int.mul_one]; omega
    have := fl_of (D := Y / n + K / n + 1) hn (show 0 ≤ Y % n + K % n - n by omega) (by omega)
    rw [← e2] at this
    omega
theorem fl_per {n Y q : Int} (hn : 0 < n) : (Y + n * q) / n = Y / n + q := Int.add_mul_ediv_left _ _ (by omega)
/-! ### a set, come round -/
def vx (m : Int) (S : List Int) (i : Int) : Int := S.getD (i % (S.length : Int)).toNat 0 + m * (i / (S.length : Int))
def Ev (m : Int) (S : List Int) : Prop := ∀ k : Int, 1 ≤ k → k < S.length → ∀ i j : Int, 0 ≤ i → i < S.length → 0 ≤ j → j < S.length → vx m S (i + k) - vx m S i - (vx m S (j + k) - vx m S j) ≤ 1
section
variable {m : Int} {S : List Int}
theorem vx_per (hn : 0 < S.length) (i q : Int) : vx m S (i + S.length * q) = vx m S i + m * q := by
  unfold vx
  rw [Int.add_mul_emod_self_left, fl_per (by omega), Int.mul_add]; omega
theorem vx_dif (hn : 0 < S.length) (i k : Int) : vx m S (i + k) - vx m S i = vx m S (i % S.length + k) - vx m S (i % S.length) := by
  have e := Int.mul_ediv_add_emod i S.length
  have h1 := vx_per (m := m) hn (i % S.length) (i / S.length)
  have h2 := vx_per (m := m) hn (i % S.length + k) (i / S.length)
  rw [show i % (S.length : Int) + S.length * (i / S.length) = i by omega] at h1
  rw [show i % (S.length : Int) + k + S.length * (i / S.length) = i + k by omega] at h2
  omega
theorem Ev.all (h : Ev m S) (hn : 0 < S.length) {k : Int} (k0 : 1 ≤ k) (k1 : k < S.length) (i j : Int) : vx m S (i + k) - vx m S i - (vx m S (j + k) - vx m S j) ≤ 1 := by
  rw [vx_dif hn i k, vx_dif hn j k]
  have p : (0 : Int) < S.length := by omega
  exact h k k0 k1 _ _ (Int.emod_nonneg _ (by omega)) (Int.emod_lt_of_pos _ p) (Int.emod_nonneg _ (by omega)) (Int.emod_lt_of_pos _ p)
end
/-! ### even sets -/
def es (m n s : Int) : List Int := (rg 0 n.toNat).map fun i => ((m * i + s) / n) % m
end FL.NL

/-! PB: chains whose number of notes is on the way to a fraction have two gaps. -/
namespace FL.NL
open PySem PySem.W
def rs (M s x : Int) : Int := (x * s) % M
theorem rs_rst {M s : Int} (hM : 0 < M) : Rst M (rs M s) := by
  refine ⟨fun a => Int.emod_nonneg _ (by omega), fun a => Int.emod_lt_of_pos _ hM, by simp [rs], fun a b => ?_⟩
  unfold rs
  have e : (a + b) * s = a * s + b * s := Int.add_mul a b s
  rw [e]
  have h1 := Int.mul_ediv_add_emod (a * s) M
  have h2 := Int.mul_ediv_add_emod (b * s) M
  have a0 := Int.emod_nonneg (a * s) (show M ≠ 0 by omega)
  have a1 := Int.emod_lt_of_pos (a * s) hM
  have b0 := Int.emod_nonneg (b * s) (show M ≠ 0 by omega)
  have b1 := Int.emod_lt_of_pos (b * s) hM
  rw [Int.add_emod]
  by_cases c : a * s % M + b * s % M < M
  · left; exact Int.emod_eq_of_lt (by omega) c
  · right
    rw [← Int.sub_emod_right]
    exact Int.emod_eq_of_lt (by omega) (by omega)
/-! ### the list of gaps -/
end FL.NL

/-! PV: triads of equal steps; texts of signs. -/
namespace FL.NL
open PySem PySem.W
theorem chS_len {z : Str} : (chS z).length = z.length := by
  unfold chS
  show (z.cps.toList.map _).length = z.cps.size
  simp
theorem chS_rev {z : Str} : chS (revStr z) = (chS z).reverse := by
  unfold chS revStr
  simp
theorem lenS_ok {z : Str} (h : z.length ≤ 16777216) : lenS z = .ok z.length := by unfold lenS; rw [if_pos h]
theorem catS_ok {x y : Str} (h : x.length + y.length ≤ 16777216) : catS x y = .ok (x ++ y) := by unfold catS; rw [if_pos h]
theorem revSR_ok {z : Str} (h : z.length ≤ 16777216) : revSR z (-1) = .ok (revStr z) := by unfold revSR; rw [if_pos ⟨rfl, h⟩]
theorem emod_lt' {m z : Int} (hm : 0 < m) : 0 ≤ z % m ∧ z % m < m := ⟨Int.emod_nonneg _ (by omega), Int.emod_lt_of_pos _ hm⟩
abbrev Tri := Int × Bool × Unit
structure TOk (m : Int) (t : Tri) : Prop where
  r0 : 0 ≤ t.1
  r1 : t.1 < m
abbrev sP : Str := PySem.Str.ofString "P"
abbrev sL : Str := PySem.Str.ofString "L"
abbrev sR : Str := PySem.Str.ofString "R"
def stepOf (th fi : Int) (s : Str) : Int := if decide (s = sL) = true then th else th - fi
def mv (m th fi : Int) (t : Tri) (s : Str) : Tri := if s = sP then (t.1, !t.2.1, ()) else (if t.2.1 = true then (t.1 + stepOf th fi s) % m else (t.1 - stepOf th fi s) % m, !t.2.1, ())
theorem mv_ok {m th fi : Int} (hm : 0 < m) {t : Tri} {s : Str} (h : TOk m t) : TOk m (mv m th fi t s) := by
  unfold mv
  split
  · exact ⟨h.r0, h.r1⟩
  · split
    · exact ⟨(emod_lt' hm).1, (emod_lt' hm).2⟩
    · exact ⟨(emod_lt' hm).1, (emod_lt' hm).2⟩
def wk (m th fi : Int) (t : Tri) (ws : List Str) : Tri := ws.foldl (mv m th fi) t
theorem wk_app {m th fi : Int} {t : Tri} {a b : List Str} : wk m th fi t (a ++ b) = wk m th fi (wk m th fi t a) b := by unfold wk; rw [List.foldl_append]
/-- moves: a text of the signs P, L, R -/
structure Mvs (z : Str) (n : Nat) : Prop where
  all : ∀ w ∈ chS z, w = sP ∨ w = sL ∨ w = sR
  len : z.length ≤ n
theorem Mvs.nil {n : Nat} : Mvs (PySem.Str.ofString "") n := ⟨fun w h => (by cases h), Nat.zero_le _⟩
theorem ch_one {w : Str} (h : w = sP ∨ w = sL ∨ w = sR) : chS w = [w] ∧ w.length = 1 := by rcases h with rfl | rfl | rfl <;> decide
theorem Mvs.rev {z : Str} {n : Nat} (h : Mvs z n) : Mvs (revStr z) n := ⟨fun w hw => h.all w (by rw [chS_rev] at hw; exact List.mem_reverse.mp hw), by rw [revStr_len]; exact h.len⟩
theorem Mvs.more {z : Str} {n k : Nat} (h : Mvs z n) (hk : n ≤ k) : Mvs z k := ⟨h.all, Nat.le_trans h.len hk⟩
theorem two_of {p : Int → Bool} {a b c : Int} (h : p a = true ∧ p b = true ∨ p a = true ∧ p c = true ∨ p b = true ∧ p c = true) : 2 ≤ ([a, b, c].filter p).length := by
  rcases h with ⟨h1, h2⟩ | ⟨h1, h2⟩ | ⟨h1, h2⟩ <;> simp only [List.filter_cons, h1, h2, if_true] <;> (split <;> simp)
end FL.NL

/-! PC: counts of one sign in a text (lines of FK), in a form that the kernel reckons quickly. -/
namespace FL.C1
open PySem FL FL.NL
noncomputable section
variable {α β γ : Type}
def cd (b : Bool) (x y : α) : α := Bool.rec (motive := fun _ => α) y x b
theorem cd_e (b : Bool) (x y : α) : (if b = true then x else y) = cd b x y := by cases b <;> rfl
def cntN (c : Nat) (l : List Nat) : Nat := List.rec (motive := fun _ => Nat) 0 (fun x _ n => cd (Nat.beq x c) (Nat.succ n) n) l
theorem cntN_cons (c x : Nat) (l : List Nat) : cntN c (x :: l) = if x = c then cntN c l + 1 else cntN c l := by
  show cd (Nat.beq x c) (Nat.succ (cntN c l)) (cntN c l) = _
  rw [← cd_e]
  by_cases h : x = c
  · rw [if_pos h, if_pos (by rw [Nat.beq_eq]; exact h)]
  · rw [if_neg h, if_neg (by rw [Nat.beq_eq]; exact h)]
theorem sub1 (a : List Nat) (c i x : Nat) (h : a[i]? = some x) : Builtin.Str.subAt ⟨⟨a⟩⟩ ⟨#[c]⟩ i = true ↔ x = c := by
  unfold Builtin.Str.subAt
  rw [beq_iff_eq, ← Array.toList_inj]
  have hl : i < a.length := (List.getElem?_eq_some_iff.mp h).1
  have hx : a[i] = x := (List.getElem?_eq_some_iff.mp h).2
  show ((⟨a⟩ : Array Nat).extract i (i + 1)).toList = [c] ↔ x = c
  rw [Array.toList_extract]
  show (a.drop i).take (i + 1 - i) = [c] ↔ x = c
  rw [List.drop_eq_getElem_cons hl, hx, show i + 1 - i = 1 by omega]
  simp
theorem occ1 (a : List Nat) (c : Nat) : ∀ (m k : Nat) (found : Array Nat) (free : Nat), free ≤ k → found.size ≤ k → k + m = a.length + 1 →
    (forIn (List.range' k m) (found, free) (StrLaws.occBody ⟨⟨a⟩⟩ ⟨#[c]⟩ a.length (a.length + 1))).run.fst.size = found.size + cntN c (a.drop k)
  | 0, k, found, free, _, _, e => by
    rw [List.drop_of_length_le (by omega)]; rfl
  | m + 1, k, found, free, hf, hs, e => by
    rw [List.range'_succ, List.forIn_cons]
    unfold StrLaws.occBody
    by_cases hk : k < a.length
    · have hx : a[k]? = some a[k] := List.getElem?_eq_getElem hk
      rw [List.drop_eq_getElem_cons hk, cntN_cons]
      by_cases hc : a[k] = c
      · rw [if_pos ⟨⟨⟨by show found.size < _; omega, hf⟩, by show k + 1 ≤ _; omega⟩, (sub1 a c k _ hx).mpr hc⟩, if_pos hc]
        refine (occ1 a c m (k + 1) (found.push k) (k + 1) (Nat.le_refl _) (by rw [Array.size_push]; omega) (by omega)).trans ?_
        rw [Array.size_push]; omega
      · rw [if_neg (fun h => hc ((sub1 a c k _ hx).mp h.2)), if_neg hc]
        exact occ1 a c m (k + 1) found free (by omega) (by omega) (by omega)
    · rw [if_neg (fun h => by have h2 : k + 1 ≤ a.length := h.1.2; omega)]
      refine (occ1 a c m (k + 1) found free (by omega) (by omega) (by omega)).trans ?_
      rw [List.drop_of_length_le (by omega), List.drop_of_length_le (by omega)]
theorem count1 (z : Str) (c : Nat) : Txt.count z ⟨#[c]⟩ = (cntN c z.cps.toList : Nat) := by
  cases z with | mk a => cases a with | mk a =>
  unfold Txt.count
  rw [StrLaws.occ_eq, Array.length_toList]
  show ((forIn (List.range' 0 (a.length + 1)) (#[], 0) (StrLaws.occBody ⟨⟨a⟩⟩ ⟨#[c]⟩ a.length (a.length + 1))).run.fst.size : Int) = _
  rw [occ1 a c (a.length + 1) 0 #[] 0 (Nat.le_refl _) (Nat.le_refl _) (by omega)]
  simp
theorem sc_L (s : Str) : scountI s (PySem.Str.ofString "L") = (cntN 76 s.cps.toList : Nat) := count1 s 76
end
end FL.C1
namespace FL.NL
open PySem FL.C1
def sgL : Str := PySem.Str.ofString "L"
def sgS : Str := PySem.Str.ofString "s"
/-- a word of the letters L and s -/
def wdB (z : Str) : Bool := decide (1 ≤ z.cps.toList.length) && decide (z.cps.toList.length ≤ 40) && z.cps.toList.all fun c => decide (c = 76) || decide (c = 115)
structure Wd (z : Str) : Prop where
  l1 : 1 ≤ z.length
  l2 : z.length ≤ 40
  all : ∀ w ∈ chS z, w = sgL ∨ w = sgS
theorem len_cps {z : Str} : z.cps.toList.length = z.length := by rw [← chS_len]; unfold chS; rw [List.length_map]
theorem Wd.of {z : Str} (h : wdB z = true) : Wd z := by
  unfold wdB at h
  rw [Bool.and_eq_true, Bool.and_eq_true, decide_eq_true_eq, decide_eq_true_eq, List.all_eq_true, len_cps] at h
  refine ⟨h.1.1, h.1.2, fun w hw => ?_⟩
  unfold chS at hw
  obtain ⟨c, hc, rfl⟩ := List.mem_map.mp hw
  have := h.2 c hc
  rw [Bool.or_eq_true, decide_eq_true_eq, decide_eq_true_eq] at this
  rcases this with rfl | rfl
  · exact .inl rfl
  · exact .inr rfl
/-- the numbers of L in all parts of a size -/
noncomputable def cw (l : List Nat) (s : Nat) : List Nat := (List.range l.length).map fun a => cntN 76 (((l ++ l).drop a).take s)
theorem cw_len {l : List Nat} {s : Nat} : (cw l s).length = l.length := by unfold cw; rw [List.length_map, List.length_range]
/-! least and greatest -/
theorem kMaxI_spec : ∀ (xs : List Int) (x : Int), kMax PyData.int x xs ∈ x :: xs ∧ ∀ y ∈ x :: xs, y ≤ kMax PyData.int x xs
  | [], x => ⟨List.mem_singleton.mpr rfl, fun y hy => by rw [List.mem_singleton.mp hy]; exact Int.le_refl _⟩
  | y :: xs, x => by
    have e : kMax PyData.int x (y :: xs) = kMax PyData.int (if kLt PyData.int x y = true then y else x) xs := rfl
    rw [e, kLt_I]
    obtain ⟨h1, h2⟩ := kMaxI_spec xs (if decide (x < y) = true then y else x)
    simp only [decide_eq_true_eq] at h1 h2 ⊢
    by_cases h : x < y
    · rw [if_pos h] at h1 h2 ⊢
      exact ⟨List.mem_cons_of_mem _ h1, fun z hz => by
        rcases List.mem_cons.mp hz with rfl | hz
        · have := h2 y (List.mem_cons_self ..); omega
        · exact h2 z hz⟩
    · rw [if_neg h] at h1 h2 ⊢
      refine ⟨?_, fun z hz => ?_⟩
      · rcases List.mem_cons.mp h1 with h1 | h1
        · rw [h1]; exact List.mem_cons_self ..
        · exact List.mem_cons_of_mem _ (List.mem_cons_of_mem _ h1)
      · rcases List.mem_cons.mp hz with rfl | hz
        · exact h2 _ (List.mem_cons_self ..)
        · rcases List.mem_cons.mp hz with rfl | hz
          · have := h2 x (List.mem_cons_self ..); omega
          · exact h2 z (List.mem_cons_of_mem _ hz)
theorem kMinI_spec (xs : List Int) (x : Int) : kMin PyData.int x xs ∈ x :: xs ∧ ∀ y ∈ x :: xs, kMin PyData.int x xs ≤ y := by
  obtain ⟨h1, h2⟩ := kMin_spec (d := PyData.int) xs x
  refine ⟨h1, fun y hy => ?_⟩
  have := h2 y hy
  rw [kLt_I, decide_eq_false_iff_not] at this
  omega
noncomputable def mxN (l : List Nat) : Nat := List.rec (motive := fun _ => Nat) 0 (fun x _ n => cd (Nat.ble x n) n x) l
noncomputable def mnN (l : List Nat) : Nat := List.rec (motive := fun _ => Nat) 1000 (fun x _ n => cd (Nat.ble x n) x n) l
theorem mxN_cons (x : Nat) (l : List Nat) : mxN (x :: l) = max x (mxN l) := by
  show cd (Nat.ble x (mxN l)) (mxN l) x = _
  rw [← cd_e]
  by_cases h : x ≤ mxN l
  · rw [if_pos (by rw [Nat.ble_eq]; exact h)]; omega
  · rw [if_neg (by rw [Nat.ble_eq]; exact h)]; omega
theorem mnN_cons (x : Nat) (l : List Nat) : mnN (x :: l) = min x (mnN l) := by
  show cd (Nat.ble x (mnN l)) x (mnN l) = _
  rw [← cd_e]
  by_cases h : x ≤ mnN l
  · rw [if_pos (by rw [Nat.ble_eq]; exact h)]; omega
  · rw [if_neg (by rw [Nat.ble_eq]; exact h)]; omega
theorem mxN_spec : ∀ {l : List Nat}, l ≠ [] → mxN l ∈ l ∧ ∀ y ∈ l, y ≤ mxN l
  | [x], _ => by rw [mxN_cons]; exact ⟨by simp [mxN], fun y hy => by rw [List.mem_singleton.mp hy]; omega⟩
  | x :: y :: l, _ => by
    obtain ⟨h1, h2⟩ := mxN_spec (l := y :: l) nofun
    rw [mxN_cons]
    refine ⟨?_, fun z hz => ?_⟩
    · by_cases h : x ≤ mxN (y :: l)
      · rw [Nat.max_eq_right h]; exact List.mem_cons_of_mem _ h1
      · rw [Nat.max_eq_left (by omega)]; exact List.mem_cons_self ..
    · rcases List.mem_cons.mp hz with rfl | hz
      · omega
      · have := h2 z hz; omega
theorem mnN_spec : ∀ {l : List Nat}, l ≠ [] → (∀ y ∈ l, y ≤ 1000) → mnN l ∈ l ∧ ∀ y ∈ l, mnN l ≤ y
  | [x], _, hb => by
    have := hb x (List.mem_singleton.mpr rfl)
    rw [mnN_cons]
    have e : mnN [] = 1000 := rfl
    rw [e, Nat.min_eq_left this]
    exact ⟨List.mem_singleton.mpr rfl, fun y hy => by rw [List.mem_singleton.mp hy]; exact Nat.le_refl _⟩
  | x :: y :: l, _, hb => by
    obtain ⟨h1, h2⟩ := mnN_spec (l := y :: l) nofun (fun z hz => hb z (List.mem_cons_of_mem _ hz))
    rw [mnN_cons]
    refine ⟨?_, fun z hz => ?_⟩
    · by_cases h : x ≤ mnN (y :: l)
      · rw [Nat.min_eq_left h]; exact List.mem_cons_self ..
      · rw [Nat.min_eq_right (by omega)]; exact List.mem_cons_of_mem _ h1
    · rcases List.mem_cons.mp hz with rfl | hz
      · omega
      · have := h2 z hz; omega
theorem max_N {l : List Nat} (h : l ≠ []) : mmR PySem.W.maxD asI (eL eI (l.map fun (n : Nat) => (n : Int))) = .ok (mxN l : Int) := by
  cases l with
  | nil => exact absurd rfl h
  | cons x xs =>
    rw [List.map_cons, max_ok key_I (by decide) (fun _ => rfl)]
    obtain ⟨h1, h2⟩ := kMaxI_spec (xs.map fun (n : Nat) => (n : Int)) (x : Int)
    obtain ⟨h3, h4⟩ := mxN_spec h
    rw [← List.map_cons (f := fun (n : Nat) => (n : Int))] at h1 h2
    obtain ⟨n, hn, e⟩ := List.mem_map.mp h1
    have a := h4 n hn
    have b := h2 _ (List.mem_map.mpr ⟨_, h3, rfl⟩)
    congr 1; omega
theorem min_N {l : List Nat} (h : l ≠ []) (hb : ∀ y ∈ l, y ≤ 1000) : mmR PySem.W.minD asI (eL eI (l.map fun (n : Nat) => (n : Int))) = .ok (mnN l : Int) := by
  cases l with
  | nil => exact absurd rfl h
  | cons x xs =>
    rw [List.map_cons, min_ok key_I (by decide) (fun _ => rfl)]
    obtain ⟨h1, h2⟩ := kMinI_spec (xs.map fun (n : Nat) => (n : Int)) (x : Int)
    obtain ⟨h3, h4⟩ := mnN_spec h hb
    rw [← List.map_cons (f := fun (n : Nat) => (n : Int))] at h1 h2
    obtain ⟨n, hn, e⟩ := List.mem_map.mp h1
    have a := h4 n hn
    have b := h2 _ (List.mem_map.mpr ⟨_, h3, rfl⟩)
    congr 1; omega
theorem cnt_le (c : Nat) : ∀ l : List Nat, cntN c l ≤ l.length
  | [] => Nat.le_refl _
  | x :: l => by rw [cntN_cons]; have := cnt_le c l; simp only [List.length_cons]; split <;> omega
theorem cw_le {l : List Nat} {s : Nat} : ∀ y ∈ cw l s, y ≤ s := fun y hy => by
  unfold cw at hy
  obtain ⟨a, _, rfl⟩ := List.mem_map.mp hy
  refine Nat.le_trans (cnt_le ..) ?_
  rw [List.length_take]; omega
/-- whether the parts of a size differ by at most one -/
noncomputable def flat (l : List Nat) (s : Nat) : Bool := Nat.ble (mxN (cw l s)) (mnN (cw l s) + 1)
noncomputable def balB (l : List Nat) : Bool := (List.range (l.length - 1)).all fun s => flat l (s + 1)
theorem flat_two {l : List Nat} {s : Nat} (hs : s ≤ 1000) (h : flat l s = true) {x y : Nat} (hx : x ∈ cw l s) (hy : y ∈ cw l s) : x ≤ y + 1 := by
  unfold flat at h
  rw [Nat.ble_eq] at h
  have h0 : cw l s ≠ [] := List.ne_nil_of_mem hx
  obtain ⟨_, a⟩ := mxN_spec h0
  obtain ⟨_, b⟩ := mnN_spec h0 (fun y hy => Nat.le_trans (cw_le y hy) hs)
  have := a x hx; have := b y hy; omega
theorem enum_mem {α : Type} : ∀ {xs : List α} {k : Nat} {p : Int × α × Unit}, p ∈ enumL k xs → ∃ j : Nat, ∃ h : j < xs.length, p = ((k : Int) + j, xs[j], ())
  | [], k, p, h => by simp [enumL] at h
  | x :: xs, k, p, h => by
    unfold enumL at h
    rcases List.mem_cons.mp h with rfl | h
    · exact ⟨0, by simp, by simp⟩
    · obtain ⟨j, hj, rfl⟩ := enum_mem h
      exact ⟨j + 1, by simp; omega, by simp; omega⟩
theorem enum_len {α : Type} : ∀ {xs : List α} {k : Nat}, (enumL k xs).length = xs.length
  | [], _ => rfl
  | x :: xs, k => by unfold enumL; rw [List.length_cons, List.length_cons, enum_len]
theorem enumL_mem {α : Type} {xs : List α} {p : Int × α × Unit} (h : p ∈ enumL 0 xs) : 0 ≤ p.1 ∧ p.1 < xs.length ∧ p.2.1 ∈ xs := by
  obtain ⟨j, hj, rfl⟩ := enum_mem h
  exact ⟨by show (0 : Int) ≤ ((0 : Nat) : Int) + j; omega, by show ((0 : Nat) : Int) + j < _; omega, List.getElem_mem hj⟩
end FL.NL

/-! PQ: loops that grow; numbers stripped of primes; within, bounded. -/
namespace FL.NL
open PySem PySem.W
section
variable {α β σ : Type}
theorem appR_ok {xs : List α} {x : α} (h : xs.length < 16777216) : appR xs x = .ok (xs ++ [x]) := by unfold appR; rw [if_pos h]
end
/-! ### stripped of a prime -/
/-! ### within, bounded -/
end FL.NL

/-! PW: rows of intervals: sums, steps, opposites. -/
namespace FL.NL
open PySem
def addL : List Int → List Int → List Int
  | x :: X, y :: Y => (x + y) :: addL X Y
  | _, _ => []
theorem sub_zero : ∀ {X : List Int}, subL X (List.replicate X.length 0) = X
  | [] => rfl
  | x :: X => by rw [List.length_cons, List.replicate_succ]; simp only [subL]; rw [sub_zero]; simp
end FL.NL

/-! PR: sums of so many of some rows, two ways; prefixes; lists without doubles. -/
namespace FL.NL
open PySem PySem.W
/-! ### sums by sublists -/
abbrev SP := List Int × Int × Unit
def sumv (z : List Int) (T : List (List Int)) : List Int := T.foldl addL z
def stT (k : Int) (told : List SP) (x : List Int) : List SP := told ++ (told.filter fun p => decide (p.2.1 < k)).map fun p => (addL p.1 x, p.2.1 + 1, ())
def InvT (k : Int) (z : List Int) (pre : List (List Int)) (told : List SP) : Prop := ∀ p, p ∈ told ↔ ∃ T : List (List Int), T.Sublist pre ∧ (T.length : Int) ≤ k ∧ p = (sumv z T, (T.length : Int), ())
theorem InvT.start {k : Int} (hk : 0 ≤ k) {z : List Int} : InvT k z [] [(z, 0, ())] := fun p => by
  rw [List.mem_singleton]
  constructor
  · rintro rfl; exact ⟨[], List.Sublist.refl _, by simpa using hk, rfl⟩
  · rintro ⟨T, h1, _, rfl⟩
    rw [List.sublist_nil.mp h1]; rfl
theorem sub_one {α : Type} {x : α} {l : List α} (h : l.Sublist [x]) : l = [] ∨ l = [x] := by
  cases h with
  | cons _ h => exact .inl (List.sublist_nil.mp h)
  | cons_cons _ h => rw [List.sublist_nil.mp h]; exact .inr rfl
theorem InvT.step {k : Int} {z : List Int} {pre : List (List Int)} {told : List SP} (h : InvT k z pre told) (x : List Int) : InvT k z (pre ++ [x]) (stT k told x) := fun p => by
  unfold stT
  rw [List.mem_append, h]
  constructor
  · rintro (⟨T, h1, h2, rfl⟩ | hp)
    · exact ⟨T, h1.trans (List.sublist_append_left ..), h2, rfl⟩
    · obtain ⟨q, hq, rfl⟩ := List.mem_map.mp hp
      obtain ⟨q1, q2⟩ := List.mem_filter.mp hq
      obtain ⟨T, h1, h2, rfl⟩ := (h q).mp q1
      have q2 : (T.length : Int) < k := of_decide_eq_true q2
      refine ⟨T ++ [x], h1.append (List.Sublist.refl _), by simp; omega, ?_⟩
      unfold sumv
      simp
  · rintro ⟨T, h1, h2, rfl⟩
    obtain ⟨l1, l2, rfl, s1, s2⟩ := List.sublist_append_iff.mp h1
    rcases sub_one s2 with rfl | rfl
    · rw [List.append_nil] at *
      exact .inl ⟨l1, s1, h2, rfl⟩
    · refine .inr (List.mem_map.mpr ⟨(sumv z l1, (l1.length : Int), ()), List.mem_filter.mpr ⟨(h _).mpr ⟨l1, s1, by simp at h2; omega, rfl⟩, decide_eq_true (by simp at h2; show (l1.length : Int) < k; omega)⟩, ?_⟩)
      unfold sumv
      simp
theorem InvT.all {k : Int} {z : List Int} : ∀ {xs pre : List (List Int)} {told : List SP}, InvT k z pre told → InvT k z (pre ++ xs) (xs.foldl (stT k) told)
  | [], pre, told, h => by rw [List.append_nil]; exact h
  | x :: xs, pre, told, h => by
    have := InvT.all (xs := xs) (h.step x)
    rw [List.foldl_cons]
    simpa using this
/-! ### ascending columns -/
theorem asc_sub : ∀ {n : Nat} {lo : Int} {c : List Int}, c.Pairwise (· < ·) → (∀ x ∈ c, lo ≤ x ∧ x < lo + n) → c.Sublist (rg lo n)
  | 0, lo, [], _, _ => List.nil_sublist _
  | 0, lo, a :: c, _, h => by have := h a (List.mem_cons_self ..); omega
  | n + 1, lo, [], _, _ => List.nil_sublist _
  | n + 1, lo, a :: c, hp, h => by
    rw [rg_succ]
    obtain ⟨p1, p2⟩ := List.pairwise_cons.mp hp
    have ha := h a (List.mem_cons_self ..)
    by_cases e : a = lo
    · subst e
      exact (asc_sub p2 fun x hx => by have := p1 x hx; have := h x (List.mem_cons_of_mem _ hx); omega).cons_cons _
    · refine (asc_sub (c := a :: c) hp fun x hx => ?_).cons _
      have := h x hx
      rcases List.mem_cons.mp hx with rfl | hx
      · omega
      · have := p1 x hx; omega
/-! ### without doubles -/
end FL.NL

/-! PF: residues of a number without a common factor; even sets of such, and chains. -/
namespace FL.NL
open PySem
/-- m has no common factor with n -/
def Cpr (m n : Int) : Prop := ∀ x, n ∣ m * x → n ∣ x
theorem res_nd {m n : Int} (hn : 0 < n) (h : Cpr m n) : ((rg 0 n.toNat).map fun k => (m * k) % n).Nodup := by
  refine List.pairwise_map.mpr (List.Pairwise.imp_of_mem (R := (· < ·)) (fun {a b} ha hb hab e => ?_) rg_pair)
  have ha := mem_rg.mp ha
  have hb := mem_rg.mp hb
  have h1 : n ∣ m * (b - a) := by
    rw [Int.mul_sub]
    exact Int.dvd_of_emod_eq_zero (Int.emod_eq_emod_iff_emod_sub_eq_zero.mp e.symm)
  obtain ⟨c, hc⟩ := h _ h1
  have c0 : 0 < c := by
    apply Classical.byContradiction
    intro hh
    have := Int.mul_le_mul_of_nonneg_left (show c ≤ 0 by omega) (show 0 ≤ n by omega)
    omega
  have := Int.mul_le_mul_of_nonneg_left (show 1 ≤ c by omega) (show 0 ≤ n by omega)
  omega
theorem res_perm {m n : Int} (hn : 0 < n) (h : Cpr m n) : ((rg 0 n.toNat).map fun k => (m * k) % n).Perm (rg 0 n.toNat) := by
  have e : kSort PyData.int ((rg 0 n.toNat).map fun k => (m * k) % n) = rg 0 n.toNat := by
    have asc := asc_up (kSort_asc (d := PyData.int) (xs := (rg 0 n.toNat).map fun k => (m * k) % n)) (kSort_perm.nodup_iff.mpr (res_nd hn h))
    refine (asc_sub (lo := 0) (n := n.toNat) asc fun x hx => ?_).eq_of_length ?_
    · rw [kSort_perm.mem_iff] at hx
      obtain ⟨k, _, rfl⟩ := List.mem_map.mp hx
      have a := Int.emod_nonneg (m * k) (show n ≠ 0 by omega)
      have b := Int.emod_lt_of_pos (m * k) hn
      show 0 ≤ (m * k) % n ∧ (m * k) % n < 0 + (n.toNat : Int)
      omega
    · rw [kSort_perm.length_eq, List.length_map]
  have p := kSort_perm (d := PyData.int) (xs := (rg 0 n.toNat).map fun k => (m * k) % n)
  rw [e] at p
  exact p.symm
theorem res_sur {m n : Int} (hn : 0 < n) (h : Cpr m n) (c : Int) : ∃ k, 0 ≤ k ∧ k < n ∧ (m * k) % n = c % n := by
  have a := Int.emod_nonneg c (show n ≠ 0 by omega)
  have b := Int.emod_lt_of_pos c hn
  have : c % n ∈ (rg 0 n.toNat).map fun k => (m * k) % n := (res_perm hn h).mem_iff.mpr (mem_rg.mpr (by omega))
  obtain ⟨k, hk, e⟩ := List.mem_map.mp this
  have := mem_rg.mp hk
  exact ⟨k, by omega, by omega, e⟩
end FL.NL

/-! PX: texts joined and told again, at a place; the order of a walk of triads. -/
namespace FL.NL
open PySem PySem.W
theorem glued_cps : ∀ (xs : List Str) (acc : Array Nat), (xs.foldl (fun acc (p : Str) => acc ++ (PySem.Str.ofString "").cps ++ p.cps) acc).toList = acc.toList ++ (xs.map fun p => p.cps.toList).flatten
  | [], acc => by simp
  | x :: xs, acc => by
    rw [List.foldl_cons, glued_cps xs]
    have : (PySem.Str.ofString "").cps = #[] := by decide
    rw [this]
    simp
theorem chS_join {l : List Str} : chS (Txt.join (PySem.Str.ofString "") l) = (l.map chS).flatten := by
  cases l with
  | nil => rfl
  | cons x xs =>
    show ((xs.foldl (fun acc (p : Str) => acc ++ (PySem.Str.ofString "").cps ++ p.cps) x.cps).toList.map _) = _
    rw [glued_cps, List.map_append, List.map_flatten, List.map_map]
    rfl
theorem chS_repS {z : Str} {k : Int} : chS (repS z k) = (List.replicate k.toNat (chS z)).flatten := by
  show (((List.replicate k.toNat z.cps.toList).flatten).map _) = _
  rw [List.map_flatten, List.map_replicate]
  rfl
theorem strsT_eS : ∀ (l : List Str), strsT (l.map eS) = some l
  | [] => rfl
  | x :: xs => by
    show (strsT (xs.map eS)).map (x :: ·) = _
    rw [strsT_eS xs]; rfl
theorem sum_le_len : ∀ {l : List Str} {n : Nat}, (∀ w ∈ l, w.length ≤ n) → (l.map fun (w : Str) => w.length).sum ≤ l.length * n
  | [], n, _ => by simp
  | x :: xs, n, h => by
    rw [List.map_cons, List.sum_cons, List.length_cons, Nat.succ_mul]
    have := h x (List.mem_cons_self ..)
    have := sum_le_len (fun w hw => h w (List.mem_cons_of_mem _ hw))
    omega
theorem joinR_ok {l : List Str} (h : ∀ w ∈ l, w.length ≤ 10) (hl : l.length ≤ 100) : joinR (PySem.Str.ofString "") (eL eS l) = .ok (Txt.join (PySem.Str.ofString "") l) := by
  have h1 := sum_le_len h
  have h2 : (PySem.Str.ofString "").length = 0 := by decide
  have : sJoin (PySem.Str.ofString "") (eL eS l) = some (.str (Txt.join (PySem.Str.ofString "") l)) := by
    show (match strsT (l.map eS) with
      | some (ys : List Str) => if (ys.map fun (w : Str) => w.length).sum + ys.length * (PySem.Str.ofString "").length ≤ 16777216 then some (T.str (Txt.join (PySem.Str.ofString "") ys)) else none
      | none => none) = _
    rw [strsT_eS]
    simp only
    rw [if_pos (by rw [h2]; omega)]
  unfold joinR
  rw [this]
  unfold optR
  simp only [R.bind_ok]
  unfold asS
  rfl
theorem Mvs.join {l : List Str} (h : ∀ w ∈ l, w = sP ∨ w = sL ∨ w = sR) : Mvs (Txt.join (PySem.Str.ofString "") l) l.length := by
  have e : (l.map chS).flatten = l := by
    induction l with
    | nil => rfl
    | cons x xs ih =>
      rw [List.map_cons, List.flatten_cons, ih fun w hw => h w (List.mem_cons_of_mem _ hw), (ch_one (h x (List.mem_cons_self ..))).1]
      rfl
  refine ⟨fun w hw => ?_, ?_⟩
  · rw [chS_join, e] at hw; exact h w hw
  · rw [← chS_len, chS_join, e]; exact Nat.le_refl _
theorem rep_len {α : Type} {ws : List α} : ∀ {n : Nat}, ((List.replicate n ws).flatten).length = n * ws.length
  | 0 => by simp
  | n + 1 => by rw [List.replicate_succ, List.flatten_cons, List.length_append, rep_len, Nat.succ_mul]; omega
theorem rep_mem {α : Type} {ws : List α} {n : Nat} {w : α} (h : w ∈ (List.replicate n ws).flatten) : w ∈ ws := by
  obtain ⟨l, h1, h2⟩ := List.mem_flatten.mp h
  rw [(List.mem_replicate.mp h1).2] at h2
  exact h2
theorem Mvs.rep {z : Str} {n k : Nat} (h : Mvs z n) (hk : z.length * k ≤ 200) : Mvs (repS z k) 200 := by
  refine ⟨fun w hw => ?_, ?_⟩
  · rw [chS_repS] at hw; exact h.all w (rep_mem hw)
  · rw [← chS_len, chS_repS, rep_len, chS_len, Int.toNat_natCast, Nat.mul_comm]; exact hk
/-- the walk again and again -/
def gp (m th fi : Int) (ws : List Str) (n : Nat) (t : Tri) : Tri := wk m th fi t (List.replicate n ws).flatten
theorem gp_0 {m th fi : Int} {ws : List Str} {t : Tri} : gp m th fi ws 0 t = t := rfl
theorem gp_1 {m th fi : Int} {ws : List Str} {n : Nat} {t : Tri} : gp m th fi ws (n + 1) t = wk m th fi (gp m th fi ws n t) ws := by
  unfold gp; rw [List.replicate_succ', List.flatten_append, wk_app]; simp
theorem gp_one {m th fi : Int} {ws : List Str} {t : Tri} : gp m th fi ws 1 t = wk m th fi t ws := by rw [gp_1, gp_0]
def cf (th fi : Int) : List Str → Int
  | [] => 0
  | w :: ws => (if w = sP then 0 else stepOf th fi w) - cf th fi ws
def pf : List Str → Bool
  | [] => true
  | _ :: ws => !pf ws
theorem wk_cf {m th fi : Int} (hm : 0 < m) : ∀ {ws : List Str} {t : Tri}, TOk m t → wk m th fi t ws = (if t.2.1 = true then ((t.1 + cf th fi ws) % m, pf ws, ()) else ((t.1 - cf th fi ws) % m, !pf ws, ()))
  | [], t, h => by
    have e0 : t.1 % m = t.1 := Int.emod_eq_of_lt h.r0 h.r1
    obtain ⟨r, b, u⟩ := t
    simp only at e0
    cases b <;> simp [wk, cf, pf, e0]
  | w :: ws, t, h => by
    show wk m th fi (mv m th fi t w) ws = _
    rw [wk_cf hm (mv_ok hm h)]
    have e1 : ∀ a b c : Int, ((a + b) % m - c) % m = (a + (b - c)) % m := fun a b c => by rw [Int.emod_sub_emod]; congr 1; omega
    have e2 : ∀ a b c : Int, ((a - b) % m + c) % m = (a - (b - c)) % m := fun a b c => by rw [Int.emod_add_emod]; congr 1; omega
    obtain ⟨r, b, u⟩ := t
    have ec : cf th fi (w :: ws) = (if w = sP then 0 else stepOf th fi w) - cf th fi ws := rfl
    have ep : pf (w :: ws) = !pf ws := rfl
    rw [ec, ep]
    unfold mv
    by_cases hp : w = sP
    · simp only [hp, if_true]
      cases b with
      | true => simp only [Bool.not_true, Bool.false_eq_true, if_false, if_true]; rw [show r + (0 - cf th fi ws) = r - cf th fi ws by omega]
      | false => simp only [Bool.not_false, Bool.false_eq_true, if_false, if_true, Bool.not_not]; rw [show r - (0 - cf th fi ws) = r + cf th fi ws by omega]
    · simp only [hp, if_false]
      cases b with
      | true => simp only [if_true, Bool.not_true, Bool.false_eq_true, if_false, e1]
      | false => simp only [Bool.false_eq_true, if_false, Bool.not_false, if_true, Bool.not_not, e2]
abbrev triO : Tri := (0, true, ())
theorem triO_ok {m : Int} (hm : 0 < m) : TOk m triO := ⟨Int.le_refl _, hm⟩
theorem gp_pos {m th fi : Int} (hm : 0 < m) {ws : List Str} (hp : pf ws = true) : ∀ {n : Nat}, gp m th fi ws n triO = ((n * cf th fi ws) % m, true, ())
  | 0 => by simp [gp_0]
  | n + 1 => by
    rw [gp_1, gp_pos hm hp, wk_cf hm ⟨(emod_lt' hm).1, (emod_lt' hm).2⟩]
    simp only [if_true, hp, Int.emod_add_emod, Int.natCast_add, Int.natCast_one, Int.add_mul, Int.one_mul]
theorem gp_small {m th fi : Int} (hm : 2 ≤ m) {ws : List Str} : ∃ n : Nat, 1 ≤ n ∧ (n : Int) ≤ m ∧ gp m th fi ws n triO = triO := by
  cases hp : pf ws with
  | true =>
    refine ⟨m.toNat, by omega, by omega, ?_⟩
    rw [gp_pos (by omega) hp, Int.toNat_of_nonneg (by omega), Int.mul_emod_right]
  | false =>
    refine ⟨2, by omega, hm, ?_⟩
    rw [gp_1, gp_one, wk_cf (by omega) (triO_ok (by omega))]
    simp only [if_true, hp]
    rw [wk_cf (by omega) ⟨(emod_lt' (by omega)).1, (emod_lt' (by omega)).2⟩]
    simp only [Bool.false_eq_true, if_false, hp, Bool.not_false, Int.zero_add, Int.emod_sub_emod, Int.sub_self, Int.zero_emod]
/-- r is the order of the walk -/
structure Ord (m th fi : Int) (ws : List Str) (r : Nat) : Prop where
  r1 : 1 ≤ r
  fx : gp m th fi ws r triO = triO
  mn : ∀ n, 1 ≤ n → n < r → gp m th fi ws n triO ≠ triO
theorem Ord.le {m th fi : Int} (hm : 2 ≤ m) {ws : List Str} {r : Nat} (h : Ord m th fi ws r) : (r : Int) ≤ m := by
  obtain ⟨n, h1, h2, h3⟩ := gp_small (th := th) (fi := fi) hm (ws := ws)
  by_cases e : n < r
  · exact absurd h3 (h.mn n h1 e)
  · omega
/-- step by step -/
def tsq (m th fi : Int) (ws : List Str) (t : Tri) : Nat → Tri
  | 0 => t
  | i + 1 => mv m th fi (tsq m th fi ws t i) (ws.getD (i % ws.length) sP)
def pre (m th fi : Int) (ws : List Str) (t : Tri) (n : Nat) : List Tri := (List.range n).map (tsq m th fi ws t)
end FL.NL

/-! PM: chains with two gaps: their notes, gaps and words by integers. -/
namespace FL.NL
open PySem FL.C1
/-- a chain of b + d notes on the way to a fraction -/
structure Tw (M s b d a c A B : Int) : Prop where
  b1 : 1 ≤ b
  d1 : 1 ≤ d
  det : b * c - a * d = 1
  eA : A = b * s - a * M
  eB : B = c * M - d * s
  pA : 0 < A
  pB : 0 < B
/-- how many wraps up to j -/
def Fl (n b j : Int) : Int := (j * b) / n
section
variable {n b : Int}
theorem fl_0 : Fl n b 0 = 0 := by unfold Fl; rw [Int.zero_mul, Int.zero_ediv]
theorem fl_n (hn : 0 < n) (j : Int) : Fl n b (j + n) = Fl n b j + b := by
  unfold Fl
  rw [Int.add_mul, Int.add_mul_ediv_left _ _ (by omega)]
theorem fl_win (hn : 0 < n) (j k : Int) : Fl n b (j + k) - Fl n b j = (k * b) / n ∨ Fl n b (j + k) - Fl n b j = (k * b) / n + 1 := by
  unfold Fl
  have := fl_add (n := n) (Y := j * b) (K := k * b) hn
  rw [Int.add_mul]
  omega
theorem fl_step (b0 : 0 ≤ b) (bn : b < n) (j : Int) : Fl n b (j + 1) = Fl n b j ∨ Fl n b (j + 1) = Fl n b j + 1 := by
  have h := fl_win (b := b) (show 0 < n by omega) j 1
  rw [Int.one_mul, Int.ediv_eq_zero_of_lt b0 bn] at h
  omega
/-- a window that is as long as k: which residue -/
theorem fl_res (j : Int) : n * Fl n b j + (j * b) % n = j * b := Int.mul_ediv_add_emod ..
end
/-- the places of the notes -/
def vPl (n b A B j : Int) : Int := A * (j - Fl n b j) + B * Fl n b j
section
variable {M s b d a c A B : Int}
theorem Tw.n0 (h : Tw M s b d a c A B) : 0 < b + d := by have := h.b1; have := h.d1; omega
theorem Tw.tot (h : Tw M s b d a c A B) : d * A + b * B = M := by
  obtain ⟨_, _, det, eA, eB, _, _⟩ := h
  rw [eA, eB]
  have : d * (b * s - a * M) + b * (c * M - d * s) = (b * c - a * d) * M := by grind
  rw [this, det]; omega
theorem Tw.step (h : Tw M s b d a c A B) (j : Int) : (Fl (b + d) b (j + 1) = Fl (b + d) b j ∧ vPl (b + d) b A B (j + 1) - vPl (b + d) b A B j = A) ∨ (Fl (b + d) b (j + 1) = Fl (b + d) b j + 1 ∧ vPl (b + d) b A B (j + 1) - vPl (b + d) b A B j = B) := by
  have := h.b1; have := h.d1
  rcases fl_step (n := b + d) (b := b) (by omega) (by omega) j with e | e
  · refine .inl ⟨e, ?_⟩
    unfold vPl
    rw [e]
    generalize Fl (b + d) b j = F
    grind
  · refine .inr ⟨e, ?_⟩
    unfold vPl
    rw [e]
    generalize Fl (b + d) b j = F
    grind
theorem Tw.up (h : Tw M s b d a c A B) (j : Int) : vPl (b + d) b A B j < vPl (b + d) b A B (j + 1) := by
  have := h.pA; have := h.pB
  rcases h.step j with ⟨_, e⟩ | ⟨_, e⟩ <;> omega
theorem Tw.per (h : Tw M s b d a c A B) (j : Int) : vPl (b + d) b A B (j + (b + d)) = vPl (b + d) b A B j + M := by
  unfold vPl
  rw [fl_n h.n0, ← h.tot]
  generalize Fl (b + d) b j = F
  grind
theorem vPl_0 {n : Int} : vPl n b A B 0 = 0 := by unfold vPl; rw [fl_0]; simp
theorem Tw.lt (h : Tw M s b d a c A B) (i : Int) : ∀ k : Nat, 0 < k → vPl (b + d) b A B i < vPl (b + d) b A B (i + k)
  | 0, h0 => by omega
  | 1, _ => h.up i
  | k + 2, _ => by
    have h1 := h.lt i (k + 1) (by omega)
    have h2 := h.up (i + ((k + 1 : Nat) : Int))
    rw [show i + ((k + 2 : Nat) : Int) = i + ((k + 1 : Nat) : Int) + 1 by omega]
    omega
theorem Tw.mono (h : Tw M s b d a c A B) {i j : Int} (hij : i < j) : vPl (b + d) b A B i < vPl (b + d) b A B j := by
  have := h.lt i (j - i).toNat (by omega)
  rwa [show i + ((j - i).toNat : Int) = j by omega] at this
theorem Tw.vmod (h : Tw M s b d a c A B) (j : Int) : vPl (b + d) b A B j = ((j * b) % (b + d)) * s + M * (c * Fl (b + d) b j - a * (j - Fl (b + d) b j)) := by
  have hr := fl_res (n := b + d) (b := b) j
  obtain ⟨_, _, det, eA, eB, _, _⟩ := h
  unfold vPl
  generalize Fl (b + d) b j = F at *
  generalize (j * b) % (b + d) = r at *
  have : r = j * b - (b + d) * F := by omega
  rw [this, eA, eB]
  grind
theorem Tw.at (h : Tw M s b d a c A B) (hM : 0 < M) {j : Int} (j0 : 0 ≤ j) (j1 : j < b + d) : vPl (b + d) b A B j = rs M s ((j * b) % (b + d)) := by
  have h0 : 0 ≤ vPl (b + d) b A B j := by
    by_cases e : j = 0
    · rw [e, vPl_0]; exact Int.le_refl _
    · have := h.mono (i := 0) (j := j) (by omega)
      rw [vPl_0] at this; omega
  have h1 : vPl (b + d) b A B j < M := by
    have h2 := h.mono (i := j) (j := 0 + (b + d)) (by omega)
    rw [h.per, vPl_0] at h2; omega
  have e := h.vmod j
  unfold rs
  rw [← Int.emod_eq_of_lt h0 h1, e, Int.add_mul_emod_self_left]
theorem Tw.cpr (h : Tw M s b d a c A B) : Cpr b (b + d) := fun x hx => by
  obtain ⟨z, hz⟩ := hx
  refine ⟨z * (a + c) - a * x, ?_⟩
  have := h.det
  have e : x = x * (b * c - a * d) := by rw [this]; omega
  grind
/-- the notes -/
theorem Tw.notes (h : Tw M s b d a c A B) (hM : 0 < M) {L : List Int} (hasc : L.Pairwise (· < ·)) (hm : ∀ x, x ∈ L ↔ ∃ i : Int, 0 ≤ i ∧ i < b + d ∧ x = rs M s i) : L = (rg 0 (b + d).toNat).map (vPl (b + d) b A B) := by
  have hn := h.n0
  refine asc_uniq hasc (List.pairwise_map.mpr (rg_pair.imp fun hab => h.mono hab)) fun x => ?_
  rw [hm]
  constructor
  · rintro ⟨i, i0, i1, rfl⟩
    obtain ⟨k, k0, k1, e⟩ := res_sur hn h.cpr i
    refine List.mem_map.mpr ⟨k, mem_rg.mpr (by omega), ?_⟩
    rw [h.at hM k0 k1, Int.mul_comm k b, e, Int.emod_eq_of_lt i0 i1]
  · intro hx
    obtain ⟨j, hj, rfl⟩ := List.mem_map.mp hx
    have hj := mem_rg.mp hj
    exact ⟨_, Int.emod_nonneg _ (by omega), Int.emod_lt_of_pos _ hn, h.at hM (by omega) (by omega)⟩
end
/-! words by steps of a function -/
/-- the signs of a word -/
def sgn1 (p : Bool) : Nat := if p = true then 76 else 115
/-- a text joined of texts of one sign -/
theorem join_cps {l : List Str} {cs : List Nat} (h : l.map (fun z => z.cps.toList) = cs.map fun c => [c]) : (Txt.join (PySem.Str.ofString "") l).cps.toList = cs := by
  have h1 := congrArg (List.map fun z : Str => z.cps.toList) (chS_join (l := l))
  have h2 : ∀ z : Str, (chS z).map (fun z : Str => z.cps.toList) = z.cps.toList.map fun c => [c] := fun z => by
    unfold chS
    rw [List.map_map]; rfl
  rw [h2] at h1
  have h3 : (List.map (fun z : Str => z.cps.toList) (l.map chS).flatten) = cs.map fun c => [c] := by
    rw [List.map_flatten, List.map_map]
    have : l.map ((List.map fun z : Str => z.cps.toList) ∘ chS) = (l.map (fun z => z.cps.toList)).map (List.map fun c => [c]) := by
      rw [List.map_map]
      exact List.map_congr_left fun z _ => h2 z
    rw [this, h, List.map_map]
    clear h h1 h2 this
    induction cs with
    | nil => rfl
    | cons c cs ih => rw [List.map_cons, List.flatten_cons, ih]; rfl
  rw [h3] at h1
  have inj : ∀ {xs ys : List Nat}, xs.map (fun c => [c]) = ys.map (fun c => [c]) → xs = ys := fun {xs} => by
    induction xs with
    | nil => intro ys h; cases ys with
      | nil => rfl
      | cons y ys => cases h
    | cons x xs ih => intro ys h; cases ys with
      | nil => cases h
      | cons y ys =>
        rw [List.map_cons, List.map_cons] at h
        injection h with h1 h2
        injection h1 with h1
        rw [h1, ih h2]
  exact inj h1
theorem str_ext {x y : Str} (h : x.cps.toList = y.cps.toList) : x = y := by
  cases x with | mk a => cases y with | mk b => exact congrArg _ (Array.toList_inj.mp h)
/-! sums of gaps -/
theorem sum_tel (f : Int → Int) : ∀ (k : Nat) (i : Int), ((rg i k).map fun j => f (j + 1) - f j).sum = f (i + k) - f i
  | 0, i => by
    have : i + ((0 : Nat) : Int) = i := by omega
    rw [this]; simp [rg]
  | k + 1, i => by
    rw [rg_succ, List.map_cons, List.sum_cons, sum_tel f k (i + 1), show i + 1 + (k : Int) = i + ((k + 1 : Nat) : Int) by omega]
    omega
section
variable {M s b d a c A B : Int}
/-- one window value: by the number of wraps -/
def wv2 (A B k x : Int) : Int := A * (k - x) + B * x
theorem Tw.win (h : Tw M s b d a c A B) (j k : Int) : vPl (b + d) b A B (j + k) - vPl (b + d) b A B j = wv2 A B k (Fl (b + d) b (j + k) - Fl (b + d) b j) := by
  unfold vPl wv2
  generalize Fl (b + d) b (j + k) = F
  generalize Fl (b + d) b j = F0
  grind
theorem Tw.wmod (h : Tw M s b d a c A B) (k x : Int) : ∃ z, wv2 A B k x = s * (k * b - (b + d) * x) + M * z := by
  obtain ⟨_, _, det, eA, eB, _, _⟩ := h
  refine ⟨c * x - a * (k - x), ?_⟩
  unfold wv2
  rw [eA, eB]; grind
theorem wsum (h : Tw M s b d a c A B) : ∀ k : Nat, ((rg 0 (b + d).toNat).map fun j => Fl (b + d) b (j + k) - Fl (b + d) b j).sum = k * b
  | 0 => by
    have : (rg 0 (b + d).toNat).map (fun j => Fl (b + d) b (j + ((0 : Nat) : Int)) - Fl (b + d) b j) = (rg 0 (b + d).toNat).map fun _ => (0 : Int) := List.map_congr_left fun j _ => by
      rw [show j + ((0 : Nat) : Int) = j by omega]; omega
    rw [this]
    have z : ∀ l : List Int, (l.map fun _ => (0 : Int)).sum = 0 := fun l => by
      induction l with
      | nil => rfl
      | cons x l ih => rw [List.map_cons, List.sum_cons, ih]; rfl
    rw [z]; simp
  | k + 1 => by
    have hn := h.n0
    have h1 := wsum h k
    have h2 := sum_tel (fun j => Fl (b + d) b (j + k)) (b + d).toNat 0
    have add : ∀ l : List Int, (l.map fun j => Fl (b + d) b (j + ((k + 1 : Nat) : Int)) - Fl (b + d) b j).sum = (l.map fun j => Fl (b + d) b (j + k) - Fl (b + d) b j).sum + (l.map fun j => Fl (b + d) b (j + 1 + k) - Fl (b + d) b (j + k)).sum := fun l => by
      induction l with
      | nil => rfl
      | cons x l ih =>
        simp only [List.map_cons, List.sum_cons] at ih ⊢
        rw [ih, show x + ((k + 1 : Nat) : Int) = x + 1 + (k : Int) by omega]
        omega
    rw [add, h1]
    rw [h2]
    have h3 := fl_n (b := b) hn (k : Int)
    rw [show (0 : Int) + (((b + d).toNat : Nat) : Int) + (k : Int) = k + (b + d) by omega, Int.zero_add, h3]
    have : ((k + 1 : Nat) : Int) * b = k * b + b := by rw [Int.natCast_add, Int.add_mul]; simp
    omega
theorem cnt_two {β : Int → Int} {v0 v1 β0 : Int} {val : Int → Int} (hv : v0 ≠ v1) (h0 : val β0 = v0) (h1 : val (β0 + 1) = v1) : ∀ l : List Int, (∀ j ∈ l, β j = β0 ∨ β j = β0 + 1) → (((l.map fun j => val (β j)).count v1 : Nat) : Int) = (l.map fun j => β j).sum - l.length * β0 ∧ (((l.map fun j => val (β j)).count v0 : Nat) : Int) = l.length - ((l.map fun j => β j).sum - l.length * β0)
  | [], _ => by simp
  | j :: l, h => by
    obtain ⟨i1, i2⟩ := cnt_two hv h0 h1 l fun j hj => h j (List.mem_cons_of_mem _ hj)
    have hm : ((j :: l).length : Int) * β0 = l.length * β0 + β0 := by
      rw [List.length_cons, Int.natCast_add, Int.add_mul]; simp
    rw [hm]
    simp only [List.map_cons, List.sum_cons, List.count_cons, List.length_cons]
    rcases h j (List.mem_cons_self ..) with e | e
    · rw [e, h0]
      have a1 : (v0 == v1) = false := by simpa using hv
      have a2 : (v0 == v0) = true := by simp
      rw [a1, a2]
      simp only [Bool.false_eq_true, if_false, if_true]
      omega
    · rw [e, h1]
      have a1 : (v1 == v0) = false := by simpa using fun e => hv e.symm
      have a2 : (v1 == v1) = true := by simp
      rw [a1, a2]
      simp only [Bool.false_eq_true, if_false, if_true]
      omega
/-- a window whose value all windows but one have: a step up or down -/
theorem Tw.gen (h : Tw M s b d a c A B) (hAB : A ≠ B) {k : Nat} (k1 : 1 ≤ k) (k2 : (k : Int) < b + d) {e : Int} (he : e ∈ (rg 0 (b + d).toNat).map fun j => vPl (b + d) b A B (j + k) - vPl (b + d) b A B j)
    (hc : (((((rg 0 (b + d).toNat).map fun j => vPl (b + d) b A B (j + k) - vPl (b + d) b A B j).count e : Nat)) : Int) = b + d - 1) : M ∣ e - s ∨ M ∣ e + s := by
  have hn := h.n0
  have b1 := h.b1
  have d1 := h.d1
  have hW : (rg 0 (b + d).toNat).map (fun j => vPl (b + d) b A B (j + k) - vPl (b + d) b A B j) = (rg 0 (b + d).toNat).map fun j => wv2 A B k (Fl (b + d) b (j + k) - Fl (b + d) b j) := List.map_congr_left fun j _ => h.win j k
  rw [hW] at he hc
  have two := fun j (_ : j ∈ rg 0 (b + d).toNat) => fl_win (b := b) hn j (k : Int)
  have hr := Int.mul_ediv_add_emod ((k : Int) * b) (b + d)
  obtain ⟨β0, hβ⟩ : ∃ β0, β0 = ((k : Int) * b) / (b + d) := ⟨_, rfl⟩
  rw [← hβ] at two hr
  have hv : wv2 A B k β0 ≠ wv2 A B k (β0 + 1) := fun e2 => by
    unfold wv2 at e2
    apply hAB
    grind
  obtain ⟨c1, c0⟩ := cnt_two (β := fun j => Fl (b + d) b (j + k) - Fl (b + d) b j) (val := wv2 A B k) hv rfl rfl (rg 0 (b + d).toNat) two
  rw [wsum h k, rg_len] at c1 c0
  have ec : (((b + d).toNat : Nat) : Int) = b + d := by omega
  rw [ec] at c1 c0
  obtain ⟨j, hj, rfl⟩ := List.mem_map.mp he
  rcases two j hj with e2 | e2
  · simp only [e2] at hc ⊢
    rw [c0] at hc
    obtain ⟨z, hz⟩ := h.wmod (k : Int) β0
    left
    have : (k : Int) * b - (b + d) * β0 = 1 := by omega
    rw [hz, this]
    exact ⟨z, by omega⟩
  · simp only [e2] at hc ⊢
    rw [c1] at hc
    obtain ⟨z, hz⟩ := h.wmod (k : Int) (β0 + 1)
    right
    have : (k : Int) * b - (b + d) * (β0 + 1) = -1 := by
      rw [Int.mul_add]; omega
    rw [hz, this]
    exact ⟨z, by omega⟩
end
end FL.NL

/-! PN: list.index. -/
namespace FL.NL
open PySem PySem.W
end FL.NL

/-! PO: ratios as pairs in lowest terms. -/
namespace FL.NL
open PySem
abbrev Rat2 := Int × (Int × Unit)
/-- the lowest terms -/
def lw (x y : Int) : Rat2 := (x / (Int.gcd x y : Int), y / (Int.gcd x y : Int), ())
/-! insertion by ratios -/
end FL.NL

/-! PH: chains of ratios: insertion by keys, three kinds of gaps. -/
namespace FL.NL
open PySem
theorem nodup_le {α : Type} [DecidableEq α] : ∀ {xs ys : List α}, xs.Nodup → (∀ x ∈ xs, x ∈ ys) → xs.length ≤ ys.length
  | [], _, _, _ => by simp
  | x :: xs, ys, hn, h => by
    rw [List.nodup_cons] at hn
    have hx : x ∈ ys := h x (List.mem_cons_self ..)
    have := nodup_le (xs := xs) (ys := ys.erase x) hn.2 fun y hy => (List.mem_erase_of_ne fun (e : y = x) => hn.1 (e ▸ hy)).mpr (h y (List.mem_cons_of_mem _ hy))
    rw [List.length_erase_of_mem hx] at this
    have := List.length_pos_of_mem hx
    rw [List.length_cons]; omega
/-! insertion by keys -/
section
variable {κ : Int → Int} {L : List Int} {x : Int}
end
/-! gaps -/
end FL.NL

namespace TW
open PySem FL
-- is_int: 0:value
def limits.R_is_int : MS :=
  sRet (andV (op1 (isiO .int) (rdA 0)) (notV (op1 (isiO .bl) (rdA 0))))
def limits.F_is_int : Sg := fnF 1 1 limits.R_is_int
-- need_word: 0:value 1:sign
def words.L_need_word_1 : M T :=
  op2 inO (rdA 1) (rdC (.str (PySem.Str.ofString "Ls")))
def words.R_need_word : MS :=
  sIf (orT (notT (truth (op1 (isiO .str) (rdA 0)))) (orT (notT (tst (chn leO leO (rdC (.int 1)) (lenA 0) (rdC (.int (40)))))) (notT (truth (calF all1O (rdCons (frzM (lcM [1] (iSeqA (rdA 0)) (gN 1) (yes) (words.L_need_word_1))) (rdNil))))))) (bad) (skip)
def words.F_need_word : Sg := fnF 2 1 words.R_need_word
-- counts_of: 0:word 1:size 2:double 3:at
def words.L_counts_of_1 : M T :=
  sM1 sCount (slM (rdA 2) (poS (rdA 3)) (poS (op2 addO (rdA 3) (rdA 1)))) (rdC (.str (PySem.Str.ofString "L")))
def words.R_counts_of : MS :=
  sq (sSet 2 (asT (op2 addO (rdA 0) (rdA 0))))
  (sRet (frzM (lcM [3] (calI rg1 (rdCons (lenA 0) (rdNil))) (gN 3) (yes) (words.L_counts_of_1))))
def words.F_counts_of : Sg := fnF 4 2 words.R_counts_of
-- _law_taken: 0:_law_row 1:_law_many 2:_law_cell 3:_law_found
def lw.R__law_taken : MS :=
  sq (sIf (tst (op2 gtO (ixA 0 (rdC (.int 3))) (rdC (.int 0)))) (sq (sSet 3 (asT (op2 modO (calF intA (rdCons (ixA 0 (rdC (.int 3))) (rdNil))) (rdA 1))))
  (sq (sSetI 0 (rdC (.int 3)) (op2 divA (ixA 0 (rdC (.int 3))) (rdA 1)))
  (sRet (rdA 3)))) (skip))
  (sq (sSetI 0 (rdC (.int 1)) (op2 addO (ixA 0 (rdC (.int 1))) (rdC (.int 1))))
  (sq (sIf (tst (op2 gtO (ixA 0 (rdC (.int 1))) (calF lenO (rdCons (ixA 0 (rdC (.int 0))) (rdNil))))) (sq (sSetI 0 (rdC (.int 2)) (op2 modO (calF intA (rdCons (op2 addO (op2 mulA (ixA 0 (rdC (.int 2))) (rdC (.int 48271))) (rdC (.int 11))) (rdNil))) (rdC (.int 2147483647))))
  (sRet (op2 modO (calF intA (rdCons (op2 divA (ixA 0 (rdC (.int 2))) (rdC (.int 7))) (rdNil))) (rdA 1)))) (skip))
  (sq (sSet 2 (asT (op2 ixO (ixA 0 (rdC (.int 0))) (op2 subA (ixA 0 (rdC (.int 1))) (rdC (.int 1))))))
  (sq (sSetI 0 (rdC (.int 2)) (op2 modO (calF intA (rdCons (op2 addO (op2 addO (op2 mulA (ixA 0 (rdC (.int 2))) (rdC (.int 48271))) (rdA 2)) (rdC (.int 11))) (rdNil))) (rdC (.int 2147483647))))
  (sq (sIf (tst (op2 geO (rdA 2) (op2 powO (rdC (.int 10)) (rdC (.int 18))))) (sSetI 0 (rdC (.int 3)) (op2 divA (rdA 2) (rdA 1))) (skip))
  (sRet (op2 modO (calF intA (rdCons (rdA 2) (rdNil))) (rdA 1))))))))
def lw.F__law_taken : SgM := fnM 4 2 lw.R__law_taken
-- is_in: 0:value 1:least 2:most
def limits.R_is_in : MS :=
  sRet (andV (calU limits.F_is_int (rdCons (rdA 0) (rdNil))) (chn leO leO (rdA 1) (rdA 0) (rdA 2)))
def limits.F_is_in : Sg := fnF 3 3 limits.R_is_in
-- is_balanced: 0:word 1:told 2:size
def words.L_is_balanced_1 : M T :=
  calU words.F_counts_of (rdCons (rdA 0) (rdCons (rdA 2) (rdNil)))
def words.L_is_balanced_2 : M T :=
  op2 ltO (op2 subA (calF (mmO PySem.W.maxD) (rdCons (rdA 1) (rdNil))) (calF (mmO PySem.W.minD) (rdCons (rdA 1) (rdNil)))) (rdC (.int 2))
def words.R_is_balanced : MS :=
  sq (sExpr (calU words.F_need_word (rdCons (rdA 0) (rdNil))))
  (sRet (calF all1O (rdCons (frzM (lcM [1] (iSeqA (frzM (lcM [2] (calI rg2 (rdCons (rdC (.int 1)) (rdCons (lenA 0) (rdNil)))) (gN 2) (yes) (words.L_is_balanced_1)))) (gN 1) (yes) (words.L_is_balanced_2))) (rdNil))))
def words.F_is_balanced : Sg := fnF 3 1 words.R_is_balanced
-- word_clash: 0:word 1:size 2:told 3:at 4:one 5:more
def words.B_word_clash_1 : MS :=
  sIf (tst (op2 gtO (calF abs1O (rdCons (op2 subA (rdA 4) (ixA 2 (rdA 5))) (rdNil))) (rdC (.int 1)))) (sRet (calF tupO (rdCons (rdA 1) (rdCons (rdA 3) (rdCons (rdA 5) (rdNil)))))) (skip)
def words.B_word_clash_2 : MS :=
  sFor (calI rg2 (rdCons (op2 addO (rdA 3) (rdC (.int 1))) (rdCons (lenA 2) (rdNil)))) (gN 5) (words.B_word_clash_1)
def words.B_word_clash_3 : MS :=
  sq (sSet 2 (asT (calU words.F_counts_of (rdCons (rdA 0) (rdCons (rdA 1) (rdNil))))))
  (sFor (calI enum1 (rdCons (rdA 2) (rdNil))) (gT (gsCons (gN 3) (gsCons (gN 4) (gsNil)))) (words.B_word_clash_2))
def words.R_word_clash : MS :=
  sq (sExpr (calU words.F_need_word (rdCons (rdA 0) (rdNil))))
  (sq (sFor (calI rg2 (rdCons (rdC (.int 1)) (rdCons (lenA 0) (rdNil)))) (gN 1) (words.B_word_clash_3))
  (sRet (rdC .non)))
def words.F_word_clash : Sg := fnF 6 1 words.R_word_clash
-- modes: 0:word 1:at
def words.L_modes_1 : M T :=
  op2 addO (slM (rdA 0) (poS (rdA 1)) (poN)) (slM (rdA 0) (poN) (poS (rdA 1)))
def words.L_modes_2 : M T :=
  rdC (.bl true)
def words.R_modes : MS :=
  sq (sExpr (calU words.F_need_word (rdCons (rdA 0) (rdNil))))
  (sRet (frzM (calO (one1 sortDk) (rdCons (frzM (dcM [1] (calI rg1 (rdCons (lenA 0) (rdNil))) (gN 1) (yes) (words.L_modes_1) (words.L_modes_2))) (rdNil)))))
def words.F_modes : Sg := fnF 2 1 words.R_modes
-- generator_sizes: 0:word 1:found 2:size 3:told
def words.B_generator_sizes_1 : MS :=
  sq (sSet 3 (asT (calU words.F_counts_of (rdCons (rdA 0) (rdCons (rdA 2) (rdNil))))))
  (sIf (andT (tst (op2 eqO (op1 lenSetX (rdA 3)) (rdC (.int 2)))) (tst (op2 inO (rdC (.int 1)) (calF tupO (rdCons (lM1 (fun xs y => cntO (.lst xs) y) (rdA 3) (calF (mmO PySem.W.minD) (rdCons (rdA 3) (rdNil)))) (rdCons (lM1 (fun xs y => cntO (.lst xs) y) (rdA 3) (calF (mmO PySem.W.maxD) (rdCons (rdA 3) (rdNil)))) (rdNil))))))) (sExpr (apnM 1 (rdA 2))) (skip))
def words.R_generator_sizes : MS :=
  sq (sExpr (calU words.F_need_word (rdCons (rdA 0) (rdNil))))
  (sq (sSet 1 (asO (calO newL (rdNil))))
  (sq (sFor (calI rg2 (rdCons (rdC (.int 1)) (rdCons (lenA 0) (rdNil)))) (gN 2) (words.B_generator_sizes_1))
  (sRet (rdA 1))))
def words.F_generator_sizes : Sg := fnF 4 1 words.R_generator_sizes
-- _law_pick: 0:_law_row 1:_law_things
def lw.R__law_pick : MS :=
  sRet (ixA 1 (calM lw.F__law_taken 0 (rdCons (lenA 1) (rdNil))))
def lw.F__law_pick : SgM := fnM 2 2 lw.R__law_pick
-- need_letters: 0:large 1:small
def words.R_need_letters : MS :=
  sq (sIf (orT (notT (truth (calU limits.F_is_in (rdCons (rdA 0) (rdCons (rdC (.int 0)) (rdCons (rdC (.int (40))) (rdNil))))))) (notT (truth (calU limits.F_is_in (rdCons (rdA 1) (rdCons (rdC (.int 0)) (rdCons (rdC (.int (40))) (rdNil)))))))) (bad) (skip))
  (sIf (notT (tst (chn leO leO (rdC (.int 1)) (op2 addO (rdA 0) (rdA 1)) (rdC (.int (40)))))) (bad) (skip))
def words.F_need_letters : Sg := fnF 2 2 words.R_need_letters
-- even_word: 0:large 1:small 2:many 3:told 4:at 5:letter
def words.L_even_word_1 : M T :=
  op2 subA (op1 negO (op2 divA (op2 mulA (op1 negO (rdA 0)) (op2 addO (rdA 4) (rdC (.int 1)))) (rdA 2))) (op1 negO (op2 divA (op2 mulA (op1 negO (rdA 0)) (rdA 4)) (rdA 2)))
def words.L_even_word_2 : M T :=
  ifE (tst (op2 eqO (rdA 5) (rdC (.int 1)))) (rdC (.str (PySem.Str.ofString "L"))) (rdC (.str (PySem.Str.ofString "s")))
def words.R_even_word : MS :=
  sq (sExpr (calU words.F_need_letters (rdCons (rdA 0) (rdCons (rdA 1) (rdNil)))))
  (sq (sSet 2 (asT (op2 addO (rdA 0) (rdA 1))))
  (sq (sSet 3 (asT (frzM (lcM [4] (calI rg1 (rdCons (rdA 2) (rdNil))) (gN 4) (yes) (words.L_even_word_1)))))
  (sRet (sM1 sJoin (rdC (.str (PySem.Str.ofString ""))) (frzM (lcM [5] (iSeqA (rdA 3)) (gN 5) (yes) (words.L_even_word_2)))))))
def words.F_even_word : Sg := fnF 6 2 words.R_even_word
-- _law_alike: 0:_law_found 1:_law_due 2:_law_k
def lw.Q__law_alike_1 (self : Sg) : M Bool :=
  notT (truth (calU self (rdCons (ixA 0 (rdA 2)) (rdCons (ixA 1 (rdA 2)) (rdNil)))))
def lw.L__law_alike_1 (self : Sg) : M T :=
  rdA 2
def lw.R__law_alike (self : Sg) : MS :=
  sq (sIf (truth (op1 (isi2O .tup .lst) (rdA 1))) (sq (sIf (orT (notT (truth (op1 (isi2O .tup .lst) (rdA 0)))) (tst (op2 neO (op1 (isiO .lst) (rdA 0)) (op1 (isiO .lst) (rdA 1))))) (sRet (rdC (.bl false))) (skip))
  (sq (sIf (tst (op2 neO (lenA 0) (lenA 1))) (sRet (rdC (.bl false))) (skip))
  (sRet (op2 eqO (frzM (lcM [2] (calI rg1 (rdCons (lenA 1) (rdNil))) (gN 2) ((lw.Q__law_alike_1 self)) ((lw.L__law_alike_1 self)))) (frzM (calO newL (rdNil))))))) (skip))
  (sq (sIf (orT (tst (op2 (isNO false) (rdA 1) (rdC .non))) (truth (op1 (isiO .str) (rdA 1)))) (sRet (andV (op2 eqO (rdA 0) (rdA 1)) (op2 eqO (op1 (isiO .str) (rdA 0)) (op1 (isiO .str) (rdA 1))))) (skip))
  (sRet (andV (op1 (isiO .int) (rdA 0)) (andV (op2 eqO (op1 (isiO .bl) (rdA 0)) (op1 (isiO .bl) (rdA 1))) (op2 eqO (rdA 0) (rdA 1))))))
def lw.F__law_alike : Nat → Sg
  | 0 => fun _ => .bad
  | k + 1 => fnF 3 2 (lw.R__law_alike (lw.F__law_alike k))
-- law: 0:_law_script 1:_law_row 2:_law_many 3:_law_word 4:_law_size 5:_law_large 6:_law_spot 7:_law_due 8:_law_sizes 9:_law_told 10:_law_one 11:_law_other 12:_law_at 13:_law_entry
def lw.L_law_1 : M T :=
  calM lw.F__law_pick 1 (rdCons (frzM (calO newL (rdCons (rdC (.str (PySem.Str.ofString "L"))) (rdCons (rdC (.str (PySem.Str.ofString "s"))) (rdNil))))) (rdNil))
def lw.S_law_1 : MS :=
  sSet 5 (asT (calM lw.F__law_taken 1 (rdCons (op2 addO (rdA 2) (rdC (.int 1))) (rdNil))))
def lw.S_law_2 : MS :=
  sSet 3 (asT (calU words.F_even_word (rdCons (rdA 5) (rdCons (op2 subA (rdA 2) (rdA 5)) (rdNil)))))
def lw.S_law_3 : MS :=
  sSet 6 (asT (calM lw.F__law_taken 1 (rdCons (rdA 2) (rdNil))))
def lw.S_law_4 : MS :=
  sSet 3 (asT (op2 addO (slM (rdA 3) (poS (rdA 6)) (poN)) (slM (rdA 3) (poN) (poS (rdA 6)))))
def lw.L_law_2 : M T :=
  sM1 sCount (slM (op2 addO (rdA 3) (rdA 3)) (poS (rdA 12)) (poS (op2 addO (rdA 12) (rdA 4)))) (rdC (.str (PySem.Str.ofString "L")))
def lw.B_law_1 : MS :=
  sIf (andT (tst (op2 (isNO false) (rdA 7) (rdC .non))) (tst (op2 gtO (calF abs1O (rdCons (op2 subA (ixA 9 (rdA 10)) (ixA 9 (rdA 11))) (rdNil))) (rdC (.int 1))))) (sSet 7 (asT (calF tupO (rdCons (rdA 4) (rdCons (rdA 10) (rdCons (rdA 11) (rdNil))))))) (skip)
def lw.B_law_2 : MS :=
  sFor (calI rg2 (rdCons (op2 addO (rdA 10) (rdC (.int 1))) (rdCons (rdA 2) (rdNil)))) (gN 11) (lw.B_law_1)
def lw.L_law_3 : M T :=
  lM1 (fun xs y => cntO (.lst xs) y) (rdA 9) (rdA 13)
def lw.S_law_5 : MS :=
  sSet 9 (asT (frzM (lcM [12] (calI rg1 (rdCons (rdA 2) (rdNil))) (gN 12) (yes) (lw.L_law_2))))
def lw.S_law_6 : MS :=
  sFor (calI rg1 (rdCons (rdA 2) (rdNil))) (gN 10) (lw.B_law_2)
def lw.S_law_7 : MS :=
  sIf (andT (tst (op2 eqO (op1 lenSetX (rdA 9)) (rdC (.int 2)))) (tst (op2 inO (rdC (.int 1)) (frzM (lcM [13] (iSeqA (rdA 9)) (gN 13) (yes) (lw.L_law_3)))))) (sExpr (apnM 8 (rdA 4))) (skip)
def lw.B_law_3 : MS :=
  sq (lw.S_law_5)
  (sq (lw.S_law_6)
  (lw.S_law_7))
def lw.L_law_4 : M T :=
  op2 addO (slM (rdA 3) (poS (rdA 12)) (poN)) (slM (rdA 3) (poN) (poS (rdA 12)))
def lw.S_law_8 : MS :=
  sSet 1 (asO (calO newL (rdCons (rdA 0) (rdCons (rdC (.int 0)) (rdCons (rdC (.int 4255)) (rdCons (rdC (.int 0)) (rdNil)))))))
def lw.S_law_9 : MS :=
  sSet 2 (asT (op2 addO (rdC (.int 1)) (calM lw.F__law_taken 1 (rdCons (rdC (.int 20)) (rdNil)))))
def lw.S_law_10 : MS :=
  sSet 3 (asT (sM1 sJoin (rdC (.str (PySem.Str.ofString ""))) (frzM (lcM [12] (calI rg1 (rdCons (rdA 2) (rdNil))) (gN 12) (yes) (lw.L_law_1)))))
def lw.S_law_11 : MS :=
  sIf (tst (op2 eqO (calM lw.F__law_taken 1 (rdCons (rdC (.int 2)) (rdNil))) (rdC (.int 0)))) (sq (lw.S_law_1)
  (sq (lw.S_law_2)
  (sq (lw.S_law_3)
  (lw.S_law_4)))) (skip)
def lw.S_law_12 : MS :=
  sIf (tst (op2 eqO (calM lw.F__law_taken 1 (rdCons (rdC (.int 4)) (rdNil))) (rdC (.int 0)))) (sSet 3 (asT (op2 revS (rdA 3) (op1 negO (rdC (.int 1)))))) (skip)
def lw.S_law_13 : MS :=
  sPar 7 8 (xsCons (asT (rdC .non)) (xsCons (asO (calO newL (rdNil))) (xsNil)))
def lw.S_law_14 : MS :=
  sFor (calI rg2 (rdCons (rdC (.int 1)) (rdCons (rdA 2) (rdNil)))) (gN 4) (lw.B_law_3)
def lw.S_law_15 : MS :=
  sIf (orT (notT (truth (calU (lw.F__law_alike 8) (rdCons (calU words.F_word_clash (rdCons (rdA 3) (rdNil))) (rdCons (rdA 7) (rdNil)))))) (notT (truth (calU (lw.F__law_alike 8) (rdCons (calU words.F_is_balanced (rdCons (rdA 3) (rdNil))) (rdCons (op2 (isNO false) (rdA 7) (rdC .non)) (rdNil))))))) (sRet (rdC (.bl false))) (skip)
def lw.S_law_16 : MS :=
  sIf (notT (truth (calU (lw.F__law_alike 8) (rdCons (calU words.F_modes (rdCons (rdA 3) (rdNil))) (rdCons (frzM (calO (one1 ssX) (rdCons (frzM (lcM [12] (calI rg1 (rdCons (rdA 2) (rdNil))) (gN 12) (yes) (lw.L_law_4))) (rdNil)))) (rdNil)))))) (sRet (rdC (.bl false))) (skip)
def lw.S_law_17 : MS :=
  sRet (calU (lw.F__law_alike 8) (rdCons (calU words.F_generator_sizes (rdCons (rdA 3) (rdNil))) (rdCons (rdA 8) (rdNil))))
def lw.R_law : MS :=
  sq (lw.S_law_8)
  (sq (lw.S_law_9)
  (sq (lw.S_law_10)
  (sq (lw.S_law_11)
  (sq (lw.S_law_12)
  (sq (lw.S_law_13)
  (sq (lw.S_law_14)
  (sq (lw.S_law_15)
  (sq (lw.S_law_16)
  (lw.S_law_17)))))))))
def lw.F_law : Sg := fnF 14 1 lw.R_law
end TW

/-! NLT: the laws' helpers that are done by hand. -/
namespace FL.NL
open PySem PySem.Spec TW
theorem mulA_int {i j : Int} : mulA (.int i) (.int j) = if mulC i j then some (.int (i * j)) else none := Eq.trans rfl rfl
theorem divA_e {i j : Int} (h : 0 < j) (h2 : j < 18446744073709551616) : divA (.int i) (.int j) = some (.int (i / j)) := by
  have := divR_pos (a := i) h h2
  have l := div_I i j
  rw [this] at l
  exact l
theorem intA_int {i : Int} : intA [.int i] = some (.int i) := Eq.trans rfl rfl
theorem subA_int {i j : Int} : subA (.int i) (.int j) = some (.int (i - j)) := Eq.trans rfl rfl
theorem p18 : powO (.int 10) (.int 18) = some (.int 1000000000000000000) := by rfl
theorem pc18 : powC 10 18 = true := by decide
theorem taken {o : O} (h : RowOk o) {m : Int} (h0 : 0 < m) (h1 : m < 18446744073709551616) : ∃ r o', lw.F__law_taken o [.int m] = .ok (.int r, o') [] ∧ 0 ≤ r ∧ r < m ∧ RowOk o' := by
  obtain ⟨cs, a, b, c, rfl, ha, hb, hb2⟩ := h
  have hm : ∀ i : Int, 0 ≤ i % m ∧ i % m < m := fun i => ⟨Int.emod_nonneg _ (by omega), Int.emod_lt_of_pos _ h0⟩
  have hd : ∀ i : Int, divA (.int i) (.int m) = some (.int (i / m)) := fun i => divA_e h0 h1
  have hmo : ∀ i : Int, modO (.int i) (.int m) = some (.int (i % m)) := fun i => modO_e h0
  have h2 : ∀ i : Int, modO (.int i) (.int 2147483647) = some (.int (i % 2147483647)) := fun i => modO_e (by decide)
  have h7 : ∀ i : Int, divA (.int i) (.int 7) = some (.int (i / 7)) := fun i => divA_e (by decide) (by decide)
  have hb3 : ∀ i : Int, 0 ≤ i % 2147483647 ∧ i % 2147483647 < 2147483647 := fun i => ⟨Int.emod_nonneg _ (by omega), Int.emod_lt_of_pos _ (by decide)⟩
  have hmu : mulA (.int b) (.int 48271) = some (.int (b * 48271)) := by
    rw [mulA_int, if_pos (mulC_of (m := 64) (n := 64) (by omega) (by decide) (by decide) (by decide) (by decide))]
  have i0 : ∀ {x y z w : T}, atT [x, y, z, w] 0 = some x := rfl
  have i1 : ∀ {x y z w : T}, atT [x, y, z, w] 1 = some y := rfl
  have i2 : ∀ {x y z w : T}, atT [x, y, z, w] 2 = some z := rfl
  have i3 : ∀ {x y z w : T}, atT [x, y, z, w] 3 = some w := rfl
  have d1 : idx 4 1 = some 1 := rfl
  have d2 : idx 4 2 = some 2 := rfl
  have d3 : idx 4 3 = some 3 := rfl
  by_cases hc : 0 < c
  · refine ⟨c % m, .l [.sl (cs.map T.int), .int a, .int b, .int (c / m)], ?_, (hm c).1, (hm c).2, cs, a, b, _, rfl, ha, hb, hb2⟩
    simp [lw.F__law_taken, fnM, lw.R__law_taken, has_e, rdOwn_e, setOwn_e, i0, i1, i2, i3, d3, hc, hmo, hd, rdA_e, intA_int, subA_int, -intC_e]
  · by_cases hl : (cs.length : Int) < a + 1
    · refine ⟨((b * 48271 + 11) % 2147483647) / 7 % m, .l [.sl (cs.map T.int), .int (a + 1), .int ((b * 48271 + 11) % 2147483647), .int c], ?_, (hm _).1, (hm _).2, cs, a + 1, _, _, rfl, by omega, (hb3 _).1, (hb3 _).2⟩
      simp [lw.F__law_taken, fnM, lw.R__law_taken, has_e, rdOwn_e, setOwn_e, i0, i1, i2, i3, d1, d2, d3, hc, hmo, hd, rdA_e, hl, h2, h7, hmu, intA_int, subA_int, -intC_e]
    · have hx : a.toNat < cs.length := by omega
      have hcell : atT (cs.map T.int) a = some (.int (cs[a.toNat]'hx)) := atT_pos ha (by simp [hx])
      generalize hz : cs[a.toNat]'hx = z at hcell
      by_cases hg : 1000000000000000000 ≤ z
      · refine ⟨z % m, .l [.sl (cs.map T.int), .int (a + 1), .int ((b * 48271 + z + 11) % 2147483647), .int (z / m)], ?_, (hm _).1, (hm _).2, cs, a + 1, _, _, rfl, by omega, (hb3 _).1, (hb3 _).2⟩
        simp [lw.F__law_taken, fnM, lw.R__law_taken, has_e, rdOwn_e, setOwn_e, i0, i1, i2, i3, d1, d2, d3, hc, hmo, hd, rdA_e, hl, h2, h7, hmu, hcell, p18, hg, intA_int, subA_int, -intC_e]
      · refine ⟨z % m, .l [.sl (cs.map T.int), .int (a + 1), .int ((b * 48271 + z + 11) % 2147483647), .int c], ?_, (hm _).1, (hm _).2, cs, a + 1, _, _, rfl, by omega, (hb3 _).1, (hb3 _).2⟩
        simp [lw.F__law_taken, fnM, lw.R__law_taken, has_e, rdOwn_e, setOwn_e, i0, i1, i2, i3, d1, d2, d3, hc, hmo, hd, rdA_e, hl, h2, h7, hmu, hcell, p18, hg, intA_int, subA_int, -intC_e]
/-- a drawn number -/
def N._law_taken (m : Int) : R Int := .dr m fun v => .ok v
theorem n__law_taken (m : Int) : FnM lw.F__law_taken (aC eI aN (m, ())) (N._law_taken m) eI := fun o ho h0 h1 => by
  obtain ⟨r, o', e, r0, r1, ho'⟩ := taken ho h0 h1
  exact ⟨r, r0, r1, o', [], ho', e⟩
end FL.NL

/-! NL5: alike. -/
namespace FL
open PySem PySem.Spec TW
theorem atI {i : Int} {n : Nat} {ts : List T} {t : T} (h : ts[n]? = some t) (e : i = n) : atT ts i = some t := by subst e; exact atT_nat h
theorem mem_rgT {lo : Int} {n : Nat} {t : T} (h : t ∈ rgT lo n) : ∃ i : Nat, i < n ∧ t = .int (lo + (i : Nat)) := by
  unfold rgT at h
  obtain ⟨i, hi, rfl⟩ := List.mem_map.mp h
  exact ⟨i, List.mem_range.mp hi, rfl⟩
mutual
/-- numbers, truths, texts, and rows of them, so deep -/
def adat : Nat → T → Bool
  | _, .non => true
  | _, .int _ => true
  | _, .bl _ => true
  | _, .str _ => true
  | k + 1, .tup ts => adats k ts && decide (ts.length ≤ 1000000)
  | k + 1, .lst ts => adats k ts && decide (ts.length ≤ 1000000)
  | _, _ => false
def adats : Nat → List T → Bool
  | _, [] => true
  | k, t :: ts => adat k t && adats k ts
end
theorem adats_get : ∀ {k : Nat} {ts : List T} {i : Nat} {t : T}, adats k ts = true → ts[i]? = some t → adat k t = true
  | k, [], i, t, _, h => by simp at h
  | k, u :: us, 0, t, a, h => by
    simp only [adats, Bool.and_eq_true] at a
    simp only [List.getElem?_cons_zero, Option.some.injEq] at h
    exact h ▸ a.1
  | k, u :: us, i + 1, t, a, h => by
    simp only [adats, Bool.and_eq_true] at a
    exact adats_get a.2 (by simpa using h)
theorem eqO_nil : eqO (.lst []) (.lst []) = some (.bl true) := rfl
theorem alike_comp {F : Sg} {t : T} {ts : List T} (ht : t = .tup ts ∨ t = .lst ts) (hl : ts.length ≤ 1000000) (h : ∀ u ∈ ts, F [u, u] = .ok (.bl true) []) :
    lcL [2] (gN 2) (lw.Q__law_alike_1 F) (lw.L__law_alike_1 F) (rgT 0 ts.length) [] [.fz t, .fz t, .un] = .ok [] [.fz t, .fz t, .un] := by
  have e := lcL_map (ρ0 := [.fz t, .fz t, .un]) (i := 2) (test := lw.Q__law_alike_1 F) (elt := lw.L__law_alike_1 F) (p := fun _ => false) (φ := fun t => t) (by simp) (ts := rgT 0 ts.length) (acc := []) (fun u hu => by
    obtain ⟨i, hi, rfl⟩ := mem_rgT hu
    have hu : ts[i]? = some ts[i] := by simp
    have ha : atT ts (0 + (i : Int)) = some ts[i] := atI hu (by omega)
    have hF := h ts[i] (List.getElem_mem hi)
    rcases ht with rfl | rfl <;> simp only [lw.Q__law_alike_1, notT_e, truth_e, calU_e, rdCons_e, rdNil_e, ixA_e, has_e, rdA_e, List.set_cons_succ, List.set_cons_zero, List.getElem?_cons_zero, List.getElem?_cons_succ, isHas_t, if_true, bind_ok, ixO_t, ixO_l, ha, lift_some, hF, tru_bl, Bool.not_true]) (fun t ht hp => by cases hp) (by simp [rgT]; omega)
  have fn : ∀ xs : List T, List.filter (fun _ : T => false) xs = [] := fun xs => by simp
  rw [fn] at e
  exact e
theorem alike_same : ∀ {k : Nat} {t : T}, adat k t = true → lw.F__law_alike (k + 1) [t, t] = .ok (.bl true) []
  | k, .non, _ => by simp [lw.F__law_alike, fnF, lw.R__law_alike, rdA_e]
  | k, .int i, _ => by
    have h1 : isNO false (.int i) .non = some (.bl false) := rfl
    simp [lw.F__law_alike, fnF, lw.R__law_alike, rdA_e, h1]
  | k, .bl b, _ => by
    have h1 : isNO false (.bl b) .non = some (.bl false) := rfl
    simp [lw.F__law_alike, fnF, lw.R__law_alike, rdA_e, h1]
  | k, .str x, _ => by
    have h1 : isNO false (.str x) .non = some (.bl false) := rfl
    simp [lw.F__law_alike, fnF, lw.R__law_alike, rdA_e, h1]
  | k + 1, .tup ts, h => by
    simp only [adat, Bool.and_eq_true, decide_eq_true_eq] at h
    have e := alike_comp (F := lw.F__law_alike (k + 1)) (t := .tup ts) (.inl rfl) h.2 fun u hu => by
      obtain ⟨i, hi⟩ := List.getElem?_of_mem hu
      exact alike_same (adats_get h.1 hi)
    have hf : freeS [SV.fz (T.tup ts), SV.fz (T.tup ts), SV.un] [2] = true := rfl
    have c1 : (-4611686018427387904 ≤ ((ts.length : Nat) : Int)) := by omega
    have c2 : ((ts.length : Nat) : Int) < 4611686018427387904 := by omega
    show fnF 3 2 (lw.R__law_alike (lw.F__law_alike (k + 1))) _ = _
    generalize lw.F__law_alike (k + 1) = F at *
    simp [fnF, lw.R__law_alike, rdA_e, has_e, hf, c1, c2, e, eqO_nil]
  | k + 1, .lst ts, h => by
    simp only [adat, Bool.and_eq_true, decide_eq_true_eq] at h
    have e := alike_comp (F := lw.F__law_alike (k + 1)) (t := .lst ts) (.inr rfl) h.2 fun u hu => by
      obtain ⟨i, hi⟩ := List.getElem?_of_mem hu
      exact alike_same (adats_get h.1 hi)
    have hf : freeS [SV.fz (T.lst ts), SV.fz (T.lst ts), SV.un] [2] = true := rfl
    have c1 : (-4611686018427387904 ≤ ((ts.length : Nat) : Int)) := by omega
    have c2 : ((ts.length : Nat) : Int) < 4611686018427387904 := by omega
    show fnF 3 2 (lw.R__law_alike (lw.F__law_alike (k + 1))) _ = _
    generalize lw.F__law_alike (k + 1) = F at *
    simp [fnF, lw.R__law_alike, rdA_e, has_e, hf, c1, c2, e, eqO_nil]
  | 0, .tup _, h => by simp [adat] at h
  | 0, .lst _, h => by simp [adat] at h
  | _, .sl _, h => by simp [adat] at h
  | _, .fn _, h => by simp [adat] at h
  | _, .dk _ _, h => by simp [adat] at h
  | _, .dt _ _, h => by simp [adat] at h
termination_by k => k
theorem alike8 {k : Nat} {t : T} (h : adat k t = true) (hk : k = 7 := by rfl) : lw.F__law_alike 8 [t, t] = .ok (.bl true) [] := by
  subst hk
  exact alike_same h
end FL
namespace FL.NL
open PySem PySem.Spec TW
variable {α β γ : Type}
/-- alike: only sure of the same -/
def alikeR [DecidableEq α] (f : α → T) (a b : α) : R Bool := if a = b ∧ adat 7 (f a) = true then .ok true else .bad
theorem n_alike [DecidableEq α] (f : α → T) (a b : α) : Fn (lw.F__law_alike 8) (aC f (aC f aN) (a, (b, ()))) (alikeR f a b) eB := by
  refine ⟨?_⟩
  unfold alikeR
  by_cases e : a = b ∧ adat 7 (f a) = true
  · rw [if_pos e]
    obtain ⟨rfl, h⟩ := e
    exact alike_same h
  · rw [if_neg e]; trivial
end FL.NL

set_option maxHeartbeats 4000000
namespace FL.NL
open PySem TW
def N._law_pick (things : (List Str)) : R Str :=
  ((N._law_taken (things.length : Int)).noX).bind fun d => (atR things d).bind fun t => .ok t
def N.limits_is_int (value : Int) : R Bool :=
  .ok (true && (!false))
def N.limits_is_in (value : Int) (least : Int) (most : Int) : R Bool :=
  (N.limits_is_int value).bind fun c => .ok (c && (decide (least ≤ value) && decide (value ≤ most)))
def N.words_need_letters (large : Int) (small : Int) : R Unit :=
  (N.limits_is_in large (0 : Int) (40 : Int)).bind fun c => (if (!c) = true then .ok true else (N.limits_is_in small (0 : Int) (40 : Int)).bind fun c2 => .ok (!c2)).bind fun t => if t = true then .bad else if (!(decide ((1 : Int) ≤ (large + small)) && decide ((large + small) ≤ (40 : Int)))) = true then .bad else .ok ()
def N.words_even_word (large : Int) (small : Int) : R Str :=
  (N.words_need_letters large small).bind fun _ => (rgR (0 : Int) (large + small)).bind fun r => (cmpR r (fun _ => .ok true) fun (at1 : Int) => (mulR (-large) (at1 + (1 : Int))).bind fun t => (divR t (large + small)).bind fun t2 => (mulR (-large) at1).bind fun t3 => (divR t3 (large + small)).bind fun t4 => .ok ((-t2) - (-t4))).bind fun told => (mapP told fun (letter : Int) => (if (decide (letter = (1 : Int))) = true then (PySem.Str.ofString "L") else (PySem.Str.ofString "s"))).bind fun l2 => (joinR (PySem.Str.ofString "") ((eL eS) l2)).bind fun s => .ok s
def N.words_need_word (value : Str) : R Unit :=
  (if (!true) = true then .ok true else (lenS value).bind fun n => (if (!(decide ((1 : Int) ≤ n) && decide (n ≤ (40 : Int)))) = true then .ok true else (cmpR (chS value) (fun _ => .ok true) fun (sign : Str) => (inSR sign (PySem.Str.ofString "Ls")).bind fun t => .ok t).bind fun l => .ok (!(l.all idB))).bind fun t2 => .ok t2).bind fun t3 => if t3 = true then .bad else .ok ()
def N.words_counts_of (word1 : Str) (size : Int) : R (List Int) :=
  (catS word1 word1).bind fun double => (lenS word1).bind fun n => (rgR (0 : Int) n).bind fun r => (cmpR r (fun _ => .ok true) fun (at1 : Int) => (slS double (some at1) (some (at1 + size))).bind fun s => .ok (scountI s (PySem.Str.ofString "L"))).bind fun l => .ok l
def N.words_word_clash (word1 : Str) : R (Option (Int × (Int × (Int × Unit)))) :=
  (N.words_need_word word1).bind fun _ => (lenS word1).bind fun n => (rgR (1 : Int) n).bind fun r => (forC r (fun (x : Int) (st1 : Unit) => (N.words_counts_of word1 x).bind fun told => (forC (enumL 0 told) (fun (x2 : (Int × (Int × Unit))) (st2 : Unit) => (rgR (x2.1 + (1 : Int)) (told.length : Int)).bind fun r2 => (forC r2 (fun (x3 : Int) (st3 : Unit) => (atR told x3).bind fun t => if (decide ((absI (x2.2.1 - t)) > (1 : Int))) = true then .ok (.rt (some (x, x2.1, x3, ()))) else .ok (.nx ())) () : R (Lp Unit (Option (Int × (Int × (Int × Unit)))))).bind fun lp => match lp with | .nx so => (.ok (.nx ())) | .rt b => .ok (.rt b)) () : R (Lp Unit (Option (Int × (Int × (Int × Unit)))))).bind fun lp => match lp with | .nx so2 => (.ok (.nx ())) | .rt b => .ok (.rt b)) () : R (Lp Unit (Option (Int × (Int × (Int × Unit)))))).bind fun lp => match lp with | .nx so3 => (.ok none) | .rt b => .ok b
def N.words_is_balanced (word1 : Str) : R Bool :=
  (N.words_need_word word1).bind fun _ => (lenS word1).bind fun n => (rgR (1 : Int) n).bind fun r => (cmpR r (fun _ => .ok true) fun (size : Int) => (N.words_counts_of word1 size).bind fun c2 => .ok c2).bind fun l => (cmpR l (fun _ => .ok true) fun (told : (List Int)) => (mmR PySem.W.maxD asI ((eL eI) told)).bind fun m => (mmR PySem.W.minD asI ((eL eI) told)).bind fun m2 => .ok (decide ((m - m2) < (2 : Int)))).bind fun l2 => .ok (l2.all idB)
def N.words_modes (word1 : Str) : R (List Str) :=
  (N.words_need_word word1).bind fun _ => (lenS word1).bind fun n => (rgR (0 : Int) n).bind fun r => ((dcGo (fun (at1 : Int) => .ok true) (fun (at1 : Int) => (slS word1 (some at1) none).bind fun s => (slS word1 none (some at1)).bind fun s2 => (catS s s2).bind fun t => .ok t) (fun (at1 : Int) => .ok true) r [] : R (Dic Str Bool))).bind fun m => (sMR sortDk asS ((eM (obK kfS) eB) m)).bind fun l => .ok l
def N.words_generator_sizes (word1 : Str) : R (List Int) :=
  (N.words_need_word word1).bind fun _ => (lenS word1).bind fun n => (rgR (1 : Int) n).bind fun r => (forR r (fun (x : Int) (st1 : (List Int)) => (N.words_counts_of word1 x).bind fun told => (lsetXR ((eL eI) told)).bind fun n2 => (if (decide (n2 = (2 : Int))) = true then (mmR PySem.W.minD asI ((eL eI) told)).bind fun m => (cntR (told.map eI) (eI m)).bind fun n3 => (mmR PySem.W.maxD asI ((eL eI) told)).bind fun m2 => (cntR (told.map eI) (eI m2)).bind fun n4 => .ok (decide ((1 : Int) ∈ [n3, n4])) else .ok false).bind fun t => (if t = true then (appR st1 x).bind fun found => .ok found else .ok st1 : R (List Int)).bind fun st2 => .ok st2) []).bind fun so => .ok so
def N.law (script : (List Int)) : R Bool :=
  ((N._law_taken (20 : Int)).noX).bind fun d => ((.ok ((1 : Int) + d) : R Int)).bind fun many => (rgR (0 : Int) many).bind fun r => (cmpR r (fun _ => .ok true) fun (at1 : Int) => ((N._law_pick [(PySem.Str.ofString "L"), (PySem.Str.ofString "s")]).noX).bind fun c => .ok c).bind fun l => (joinR (PySem.Str.ofString "") ((eL eS) l)).bind fun word1 => ((N._law_taken (2 : Int)).noX).bind fun d2 => (if (decide (d2 = (0 : Int))) = true then ((N._law_taken (many + (1 : Int))).noX).bind fun large => (N.words_even_word large (many - large)).bind fun word2 => ((N._law_taken many).noX).bind fun spot => (slS word2 (some spot) none).bind fun s2 => (slS word2 none (some spot)).bind fun s3 => (catS s2 s3).bind fun word3 => .ok word3 else .ok word1 : R Str).bind fun st1 => ((N._law_taken (4 : Int)).noX).bind fun d5 => (if (decide (d5 = (0 : Int))) = true then (revSR st1 (-(1 : Int))).bind fun word4 => .ok word4 else .ok st1 : R Str).bind fun st2 => (rgR (1 : Int) many).bind fun r2 => (forR r2 (fun (x : Int) (st3 : ((Option (Int × (Int × (Int × Unit)))) × (List Int))) => (rgR (0 : Int) many).bind fun r3 => (cmpR r3 (fun _ => .ok true) fun (at2 : Int) => (catS st2 st2).bind fun t3 => (slS t3 (some at2) (some (at2 + x))).bind fun s4 => .ok (scountI s4 (PySem.Str.ofString "L"))).bind fun told => (rgR (0 : Int) many).bind fun r4 => (forR r4 (fun (x2 : Int) (st4 : (Option (Int × (Int × (Int × Unit))))) => (rgR (x2 + (1 : Int)) many).bind fun r5 => (forR r5 (fun (x3 : Int) (st5 : (Option (Int × (Int × (Int × Unit))))) => (if st5.isNone = true then (atR told x2).bind fun t4 => (atR told x3).bind fun t5 => .ok (decide ((absI (t4 - t5)) > (1 : Int))) else .ok false).bind fun t6 => (if t6 = true then .ok (some (x, x2, x3, ())) else .ok st5 : R (Option (Int × (Int × (Int × Unit))))).bind fun st6 => .ok st6) st4).bind fun so => .ok so) st3.1).bind fun so2 => (lsetXR ((eL eI) told)).bind fun n => (if (decide (n = (2 : Int))) = true then (cmpR told (fun _ => .ok true) fun (entry : Int) => (cntR (told.map eI) (eI entry)).bind fun n2 => .ok n2).bind fun l3 => .ok (decide ((1 : Int) ∈ l3)) else .ok false).bind fun t7 => (if t7 = true then (appR st3.2 x).bind fun sizes => .ok sizes else .ok st3.2 : R (List Int)).bind fun st7 => .ok (so2, st7)) (none, [])).bind fun so3 => (N.words_word_clash st2).bind fun c3 => (alikeR (eO (eP (aC eI (aC eI (aC eI aN))))) c3 so3.1).bind fun b1 => (if (!b1) = true then .ok true else (N.words_is_balanced st2).bind fun c4 => (alikeR eB c4 so3.1.isNone).bind fun b2 => .ok (!b2)).bind fun t8 => if t8 = true then .ok false else (N.words_modes st2).bind fun c5 => (rgR (0 : Int) many).bind fun r6 => (cmpR r6 (fun _ => .ok true) fun (at3 : Int) => (slS st2 (some at3) none).bind fun s5 => (slS st2 none (some at3)).bind fun s6 => (catS s5 s6).bind fun t9 => .ok t9).bind fun l4 => (sxR l4).bind fun l5 => (alikeR (eL eS) c5 l5).bind fun b3 => if (!b3) = true then .ok false else (N.words_generator_sizes st2).bind fun c6 => (alikeR (eL eI) c6 so3.2).bind fun b4 => .ok b4
theorem n_N__law_pick (things : (List Str)) : FnM lw.F__law_pick ((aC (eL eS) aN) (things, ())) (N._law_pick things) eS := fm_of (show SW (ctxM 2 2 ((aC (eL eS) aN) (things, ()))) lw.R__law_pick (((N._law_taken (things.length : Int)).noX).bind fun d => (atR things d).bind fun t => .ok t) (PM eS) from
  sw_re (Γ0 := [.row true, .is (.fz ((eL eS) things))]) (sw_last (sw_retM (ew_ixA (i := 1) (t := (eL eS) things) (ix_L eS things) (ew_callM (i := 0) (fun (a : Int × Unit) => n__law_taken a.1) (ew_consp (f1 := eI) (things.length : Int) (fun _ => ew_lenA (i := 1) (t := (eL eS) things) things.length (len_L eS (things, ()))) (ew_nil)))))))
theorem n_N_limits_is_int (value : Int) : Fn limits.F_is_int ((aC eI aN) (value, ())) (N.limits_is_int value) eB := fn_of (show SW (ctx0 1 1 ((aC eI aN) (value, ()))) limits.R_is_int (.ok (true && (!false))) (PF eB) from
  sw_re (Γ0 := [.is (.fz (eI value))]) (sw_last (sw_retF (ew_andV (b2 := (!false)) (ew_op1 (w := fun _ => true) (f := eB) (fun _ => rfl) (ew_var (i := 0) value eI)) (fun _ => ew_notV (ew_op1 (w := fun _ => false) (f := eB) (fun _ => rfl) (ew_var (i := 0) value eI)))))))
theorem n_N_limits_is_in (value : Int) (least : Int) (most : Int) : Fn limits.F_is_in ((aC eI (aC eI (aC eI aN))) (value, (least, (most, ())))) (N.limits_is_in value least most) eB := fn_of (show SW (ctx0 3 3 ((aC eI (aC eI (aC eI aN))) (value, (least, (most, ()))))) limits.R_is_in ((N.limits_is_int value).bind fun c => .ok (c && (decide (least ≤ value) && decide (value ≤ most)))) (PF eB) from
  sw_re (Γ0 := [.is (.fz (eI value)), .is (.fz (eI least)), .is (.fz (eI most))]) (sw_last (sw_retF (ew_andV (b2 := (decide (least ≤ value) && decide (value ≤ most))) (ew_call (fun (a : Int × Unit) => n_N_limits_is_int a.1) (ew_consv (i := 0) value eI (ew_nil))) (fun _ => ew_chn le_Ib le_Ib (ew_var (i := 1) least eI) (fun _ => ew_var (i := 0) value eI) (fun _ => ew_var (i := 2) most eI))))))
theorem n_N_words_need_letters (large : Int) (small : Int) : Fn words.F_need_letters ((aC eI (aC eI aN)) (large, (small, ()))) (N.words_need_letters large small) eU := fn_of (show SW (ctx0 2 2 ((aC eI (aC eI aN)) (large, (small, ())))) words.R_need_letters ((N.limits_is_in large (0 : Int) (40 : Int)).bind fun c => (if (!c) = true then .ok true else (N.limits_is_in small (0 : Int) (40 : Int)).bind fun c2 => .ok (!c2)).bind fun t => if t = true then .bad else if (!(decide ((1 : Int) ≤ (large + small)) && decide ((large + small) ≤ (40 : Int)))) = true then .bad else .ok ()) (PF eU) from
  sw_re (Γ0 := [.is (.fz (eI large)), .is (.fz (eI small))]) (sw_if (ew_orTx (ew_notT (ew_truth (f1 := eB) (w := fun z => z) (fun _ => rfl) (ew_call (fun (a : Int × Int × Int × Unit) => n_N_limits_is_in a.1 a.2.1 a.2.2.1) (ew_consv (i := 0) large eI (ew_consc (0 : Int) eI (ew_consc (40 : Int) eI (ew_nil))))))) (ew_notT (ew_truth (f1 := eB) (w := fun z => z) (fun _ => rfl) (ew_call (fun (a : Int × Int × Int × Unit) => n_N_limits_is_in a.1 a.2.1 a.2.2.1) (ew_consv (i := 1) small eI (ew_consc (0 : Int) eI (ew_consc (40 : Int) eI (ew_nil)))))))) (sw_re (Γ0 := [.is (.fz (eI large)), .is (.fz (eI small))]) (sw_bad)) (sw_skip (sw_re (Γ0 := [.is (.fz (eI large)), .is (.fz (eI small))]) (sw_last (sw_ifp (!(decide ((1 : Int) ≤ (large + small)) && decide ((large + small) ≤ (40 : Int)))) (fun _ => ew_notT (ew_tst (ew_chn le_Ib le_Ib (ew_con (1 : Int) eI) (fun _ => ew_op2b (add_I) large (fun _ => ew_var (i := 0) large eI) small (fun _ => ew_var (i := 1) small eI)) (fun _ => ew_con (40 : Int) eI)))) (sw_re (Γ0 := [.is (.fz (eI large)), .is (.fz (eI small))]) (sw_bad)) (sw_skip (sw_endF ()))))))))
theorem n_N_words_even_word (large : Int) (small : Int) : Fn words.F_even_word ((aC eI (aC eI aN)) (large, (small, ()))) (N.words_even_word large small) eS := fn_of (show SW (ctx0 6 2 ((aC eI (aC eI aN)) (large, (small, ())))) words.R_even_word ((N.words_need_letters large small).bind fun _ => (rgR (0 : Int) (large + small)).bind fun r => (cmpR r (fun _ => .ok true) fun (at1 : Int) => (mulR (-large) (at1 + (1 : Int))).bind fun t => (divR t (large + small)).bind fun t2 => (mulR (-large) at1).bind fun t3 => (divR t3 (large + small)).bind fun t4 => .ok ((-t2) - (-t4))).bind fun told => (mapP told fun (letter : Int) => (if (decide (letter = (1 : Int))) = true then (PySem.Str.ofString "L") else (PySem.Str.ofString "s"))).bind fun l2 => (joinR (PySem.Str.ofString "") ((eL eS) l2)).bind fun s => .ok s) (PF eS) from
  sw_re (Γ0 := [.is (.fz (eI large)), .is (.fz (eI small)), .is .un, .is .un, .is .un, .is .un]) (sw_expr (ew_call (fun (a : Int × Int × Unit) => n_N_words_need_letters a.1 a.2.1) (ew_consv (i := 0) large eI (ew_consv (i := 1) small eI (ew_nil)))) (fun _ => sw_re (Γ0 := [.is (.fz (eI large)), .is (.fz (eI small)), .is .un, .is .un, .is .un, .is .un]) (sw_setp (large + small) (fun _ => ew_op2b (add_I) large (fun _ => ew_var (i := 0) large eI) small (fun _ => ew_var (i := 1) small eI)) (sw_re (Γ0 := [.is (.fz (eI large)), .is (.fz (eI small)), .is (.fz (eI (large + small))), .is .un, .is .un, .is .un]) (sw_set (ew_frzM (ew_lcX (fx := eI) (fe := eI) (e := fun (at1 : Int) => (mulR (-large) (at1 + (1 : Int))).bind fun t => (divR t (large + small)).bind fun t2 => (mulR (-large) at1).bind fun t3 => (divR t3 (large + small)).bind fun t4 => .ok ((-t2) - (-t4))) (Γ' := [.is (.fz (eI large)), .is (.fz (eI small)), .is (.fz (eI (large + small))), .is .un, .is .un, .is .un]) (sl := fun (at1 : Int) => [(4, .is (.fz (eI at1)))]) (ew_calIp rg_1 (ew_consv (i := 2) (large + small) eI (ew_nil))) (by rfl) (fun at1 => gw_n) (fun _ => by rfl) (fun at1 => ew_op2 (sub_I) (ew_op1 neg_I (ew_op2pr (div_I) (large + small) (fun _ => ew_var (i := 2) (large + small) eI) (ew_op2pb (mul_I) (-large) (fun _ => ew_op1 neg_I (ew_var (i := 0) large eI)) (at1 + (1 : Int)) (fun _ => ew_op2b (add_I) at1 (fun _ => ew_var (i := 4) at1 eI) (1 : Int) (fun _ => ew_con (1 : Int) eI))))) (fun _ => ew_op1 neg_I (ew_op2pr (div_I) (large + small) (fun _ => ew_var (i := 2) (large + small) eI) (ew_op2pb (mul_I) (-large) (fun _ => ew_op1 neg_I (ew_var (i := 0) large eI)) at1 (fun _ => ew_var (i := 4) at1 eI))))))) (fun told => sw_re (Γ0 := [.is (.fz (eI large)), .is (.fz (eI small)), .is (.fz (eI (large + small))), .is (.fz ((eL eI) told)), .is .un, .is .un]) (sw_last (sw_retF (ew_join (f2 := (eL eS)) (ew_con (PySem.Str.ofString "") eS) (fun _ => ew_frzM (ew_lcM (fx := eI) (fe := eS) (e := fun (letter : Int) => (if (decide (letter = (1 : Int))) = true then (PySem.Str.ofString "L") else (PySem.Str.ofString "s"))) (Γ' := [.is (.fz (eI large)), .is (.fz (eI small)), .is (.fz (eI (large + small))), .is (.fz ((eL eI) told)), .is .un, .is .un]) (sl := fun (letter : Int) => [(5, .is (.fz (eI letter)))]) (ew_iLA (ew_var (i := 3) told (eL eI))) (by rfl) (fun letter => gw_n) (fun _ => by rfl) (fun letter => ew_if (a := (PySem.Str.ofString "L")) (b := (PySem.Str.ofString "s")) (ew_tst (ew_op2b (eq_of eqc_I) letter (fun _ => ew_var (i := 5) letter eI) (1 : Int) (fun _ => ew_con (1 : Int) eI))) (fun _ => ew_con (PySem.Str.ofString "L") eS) (fun _ => ew_con (PySem.Str.ofString "s") eS))))))))))))))
theorem n_N_words_need_word (value : Str) : Fn words.F_need_word ((aC eS aN) (value, ())) (N.words_need_word value) eU := fn_of (show SW (ctx0 2 1 ((aC eS aN) (value, ()))) words.R_need_word ((if (!true) = true then .ok true else (lenS value).bind fun n => (if (!(decide ((1 : Int) ≤ n) && decide (n ≤ (40 : Int)))) = true then .ok true else (cmpR (chS value) (fun _ => .ok true) fun (sign : Str) => (inSR sign (PySem.Str.ofString "Ls")).bind fun t => .ok t).bind fun l => .ok (!(l.all idB))).bind fun t2 => .ok t2).bind fun t3 => if t3 = true then .bad else .ok ()) (PF eU) from
  sw_re (Γ0 := [.is (.fz (eS value)), .is .un]) (sw_last (sw_if (ew_orTxp (!true) (fun _ => ew_notT (ew_truth (f1 := eB) (w := fun z => z) (fun _ => rfl) (ew_op1 (w := fun _ => true) (f := eB) (fun _ => rfl) (ew_var (i := 0) value eS)))) (ew_orTx (ew_notT (ew_tst (ew_chn le_Ib le_Ib (ew_con (1 : Int) eI) (fun _ => ew_lenS (i := 0) (z := value)) (fun _ => ew_con (40 : Int) eI)))) (ew_notT (ew_truth (f1 := eB) (w := fun z => z) (fun _ => rfl) (ew_calF all_L (ew_cons (ew_frzM (ew_lcX (fx := eS) (fe := eB) (e := fun (sign : Str) => (inSR sign (PySem.Str.ofString "Ls")).bind fun t => .ok t) (Γ' := [.is (.fz (eS value)), .is .un]) (sl := fun (sign : Str) => [(1, .is (.fz (eS sign)))]) (ew_iSA (ew_var (i := 0) value eS)) (by rfl) (fun sign => gw_n) (fun _ => by rfl) (fun sign => ew_inS (ew_var (i := 1) sign eS) (fun _ => ew_con (PySem.Str.ofString "Ls") eS)))) (fun _ => ew_nil))))))) (sw_re (Γ0 := [.is (.fz (eS value)), .is .un]) (sw_bad)) (sw_skip (sw_endF ())))))
theorem n_N_words_counts_of (word1 : Str) (size : Int) : Fn words.F_counts_of ((aC eS (aC eI aN)) (word1, (size, ()))) (N.words_counts_of word1 size) (eL eI) := fn_of (show SW (ctx0 4 2 ((aC eS (aC eI aN)) (word1, (size, ())))) words.R_counts_of ((catS word1 word1).bind fun double => (lenS word1).bind fun n => (rgR (0 : Int) n).bind fun r => (cmpR r (fun _ => .ok true) fun (at1 : Int) => (slS double (some at1) (some (at1 + size))).bind fun s => .ok (scountI s (PySem.Str.ofString "L"))).bind fun l => .ok l) (PF (eL eI)) from
  sw_re (Γ0 := [.is (.fz (eS word1)), .is (.fz (eI size)), .is .un, .is .un]) (sw_set (ew_op2pb (add_S) word1 (fun _ => ew_var (i := 0) word1 eS) word1 (fun _ => ew_var (i := 0) word1 eS)) (fun double => sw_re (Γ0 := [.is (.fz (eS word1)), .is (.fz (eI size)), .is (.fz (eS double)), .is .un]) (sw_last (sw_retF (ew_frzM (ew_lcX (fx := eI) (fe := eI) (e := fun (at1 : Int) => (slS double (some at1) (some (at1 + size))).bind fun s => .ok (scountI s (PySem.Str.ofString "L"))) (Γ' := [.is (.fz (eS word1)), .is (.fz (eI size)), .is (.fz (eS double)), .is .un]) (sl := fun (at1 : Int) => [(3, .is (.fz (eI at1)))]) (ew_calIp rg_1 (ew_cons (ew_lenS (i := 0) (z := word1)) (fun _ => ew_nil))) (by rfl) (fun at1 => gw_n) (fun _ => by rfl) (fun at1 => ew_m1 scount_S (ew_slp sl_S (ew_var (i := 2) double eS) (fun _ => ew_poS (ew_var (i := 3) at1 eI)) (fun _ _ => ew_poS (ew_op2b (add_I) at1 (fun _ => ew_var (i := 3) at1 eI) size (fun _ => ew_var (i := 1) size eI)))) (fun _ => ew_con (PySem.Str.ofString "L") eS)))))))))
theorem n_N_words_word_clash (word1 : Str) : Fn words.F_word_clash ((aC eS aN) (word1, ())) (N.words_word_clash word1) (eO (eP (aC eI (aC eI (aC eI aN))))) := fn_of (show SW (ctx0 6 1 ((aC eS aN) (word1, ()))) words.R_word_clash ((N.words_need_word word1).bind fun _ => (lenS word1).bind fun n => (rgR (1 : Int) n).bind fun r => (forC r (fun (x : Int) (st1 : Unit) => (N.words_counts_of word1 x).bind fun told => (forC (enumL 0 told) (fun (x2 : (Int × (Int × Unit))) (st2 : Unit) => (rgR (x2.1 + (1 : Int)) (told.length : Int)).bind fun r2 => (forC r2 (fun (x3 : Int) (st3 : Unit) => (atR told x3).bind fun t => if (decide ((absI (x2.2.1 - t)) > (1 : Int))) = true then .ok (.rt (some (x, x2.1, x3, ()))) else .ok (.nx ())) () : R (Lp Unit (Option (Int × (Int × (Int × Unit)))))).bind fun lp => match lp with | .nx so => (.ok (.nx ())) | .rt b => .ok (.rt b)) () : R (Lp Unit (Option (Int × (Int × (Int × Unit)))))).bind fun lp => match lp with | .nx so2 => (.ok (.nx ())) | .rt b => .ok (.rt b)) () : R (Lp Unit (Option (Int × (Int × (Int × Unit)))))).bind fun lp => match lp with | .nx so3 => (.ok none) | .rt b => .ok b) (PF (eO (eP (aC eI (aC eI (aC eI aN)))))) from
  sw_re (Γ0 := [.is (.fz (eS word1)), .is .un, .is .un, .is .un, .is .un, .is .un]) (sw_expr (ew_call (fun (a : Str × Unit) => n_N_words_need_word a.1) (ew_consv (i := 0) word1 eS (ew_nil))) (fun _ => sw_re (Γ0 := [.is (.fz (eS word1)), .is .un, .is .un, .is .un, .is .un, .is .un]) (sw_forC (fx := eI) (Δ := fun (st : Unit) => [.is (.fz (eS word1)), .nf, .nf, .nf, .nf, .nf]) (Γ1 := fun (x : Int) (st1 : Unit) => [.is (.fz (eS word1)), .is (.fz (eI x)), .nf, .nf, .nf, .nf]) (Pr := PF (eO (eP (aC eI (aC eI (aC eI aN)))))) (body := fun (x : Int) (st1 : Unit) => (N.words_counts_of word1 x).bind fun told => (forC (enumL 0 told) (fun (x2 : (Int × (Int × Unit))) (st2 : Unit) => (rgR (x2.1 + (1 : Int)) (told.length : Int)).bind fun r2 => (forC r2 (fun (x3 : Int) (st3 : Unit) => (atR told x3).bind fun t => if (decide ((absI (x2.2.1 - t)) > (1 : Int))) = true then .ok (.rt (some (x, x2.1, x3, ()))) else .ok (.nx ())) () : R (Lp Unit (Option (Int × (Int × (Int × Unit)))))).bind fun lp => match lp with | .nx so => (.ok (.nx ())) | .rt b => .ok (.rt b)) () : R (Lp Unit (Option (Int × (Int × (Int × Unit)))))).bind fun lp => match lp with | .nx so2 => (.ok (.nx ())) | .rt b => .ok (.rt b)) (k := fun (lp : Lp Unit (Option (Int × (Int × (Int × Unit))))) => match lp with | .nx so3 => (.ok none) | .rt b => .ok b) () (ew_calIp rg_2 (ew_consc (1 : Int) eI (ew_cons (ew_lenS (i := 0) (z := word1)) (fun _ => ew_nil)))) (by exact (Le.k (Le.u (Le.u (Le.u (Le.u (Le.u Le.nil))))))) (fun x st1 => gw_n) (fun x st1 => sw_re (Γ0 := [.is (.fz (eS word1)), .is (.fz (eI x)), .nf, .nf, .nf, .nf]) (sw_set (ew_call (fun (a : Str × Int × Unit) => n_N_words_counts_of a.1 a.2.1) (ew_consv (i := 0) word1 eS (ew_consv (i := 1) x eI (ew_nil)))) (fun told => sw_re (Γ0 := [.is (.fz (eS word1)), .is (.fz (eI x)), .is (.fz ((eL eI) told)), .nf, .nf, .nf]) (sw_last (sw_forC (fx := (eP (aC eI (aC eI aN)))) (Δ := fun (st : Unit) => [.is (.fz (eS word1)), .is (.fz (eI x)), .is (.fz ((eL eI) told)), .nf, .nf, .nf]) (Γ1 := fun (x2 : (Int × (Int × Unit))) (st2 : Unit) => [.is (.fz (eS word1)), .is (.fz (eI x)), .is (.fz ((eL eI) told)), .is (.fz (eI x2.1)), .is (.fz (eI x2.2.1)), .nf]) (Pr := PF (eO (eP (aC eI (aC eI (aC eI aN)))))) (body := fun (x2 : (Int × (Int × Unit))) (st2 : Unit) => (rgR (x2.1 + (1 : Int)) (told.length : Int)).bind fun r2 => (forC r2 (fun (x3 : Int) (st3 : Unit) => (atR told x3).bind fun t => if (decide ((absI (x2.2.1 - t)) > (1 : Int))) = true then .ok (.rt (some (x, x2.1, x3, ()))) else .ok (.nx ())) () : R (Lp Unit (Option (Int × (Int × (Int × Unit)))))).bind fun lp => match lp with | .nx so => (.ok (.nx ())) | .rt b => .ok (.rt b)) (k := fun (lp : Lp Unit (Option (Int × (Int × (Int × Unit))))) => match lp with | .nx so2 => (.ok (.nx ())) | .rt b => .ok (.rt b)) () (ew_calI (enum_L _) (ew_consv (i := 2) told (eL eI) (ew_nil))) (by exact (Le.k (Le.k (Le.k (Le.k (Le.k (Le.k Le.nil))))))) (fun x2 st2 => gw_t (gs_cons (gw_n) (gs_cons (gw_n) (gs_nil)))) (fun x2 st2 => sw_re (Γ0 := [.is (.fz (eS word1)), .is (.fz (eI x)), .is (.fz ((eL eI) told)), .is (.fz (eI x2.1)), .is (.fz (eI x2.2.1)), .nf]) (sw_last (sw_forC (fx := eI) (Δ := fun (st : Unit) => [.is (.fz (eS word1)), .is (.fz (eI x)), .is (.fz ((eL eI) told)), .is (.fz (eI x2.1)), .is (.fz (eI x2.2.1)), .nf]) (Γ1 := fun (x3 : Int) (st3 : Unit) => [.is (.fz (eS word1)), .is (.fz (eI x)), .is (.fz ((eL eI) told)), .is (.fz (eI x2.1)), .is (.fz (eI x2.2.1)), .is (.fz (eI x3))]) (Pr := PF (eO (eP (aC eI (aC eI (aC eI aN)))))) (body := fun (x3 : Int) (st3 : Unit) => (atR told x3).bind fun t => if (decide ((absI (x2.2.1 - t)) > (1 : Int))) = true then .ok (.rt (some (x, x2.1, x3, ()))) else .ok (.nx ())) (k := fun (lp : Lp Unit (Option (Int × (Int × (Int × Unit))))) => match lp with | .nx so => (.ok (.nx ())) | .rt b => .ok (.rt b)) () (ew_calIp rg_2 (ew_consp (f1 := eI) (x2.1 + (1 : Int)) (fun _ => ew_op2b (add_I) x2.1 (fun _ => ew_var (i := 3) x2.1 eI) (1 : Int) (fun _ => ew_con (1 : Int) eI)) (ew_consp (f1 := eI) (told.length : Int) (fun _ => ew_lenA (i := 2) (t := (eL eI) told) told.length (len_L eI (told, ()))) (ew_nil)))) (by exact (Le.k (Le.k (Le.k (Le.k (Le.k (Le.k Le.nil))))))) (fun x3 st3 => gw_n) (fun x3 st3 => sw_re (Γ0 := [.is (.fz (eS word1)), .is (.fz (eI x)), .is (.fz ((eL eI) told)), .is (.fz (eI x2.1)), .is (.fz (eI x2.2.1)), .is (.fz (eI x3))]) (sw_last (sw_if (ew_tst (ew_op2r (gt_I) (1 : Int) (fun _ => ew_con (1 : Int) eI) (ew_calF abs_I (ew_cons (ew_op2l (sub_I) x2.2.1 (fun _ => ew_var (i := 4) x2.2.1 eI) (ew_ixA (i := 2) (t := (eL eI) told) (ix_L eI told) (ew_var (i := 5) x3 eI))) (fun _ => ew_nil))))) (sw_re (Γ0 := [.is (.fz (eS word1)), .is (.fz (eI x)), .is (.fz ((eL eI) told)), .is (.fz (eI x2.1)), .is (.fz (eI x2.2.1)), .is (.fz (eI x3))]) (sw_retCF (Δ := fun (st : Unit) => [.is (.fz (eS word1)), .is (.fz (eI x)), .is (.fz ((eL eI) told)), .is (.fz (eI x2.1)), .is (.fz (eI x2.2.1)), .nf]) (ew_co (fun (z : (Int × (Int × (Int × Unit)))) => (some z)) (fun _ => rfl) (ew_calF (tup_P (by intro _; rfl)) (ew_consv (i := 1) x eI (ew_consv (i := 3) x2.1 eI (ew_consv (i := 5) x3 eI (ew_nil)))))))) (sw_skip (sw_endC (Δ := fun (st : Unit) => [.is (.fz (eS word1)), .is (.fz (eI x)), .is (.fz ((eL eI) told)), .is (.fz (eI x2.1)), .is (.fz (eI x2.2.1)), .nf]) () (by exact (Le.k (Le.k (Le.k (Le.k (Le.k (Le.n Le.nil)))))))))))) (fun so => sw_endC (Δ := fun (st : Unit) => [.is (.fz (eS word1)), .is (.fz (eI x)), .is (.fz ((eL eI) told)), .nf, .nf, .nf]) () (by exact (Le.k (Le.k (Le.k (Le.n (Le.n (Le.k Le.nil)))))))) rt_C))) (fun so2 => sw_endC (Δ := fun (st : Unit) => [.is (.fz (eS word1)), .nf, .nf, .nf, .nf, .nf]) () (by exact (Le.k (Le.n (Le.n (Le.k (Le.k (Le.k Le.nil)))))))) rt_C))))) (fun so3 => sw_re (Γ0 := [.is (.fz (eS word1)), .nf, .nf, .nf, .nf, .nf]) (sw_last (sw_retF (ew_co (fun (z : Unit) => none) (fun _ => rfl) (ew_con () eU))))) rt_F))))
theorem n_N_words_is_balanced (word1 : Str) : Fn words.F_is_balanced ((aC eS aN) (word1, ())) (N.words_is_balanced word1) eB := fn_of (show SW (ctx0 3 1 ((aC eS aN) (word1, ()))) words.R_is_balanced ((N.words_need_word word1).bind fun _ => (lenS word1).bind fun n => (rgR (1 : Int) n).bind fun r => (cmpR r (fun _ => .ok true) fun (size : Int) => (N.words_counts_of word1 size).bind fun c2 => .ok c2).bind fun l => (cmpR l (fun _ => .ok true) fun (told : (List Int)) => (mmR PySem.W.maxD asI ((eL eI) told)).bind fun m => (mmR PySem.W.minD asI ((eL eI) told)).bind fun m2 => .ok (decide ((m - m2) < (2 : Int)))).bind fun l2 => .ok (l2.all idB)) (PF eB) from
  sw_re (Γ0 := [.is (.fz (eS word1)), .is .un, .is .un]) (sw_expr (ew_call (fun (a : Str × Unit) => n_N_words_need_word a.1) (ew_consv (i := 0) word1 eS (ew_nil))) (fun _ => sw_re (Γ0 := [.is (.fz (eS word1)), .is .un, .is .un]) (sw_last (sw_retF (ew_calF all_L (ew_cons (ew_frzM (ew_lcX (fx := (eL eI)) (fe := eB) (e := fun (told : (List Int)) => (mmR PySem.W.maxD asI ((eL eI) told)).bind fun m => (mmR PySem.W.minD asI ((eL eI) told)).bind fun m2 => .ok (decide ((m - m2) < (2 : Int)))) (Γ' := [.is (.fz (eS word1)), .is .un, .is .un]) (sl := fun (told : (List Int)) => [(1, .is (.fz ((eL eI) told)))]) (ew_iLA (ew_frzM (ew_lcX (fx := eI) (fe := (eL eI)) (e := fun (size : Int) => (N.words_counts_of word1 size).bind fun c2 => .ok c2) (Γ' := [.is (.fz (eS word1)), .is .un, .is .un]) (sl := fun (size : Int) => [(2, .is (.fz (eI size)))]) (ew_calIp rg_2 (ew_consc (1 : Int) eI (ew_cons (ew_lenS (i := 0) (z := word1)) (fun _ => ew_nil)))) (by rfl) (fun size => gw_n) (fun _ => by rfl) (fun size => ew_call (fun (a : Str × Int × Unit) => n_N_words_counts_of a.1 a.2.1) (ew_consv (i := 0) word1 eS (ew_consv (i := 2) size eI (ew_nil))))))) (by rfl) (fun told => gw_n) (fun _ => by rfl) (fun told => ew_op2r (lt_I) (2 : Int) (fun _ => ew_con (2 : Int) eI) (ew_op2 (sub_I) (ew_mm (f1 := (eL eI)) as_I (ew_consv (i := 1) told (eL eI) (ew_nil))) (fun _ => ew_mm (f1 := (eL eI)) as_I (ew_consv (i := 1) told (eL eI) (ew_nil))))))) (fun _ => ew_nil))))))))
theorem n_N_words_modes (word1 : Str) : Fn words.F_modes ((aC eS aN) (word1, ())) (N.words_modes word1) (eL eS) := fn_of (show SW (ctx0 2 1 ((aC eS aN) (word1, ()))) words.R_modes ((N.words_need_word word1).bind fun _ => (lenS word1).bind fun n => (rgR (0 : Int) n).bind fun r => ((dcGo (fun (at1 : Int) => .ok true) (fun (at1 : Int) => (slS word1 (some at1) none).bind fun s => (slS word1 none (some at1)).bind fun s2 => (catS s s2).bind fun t => .ok t) (fun (at1 : Int) => .ok true) r [] : R (Dic Str Bool))).bind fun m => (sMR sortDk asS ((eM (obK kfS) eB) m)).bind fun l => .ok l) (PF (eL eS)) from
  sw_re (Γ0 := [.is (.fz (eS word1)), .is .un]) (sw_expr (ew_call (fun (a : Str × Unit) => n_N_words_need_word a.1) (ew_consv (i := 0) word1 eS (ew_nil))) (fun _ => sw_re (Γ0 := [.is (.fz (eS word1)), .is .un]) (sw_last (sw_retF (ew_frzM (ew_sortM (ek := eS) (ob := (obK kfS)) (f := eB) as_S (o := sortDk) (ew_cons (ew_frzMM (ew_dcK (Γ := [.is (.fz (eS word1)), .is .un]) (fx := eI) (ek := eS) (fv := eB) (sl := fun (at1 : Int) => [(1, .is (.fz (eI at1)))]) fk_S (p := fun (at1 : Int) => .ok true) (kk := fun (at1 : Int) => (slS word1 (some at1) none).bind fun s => (slS word1 none (some at1)).bind fun s2 => (catS s s2).bind fun t => .ok t) (vv := fun (at1 : Int) => .ok true) (ew_calIp rg_1 (ew_cons (ew_lenS (i := 0) (z := word1)) (fun _ => ew_nil))) (by rfl) (fun at1 => gw_n) (fun _ => by rfl) (fun at1 => ew_yes) (fun at1 => ew_op2p (add_S) (ew_slp sl_S (ew_var (i := 0) word1 eS) (fun _ => ew_poS (ew_var (i := 1) at1 eI)) (fun _ _ => ew_poN)) (fun _ => ew_slp sl_S (ew_var (i := 0) word1 eS) (fun _ => ew_poN) (fun _ _ => ew_poS (ew_var (i := 1) at1 eI)))) (fun at1 => ew_con true eB))) (fun _ => ew_nil)))))))))
theorem n_N_words_generator_sizes (word1 : Str) : Fn words.F_generator_sizes ((aC eS aN) (word1, ())) (N.words_generator_sizes word1) (eL eI) := fn_of (show SW (ctx0 4 1 ((aC eS aN) (word1, ()))) words.R_generator_sizes ((N.words_need_word word1).bind fun _ => (lenS word1).bind fun n => (rgR (1 : Int) n).bind fun r => (forR r (fun (x : Int) (st1 : (List Int)) => (N.words_counts_of word1 x).bind fun told => (lsetXR ((eL eI) told)).bind fun n2 => (if (decide (n2 = (2 : Int))) = true then (mmR PySem.W.minD asI ((eL eI) told)).bind fun m => (cntR (told.map eI) (eI m)).bind fun n3 => (mmR PySem.W.maxD asI ((eL eI) told)).bind fun m2 => (cntR (told.map eI) (eI m2)).bind fun n4 => .ok (decide ((1 : Int) ∈ [n3, n4])) else .ok false).bind fun t => (if t = true then (appR st1 x).bind fun found => .ok found else .ok st1 : R (List Int)).bind fun st2 => .ok st2) []).bind fun so => .ok so) (PF (eL eI)) from
  sw_re (Γ0 := [.is (.fz (eS word1)), .is .un, .is .un, .is .un]) (sw_expr (ew_call (fun (a : Str × Unit) => n_N_words_need_word a.1) (ew_consv (i := 0) word1 eS (ew_nil))) (fun _ => sw_re (Γ0 := [.is (.fz (eS word1)), .is .un, .is .un, .is .un]) (sw_setOp (f := oL eI) [] (fun _ => ew_calO (new_L (f := eI) (w := fun (p : Unit) => []) (fun _ => rfl) (fun _ => by simp)) (ew_nil)) (sw_re (Γ0 := [.is (.fz (eS word1)), .is (.ow (oL eI [])), .is .un, .is .un]) (sw_for (fx := eI) (Δ := fun (st : (List Int)) => [.is (.fz (eS word1)), .is (.ow (oL eI st)), .nf, .nf]) (Γ1 := fun (x : Int) (st1 : (List Int)) => [.is (.fz (eS word1)), .is (.ow (oL eI st1)), .is (.fz (eI x)), .nf]) (body := fun (x : Int) (st1 : (List Int)) => (N.words_counts_of word1 x).bind fun told => (lsetXR ((eL eI) told)).bind fun n2 => (if (decide (n2 = (2 : Int))) = true then (mmR PySem.W.minD asI ((eL eI) told)).bind fun m => (cntR (told.map eI) (eI m)).bind fun n3 => (mmR PySem.W.maxD asI ((eL eI) told)).bind fun m2 => (cntR (told.map eI) (eI m2)).bind fun n4 => .ok (decide ((1 : Int) ∈ [n3, n4])) else .ok false).bind fun t => (if t = true then (appR st1 x).bind fun found => .ok found else .ok st1 : R (List Int)).bind fun st2 => .ok st2) [] (ew_calIp rg_2 (ew_consc (1 : Int) eI (ew_cons (ew_lenS (i := 0) (z := word1)) (fun _ => ew_nil)))) (by exact (Le.k (Le.k (Le.u (Le.u Le.nil))))) (fun x st1 => gw_n) (fun x st1 => sw_re (Γ0 := [.is (.fz (eS word1)), .is (.ow (oL eI st1)), .is (.fz (eI x)), .nf]) (sw_set (ew_call (fun (a : Str × Int × Unit) => n_N_words_counts_of a.1 a.2.1) (ew_consv (i := 0) word1 eS (ew_consv (i := 2) x eI (ew_nil)))) (fun told => sw_re (Γ0 := [.is (.fz (eS word1)), .is (.ow (oL eI st1)), .is (.fz (eI x)), .is (.fz ((eL eI) told))]) (sw_last (sw_ifj (ew_andTx (ew_tst (ew_op2r (eq_of eqc_I) (2 : Int) (fun _ => ew_con (2 : Int) eI) (ew_lsetX (f1 := (eL eI)) (ew_var (i := 3) told (eL eI))))) (ew_tst (ew_op2l (in_Tg dat_I) (1 : Int) (fun _ => ew_con (1 : Int) eI) (ew_co (fun (z : (Int × (Int × Unit))) => [z.1, z.2.1]) (fun _ => rfl) (ew_calF (tup_P (by intro _; rfl)) (ew_cons (ew_cnt (f1 := eI) (f2 := eI) (ew_var (i := 3) told (eL eI)) (fun _ => ew_mm (f1 := (eL eI)) as_I (ew_consv (i := 3) told (eL eI) (ew_nil)))) (fun _ => ew_cons (ew_cnt (f1 := eI) (f2 := eI) (ew_var (i := 3) told (eL eI)) (fun _ => ew_mm (f1 := (eL eI)) as_I (ew_consv (i := 3) told (eL eI) (ew_nil)))) (fun _ => ew_nil)))))))) (sw_re (Γ0 := [.is (.fz (eS word1)), .is (.ow (oL eI st1)), .is (.fz (eI x)), .is (.fz ((eL eI) told))]) (sw_last (sw_app (i := 1) (xs := st1) (f := eI) rfl (ew_var (i := 2) x eI) rfl (fun found => sw_endN (Δ := fun (st : (List Int)) => [.is (.fz (eS word1)), .is (.ow (oL eI st)), .is (.fz (eI x)), .is (.fz ((eL eI) told))]) found (by exact (Le.k (Le.k (Le.k (Le.k Le.nil))))))))) (sw_endN (Δ := fun (st : (List Int)) => [.is (.fz (eS word1)), .is (.ow (oL eI st)), .is (.fz (eI x)), .is (.fz ((eL eI) told))]) st1 (by exact (Le.k (Le.k (Le.k (Le.k Le.nil)))))) (fun st2 => sw_endL (Δ := fun (st : (List Int)) => [.is (.fz (eS word1)), .is (.ow (oL eI st)), .nf, .nf]) st2 (by exact (Le.k (Le.k (Le.n (Le.n Le.nil))))))))))) (fun so => sw_re (Γ0 := [.is (.fz (eS word1)), .is (.ow (oL eI so)), .nf, .nf]) (sw_last (sw_retF (ew_frz (i := 1) so (eL eI)))))))))))
theorem n_N_law (script : (List Int)) : Fn lw.F_law ((aC (eZ eI) aN) (script, ())) (N.law script) eB := fn_of (show SW (ctx0 14 1 ((aC (eZ eI) aN) (script, ()))) lw.R_law (((N._law_taken (20 : Int)).noX).bind fun d => ((.ok ((1 : Int) + d) : R Int)).bind fun many => (rgR (0 : Int) many).bind fun r => (cmpR r (fun _ => .ok true) fun (at1 : Int) => ((N._law_pick [(PySem.Str.ofString "L"), (PySem.Str.ofString "s")]).noX).bind fun c => .ok c).bind fun l => (joinR (PySem.Str.ofString "") ((eL eS) l)).bind fun word1 => ((N._law_taken (2 : Int)).noX).bind fun d2 => (if (decide (d2 = (0 : Int))) = true then ((N._law_taken (many + (1 : Int))).noX).bind fun large => (N.words_even_word large (many - large)).bind fun word2 => ((N._law_taken many).noX).bind fun spot => (slS word2 (some spot) none).bind fun s2 => (slS word2 none (some spot)).bind fun s3 => (catS s2 s3).bind fun word3 => .ok word3 else .ok word1 : R Str).bind fun st1 => ((N._law_taken (4 : Int)).noX).bind fun d5 => (if (decide (d5 = (0 : Int))) = true then (revSR st1 (-(1 : Int))).bind fun word4 => .ok word4 else .ok st1 : R Str).bind fun st2 => (rgR (1 : Int) many).bind fun r2 => (forR r2 (fun (x : Int) (st3 : ((Option (Int × (Int × (Int × Unit)))) × (List Int))) => (rgR (0 : Int) many).bind fun r3 => (cmpR r3 (fun _ => .ok true) fun (at2 : Int) => (catS st2 st2).bind fun t3 => (slS t3 (some at2) (some (at2 + x))).bind fun s4 => .ok (scountI s4 (PySem.Str.ofString "L"))).bind fun told => (rgR (0 : Int) many).bind fun r4 => (forR r4 (fun (x2 : Int) (st4 : (Option (Int × (Int × (Int × Unit))))) => (rgR (x2 + (1 : Int)) many).bind fun r5 => (forR r5 (fun (x3 : Int) (st5 : (Option (Int × (Int × (Int × Unit))))) => (if st5.isNone = true then (atR told x2).bind fun t4 => (atR told x3).bind fun t5 => .ok (decide ((absI (t4 - t5)) > (1 : Int))) else .ok false).bind fun t6 => (if t6 = true then .ok (some (x, x2, x3, ())) else .ok st5 : R (Option (Int × (Int × (Int × Unit))))).bind fun st6 => .ok st6) st4).bind fun so => .ok so) st3.1).bind fun so2 => (lsetXR ((eL eI) told)).bind fun n => (if (decide (n = (2 : Int))) = true then (cmpR told (fun _ => .ok true) fun (entry : Int) => (cntR (told.map eI) (eI entry)).bind fun n2 => .ok n2).bind fun l3 => .ok (decide ((1 : Int) ∈ l3)) else .ok false).bind fun t7 => (if t7 = true then (appR st3.2 x).bind fun sizes => .ok sizes else .ok st3.2 : R (List Int)).bind fun st7 => .ok (so2, st7)) (none, [])).bind fun so3 => (N.words_word_clash st2).bind fun c3 => (alikeR (eO (eP (aC eI (aC eI (aC eI aN))))) c3 so3.1).bind fun b1 => (if (!b1) = true then .ok true else (N.words_is_balanced st2).bind fun c4 => (alikeR eB c4 so3.1.isNone).bind fun b2 => .ok (!b2)).bind fun t8 => if t8 = true then .ok false else (N.words_modes st2).bind fun c5 => (rgR (0 : Int) many).bind fun r6 => (cmpR r6 (fun _ => .ok true) fun (at3 : Int) => (slS st2 (some at3) none).bind fun s5 => (slS st2 none (some at3)).bind fun s6 => (catS s5 s6).bind fun t9 => .ok t9).bind fun l4 => (sxR l4).bind fun l5 => (alikeR (eL eS) c5 l5).bind fun b3 => if (!b3) = true then .ok false else (N.words_generator_sizes st2).bind fun c6 => (alikeR (eL eI) c6 so3.2).bind fun b4 => .ok b4) (PF eB) from
  sw_re (Γ0 := [.is (.fz ((eZ eI) script)), .is .un, .is .un, .is .un, .is .un, .is .un, .is .un, .is .un, .is .un, .is .un, .is .un, .is .un, .is .un, .is .un]) (sw_row (j := 0) (cs := script) rfl (by decide) (by decide) (by rfl) (sw_re (Γ0 := [.is (.fz ((eZ eI) script)), .row false, .is .un, .is .un, .is .un, .is .un, .is .un, .is .un, .is .un, .is .un, .is .un, .is .un, .is .un, .is .un]) (sw_set (ew_bindv (ew_op2l (add_I) (1 : Int) (fun _ => ew_con (1 : Int) eI) (ew_callM (i := 1) (fun (a : Int × Unit) => n__law_taken a.1) (ew_consc (20 : Int) eI (ew_nil))))) (fun many => sw_re (Γ0 := [.is (.fz ((eZ eI) script)), .row false, .is (.fz (eI many)), .is .un, .is .un, .is .un, .is .un, .is .un, .is .un, .is .un, .is .un, .is .un, .is .un, .is .un]) (sw_set (ew_join (f2 := (eL eS)) (ew_con (PySem.Str.ofString "") eS) (fun _ => ew_frzM (ew_lcX (fx := eI) (fe := eS) (e := fun (at1 : Int) => ((N._law_pick [(PySem.Str.ofString "L"), (PySem.Str.ofString "s")]).noX).bind fun c => .ok c) (sl := fun (at1 : Int) => [(12, .is (.fz (eI at1)))]) (ew_calIp rg_1 (ew_consv (i := 2) many eI (ew_nil))) (by rfl) (fun at1 => gw_n) (fun _ => by rfl) (fun at1 => ew_callM (i := 1) (fun (a : (List Str) × Unit) => n_N__law_pick a.1) (ew_consp (f1 := (eL eS)) [(PySem.Str.ofString "L"), (PySem.Str.ofString "s")] (fun _ => ew_cst ([(PySem.Str.ofString "L"), (PySem.Str.ofString "s")] : (List Str)) (eL eS)) (ew_nil)))))) (fun word1 => sw_re (Γ0 := [.is (.fz ((eZ eI) script)), .row false, .is (.fz (eI many)), .is (.fz (eS word1)), .is .un, .is .un, .is .un, .is .un, .is .un, .is .un, .is .un, .is .un, .is .un, .is .un]) (sw_ifj (ew_tst (ew_op2r (eq_of eqc_I) (0 : Int) (fun _ => ew_con (0 : Int) eI) (ew_callM (i := 1) (fun (a : Int × Unit) => n__law_taken a.1) (ew_consc (2 : Int) eI (ew_nil))))) (sw_re (Γ0 := [.is (.fz ((eZ eI) script)), .row false, .is (.fz (eI many)), .is (.fz (eS word1)), .is .un, .is .un, .is .un, .is .un, .is .un, .is .un, .is .un, .is .un, .is .un, .is .un]) (sw_set (ew_callM (i := 1) (fun (a : Int × Unit) => n__law_taken a.1) (ew_consp (f1 := eI) (many + (1 : Int)) (fun _ => ew_op2b (add_I) many (fun _ => ew_var (i := 2) many eI) (1 : Int) (fun _ => ew_con (1 : Int) eI)) (ew_nil))) (fun large => sw_re (Γ0 := [.is (.fz ((eZ eI) script)), .row false, .is (.fz (eI many)), .is (.fz (eS word1)), .is .un, .is (.fz (eI large)), .is .un, .is .un, .is .un, .is .un, .is .un, .is .un, .is .un, .is .un]) (sw_set (ew_call (fun (a : Int × Int × Unit) => n_N_words_even_word a.1 a.2.1) (ew_consv (i := 5) large eI (ew_consp (f1 := eI) (many - large) (fun _ => ew_op2b (sub_I) many (fun _ => ew_var (i := 2) many eI) large (fun _ => ew_var (i := 5) large eI)) (ew_nil)))) (fun word2 => sw_re (Γ0 := [.is (.fz ((eZ eI) script)), .row false, .is (.fz (eI many)), .is (.fz (eS word2)), .is .un, .is (.fz (eI large)), .is .un, .is .un, .is .un, .is .un, .is .un, .is .un, .is .un, .is .un]) (sw_set (ew_callM (i := 1) (fun (a : Int × Unit) => n__law_taken a.1) (ew_consv (i := 2) many eI (ew_nil))) (fun spot => sw_re (Γ0 := [.is (.fz ((eZ eI) script)), .row false, .is (.fz (eI many)), .is (.fz (eS word2)), .is .un, .is (.fz (eI large)), .is (.fz (eI spot)), .is .un, .is .un, .is .un, .is .un, .is .un, .is .un, .is .un]) (sw_last (sw_set (ew_op2p (add_S) (ew_slp sl_S (ew_var (i := 3) word2 eS) (fun _ => ew_poS (ew_var (i := 6) spot eI)) (fun _ _ => ew_poN)) (fun _ => ew_slp sl_S (ew_var (i := 3) word2 eS) (fun _ => ew_poN) (fun _ _ => ew_poS (ew_var (i := 6) spot eI)))) (fun word3 => sw_endN (Δ := fun (st : Str) => [.is (.fz ((eZ eI) script)), .row false, .is (.fz (eI many)), .is (.fz (eS st)), .is .un, .nf, .nf, .is .un, .is .un, .is .un, .is .un, .is .un, .is .un, .is .un]) word3 (by exact (Le.k (Le.k (Le.k (Le.k (Le.k (Le.n (Le.n (Le.k (Le.k (Le.k (Le.k (Le.k (Le.k (Le.k Le.nil))))))))))))))))))))))))) (sw_endN (Δ := fun (st : Str) => [.is (.fz ((eZ eI) script)), .row false, .is (.fz (eI many)), .is (.fz (eS st)), .is .un, .nf, .nf, .is .un, .is .un, .is .un, .is .un, .is .un, .is .un, .is .un]) word1 (by exact (Le.k (Le.k (Le.k (Le.k (Le.k (Le.u (Le.u (Le.k (Le.k (Le.k (Le.k (Le.k (Le.k (Le.k Le.nil)))))))))))))))) (fun st1 => sw_re (Γ0 := [.is (.fz ((eZ eI) script)), .row false, .is (.fz (eI many)), .is (.fz (eS st1)), .is .un, .nf, .nf, .is .un, .is .un, .is .un, .is .un, .is .un, .is .un, .is .un]) (sw_ifj (ew_tst (ew_op2r (eq_of eqc_I) (0 : Int) (fun _ => ew_con (0 : Int) eI) (ew_callM (i := 1) (fun (a : Int × Unit) => n__law_taken a.1) (ew_consc (4 : Int) eI (ew_nil))))) (sw_re (Γ0 := [.is (.fz ((eZ eI) script)), .row false, .is (.fz (eI many)), .is (.fz (eS st1)), .is .un, .nf, .nf, .is .un, .is .un, .is .un, .is .un, .is .un, .is .un, .is .un]) (sw_last (sw_set (ew_op2pb (rev_S) st1 (fun _ => ew_var (i := 3) st1 eS) (-(1 : Int)) (fun _ => ew_op1 neg_I (ew_con (1 : Int) eI))) (fun word4 => sw_endN (Δ := fun (st : Str) => [.is (.fz ((eZ eI) script)), .row false, .is (.fz (eI many)), .is (.fz (eS st)), .is .un, .nf, .nf, .is .un, .is .un, .is .un, .is .un, .is .un, .is .un, .is .un]) word4 (by exact (Le.k (Le.k (Le.k (Le.k (Le.k (Le.k (Le.k (Le.k (Le.k (Le.k (Le.k (Le.k (Le.k (Le.k Le.nil))))))))))))))))))) (sw_endN (Δ := fun (st : Str) => [.is (.fz ((eZ eI) script)), .row false, .is (.fz (eI many)), .is (.fz (eS st)), .is .un, .nf, .nf, .is .un, .is .un, .is .un, .is .un, .is .un, .is .un, .is .un]) st1 (by exact (Le.k (Le.k (Le.k (Le.k (Le.k (Le.k (Le.k (Le.k (Le.k (Le.k (Le.k (Le.k (Le.k (Le.k Le.nil)))))))))))))))) (fun st2 => sw_re (Γ0 := [.is (.fz ((eZ eI) script)), .row false, .is (.fz (eI many)), .is (.fz (eS st2)), .is .un, .nf, .nf, .is .un, .is .un, .is .un, .is .un, .is .un, .is .un, .is .un]) (sw_parp () [] (fun _ => ew_xcons (ew_asT (ew_con () eU)) (fun _ => ew_xcons (ew_asO (f := oL eI) (ew_calO (new_L (f := eI) (w := fun (p : Unit) => []) (fun _ => rfl) (fun _ => by simp)) (ew_nil))) (fun _ => ew_xnil))) (sw_re (Γ0 := [.is (.fz ((eZ eI) script)), .row false, .is (.fz (eI many)), .is (.fz (eS st2)), .is .un, .nf, .nf, .is (.fz (eU ())), .is (.ow (oL eI [])), .is .un, .is .un, .is .un, .is .un, .is .un]) (sw_for (fx := eI) (Δ := fun (st : ((Option (Int × (Int × (Int × Unit)))) × (List Int))) => [.is (.fz ((eZ eI) script)), .row false, .is (.fz (eI many)), .is (.fz (eS st2)), .nf, .nf, .nf, .is (.fz ((eO (eP (aC eI (aC eI (aC eI aN))))) st.1)), .is (.ow (oL eI st.2)), .nf, .nf, .nf, .nf, .nf]) (Γ1 := fun (x : Int) (st3 : ((Option (Int × (Int × (Int × Unit)))) × (List Int))) => [.is (.fz ((eZ eI) script)), .row false, .is (.fz (eI many)), .is (.fz (eS st2)), .is (.fz (eI x)), .nf, .nf, .is (.fz ((eO (eP (aC eI (aC eI (aC eI aN))))) st3.1)), .is (.ow (oL eI st3.2)), .nf, .nf, .nf, .nf, .nf]) (body := fun (x : Int) (st3 : ((Option (Int × (Int × (Int × Unit)))) × (List Int))) => (rgR (0 : Int) many).bind fun r3 => (cmpR r3 (fun _ => .ok true) fun (at2 : Int) => (catS st2 st2).bind fun t3 => (slS t3 (some at2) (some (at2 + x))).bind fun s4 => .ok (scountI s4 (PySem.Str.ofString "L"))).bind fun told => (rgR (0 : Int) many).bind fun r4 => (forR r4 (fun (x2 : Int) (st4 : (Option (Int × (Int × (Int × Unit))))) => (rgR (x2 + (1 : Int)) many).bind fun r5 => (forR r5 (fun (x3 : Int) (st5 : (Option (Int × (Int × (Int × Unit))))) => (if st5.isNone = true then (atR told x2).bind fun t4 => (atR told x3).bind fun t5 => .ok (decide ((absI (t4 - t5)) > (1 : Int))) else .ok false).bind fun t6 => (if t6 = true then .ok (some (x, x2, x3, ())) else .ok st5 : R (Option (Int × (Int × (Int × Unit))))).bind fun st6 => .ok st6) st4).bind fun so => .ok so) st3.1).bind fun so2 => (lsetXR ((eL eI) told)).bind fun n => (if (decide (n = (2 : Int))) = true then (cmpR told (fun _ => .ok true) fun (entry : Int) => (cntR (told.map eI) (eI entry)).bind fun n2 => .ok n2).bind fun l3 => .ok (decide ((1 : Int) ∈ l3)) else .ok false).bind fun t7 => (if t7 = true then (appR st3.2 x).bind fun sizes => .ok sizes else .ok st3.2 : R (List Int)).bind fun st7 => .ok (so2, st7)) (none, []) (ew_calIp rg_2 (ew_consc (1 : Int) eI (ew_consv (i := 2) many eI (ew_nil)))) (by exact (Le.k (Le.k (Le.k (Le.k (Le.u (Le.k (Le.k (Le.k (Le.k (Le.u (Le.u (Le.u (Le.u (Le.u Le.nil))))))))))))))) (fun x st3 => gw_n) (fun x st3 => sw_re (Γ0 := [.is (.fz ((eZ eI) script)), .row false, .is (.fz (eI many)), .is (.fz (eS st2)), .is (.fz (eI x)), .nf, .nf, .is (.fz ((eO (eP (aC eI (aC eI (aC eI aN))))) st3.1)), .is (.ow (oL eI st3.2)), .nf, .nf, .nf, .nf, .nf]) (sw_set (ew_frzM (ew_lcX (fx := eI) (fe := eI) (e := fun (at2 : Int) => (catS st2 st2).bind fun t3 => (slS t3 (some at2) (some (at2 + x))).bind fun s4 => .ok (scountI s4 (PySem.Str.ofString "L"))) (sl := fun (at2 : Int) => [(12, .is (.fz (eI at2)))]) (ew_calIp rg_1 (ew_consv (i := 2) many eI (ew_nil))) (by rfl) (fun at2 => gw_n) (fun _ => by rfl) (fun at2 => ew_m1 scount_S (ew_slp sl_S (ew_op2pb (add_S) st2 (fun _ => ew_var (i := 3) st2 eS) st2 (fun _ => ew_var (i := 3) st2 eS)) (fun _ => ew_poS (ew_var (i := 12) at2 eI)) (fun _ _ => ew_poS (ew_op2b (add_I) at2 (fun _ => ew_var (i := 12) at2 eI) x (fun _ => ew_var (i := 4) x eI)))) (fun _ => ew_con (PySem.Str.ofString "L") eS)))) (fun told => sw_re (Γ0 := [.is (.fz ((eZ eI) script)), .row false, .is (.fz (eI many)), .is (.fz (eS st2)), .is (.fz (eI x)), .nf, .nf, .is (.fz ((eO (eP (aC eI (aC eI (aC eI aN))))) st3.1)), .is (.ow (oL eI st3.2)), .is (.fz ((eL eI) told)), .nf, .nf, .nf, .nf]) (sw_for (fx := eI) (Δ := fun (st : (Option (Int × (Int × (Int × Unit))))) => [.is (.fz ((eZ eI) script)), .row false, .is (.fz (eI many)), .is (.fz (eS st2)), .is (.fz (eI x)), .nf, .nf, .is (.fz ((eO (eP (aC eI (aC eI (aC eI aN))))) st)), .is (.ow (oL eI st3.2)), .is (.fz ((eL eI) told)), .nf, .nf, .nf, .nf]) (Γ1 := fun (x2 : Int) (st4 : (Option (Int × (Int × (Int × Unit))))) => [.is (.fz ((eZ eI) script)), .row false, .is (.fz (eI many)), .is (.fz (eS st2)), .is (.fz (eI x)), .nf, .nf, .is (.fz ((eO (eP (aC eI (aC eI (aC eI aN))))) st4)), .is (.ow (oL eI st3.2)), .is (.fz ((eL eI) told)), .is (.fz (eI x2)), .nf, .nf, .nf]) (body := fun (x2 : Int) (st4 : (Option (Int × (Int × (Int × Unit))))) => (rgR (x2 + (1 : Int)) many).bind fun r5 => (forR r5 (fun (x3 : Int) (st5 : (Option (Int × (Int × (Int × Unit))))) => (if st5.isNone = true then (atR told x2).bind fun t4 => (atR told x3).bind fun t5 => .ok (decide ((absI (t4 - t5)) > (1 : Int))) else .ok false).bind fun t6 => (if t6 = true then .ok (some (x, x2, x3, ())) else .ok st5 : R (Option (Int × (Int × (Int × Unit))))).bind fun st6 => .ok st6) st4).bind fun so => .ok so) st3.1 (ew_calIp rg_1 (ew_consv (i := 2) many eI (ew_nil))) (by exact (Le.k (Le.k (Le.k (Le.k (Le.k (Le.k (Le.k (Le.k (Le.k (Le.k (Le.k (Le.k (Le.k (Le.k Le.nil))))))))))))))) (fun x2 st4 => gw_n) (fun x2 st4 => sw_re (Γ0 := [.is (.fz ((eZ eI) script)), .row false, .is (.fz (eI many)), .is (.fz (eS st2)), .is (.fz (eI x)), .nf, .nf, .is (.fz ((eO (eP (aC eI (aC eI (aC eI aN))))) st4)), .is (.ow (oL eI st3.2)), .is (.fz ((eL eI) told)), .is (.fz (eI x2)), .nf, .nf, .nf]) (sw_last (sw_for (fx := eI) (Δ := fun (st : (Option (Int × (Int × (Int × Unit))))) => [.is (.fz ((eZ eI) script)), .row false, .is (.fz (eI many)), .is (.fz (eS st2)), .is (.fz (eI x)), .nf, .nf, .is (.fz ((eO (eP (aC eI (aC eI (aC eI aN))))) st)), .is (.ow (oL eI st3.2)), .is (.fz ((eL eI) told)), .is (.fz (eI x2)), .nf, .nf, .nf]) (Γ1 := fun (x3 : Int) (st5 : (Option (Int × (Int × (Int × Unit))))) => [.is (.fz ((eZ eI) script)), .row false, .is (.fz (eI many)), .is (.fz (eS st2)), .is (.fz (eI x)), .nf, .nf, .is (.fz ((eO (eP (aC eI (aC eI (aC eI aN))))) st5)), .is (.ow (oL eI st3.2)), .is (.fz ((eL eI) told)), .is (.fz (eI x2)), .is (.fz (eI x3)), .nf, .nf]) (body := fun (x3 : Int) (st5 : (Option (Int × (Int × (Int × Unit))))) => (if st5.isNone = true then (atR told x2).bind fun t4 => (atR told x3).bind fun t5 => .ok (decide ((absI (t4 - t5)) > (1 : Int))) else .ok false).bind fun t6 => (if t6 = true then .ok (some (x, x2, x3, ())) else .ok st5 : R (Option (Int × (Int × (Int × Unit))))).bind fun st6 => .ok st6) st4 (ew_calIp rg_2 (ew_consp (f1 := eI) (x2 + (1 : Int)) (fun _ => ew_op2b (add_I) x2 (fun _ => ew_var (i := 10) x2 eI) (1 : Int) (fun _ => ew_con (1 : Int) eI)) (ew_consv (i := 2) many eI (ew_nil)))) (by exact (Le.k (Le.k (Le.k (Le.k (Le.k (Le.k (Le.k (Le.k (Le.k (Le.k (Le.k (Le.k (Le.k (Le.k Le.nil))))))))))))))) (fun x3 st5 => gw_n) (fun x3 st5 => sw_re (Γ0 := [.is (.fz ((eZ eI) script)), .row false, .is (.fz (eI many)), .is (.fz (eS st2)), .is (.fz (eI x)), .nf, .nf, .is (.fz ((eO (eP (aC eI (aC eI (aC eI aN))))) st5)), .is (.ow (oL eI st3.2)), .is (.fz ((eL eI) told)), .is (.fz (eI x2)), .is (.fz (eI x3)), .nf, .nf]) (sw_last (sw_ifj (ew_andTxp st5.isNone (fun _ => ew_tst (op2c (t := .non) (is_O (fun _ => rfl)) (ew_var (i := 7) st5 (eO (eP (aC eI (aC eI (aC eI aN)))))))) (ew_tst (ew_op2r (gt_I) (1 : Int) (fun _ => ew_con (1 : Int) eI) (ew_calF abs_I (ew_cons (ew_op2 (sub_I) (ew_ixA (i := 9) (t := (eL eI) told) (ix_L eI told) (ew_var (i := 10) x2 eI)) (fun _ => ew_ixA (i := 9) (t := (eL eI) told) (ix_L eI told) (ew_var (i := 11) x3 eI))) (fun _ => ew_nil)))))) (sw_re (Γ0 := [.is (.fz ((eZ eI) script)), .row false, .is (.fz (eI many)), .is (.fz (eS st2)), .is (.fz (eI x)), .nf, .nf, .is (.fz ((eO (eP (aC eI (aC eI (aC eI aN))))) st5)), .is (.ow (oL eI st3.2)), .is (.fz ((eL eI) told)), .is (.fz (eI x2)), .is (.fz (eI x3)), .nf, .nf]) (sw_last (sw_setp (x, x2, x3, ()) (fun _ => ew_of (ep_tupP (ep_cons (ep_var (i := 4) x eI) (ep_cons (ep_var (i := 10) x2 eI) (ep_cons (ep_var (i := 11) x3 eI) (ep_nil)))))) (sw_endN (Δ := fun (st : (Option (Int × (Int × (Int × Unit))))) => [.is (.fz ((eZ eI) script)), .row false, .is (.fz (eI many)), .is (.fz (eS st2)), .is (.fz (eI x)), .nf, .nf, .is (.fz ((eO (eP (aC eI (aC eI (aC eI aN))))) st)), .is (.ow (oL eI st3.2)), .is (.fz ((eL eI) told)), .is (.fz (eI x2)), .is (.fz (eI x3)), .nf, .nf]) (some (x, x2, x3, ())) (by exact (Le.k (Le.k (Le.k (Le.k (Le.k (Le.k (Le.k (Le.k (Le.k (Le.k (Le.k (Le.k (Le.k (Le.k Le.nil))))))))))))))))))) (sw_endN (Δ := fun (st : (Option (Int × (Int × (Int × Unit))))) => [.is (.fz ((eZ eI) script)), .row false, .is (.fz (eI many)), .is (.fz (eS st2)), .is (.fz (eI x)), .nf, .nf, .is (.fz ((eO (eP (aC eI (aC eI (aC eI aN))))) st)), .is (.ow (oL eI st3.2)), .is (.fz ((eL eI) told)), .is (.fz (eI x2)), .is (.fz (eI x3)), .nf, .nf]) st5 (by exact (Le.k (Le.k (Le.k (Le.k (Le.k (Le.k (Le.k (Le.k (Le.k (Le.k (Le.k (Le.k (Le.k (Le.k Le.nil)))))))))))))))) (fun st6 => sw_endL (Δ := fun (st : (Option (Int × (Int × (Int × Unit))))) => [.is (.fz ((eZ eI) script)), .row false, .is (.fz (eI many)), .is (.fz (eS st2)), .is (.fz (eI x)), .nf, .nf, .is (.fz ((eO (eP (aC eI (aC eI (aC eI aN))))) st)), .is (.ow (oL eI st3.2)), .is (.fz ((eL eI) told)), .is (.fz (eI x2)), .nf, .nf, .nf]) st6 (by exact (Le.k (Le.k (Le.k (Le.k (Le.k (Le.k (Le.k (Le.k (Le.k (Le.k (Le.k (Le.n (Le.k (Le.k Le.nil))))))))))))))))))) (fun so => sw_endL (Δ := fun (st : (Option (Int × (Int × (Int × Unit))))) => [.is (.fz ((eZ eI) script)), .row false, .is (.fz (eI many)), .is (.fz (eS st2)), .is (.fz (eI x)), .nf, .nf, .is (.fz ((eO (eP (aC eI (aC eI (aC eI aN))))) st)), .is (.ow (oL eI st3.2)), .is (.fz ((eL eI) told)), .nf, .nf, .nf, .nf]) so (by exact (Le.k (Le.k (Le.k (Le.k (Le.k (Le.k (Le.k (Le.k (Le.k (Le.k (Le.n (Le.k (Le.k (Le.k Le.nil))))))))))))))))))) (fun so2 => sw_re (Γ0 := [.is (.fz ((eZ eI) script)), .row false, .is (.fz (eI many)), .is (.fz (eS st2)), .is (.fz (eI x)), .nf, .nf, .is (.fz ((eO (eP (aC eI (aC eI (aC eI aN))))) so2)), .is (.ow (oL eI st3.2)), .is (.fz ((eL eI) told)), .nf, .nf, .nf, .nf]) (sw_last (sw_ifj (ew_andTx (ew_tst (ew_op2r (eq_of eqc_I) (2 : Int) (fun _ => ew_con (2 : Int) eI) (ew_lsetX (f1 := (eL eI)) (ew_var (i := 9) told (eL eI))))) (ew_tst (ew_op2l (in_Lg dat_I) (1 : Int) (fun _ => ew_con (1 : Int) eI) (ew_frzM (ew_lcX (fx := eI) (fe := eI) (e := fun (entry : Int) => (cntR (told.map eI) (eI entry)).bind fun n2 => .ok n2) (sl := fun (entry : Int) => [(13, .is (.fz (eI entry)))]) (ew_iLA (ew_var (i := 9) told (eL eI))) (by rfl) (fun entry => gw_n) (fun _ => by rfl) (fun entry => ew_cnt (f1 := eI) (f2 := eI) (ew_var (i := 9) told (eL eI)) (fun _ => ew_var (i := 13) entry eI))))))) (sw_re (Γ0 := [.is (.fz ((eZ eI) script)), .row false, .is (.fz (eI many)), .is (.fz (eS st2)), .is (.fz (eI x)), .nf, .nf, .is (.fz ((eO (eP (aC eI (aC eI (aC eI aN))))) so2)), .is (.ow (oL eI st3.2)), .is (.fz ((eL eI) told)), .nf, .nf, .nf, .nf]) (sw_last (sw_app (i := 8) (xs := st3.2) (f := eI) rfl (ew_var (i := 4) x eI) rfl (fun sizes => sw_endN (Δ := fun (st : (List Int)) => [.is (.fz ((eZ eI) script)), .row false, .is (.fz (eI many)), .is (.fz (eS st2)), .is (.fz (eI x)), .nf, .nf, .is (.fz ((eO (eP (aC eI (aC eI (aC eI aN))))) so2)), .is (.ow (oL eI st)), .is (.fz ((eL eI) told)), .nf, .nf, .nf, .nf]) sizes (by exact (Le.k (Le.k (Le.k (Le.k (Le.k (Le.k (Le.k (Le.k (Le.k (Le.k (Le.k (Le.k (Le.k (Le.k Le.nil))))))))))))))))))) (sw_endN (Δ := fun (st : (List Int)) => [.is (.fz ((eZ eI) script)), .row false, .is (.fz (eI many)), .is (.fz (eS st2)), .is (.fz (eI x)), .nf, .nf, .is (.fz ((eO (eP (aC eI (aC eI (aC eI aN))))) so2)), .is (.ow (oL eI st)), .is (.fz ((eL eI) told)), .nf, .nf, .nf, .nf]) st3.2 (by exact (Le.k (Le.k (Le.k (Le.k (Le.k (Le.k (Le.k (Le.k (Le.k (Le.k (Le.k (Le.k (Le.k (Le.k Le.nil)))))))))))))))) (fun st7 => sw_endL (Δ := fun (st : ((Option (Int × (Int × (Int × Unit)))) × (List Int))) => [.is (.fz ((eZ eI) script)), .row false, .is (.fz (eI many)), .is (.fz (eS st2)), .nf, .nf, .nf, .is (.fz ((eO (eP (aC eI (aC eI (aC eI aN))))) st.1)), .is (.ow (oL eI st.2)), .nf, .nf, .nf, .nf, .nf]) (so2, st7) (by exact (Le.k (Le.k (Le.k (Le.k (Le.n (Le.k (Le.k (Le.k (Le.k (Le.n (Le.k (Le.k (Le.k (Le.k Le.nil))))))))))))))))))))))) (fun so3 => sw_re (Γ0 := [.is (.fz ((eZ eI) script)), .row false, .is (.fz (eI many)), .is (.fz (eS st2)), .nf, .nf, .nf, .is (.fz ((eO (eP (aC eI (aC eI (aC eI aN))))) so3.1)), .is (.ow (oL eI so3.2)), .nf, .nf, .nf, .nf, .nf]) (sw_if (ew_orTx (ew_notT (ew_truth (f1 := eB) (w := fun z => z) (fun _ => rfl) (ew_call (fun (a : (Option (Int × (Int × (Int × Unit)))) × (Option (Int × (Int × (Int × Unit)))) × Unit) => n_alike (eO (eP (aC eI (aC eI (aC eI aN))))) a.1 a.2.1) (ew_cons (ew_call (fun (a : Str × Unit) => n_N_words_word_clash a.1) (ew_consv (i := 3) st2 eS (ew_nil))) (fun _ => ew_consv (i := 7) so3.1 (eO (eP (aC eI (aC eI (aC eI aN))))) (ew_nil)))))) (ew_notT (ew_truth (f1 := eB) (w := fun z => z) (fun _ => rfl) (ew_call (fun (a : Bool × Bool × Unit) => n_alike eB a.1 a.2.1) (ew_cons (ew_call (fun (a : Str × Unit) => n_N_words_is_balanced a.1) (ew_consv (i := 3) st2 eS (ew_nil))) (fun _ => ew_consp (f1 := eB) so3.1.isNone (fun _ => op2c (t := .non) (is_O (fun _ => rfl)) (ew_var (i := 7) so3.1 (eO (eP (aC eI (aC eI (aC eI aN))))))) (ew_nil))))))) (sw_re (Γ0 := [.is (.fz ((eZ eI) script)), .row false, .is (.fz (eI many)), .is (.fz (eS st2)), .nf, .nf, .nf, .is (.fz ((eO (eP (aC eI (aC eI (aC eI aN))))) so3.1)), .is (.ow (oL eI so3.2)), .nf, .nf, .nf, .nf, .nf]) (sw_retF (ew_con false eB))) (sw_skip (sw_re (Γ0 := [.is (.fz ((eZ eI) script)), .row false, .is (.fz (eI many)), .is (.fz (eS st2)), .nf, .nf, .nf, .is (.fz ((eO (eP (aC eI (aC eI (aC eI aN))))) so3.1)), .is (.ow (oL eI so3.2)), .nf, .nf, .nf, .nf, .nf]) (sw_if (ew_notT (ew_truth (f1 := eB) (w := fun z => z) (fun _ => rfl) (ew_call (fun (a : (List Str) × (List Str) × Unit) => n_alike (eL eS) a.1 a.2.1) (ew_cons (ew_call (fun (a : Str × Unit) => n_N_words_modes a.1) (ew_consv (i := 3) st2 eS (ew_nil))) (fun _ => ew_cons (ew_frzM (ew_ssetX (ew_cons (ew_frzM (ew_lcX (fx := eI) (fe := eS) (e := fun (at3 : Int) => (slS st2 (some at3) none).bind fun s5 => (slS st2 none (some at3)).bind fun s6 => (catS s5 s6).bind fun t9 => .ok t9) (sl := fun (at3 : Int) => [(12, .is (.fz (eI at3)))]) (ew_calIp rg_1 (ew_consv (i := 2) many eI (ew_nil))) (by rfl) (fun at3 => gw_n) (fun _ => by rfl) (fun at3 => ew_op2p (add_S) (ew_slp sl_S (ew_var (i := 3) st2 eS) (fun _ => ew_poS (ew_var (i := 12) at3 eI)) (fun _ _ => ew_poN)) (fun _ => ew_slp sl_S (ew_var (i := 3) st2 eS) (fun _ => ew_poN) (fun _ _ => ew_poS (ew_var (i := 12) at3 eI)))))) (fun _ => ew_nil)))) (fun _ => ew_nil)))))) (sw_re (Γ0 := [.is (.fz ((eZ eI) script)), .row false, .is (.fz (eI many)), .is (.fz (eS st2)), .nf, .nf, .nf, .is (.fz ((eO (eP (aC eI (aC eI (aC eI aN))))) so3.1)), .is (.ow (oL eI so3.2)), .nf, .nf, .nf, .nf, .nf]) (sw_retF (ew_con false eB))) (sw_skip (sw_re (Γ0 := [.is (.fz ((eZ eI) script)), .row false, .is (.fz (eI many)), .is (.fz (eS st2)), .nf, .nf, .nf, .is (.fz ((eO (eP (aC eI (aC eI (aC eI aN))))) so3.1)), .is (.ow (oL eI so3.2)), .nf, .nf, .nf, .nf, .nf]) (sw_last (sw_retF (ew_call (fun (a : (List Int) × (List Int) × Unit) => n_alike (eL eI) a.1 a.2.1) (ew_cons (ew_call (fun (a : Str × Unit) => n_N_words_generator_sizes a.1) (ew_consv (i := 3) st2 eS (ew_nil))) (fun _ => ew_consp (f1 := (eL eI)) so3.2 (fun _ => ew_frz (i := 8) so3.2 (eL eI)) (ew_nil)))))))))))))))))))))))))))
end FL.NL

/-! MB: the program's own defs (lines of MA .. MA4); prune.py drops what a law does not reach. -/
namespace FL.NL
open PySem
variable {α β σ : Type}
theorem All_taken {m : Int} {Q : Int → Prop} (h0 : 0 < m) (h1 : m < 18446744073709551616) (h : ∀ v, 0 ≤ v → v < m → Q v) : R.All Q (N._law_taken m) := ⟨h0, h1, h⟩
theorem pick_all {xs} {Q} (h0 : 0 < List.length xs) (h1 : List.length xs < 1000000) (h : ∀ x ∈ xs, Q x) : R.All Q (N._law_pick xs) := by
  unfold N._law_pick
  rw [R.All_bind, R.All_nx]
  refine All_taken (by omega) (by omega) fun v v0 v1 => ?_
  have hl : v.toNat < xs.length := by omega
  rw [atR_pos (a := xs[v.toNat]'hl) v0 (by simp [hl])]
  rw [R.bind_ok]; exact h _ (List.getElem_mem hl)
theorem is_in_ok {i a b : Int} (h1 : a ≤ i) (h2 : i ≤ b) : N.limits_is_in i a b = .ok true := by
  unfold N.limits_is_in N.limits_is_int
  simp [h1, h2]
/-! lists by size -/
structure IvB (L X : List Int) : Prop where
  len : X.length = L.length
  bd : ∀ x ∈ X, -1000 ≤ x ∧ x ≤ 1000
structure LimOk (L : List Int) : Prop where
  few : L.length ≤ 8
  pr : ∀ p ∈ L, 2 ≤ p ∧ p < 64
theorem LimOk.two {L : List Int} (h : LimOk L) : ∀ p ∈ L, 2 ≤ p := fun p hp => (h.pr p hp).1
theorem sub_lx {L X Y : List Int} (hL : LimOk L) (hx : IvB L X) (hy : IvB L Y) : LX L (subL X Y) :=
  ⟨by rw [subL_len (by rw [hx.len, hy.len]), hx.len], hL.few, fun p hp => by have := hL.pr p hp; omega, fun z hz => by have := subL_bd hx.bd hy.bd z hz; omega⟩
theorem IvB.lx {L X : List Int} (hL : LimOk L) (hx : IvB L X) : LX L X := ⟨hx.len.symm, hL.few, fun p hp => by have := hL.pr p hp; omega, fun z hz => by have := hx.bd z hz; omega⟩
theorem sgn_lt {L X Y : List Int} (hL : LimOk L) (hx : IvB L X) (hy : IvB L Y) : decide (sg L (subL X Y) < 0) = lt' L X Y := by
  have h := sub_lt hL.two hx.len hy.len
  have hp1 := nu_pos (X := subL X Y) hL.two
  have e1 : (nd L (subL X Y) (1, 1)).1 = nu L (subL X Y) := rfl
  have e2 : (nd L (subL X Y) (1, 1)).2 = de L (subL X Y) := rfl
  unfold sg lt'
  rw [e1, e2]
  by_cases c : nu L (subL X Y) < de L (subL X Y)
  · have c2 := h.mp c
    have c3 : ¬ de L (subL X Y) < nu L (subL X Y) := by omega
    simp [c, c2, c3, b01]
  · have c2 : ¬ nu L X * de L Y < nu L Y * de L X := fun e => c (h.mpr e)
    by_cases c3 : de L (subL X Y) < nu L (subL X Y) <;> simp [c, c2, c3, b01]
theorem sgn_gt {L X Y : List Int} (hL : LimOk L) (hx : IvB L X) (hy : IvB L Y) : decide (sg L (subL X Y) > 0) = lt' L Y X := by
  have h := sub_gt hL.two hx.len hy.len
  have e1 : (nd L (subL X Y) (1, 1)).1 = nu L (subL X Y) := rfl
  have e2 : (nd L (subL X Y) (1, 1)).2 = de L (subL X Y) := rfl
  unfold sg lt'
  rw [e1, e2]
  by_cases c : de L (subL X Y) < nu L (subL X Y)
  · have c2 := h.mp c
    have c3 : ¬ nu L (subL X Y) < de L (subL X Y) := by omega
    simp [c, c2, c3, b01]
  · have c2 : ¬ nu L Y * de L X < nu L X * de L Y := fun e => c (h.mpr e)
    by_cases c3 : nu L (subL X Y) < de L (subL X Y) <;> simp [c, c2, c3, b01]
theorem ris_get {L : List Int} {S : List (List Int)} (h : Ris L S) {i j : Nat} {a b : List Int} (hi : S[i]? = some a) (hj : S[j]? = some b) (hij : i ≤ j) : lt' L b a = false := by
  by_cases e : i = j
  · subst e; rw [hi] at hj; cases hj; exact lt_irr
  · obtain ⟨h1, e1⟩ := List.getElem?_eq_some_iff.mp hi
    obtain ⟨h2, e2⟩ := List.getElem?_eq_some_iff.mp hj
    have := (List.pairwise_iff_getElem.mp h) i j h1 h2 (by omega)
    rw [e1, e2] at this; exact this
/-- where to put x: before all that are wider -/
structure Spot (L x : List Int) (S : List (List Int)) (k : Nat) : Prop where
  le : k ≤ S.length
  lo : ∀ i y, i < k → S[i]? = some y → lt' L x y = false
  hi : ∀ i y, k ≤ i → S[i]? = some y → lt' L x y = true
theorem Spot.ins {L x : List Int} {S : List (List Int)} {k : Nat} (h : Spot L x S k) : S.take k ++ x :: S.drop k = FL.NL.ins L x S := by
  have := ins_at (L := L) (x := x) (a := S.take k) (b := S.drop k) (fun y hy => by
    obtain ⟨i, hi, e⟩ := List.mem_take_iff_getElem.mp hy
    exact h.lo i y (by omega) (by rw [← e]; simp)) (fun y hy => by
    rw [List.head?_drop] at hy
    exact h.hi k y (Nat.le_refl _) hy)
  rw [List.take_append_drop] at this
  exact this.symm
theorem ins_mem {L x : List Int} {S : List (List Int)} {P : List Int → Prop} (hx : P x) (hS : ∀ y ∈ S, P y) : ∀ y ∈ FL.NL.ins L x S, P y := fun y hy => by
  rcases List.mem_cons.mp (ins_perm.mem_iff.mp hy) with rfl | h
  · exact hx
  · exact hS y h
theorem lims_lim : ∀ L ∈ lims, LimOk L := fun L h => ⟨by have := (lims_pr L h).1; omega, (lims_pr L h).2.2⟩
theorem alikeR_I {a : Int} : alikeR eI a a = .ok true := by unfold alikeR; rw [if_pos ⟨rfl, rfl⟩]
theorem alikeR_B {a : Bool} : alikeR eB a a = .ok true := by unfold alikeR; rw [if_pos ⟨rfl, rfl⟩]
theorem alikeR_II {a : Int × Int × Unit} : alikeR (eP (aC eI (aC eI aN))) a a = .ok true := by unfold alikeR; rw [if_pos ⟨rfl, rfl⟩]
theorem adats_map {α : Type} {k : Nat} {f : α → T} (h : ∀ a, adat k (f a) = true) : ∀ xs : List α, adats k (xs.map f) = true
  | [] => rfl
  | x :: xs => by rw [List.map_cons]; unfold adats; rw [h x, adats_map h xs]; rfl
theorem adat_T {α : Type} {k : Nat} {f : α → T} {xs : List α} (h : ∀ a, adat k (f a) = true) (hl : xs.length ≤ 1000000) : adat (k + 1) (eT f xs) = true := by
  unfold eT adat
  rw [adats_map h, List.length_map, decide_eq_true hl]; rfl
theorem adat_I {k : Nat} (i : Int) : adat k (eI i) = true := by unfold eI; cases k <;> rfl
theorem alikeR_T {xs : List Int} (hl : xs.length ≤ 1000000) : alikeR (eT eI) xs xs = .ok true := by unfold alikeR; rw [if_pos ⟨rfl, adat_T (k := 6) adat_I hl⟩]
theorem alikeR_of {α : Type} [DecidableEq α] {f : α → T} {a : α} (h : adat 7 (f a) = true) : alikeR f a a = .ok true := by unfold alikeR; rw [if_pos ⟨rfl, h⟩]
theorem alikeR_eq {α : Type} [DecidableEq α] {f : α → T} {a b : α} (e : a = b) (h : adat 7 (f a) = true) : alikeR f a b = .ok true := by subst e; exact alikeR_of h
theorem adats_mem {α : Type} {k : Nat} {f : α → T} : ∀ {xs : List α}, (∀ a ∈ xs, adat k (f a) = true) → adats k (xs.map f) = true
  | [], _ => rfl
  | x :: xs, h => by rw [List.map_cons]; unfold adats; rw [h x (List.mem_cons_self ..), adats_mem fun a ha => h a (List.mem_cons_of_mem _ ha)]; rfl
theorem adat_L {α : Type} {k : Nat} {f : α → T} {xs : List α} (h : ∀ a ∈ xs, adat k (f a) = true) (hl : xs.length ≤ 1000000) : adat (k + 1) (eL f xs) = true := by
  unfold eL adat
  rw [adats_mem h, List.length_map, decide_eq_true hl]; rfl
theorem adat_T' {α : Type} {k : Nat} {f : α → T} {xs : List α} (h : ∀ a ∈ xs, adat k (f a) = true) (hl : xs.length ≤ 1000000) : adat (k + 1) (eT f xs) = true := by
  unfold eT adat
  rw [adats_mem h, List.length_map, decide_eq_true hl]; rfl
theorem alikeR_LTI {xs : List (List Int)} (hl : xs.length ≤ 1000000) (h : ∀ x ∈ xs, x.length ≤ 1000000) : alikeR (eL (eT eI)) xs xs = .ok true :=
  alikeR_of (adat_L (k := 6) (fun a ha => adat_T' (k := 5) (fun _ _ => adat_I _) (h a ha)) hl)
theorem alikeR_TTI {xs : List (List Int)} (hl : xs.length ≤ 1000000) (h : ∀ x ∈ xs, x.length ≤ 1000000) : alikeR (eT (eT eI)) xs xs = .ok true :=
  alikeR_of (adat_T' (k := 6) (fun a ha => adat_T' (k := 5) (fun _ _ => adat_I _) (h a ha)) hl)
end FL.NL


/-! MW: words: the program's own defs. -/
namespace FL.NL
open PySem PySem.W FL.C1
theorem in_Ls {w : Str} (h : w = sgL ∨ w = sgS) : inSR w (PySem.Str.ofString "Ls") = .ok true := by rcases h with rfl | rfl <;> kernel_rfl
theorem need_word_ok {z : Str} (h : Wd z) : N.words_need_word z = .ok () := by
  have h1 := h.l1
  have h2 := h.l2
  unfold N.words_need_word
  simp only [Bool.not_true, Bool.false_eq_true, if_false]
  rw [lenS_ok (by omega), R.bind_ok]
  have : (!(decide ((1 : Int) ≤ z.length) && decide ((z.length : Int) ≤ 40))) = false := by
    rw [decide_eq_true (by omega), decide_eq_true (by omega)]; rfl
  rw [this]
  simp only [Bool.false_eq_true, if_false]
  rw [cmpR_ok (g := fun _ => true) (by rw [chS_len]; omega) (fun w hw => by rw [in_Ls (h.all w hw), R.bind_ok]), R.bind_ok]
  have : (((chS z).map fun _ => true).all idB) = true := by simp [idB]
  rw [this]
  simp only [Bool.not_true, R.bind_ok, Bool.false_eq_true, if_false]
theorem slS_win {z : Str} {a s : Int} (a0 : 0 ≤ a) (s0 : 0 ≤ s) (h : a + s ≤ z.length) (hz : z.length ≤ 1000) : slS z (some a) (some (a + s)) = .ok ⟨((z.cps.toList.drop a.toNat).take s.toNat).toArray⟩ := by
  unfold slS L2.cutS
  rw [if_pos (by omega)]
  obtain ⟨a, rfl⟩ := Int.eq_ofNat_of_zero_le a0
  obtain ⟨s, rfl⟩ := Int.eq_ofNat_of_zero_le s0
  rw [show ((a : Int) + (s : Int)) = ((a + s : Nat) : Int) by omega, HT.sIx_nat, HT.sIx_nat, Nat.min_eq_left (by omega), Nat.min_eq_left (by omega)]
  rw [show a + s - a = s by omega, Int.toNat_natCast, Int.toNat_natCast]
theorem cps_app {x y : Str} : (x ++ y).cps.toList = x.cps.toList ++ y.cps.toList := by
  show (x.cps ++ y.cps).toList = _
  exact Array.toList_append ..
theorem counts_ok {z : Str} (h : Wd z) {s : Int} (s0 : 0 ≤ s) (s1 : s ≤ z.length) : N.words_counts_of z s = .ok ((cw z.cps.toList s.toNat).map fun (n : Nat) => (n : Int)) := by
  have h1 := h.l1
  have h2 := h.l2
  have hl : (z ++ z).length = z.length + z.length := by rw [← len_cps, cps_app, List.length_append, len_cps]
  unfold N.words_counts_of
  rw [catS_ok (by omega), R.bind_ok, lenS_ok (by omega), R.bind_ok, rgR_0 (by omega) (by omega), R.bind_ok]
  rw [cmpR_ok (g := fun (a : Int) => ((cntN 76 (((z.cps.toList ++ z.cps.toList).drop a.toNat).take s.toNat) : Nat) : Int)) (by rw [rg_len]; omega) (fun a ha => by
    obtain ⟨a0, a1⟩ := mem_rg.mp ha
    rw [slS_win a0 s0 (by omega) (by omega), R.bind_ok, sc_L, cps_app]), R.bind_ok]
  congr 1
  unfold rg cw
  rw [List.map_map, List.map_map, len_cps]
  refine List.map_congr_left fun a ha => ?_
  show ((cntN 76 (((z.cps.toList ++ z.cps.toList).drop ((0 : Int) + (a : Int)).toNat).take s.toNat) : Nat) : Int) = _
  rw [Int.zero_add, Int.toNat_natCast]; rfl
theorem rg_one {n : Nat} : rg 1 n = (List.range n).map fun i => ((i + 1 : Nat) : Int) := by
  unfold rg
  refine List.map_congr_left fun a _ => ?_
  omega
theorem cw_ne {z : Str} (h : Wd z) {s : Nat} : cw z.cps.toList s ≠ [] := fun e => by
  have := congrArg List.length e
  rw [cw_len, len_cps] at this
  have := h.l1
  simp at *; omega
theorem is_balanced_ok {z : Str} (h : Wd z) : N.words_is_balanced z = .ok (balB z.cps.toList) := by
  have h1 := h.l1
  have h2 := h.l2
  unfold N.words_is_balanced
  rw [need_word_ok h, R.bind_ok, lenS_ok (by omega), R.bind_ok, rgR_ok (by decide) (by decide) (by omega) (by omega), R.bind_ok]
  rw [cmpR_ok (g := fun (s : Int) => (cw z.cps.toList s.toNat).map fun (n : Nat) => (n : Int)) (by rw [rg_len]; omega) (fun s hs => by
    obtain ⟨s0, s1⟩ := mem_rg.mp hs
    rw [counts_ok h (by omega) (by omega), R.bind_ok]), R.bind_ok, rg_one, List.map_map]
  have e1 : (cmpR (List.map ((fun (s : Int) => (cw z.cps.toList s.toNat).map fun (n : Nat) => (n : Int)) ∘ fun (i : Nat) => ((i + 1 : Nat) : Int)) (List.range ((z.length : Int) - 1).toNat)) (fun _ => .ok true) fun (told : (List Int)) => (mmR PySem.W.maxD asI ((eL eI) told)).bind fun m => (mmR PySem.W.minD asI ((eL eI) told)).bind fun m2 => .ok (decide ((m - m2) < (2 : Int)))) = .ok ((List.range ((z.length : Int) - 1).toNat).map fun s => flat z.cps.toList (s + 1)) := by
    have := cmpR_ok (e := fun (told : (List Int)) => (mmR PySem.W.maxD asI ((eL eI) told)).bind fun m => (mmR PySem.W.minD asI ((eL eI) told)).bind fun m2 => .ok (decide ((m - m2) < (2 : Int)))) (g := fun (xs : List Int) => Nat.ble (mxN (xs.map Int.toNat)) (mnN (xs.map Int.toNat) + 1)) (xs := List.map ((fun (s : Int) => (cw z.cps.toList s.toNat).map fun (n : Nat) => (n : Int)) ∘ fun (i : Nat) => ((i + 1 : Nat) : Int)) (List.range ((z.length : Int) - 1).toNat)) (by rw [List.length_map, List.length_range]; omega) (fun xs hx => by
      obtain ⟨s, hs, rfl⟩ := List.mem_map.mp hx
      have hs := List.mem_range.mp hs
      have he : ((((fun (s : Int) => (cw z.cps.toList s.toNat).map fun (n : Nat) => (n : Int)) ∘ fun (i : Nat) => ((i + 1 : Nat) : Int)) s).map Int.toNat) = cw z.cps.toList (s + 1) := by
        show ((cw z.cps.toList (((s + 1 : Nat) : Int)).toNat).map fun (n : Nat) => (n : Int)).map Int.toNat = _
        rw [List.map_map, Int.toNat_natCast]
        exact List.map_id'' (fun _ => rfl) _
      rw [he]
      show (mmR PySem.W.maxD asI ((eL eI) ((cw z.cps.toList (((s + 1 : Nat) : Int)).toNat).map fun (n : Nat) => (n : Int)))).bind _ = _
      rw [Int.toNat_natCast, max_N (cw_ne h), R.bind_ok]
      show (mmR PySem.W.minD asI ((eL eI) ((cw z.cps.toList (((s + 1 : Nat) : Int)).toNat).map fun (n : Nat) => (n : Int)))).bind _ = _
      rw [Int.toNat_natCast, min_N (cw_ne h) (fun y hy => Nat.le_trans (cw_le y hy) (by omega)), R.bind_ok]
      congr 1
      rw [Bool.eq_iff_iff, decide_eq_true_eq, Nat.ble_eq]; omega)
    rw [this, List.map_map]
    congr 1
    refine List.map_congr_left fun s hs => ?_
    show Nat.ble (mxN ((List.map (fun (n : Nat) => (n : Int)) (cw z.cps.toList (((s + 1 : Nat) : Int)).toNat)).map Int.toNat)) (mnN ((List.map (fun (n : Nat) => (n : Int)) (cw z.cps.toList (((s + 1 : Nat) : Int)).toNat)).map Int.toNat) + 1) = _
    rw [List.map_map, Int.toNat_natCast]
    have : List.map (Int.toNat ∘ fun (n : Nat) => (n : Int)) (cw z.cps.toList (s + 1)) = cw z.cps.toList (s + 1) := List.map_id'' (fun _ => rfl) _
    rw [this]; rfl
  rw [e1, R.bind_ok]
  congr 1
  unfold balB
  rw [len_cps, show ((z.length : Int) - 1).toNat = z.length - 1 by omega, List.all_map]
  rfl
theorem forC_no {α β : Type} {body : α → Unit → R (Ct Unit β)} : ∀ {xs : List α}, (∀ x ∈ xs, body x () = .ok (.nx ())) → forC xs body () = .ok (.nx ())
  | [], _ => rfl
  | x :: xs, h => by
    show (body x ()).bind _ = _
    rw [h x (List.mem_cons_self ..), R.bind_ok]
    exact forC_no fun y hy => h y (List.mem_cons_of_mem _ hy)
theorem word_clash_none {z : Str} (h : Wd z) (hb : balB z.cps.toList = true) : N.words_word_clash z = .ok none := by
  have h1 := h.l1
  have h2 := h.l2
  unfold N.words_word_clash
  rw [need_word_ok h, R.bind_ok, lenS_ok (by omega), R.bind_ok, rgR_ok (by decide) (by decide) (by omega) (by omega), R.bind_ok]
  rw [forC_no (fun s hs => by
    obtain ⟨s0, s1⟩ := mem_rg.mp hs
    rw [counts_ok h (by omega) (by omega), R.bind_ok]
    rw [forC_no (fun p hp => by
      rw [rgR_ok (by
        have := (enumL_mem hp).1; omega) (by
        have := (enumL_mem hp).2.1; rw [List.length_map, cw_len, len_cps] at this; omega) (by rw [List.length_map, cw_len, len_cps]; omega) (by rw [List.length_map, cw_len, len_cps]; omega), R.bind_ok]
      rw [forC_no (fun y hy => by
        obtain ⟨y0, y1⟩ := mem_rg.mp hy
        obtain ⟨p0, p1, p2⟩ := enumL_mem hp
        rw [List.length_map, cw_len, len_cps] at y1 p1
        have hyl : y.toNat < (cw z.cps.toList s.toNat).length := by rw [cw_len, len_cps]; omega
        rw [atR_nat (n := y.toNat) (a := (((cw z.cps.toList s.toNat)[y.toNat]'hyl : Nat) : Int)) (by rw [List.getElem?_map, List.getElem?_eq_getElem hyl]; rfl) (by omega), R.bind_ok]
        have hf : flat z.cps.toList s.toNat = true := by
          unfold balB at hb
          rw [List.all_eq_true] at hb
          have := hb (s.toNat - 1) (List.mem_range.mpr (by rw [len_cps]; omega))
          rwa [show s.toNat - 1 + 1 = s.toNat by omega] at this
        obtain ⟨n, hn, e⟩ := List.mem_map.mp p2
        have a1 := flat_two (by omega) hf hn (List.getElem_mem hyl)
        have a2 := flat_two (by omega) hf (List.getElem_mem hyl) hn
        rw [← e]
        have : ¬ (absI ((n : Int) - (((cw z.cps.toList s.toNat)[y.toNat]'hyl : Nat) : Int)) > 1) := by unfold absI; omega
        rw [decide_eq_false this]
        simp only [Bool.false_eq_true, if_false]), R.bind_ok]), R.bind_ok]), R.bind_ok]
end FL.NL


/-! MK: chains of equal steps: the program's own defs (lines of k52). -/
namespace FL.NL
open PySem PySem.W
theorem fold_dd : ∀ {xs st : List Int}, st.Nodup → (xs.foldl PyProof.Rows.step_dedup st).Nodup ∧ ∀ a, a ∈ xs.foldl PyProof.Rows.step_dedup st ↔ a ∈ st ∨ a ∈ xs
  | [], st, h => ⟨h, fun a => by simp⟩
  | x :: xs, st, h => by
    have e : PyProof.Rows.step_dedup st x = if x ∈ st then st else st ++ [x] := by
      unfold PyProof.Rows.step_dedup
      have : (st.any fun y => y == x) = decide (x ∈ st) := by
        rw [Bool.eq_iff_iff, List.any_eq_true, decide_eq_true_eq]
        constructor
        · rintro ⟨y, h1, h2⟩; exact (beq_iff_eq.mp h2) ▸ h1
        · intro h; exact ⟨x, h, by simp⟩
      rw [this]
      by_cases h : x ∈ st
      · rw [if_pos (decide_eq_true h), if_pos h]
      · rw [if_neg (by simpa using h), if_neg h]
    rw [List.foldl_cons, e]
    by_cases c : x ∈ st
    · rw [if_pos c]
      obtain ⟨h1, h2⟩ := fold_dd (xs := xs) h
      refine ⟨h1, fun a => ?_⟩
      rw [h2, List.mem_cons]
      constructor
      · rintro (h | h)
        · exact .inl h
        · exact .inr (.inr h)
      · rintro (h | rfl | h)
        · exact .inl h
        · exact .inl c
        · exact .inr h
    · rw [if_neg c]
      have hn : (st ++ [x]).Nodup := by
        rw [List.nodup_append]
        exact ⟨h, by simp, fun a ha b hb e2 => by simp at hb; exact c (hb ▸ e2 ▸ ha)⟩
      obtain ⟨h1, h2⟩ := fold_dd (xs := xs) hn
      refine ⟨h1, fun a => ?_⟩
      rw [h2, List.mem_append, List.mem_singleton, List.mem_cons]
      constructor
      · rintro ((h | h) | h)
        · exact .inl h
        · exact .inr (.inl h)
        · exact .inr (.inr h)
      · rintro (h | h | h)
        · exact .inl (.inl h)
        · exact .inl (.inr h)
        · exact .inr h
theorem met_dd {ns : List Int} : (metI ns).length = (dd ns).length := by
  have e : (List.range ns.length).map (fun i => ns.getD i 0) = ns := by
    apply List.ext_getElem
    · rw [List.length_map, List.length_range]
    · intro i h1 h2
      rw [List.getElem_map, List.getElem_range, List.getD_eq_getElem?_getD, List.getElem?_eq_getElem h2]
      rfl
  unfold metI PyProof.Rows.firstMet
  rw [e]
  obtain ⟨h1, h2⟩ := fold_dd (xs := ns) (st := []) .nil
  exact dd_len h1 fun a => by rw [h2]; simp
theorem lset_T {xs : List Int} (h : xs.length ≤ 4000) : lsetXR (eT eI xs) = .ok ((dd xs).length : Nat) := lset_TI h
theorem lset_L {xs : List Int} (h : xs.length ≤ 4000) : lsetXR (eL eI xs) = .ok ((dd xs).length : Nat) := by
  have e : lenSetX (eL eI xs) = some (.int ((dd xs).length : Nat)) := by
    show (match intsT (xs.map eI) with
      | some ns => if ns.length ≤ 4000 then some (T.int ((metI ns).length : Nat)) else none
      | none => match tupsT (xs.map eI) with
        | some ks => if ks.length < 64 then some (.int ((dd ks).length : Nat)) else none
        | none => none) = _
    rw [NL.intsT_map]
    simp only [h, if_true, met_dd]
  unfold lsetXR
  rw [e]
  unfold optR
  rw [R.bind_ok]; rfl
/-! chains -/
def chn (M s : Int) (n : Nat) : List Int := kSort PyData.int ((rg 0 n).map fun i => (i * s) % M)
def glf (M : Int) (L : List Int) : List Int := (enumL 0 L).map fun p => (L ++ [L.getD 0 0 + M]).getD (p.1 + 1).toNat 0 - p.2.1
theorem chn_len {M s : Int} {n : Nat} : (chn M s n).length = n := by unfold chn; rw [kSort_perm.length_eq, List.length_map, rg_len]
theorem atR_D {X : List Int} {i : Int} (h0 : 0 ≤ i) (h1 : i < X.length) : atR X i = .ok (X.getD i.toNat 0) := by
  refine atR_pos h0 ?_
  have : i.toNat < X.length := by omega
  simp [List.getD, this]
theorem glf_len {M : Int} {L : List Int} : (glf M L).length = L.length := by unfold glf; rw [List.length_map, enum_len]
/-- many, step, their common divisor and parts -/
structure Ms (M s g q p : Int) : Prop where
  M0 : 1 ≤ M
  M1 : M ≤ 120
  s0 : 0 ≤ s
  s1 : s < M
  gc : (Int.gcd M s : Nat) = g
  g0 : 0 < g
  eM : M = g * q
  es : s = g * p
  q0 : 1 ≤ q
  q1 : q ≤ 120
  p0 : 0 ≤ p
  pq : p < q
  dM : M / g = q
  ds : s / g = p
theorem ms_of {M s : Int} (M0 : 1 ≤ M) (M1 : M ≤ 120) (s0 : 0 ≤ s) (s1 : s < M) : ∃ g q p, Ms M s g q p := by
  have hg : 0 < Int.gcd M s := Int.gcd_pos_of_ne_zero_left s (by omega)
  obtain ⟨q, hq⟩ : ((Int.gcd M s : Nat) : Int) ∣ M := Int.gcd_dvd_left ..
  obtain ⟨p, hp⟩ : ((Int.gcd M s : Nat) : Int) ∣ s := Int.gcd_dvd_right ..
  have hg2 : (0 : Int) < (Int.gcd M s : Nat) := by omega
  refine ⟨(Int.gcd M s : Nat), q, p, M0, M1, s0, s1, rfl, hg2, hq, hp, ?_, ?_, ?_, ?_, ?_, ?_⟩
  · exact Int.pos_of_mul_pos_right (a := ((Int.gcd M s : Nat) : Int)) (by omega) (by omega)
  · have q0 : 0 < q := Int.pos_of_mul_pos_right (a := ((Int.gcd M s : Nat) : Int)) (by omega) (by omega)
    have := Int.mul_le_mul_of_nonneg_right (show (1 : Int) ≤ (Int.gcd M s : Nat) by omega) (show 0 ≤ q by omega)
    omega
  · apply Classical.byContradiction
    intro c
    have := Int.mul_neg_of_pos_of_neg hg2 (show p < 0 by omega)
    omega
  · apply Classical.byContradiction
    intro c
    have := Int.mul_le_mul_of_nonneg_left (show q ≤ p by omega) (show (0 : Int) ≤ (Int.gcd M s : Nat) by omega)
    omega
  · have := Int.mul_ediv_cancel_left (a := ((Int.gcd M s : Nat) : Int)) q (by omega); rw [← hq] at this; exact this
  · have := Int.mul_ediv_cancel_left (a := ((Int.gcd M s : Nat) : Int)) p (by omega); rw [← hp] at this; exact this
section
variable {M s g q p : Int}
theorem Ms.nz (h : Ms M s g q p) {x : Int} (x0 : 0 < x) (x1 : x < q) : rs M s x ≠ 0 := fun e => by
  have h1 : M ∣ x * s := Int.dvd_of_emod_eq_zero e
  have h2 := rounds_least (m := M) (f := s) (by have := h.M0; omega) h1
  rw [h.gc, h.dM] at h2
  have := Int.le_of_dvd x0 h2
  omega
theorem chn_mem {n : Nat} {x : Int} : x ∈ chn M s n ↔ ∃ i : Int, 0 ≤ i ∧ i < n ∧ x = rs M s i := by
  unfold chn
  rw [kSort_perm.mem_iff, List.mem_map]
  constructor
  · rintro ⟨i, hi, rfl⟩; have := mem_rg.mp hi; exact ⟨i, by omega, by omega, rfl⟩
  · rintro ⟨i, i0, i1, rfl⟩; exact ⟨i, mem_rg.mpr (by omega), rfl⟩
theorem chn_asc (h : Ms M s g q p) {n : Nat} (hn : (n : Int) ≤ q) : (chn M s n).Pairwise (· < ·) := by
  have R := rs_rst (s := s) (show 0 < M by have := h.M0; omega)
  refine asc_up kSort_asc (kSort_perm.nodup_iff.mpr ?_)
  refine List.pairwise_map.mpr (rg_pair.imp_of_mem fun {a b} ha hb hab => ?_)
  have ha := mem_rg.mp ha; have hb := mem_rg.mp hb
  intro e
  have e : rs M s a = rs M s b := e
  have h1 := R.ad (b - a) a
  rw [show b - a + a = b by omega] at h1
  have h2 := h.nz (x := b - a) (by omega) (by omega)
  have := R.lo (b - a); have := R.hi (b - a)
  omega
def lo (t : List Int) : Int := t.getD 0 0
def hi (t : List Int) : Int := t.getD (t.length - 1) 0
theorem at_lo {t : List Int} (h : 0 < t.length) : atR t 0 = .ok (lo t) := atR_D (by decide) (by omega)
theorem at_hi {t : List Int} (h : 0 < t.length) : atR t (-(1 : Int)) = .ok (hi t) := by
  have hx : t.length - 1 < t.length := by omega
  unfold atR idx
  rw [if_neg (by decide), if_pos (by omega), show (-(1 : Int) + (t.length : Int)).toNat = t.length - 1 by omega]
  unfold hi
  simp [List.getD, hx]
theorem lo_mem {t : List Int} (h : 0 < t.length) : lo t ∈ t := by
  unfold lo; simp [List.getD, h]
theorem hi_mem {t : List Int} (h : 0 < t.length) : hi t ∈ t := by
  have hx : t.length - 1 < t.length := by omega
  unfold hi; simp [List.getD, hx]
theorem lohi {t : List Int} (h : t.Pairwise (· < ·)) {x : Int} (hx : x ∈ t) : lo t ≤ x ∧ x ≤ hi t := by
  obtain ⟨i, hi', rfl⟩ := List.getElem_of_mem hx
  have p := List.pairwise_iff_getElem.mp h
  have h2 : t.length - 1 < t.length := by omega
  have h0 : 0 < t.length := by omega
  constructor
  · have e : lo t = t[0] := by unfold lo; simp [List.getD, h0]
    rw [e]
    by_cases c : i = 0
    · subst c; exact Int.le_refl _
    · have := p 0 i h0 hi' (by omega); omega
  · have e : hi t = t[t.length - 1] := by unfold hi; simp [List.getD, h2]
    rw [e]
    by_cases c : i = t.length - 1
    · subst c; exact Int.le_refl _
    · have := p i (t.length - 1) hi' h2 (by omega); omega

end
end FL.NL


/-! MS: sets of notes: the program's own defs. -/
namespace FL.NL
open PySem PySem.W
theorem min_e {a b : Int} : minI a b = min a b := by unfold minI; omega
theorem inner_ok {m : Int} {n : Nat} {x : Int} : ∀ {ys s : List Int}, s.length = n → (∀ y ∈ ys, 0 ≤ dst m x y ∧ dst m x y < n) → ∀ (body : Int → List Int → R (List Int)), (∀ y ∈ ys, ∀ s : List Int, s.length = n → body y s = .ok (bmp s (dst m x y))) → forR ys body s = .ok ((ys.map (dst m x)).foldl bmp s) ∧ ((ys.map (dst m x)).foldl bmp s).length = n := fun {ys s} hs hb body hy => by
  have := forR_fold (g := fun s y => bmp s (dst m x y)) (fun s => s.length = n) (xs := ys) hs fun y hm s h => ⟨hy y hm s h, by rw [bmp_len, h]⟩
  rwa [← List.foldl_map] at this
theorem bmp_ok {s : List Int} {j : Int} (h0 : 0 ≤ j) (h1 : j < s.length) : augR s j (fun a => a + 1) = .ok (bmp s j) := by
  rw [augR_ok h0 h1]; rfl
theorem dst_bd {m a b : Int} (ha : 0 ≤ a ∧ a < m) (hb : 0 ≤ b ∧ b < m) : 0 ≤ dst m a b ∧ dst m a b < ((m / 2 + 1).toNat : Nat) := by unfold dst; omega
/-- the program's counts -/
theorem counts_loop {m : Int} {n : Nat} (hn : n = (m / 2 + 1).toNat) (vs : List Int) : ∀ (xs pre : List Int) (s : List Int), vs = pre ++ xs → NSet m xs → s.length = n →
    forR (enumL pre.length xs) (fun (x : (Int × (Int × Unit))) (st1 : (List Int)) => (forR (cutL vs (some (x.1 + (1 : Int))) none) (fun (x2 : Int) (st2 : (List Int)) => ((.ok (minI (x2 - x.2.1) ((m - x2) + x.2.1)) : R Int)).bind fun w => (augR st2 w fun a => a + (1 : Int)).bind fun found2 => .ok found2) st1).bind fun so => .ok so) s = .ok ((dsts m xs).foldl bmp s)
  | [], _, _, _, _, _ => rfl
  | x :: xs, pre, s, hv, h, hs => by
    obtain ⟨u1, u2⟩ := List.pairwise_cons.mp h.up
    have hx := h.bd x (List.mem_cons_self ..)
    have hc : cutL vs (some ((pre.length : Int) + 1)) none = xs := by
      rw [cut_from (by omega) (by rw [hv]; simp; omega), hv, show ((pre.length : Int) + 1).toNat = pre.length + 1 by omega]
      rw [← List.drop_drop]
      simp
    obtain ⟨e1, e2⟩ := inner_ok (m := m) (n := n) (x := x) (ys := xs) (s := s) hs (fun y hy => by rw [hn]; exact dst_bd hx (h.bd y (List.mem_cons_of_mem _ hy))) (fun (x2 : Int) (st2 : (List Int)) => ((.ok (minI (x2 - x) ((m - x2) + x)) : R Int)).bind fun w => (augR st2 w fun a => a + (1 : Int)).bind fun found2 => .ok found2) (fun y hy s hs => by
      have hy1 := u1 y hy
      have hy2 := h.bd y (List.mem_cons_of_mem _ hy)
      have hd : minI (y - x) (m - y + x) = dst m x y := by rw [min_e]; unfold dst; omega
      have := dst_bd hx hy2
      rw [R.bind_ok, hd, bmp_ok (by omega) (by omega), R.bind_ok])
    have ih := counts_loop hn vs xs (pre ++ [x]) ((xs.map (dst m x)).foldl bmp s) (by simp [hv]) ⟨u2, fun y hy => h.bd y (List.mem_cons_of_mem _ hy)⟩ e2
    rw [List.length_append, List.length_singleton] at ih
    show R.bind (R.bind _ _) _ = _
    rw [hc, e1, R.bind_ok, R.bind_ok, dsts_cons, List.foldl_append]
    exact ih
theorem lcounts_loop {m : Int} {n : Nat} (hn : n = (m / 2 + 1).toNat) (vs : List Int) (hvl : vs.length ≤ 1000) : ∀ (xs pre : List Int) (s : List Int), vs = pre ++ xs → NSet m xs → s.length = n →
    forR (rg pre.length xs.length) (fun (x : Int) (st1 : (List Int)) => (rgR (x + (1 : Int)) (vs.length : Int)).bind fun r2 => (forR r2 (fun (x2 : Int) (st2 : (List Int)) => (atR vs x2).bind fun t => (atR vs x).bind fun t2 => ((.ok (t - t2) : R Int)).bind fun gap => ((.ok (minI gap (m - gap)) : R Int)).bind fun w => (augR st2 w fun a => a + (1 : Int)).bind fun counts2 => .ok counts2) st1).bind fun so => .ok so) s = .ok ((dsts m xs).foldl bmp s)
  | [], _, _, _, _, _ => rfl
  | x :: xs, pre, s, hv, h, hs => by
    obtain ⟨u1, u2⟩ := List.pairwise_cons.mp h.up
    have hx := h.bd x (List.mem_cons_self ..)
    have hlen : vs.length = pre.length + 1 + xs.length := by rw [hv]; simp; omega
    have hr : rgR ((pre.length : Int) + 1) (vs.length : Int) = .ok (rg (((pre ++ [x]).length : Nat) : Int) xs.length) := by
      rw [rgR_ok (by omega) (by omega) (by omega) (by omega), hlen]
      have e1 : ((((pre.length + 1 + xs.length : Nat)) : Int) - ((pre.length : Int) + 1)).toNat = xs.length := by omega
      rw [e1]; simp
    have key : ∀ (ys pre2 : List Int) (s : List Int), vs = pre2 ++ ys → s.length = n → (∀ y ∈ ys, x < y ∧ 0 ≤ y ∧ y < m) → forR (rg (pre2.length : Int) ys.length) (fun (x2 : Int) (st2 : (List Int)) => (atR vs x2).bind fun t => (atR vs (pre.length : Int)).bind fun t2 => ((.ok (t - t2) : R Int)).bind fun gap => ((.ok (minI gap (m - gap)) : R Int)).bind fun w => (augR st2 w fun a => a + (1 : Int)).bind fun counts2 => .ok counts2) s = .ok ((ys.map (dst m x)).foldl bmp s) := fun ys => by
      induction ys with
      | nil => intro _ _ _ _ _; rfl
      | cons y ys ih =>
        intro pre2 s hv2 hs hy
        obtain ⟨y0, y1⟩ := hy y (List.mem_cons_self ..)
        have hd : minI (y - x) (m - (y - x)) = dst m x y := by rw [min_e]; unfold dst; omega
        have hb := dst_bd hx y1
        rw [List.length_cons, rg_succ]
        show R.bind (R.bind (atR vs (pre2.length : Int)) _) _ = _
        have a1 : atR vs (pre2.length : Int) = .ok y := by rw [hv2]; exact atR_app rfl
        have a2 : atR vs (pre.length : Int) = .ok x := by rw [hv]; exact atR_app rfl
        rw [a1, R.bind_ok, a2, R.bind_ok, R.bind_ok, hd, R.bind_ok, bmp_ok (by omega) (by omega), R.bind_ok, R.bind_ok]
        have := ih (pre2 ++ [y]) (bmp s (dst m x y)) (by simp [hv2]) (by rw [bmp_len, hs]) fun z hz => hy z (List.mem_cons_of_mem _ hz)
        simp only [List.length_append, List.length_singleton, Int.natCast_add, a2] at this
        exact this
    have ih := lcounts_loop hn vs hvl xs (pre ++ [x]) ((xs.map (dst m x)).foldl bmp s) (by simp [hv]) ⟨u2, fun y hy => h.bd y (List.mem_cons_of_mem _ hy)⟩ (by rw [foldl_len, hs])
    rw [List.length_cons, rg_succ]
    show R.bind (R.bind _ _) _ = _
    rw [hr, R.bind_ok, key xs (pre ++ [x]) s (by simp [hv]) hs (fun y hy => ⟨u1 y hy, h.bd y (List.mem_cons_of_mem _ hy)⟩), R.bind_ok, R.bind_ok, dsts_cons, List.foldl_append]
    rw [List.length_append, List.length_singleton, Int.natCast_add] at ih
    exact ih
/-- what the counts are -/
def ic (m : Int) (xs : List Int) : List Int := cutL (cnts (m / 2 + 1).toNat (dsts m xs)) (some 1) none
theorem ic_img {m : Int} (hm : 0 < m) {xs w : List Int} (hx : NSet m xs) (h : w ∈ imgs m xs) : ic m w = ic m xs := by unfold ic; rw [cnts_perm (imgs_dsts hm hx h)]
theorem img_len {m s k : Int} {xs : List Int} : (img m s k xs).length = xs.length := by unfold img; rw [kSort_perm.length_eq, List.length_map]
theorem back_e {m k : Int} {xs : List Int} (hk : 0 ≤ k ∧ k < m) : img m 1 k (img m (-1) 0 xs) = img m (-1) k xs := by
  rw [img_img, Int.one_mul, Int.mul_zero, Int.zero_add, emod_a hk.1 hk.2]
end FL.NL


/-! ME: even sets: the program's own defs (lines of k78). -/
namespace FL.NL
open PySem PySem.W
/-! dicts of ints, sorted -/
theorem fold_snoc {α β : Type} {f : α → β} : ∀ {xs : List α} {acc : List β}, xs.foldl (fun st x => st ++ [f x]) acc = acc ++ xs.map f
  | [], acc => by simp
  | x :: xs, acc => by rw [List.foldl_cons, fold_snoc]; simp
theorem keyD_kfI (d : List Int) : (d.map kfI).map keyD = d.map PyData.int := by rw [List.map_map]; rfl
theorem sMR_I {d : Dic Int Bool} : sMR sortDk asI (eM (obK kfI) eB d) = .ok (kSort PyData.int (mK d)) := by
  have e : sortDk (eM (obK kfI) eB d) = some (.l ((kSort PyData.int (mK d)).map eI)) := by
    show (if ((mK d).map kfI).length = (mV eB d).length then (if okSort (((mK d).map kfI).map keyD) = true then some (O.l ((srt (fun a b => dataLe false keyD a b) ((mK d).map kfI)).map tKey)) else none) else none) = _
    have hl : ((mK d).map kfI).length = (mV eB d).length := by unfold mK mV; simp
    have ok : okSort ((mK d).map PyData.int) = true := by
      unfold okSort
      simp only [Bool.and_eq_true, List.all_eq_true, List.mem_map, decide_eq_true_eq, Bool.or_eq_true]
      refine ⟨⟨?_, ?_⟩, .inr ?_⟩
      · rintro _ ⟨a, _, rfl⟩ _ ⟨b, _, rfl⟩; exact key_I.al a b
      · rintro _ ⟨a, _, rfl⟩; exact Nat.le_trans (key_I.dp a) (by decide)
      · rintro _ ⟨a, _, rfl⟩; rfl
    have hs : srt (fun a b => dataLe false keyD a b) ((mK d).map kfI) = (kSort PyData.int (mK d)).map kfI := by
      rw [srt_eq]
      unfold kSort
      exact (List.map_mergeSort (r := fun a b => !kLt PyData.int b a) (s := fun a b => dataLe false keyD a b) (f := kfI) (l := mK d) (fun a _ b _ => rfl)).symm
    rw [if_pos hl, keyD_kfI, if_pos ok, hs, List.map_map]
    rfl
  unfold sMR
  rw [e]
  unfold optL
  rw [R.bind_ok, asAll_map (f := eI) (fun _ => rfl)]
theorem mSt_e {κ α : Type} [DecidableEq κ] {d : Dic κ α} {k : κ} {v : α} : mK (mSt d k v) = if k ∈ mK d then mK d else mK d ++ [k] := by
  unfold mSt
  have e : (d.any fun p => decide (p.1 = k)) = decide (k ∈ mK d) := by
    unfold mK
    rw [Bool.eq_iff_iff, List.any_eq_true, decide_eq_true_eq, List.mem_map]
    constructor
    · rintro ⟨p, h1, h2⟩; exact ⟨p, h1, of_decide_eq_true h2⟩
    · rintro ⟨p, h1, h2⟩; exact ⟨p, h1, decide_eq_true h2⟩
  rw [e]
  by_cases h : k ∈ mK d
  · rw [if_pos (decide_eq_true h), if_pos h, mRp_K]
  · rw [if_neg (by simpa using h), if_neg h]
    unfold mK
    simp
theorem mSt_mem {κ α : Type} [DecidableEq κ] {d : Dic κ α} {k x : κ} {v : α} : x ∈ mK (mSt d k v) ↔ x ∈ mK d ∨ x = k := by
  rw [mSt_e]
  split
  · rename_i h
    exact ⟨.inl, fun h2 => h2.elim id fun e => e ▸ h⟩
  · simp
theorem mSt_nd {κ α : Type} [DecidableEq κ] {d : Dic κ α} {k : κ} {v : α} (h : (mK d).Nodup) : (mK (mSt d k v)).Nodup := by
  rw [mSt_e]
  split
  · exact h
  · rename_i hk
    rw [List.nodup_append]
    exact ⟨h, by simp, fun a ha b hb e => by simp at hb; subst hb; subst e; exact hk ha⟩
theorem msR_ok {κ α : Type} [DecidableEq κ] {d : Dic κ α} {k : κ} {v : α} (h : d.length < 16777216) : msR d k v = .ok (mSt d k v) := by unfold msR; rw [if_pos h]
theorem mSt_ln {κ α : Type} [DecidableEq κ] {d : Dic κ α} {k : κ} {v : α} : (mSt d k v).length ≤ d.length + 1 := by
  rw [← mK_len, mSt_e]
  split <;> simp [mK_len]
theorem sorted_sd {d xs : List Int} (hn : d.Nodup) (h : ∀ a, a ∈ d ↔ a ∈ xs) : kSort PyData.int d = sdI xs := asc_uniq (asc_up kSort_asc (kSort_perm.nodup_iff.mpr hn)) sdI_asc fun a => by rw [kSort_perm.mem_iff, h, sdI_mem]
/-! steps -/
def stpS (m : Int) (S : List Int) (k i : Int) : Int := vx m S (i + k) - vx m S i
def spc (m : Int) (S : List Int) (k : Int) : List Int := sdI ((rg 0 S.length).map (stpS m S k))
theorem vx_lo {m : Int} {S : List Int} {i : Int} (h0 : 0 ≤ i) (h1 : i < S.length) : vx m S i = S.getD i.toNat 0 := by
  unfold vx
  rw [Int.emod_eq_of_lt h0 h1, Int.ediv_eq_zero_of_lt h0 h1, Int.mul_zero, Int.add_zero]
theorem at_mod {S : List Int} {i : Int} (h : 0 < S.length) : atR S (i % (S.length : Int)) = .ok (S.getD (i % (S.length : Int)).toNat 0) := atR_D (Int.emod_nonneg _ (by omega)) (Int.emod_lt_of_pos _ (by omega))
theorem divq {n i : Int} (hn : 0 < n) (h0 : 0 ≤ i) (h1 : i ≤ 1000) : 0 ≤ i / n ∧ i / n ≤ 1000 := ⟨Int.ediv_nonneg h0 (by omega), Int.le_trans (Int.ediv_le_self _ h0) h1⟩
theorem spec_loop {m k : Int} {S : List Int} (hm : 0 ≤ m ∧ m ≤ 1000) (hS : S.length ≤ 100) (hk : 0 ≤ k ∧ k ≤ 100) : ∀ (xs pre : List Int) (d : Dic Int Bool), S = pre ++ xs → d.length + xs.length ≤ 1000 → (mK d).Nodup →
    ∃ d', forR (enumL pre.length xs) (fun (x : (Int × (Int × Unit))) (st1 : ((List Int) × (Dic Int Bool))) => (divR (x.1 + k) (st1.1.length : Int)).bind fun t => (modR (x.1 + k) (st1.1.length : Int)).bind fun t2 => (atR st1.1 t2).bind fun t3 => (mulR t m).bind fun t4 => (msR st1.2 ((t3 + t4) - x.2.1) true).bind fun found => .ok (st1.1, found)) (S, d) = .ok (S, d') ∧ (mK d').Nodup ∧ ∀ a, a ∈ mK d' ↔ a ∈ mK d ∨ ∃ i : Int, (pre.length : Int) ≤ i ∧ i < S.length ∧ a = stpS m S k i := fun xs => by
  induction xs with
  | nil =>
    intro pre d hS2 _ hn
    refine ⟨d, rfl, hn, fun a => ⟨.inl, ?_⟩⟩
    rintro (h | ⟨i, i0, i1, _⟩)
    · exact h
    · rw [hS2, List.append_nil] at i1; omega
  | cons x xs ih =>
    intro pre d hS2 hd hn
    have hl : S.length = pre.length + 1 + xs.length := by rw [hS2]; simp; omega
    have hpos : 0 < S.length := by omega
    rw [List.length_cons] at hd
    have hq := divq (n := S.length) (i := (pre.length : Int) + k) (by omega) (by omega) (by omega)
    have hx : vx m S pre.length = x := by
      rw [vx_lo (by omega) (by omega), hS2]
      simp [List.getD]
    have hst : S.getD (((pre.length : Int) + k) % (S.length : Int)).toNat 0 + ((pre.length : Int) + k) / (S.length : Int) * m - x = stpS m S k pre.length := by
      unfold stpS
      rw [hx]
      unfold vx
      rw [Int.mul_comm m]
    obtain ⟨d', e, n', h'⟩ := ih (pre ++ [x]) (mSt d (stpS m S k pre.length) true) (by rw [hS2]; simp) (by have := mSt_ln (d := d) (k := stpS m S k pre.length) (v := true); omega) (mSt_nd hn)
    refine ⟨d', ?_, n', fun a => ?_⟩
    · unfold enumL
      have q1 : divR ((pre.length : Int) + k) (S.length : Int) = .ok (((pre.length : Int) + k) / (S.length : Int)) := divR_pos (by omega) (by omega)
      have q2 : modR ((pre.length : Int) + k) (S.length : Int) = .ok (((pre.length : Int) + k) % (S.length : Int)) := modR_pos (by omega)
      have q3 : mulR (((pre.length : Int) + k) / (S.length : Int)) m = .ok (((pre.length : Int) + k) / (S.length : Int) * m) := mulR_64 (by omega) (by omega) (by omega) (by omega)
      show R.bind (R.bind (divR ((pre.length : Int) + k) (S.length : Int)) _) _ = _
      simp only [q1, q2, q3, at_mod hpos, R.bind_ok]
      show R.bind (R.bind (msR d (_ - x) true) _) _ = _
      rw [hst, msR_ok (by omega), R.bind_ok, R.bind_ok]
      rw [List.length_append, List.length_singleton] at e
      exact e
    · rw [h', mSt_mem, List.length_append, List.length_singleton]
      constructor
      · rintro ((h | rfl) | ⟨i, i0, i1, rfl⟩)
        · exact .inl h
        · exact .inr ⟨_, Int.le_refl _, by omega, rfl⟩
        · exact .inr ⟨i, by omega, i1, rfl⟩
      · rintro (h | ⟨i, i0, i1, rfl⟩)
        · exact .inl (.inl h)
        · by_cases c : i = pre.length
          · subst c; exact .inl (.inr rfl)
          · exact .inr ⟨i, by omega, i1, rfl⟩
/-! all spectra -/
def sps (m : Int) (S : List Int) : List (List Int) := (rg 1 (S.length - 1)).map (spc m S)
theorem ssR_ok {xs : List Int} (h : xs.length < 64) : ssR xs = .ok (sdI xs) := by
  unfold ssR
  rw [if_pos (by omega)]
theorem bind_as {α β γ : Type} (r : R α) (f : α → R β) (g : β → R γ) : (r.bind f).bind g = r.bind fun a => (f a).bind g := by
  first | exact R.bind_assoc r f g | simp [R.bind_assoc]
/-! even -/
theorem spc_pos {m k : Int} {S : List Int} (h : 0 < S.length) : 0 < (spc m S k).length := by
  have : stpS m S k 0 ∈ spc m S k := by
    unfold spc
    rw [sdI_mem]
    exact List.mem_map_of_mem (mem_rg.mpr (by omega))
  exact List.length_pos_of_mem this
theorem spc_mem {m k a : Int} {S : List Int} : a ∈ spc m S k ↔ ∃ i : Int, 0 ≤ i ∧ i < S.length ∧ a = stpS m S k i := by
  unfold spc
  rw [sdI_mem, List.mem_map]
  constructor
  · rintro ⟨i, hi, rfl⟩; have := mem_rg.mp hi; exact ⟨i, by omega, by omega, rfl⟩
  · rintro ⟨i, i0, i1, rfl⟩; exact ⟨i, mem_rg.mpr (by omega), rfl⟩
theorem spc_asc {m k : Int} {S : List Int} : (spc m S k).Pairwise (· < ·) := sdI_asc
def evB (m : Int) (S : List Int) : Bool := ((sps m S).map fun t => decide (hi t - lo t < 2)).all idB
theorem evB_iff {m : Int} {S : List Int} : evB m S = true ↔ Ev m S := by
  unfold evB sps
  rw [List.all_eq_true]
  simp only [List.mem_map, mem_rg]
  constructor
  · intro h k k0 k1 i j i0 i1 j0 j1
    have h1 : decide (hi (spc m S k) - lo (spc m S k) < 2) = true := h _ ⟨spc m S k, ⟨k, by omega, rfl⟩, rfl⟩
    have h1 := of_decide_eq_true h1
    have a1 := lohi spc_asc (spc_mem.mpr ⟨i, i0, i1, rfl⟩ : stpS m S k i ∈ spc m S k)
    have a2 := lohi spc_asc (spc_mem.mpr ⟨j, j0, j1, rfl⟩ : stpS m S k j ∈ spc m S k)
    unfold stpS at a1 a2
    omega
  · rintro h _ ⟨_, ⟨k, hk, rfl⟩, rfl⟩
    show decide _ = true
    have hp := spc_pos (m := m) (k := k) (S := S) (by omega)
    obtain ⟨i, i0, i1, ei⟩ := spc_mem.mp (hi_mem hp)
    obtain ⟨j, j0, j1, ej⟩ := spc_mem.mp (lo_mem hp)
    have := h k (by omega) (by omega) i j i0 i1 j0 j1
    rw [decide_eq_true_eq, ei, ej]
    unfold stpS
    omega
theorem sps_pos {m : Int} {S t : List Int} (h : t ∈ sps m S) : 0 < t.length := by
  unfold sps at h
  obtain ⟨k, hk, rfl⟩ := List.mem_map.mp h
  have := mem_rg.mp hk
  exact spc_pos (by omega)
theorem sps_len {m : Int} {S : List Int} : (sps m S).length = S.length - 1 := by unfold sps; rw [List.length_map, rg_len]
theorem leven {m : Int} {S : List Int} (h : S.length ≤ 60) : cmpR (sps m S) (fun (some1 : (List Int)) => (atR some1 (-(1 : Int))).bind fun t6 => (atR some1 (0 : Int)).bind fun t7 => .ok (decide ((t6 - t7) > (1 : Int)))) (fun (some1 : (List Int)) => .ok some1) = .ok ((sps m S).filter fun t => decide (hi t - lo t > 1)) := cmpR_fil (by rw [sps_len]; omega) fun t ht => by
  have := sps_pos ht
  rw [at_hi this, R.bind_ok, at_lo this, R.bind_ok]
theorem leven_e {m : Int} {S : List Int} : decide ((sps m S).filter (fun t => decide (hi t - lo t > 1)) = []) = evB m S := by
  unfold evB
  rw [Bool.eq_iff_iff, decide_eq_true_eq, List.filter_eq_nil_iff, List.all_eq_true]
  constructor
  · intro h _ hx
    obtain ⟨t, ht, rfl⟩ := List.mem_map.mp hx
    have := h t ht
    show decide _ = true
    simp at this ⊢; omega
  · intro h t ht
    have : decide (hi t - lo t < 2) = true := h _ (List.mem_map_of_mem ht)
    have := of_decide_eq_true this
    simp; omega
theorem es_loop {m n s : Int} (h0 : 1 ≤ m) (h1 : m ≤ 60) (n0 : 1 ≤ n) (n1 : n ≤ m) (s0 : 0 ≤ s) (s1 : s < m) : (rgR (0 : Int) n).bind (fun r => (cmpR r (fun _ => .ok true) fun (at1 : Int) => (mulR m at1).bind fun t => (divR (t + s) n).bind fun t2 => (modR t2 m).bind fun t3 => .ok t3)) = .ok (es m n s) := by
  rw [rgR_0 (by omega) (by omega), R.bind_ok, cmpR_ok (g := fun i => ((m * i + s) / n) % m) (by rw [rg_len]; omega) (fun x hx => by
    have := mem_rg.mp hx
    rw [mulR_64 (by omega) (by omega) (by omega) (by omega), R.bind_ok, divR_pos (by omega) (by omega), R.bind_ok, modR_pos (by omega), R.bind_ok])]
  rfl
end FL.NL


/-! MX: words: even words, modes, generators: the program's own defs. -/
namespace FL.NL
open PySem PySem.W FL.C1
/-! dicts of texts, sorted -/
theorem keyD_kfS (d : List Str) : (d.map kfS).map keyD = d.map PyData.str := by rw [List.map_map]; rfl
theorem sMR_S {d : Dic Str Bool} : sMR sortDk asS (eM (obK kfS) eB d) = .ok (kSort PyData.str (mK d)) := by
  have e : sortDk (eM (obK kfS) eB d) = some (.l ((kSort PyData.str (mK d)).map eS)) := by
    show (if ((mK d).map kfS).length = (mV eB d).length then (if okSort (((mK d).map kfS).map keyD) = true then some (O.l ((srt (fun a b => dataLe false keyD a b) ((mK d).map kfS)).map tKey)) else none) else none) = _
    have hl : ((mK d).map kfS).length = (mV eB d).length := by unfold mK mV; simp
    have ok : okSort ((mK d).map PyData.str) = true := by
      unfold okSort
      simp only [Bool.and_eq_true, List.all_eq_true, List.mem_map, decide_eq_true_eq, Bool.or_eq_true]
      refine ⟨⟨?_, ?_⟩, .inr ?_⟩
      · rintro _ ⟨a, _, rfl⟩ _ ⟨b, _, rfl⟩; exact key_S.al a b
      · rintro _ ⟨a, _, rfl⟩; exact Nat.le_trans (key_S.dp a) (by decide)
      · rintro _ ⟨a, _, rfl⟩; rfl
    have hs : srt (fun a b => dataLe false keyD a b) ((mK d).map kfS) = (kSort PyData.str (mK d)).map kfS := by
      rw [srt_eq]
      unfold kSort
      exact (List.map_mergeSort (r := fun a b => !kLt PyData.str b a) (s := fun a b => dataLe false keyD a b) (f := kfS) (l := mK d) (fun a _ b _ => rfl)).symm
    rw [if_pos hl, keyD_kfS, if_pos ok, hs, List.map_map]
    rfl
  unfold sMR
  rw [e]
  unfold optL
  rw [R.bind_ok, asAll_map (f := eS) (fun _ => rfl)]
theorem dcS_go {kk : Int → R Str} {g : Int → Str} : ∀ (xs : List Int) (d : Dic Str Bool), (∀ x ∈ xs, kk x = .ok (g x)) → d.length + xs.length ≤ 4000 → ∃ d', (dcGo (fun (part : Int) => .ok true) kk (fun (part : Int) => .ok true) xs d : R (Dic Str Bool)) = .ok d' ∧ ∀ a, a ∈ mK d' ↔ a ∈ mK d ∨ a ∈ xs.map g
  | [], d, _, _ => ⟨d, rfl, fun a => by simp⟩
  | x :: xs, d, hk, hl => by
    rw [List.length_cons] at hl
    obtain ⟨d', e, h'⟩ := dcS_go (kk := kk) (g := g) xs (mSt d (g x) true) (fun y hy => hk y (List.mem_cons_of_mem _ hy)) (by have := mSt_ln (d := d) (k := g x) (v := true); omega)
    refine ⟨d', ?_, fun a => ?_⟩
    · unfold dcGo
      simp only [R.noX_ok, R.bind_ok, if_true, hk x (List.mem_cons_self ..), msR_ok (d := d) (k := g x) (v := true) (by omega)]
      exact e
    · rw [h', mSt_mem, List.map_cons, List.mem_cons]
      constructor
      · rintro ((h | h) | h)
        · exact .inl h
        · exact .inr (.inl h)
        · exact .inr (.inr h)
      · rintro (h | h | h)
        · exact .inl (.inl h)
        · exact .inl (.inr h)
        · exact .inr h
/-- a word that begins at another place -/
def rot (z : Str) (a : Int) : Str := ⟨(z.cps.toList.drop a.toNat ++ z.cps.toList.take a.toNat).toArray⟩
theorem slS_from {z : Str} {a : Int} (a0 : 0 ≤ a) (h : a ≤ z.length) (hz : z.length ≤ 1000) : slS z (some a) none = .ok ⟨(z.cps.toList.drop a.toNat).toArray⟩ := by
  unfold slS L2.cutS
  rw [if_pos (by omega)]
  obtain ⟨a, rfl⟩ := Int.eq_ofNat_of_zero_le a0
  rw [HT.sIx_nat, HT.sIx_none, Nat.min_eq_left (by omega), Int.toNat_natCast]
  congr 2
  exact congrArg _ (List.take_of_length_le (by rw [List.length_drop, len_cps]; omega))
theorem slS_to {z : Str} {a : Int} (a0 : 0 ≤ a) (h : a ≤ z.length) (hz : z.length ≤ 1000) : slS z none (some a) = .ok ⟨(z.cps.toList.take a.toNat).toArray⟩ := by
  unfold slS L2.cutS
  rw [if_pos (by omega)]
  obtain ⟨a, rfl⟩ := Int.eq_ofNat_of_zero_le a0
  rw [HT.sIx_nat, HT.sIx_none, Nat.min_eq_left (by omega), Int.toNat_natCast]
  simp
theorem modes_ok {z : Str} (h : Wd z) : ∃ ms, N.words_modes z = .ok ms ∧ ∀ w, w ∈ ms ↔ ∃ a : Int, 0 ≤ a ∧ a < z.length ∧ w = rot z a := by
  have h1 := h.l1
  have h2 := h.l2
  obtain ⟨d, e, hd⟩ := dcS_go (kk := fun (at1 : Int) => (slS z (some at1) none).bind fun s => (slS z none (some at1)).bind fun s2 => (catS s s2).bind fun t => .ok t) (g := rot z) (rg 0 z.length) [] (fun x hx => by
    obtain ⟨x0, x1⟩ := mem_rg.mp hx
    rw [slS_from x0 (by omega) (by omega), R.bind_ok, slS_to x0 (by omega) (by omega), R.bind_ok, catS_ok (by
      rw [← len_cps, ← len_cps, List.toList_toArray, List.toList_toArray, List.length_drop, List.length_take, len_cps]; omega), R.bind_ok]
    congr 1
    refine str_ext ?_
    rw [cps_app, List.toList_toArray, List.toList_toArray]
    unfold rot
    rw [List.toList_toArray]) (by rw [rg_len]; simp; omega)
  unfold N.words_modes
  rw [need_word_ok h, R.bind_ok, lenS_ok (by omega), R.bind_ok, rgR_0 (by omega) (by omega), R.bind_ok, Int.toNat_natCast, e, R.bind_ok, sMR_S, R.bind_ok]
  refine ⟨_, rfl, fun w => ?_⟩
  rw [kSort_perm.mem_iff, hd]
  have : mK ([] : Dic Str Bool) = [] := rfl
  rw [this]
  simp only [List.not_mem_nil, false_or, List.mem_map]
  constructor
  · rintro ⟨a, ha, rfl⟩
    have := mem_rg.mp ha
    exact ⟨a, by omega, by omega, rfl⟩
  · rintro ⟨a, a0, a1, rfl⟩
    exact ⟨a, mem_rg.mpr (by omega), rfl⟩
/-! texts among texts -/
def vS (z : {z : Str // PyData.strOk z = true}) : T := eS z.1
theorem dat_vS : Dat 8 vS := ⟨fun a => a.2, fun a b e => by unfold vS eS at e; injection e with e; exact Subtype.ext e⟩
theorem nin_S {w : Str} {ms : List Str} (hw : PyData.strOk w = true) (hm : ∀ m ∈ ms, PyData.strOk m = true) : inPR' (eS w) (eL eS ms) = .ok (!decide (w ∈ ms)) := by
  have e : ms = (ms.attachWith _ hm).map fun z => z.1 := by rw [List.attachWith_map_subtype_val]
  have h := nin_L dat_vS ⟨w, hw⟩ (ms.attachWith _ hm)
  have e2 : eL vS (ms.attachWith _ hm) = eL eS ms := by
    conv => rhs; rw [e]
    unfold eL
    rw [List.map_map]; rfl
  have e3 : vS ⟨w, hw⟩ = eS w := rfl
  rw [e2, e3] at h
  unfold inPR'
  rw [h]
  unfold optR
  rw [R.bind_ok]
  show R.ok _ = _
  refine congrArg (fun b : Bool => R.ok (!b)) (decide_eq_decide.mpr ⟨fun hh => ?_, fun hh => ?_⟩)
  · rw [e]
    exact List.mem_map.mpr ⟨_, hh, rfl⟩
  · rw [e] at hh
    obtain ⟨z, hz, e4⟩ := List.mem_map.mp hh
    have : z = ⟨w, hw⟩ := Subtype.ext e4
    rw [← this]
    exact hz
theorem wd_str {z : Str} (h : ∀ c ∈ z.cps.toList, c = 76 ∨ c = 115) : PyData.strOk z = true := by
  unfold PyData.strOk
  rw [← Array.all_toList, List.all_eq_true]
  intro c hc
  rw [decide_eq_true_eq]
  rcases h c hc with rfl | rfl <;> decide
/-! a word of signs -/
theorem wd_map {z : Str} {p : Int → Bool} {n : Nat} (n1 : 1 ≤ n) (n2 : n ≤ 40) (h : z.cps.toList = (rg 0 n).map fun j => sgn1 (p j)) : Wd z := by
  refine Wd.of ?_
  unfold wdB
  rw [h, List.length_map, rg_len, decide_eq_true n1, decide_eq_true n2]
  simp only [Bool.and_self, Bool.true_and, List.all_map, List.all_eq_true]
  intro j _
  show (decide (sgn1 (p j) = 76) || decide (sgn1 (p j) = 115)) = true
  unfold sgn1
  cases p j <;> rfl
theorem sig_map {z : Str} {p : Int → Bool} {n : Nat} (h : z.cps.toList = (rg 0 n).map fun j => sgn1 (p j)) : ∀ c ∈ z.cps.toList, c = 76 ∨ c = 115 := fun c hc => by
  rw [h] at hc
  obtain ⟨j, _, rfl⟩ := List.mem_map.mp hc
  unfold sgn1
  cases p j
  · exact .inr rfl
  · exact .inl rfl
theorem join_map {p : Int → Bool} {n : Nat} (hn : n ≤ 100) : ∃ w, joinR (PySem.Str.ofString "") (eL eS ((rg 0 n).map fun j => if p j = true then sgL else sgS)) = .ok w ∧ w.cps.toList = (rg 0 n).map fun j => sgn1 (p j) := by
  refine ⟨_, joinR_ok (fun w hw => ?_) (by rw [List.length_map, rg_len]; exact hn), join_cps ?_⟩
  · obtain ⟨j, _, rfl⟩ := List.mem_map.mp hw
    split <;> decide
  · rw [List.map_map, List.map_map]
    refine List.map_congr_left fun j _ => ?_
    show (if p j = true then sgL else sgS).cps.toList = [sgn1 (p j)]
    unfold sgn1
    cases p j <;> rfl
/-- an even word's signs -/
def evP (l n j : Int) : Bool := decide ((-((-l * (j + 1)) / n)) - (-((-l * j) / n)) = 1)
theorem need_letters_ok {l m : Int} (l0 : 0 ≤ l) (m0 : 0 ≤ m) (h1 : 1 ≤ l + m) (h2 : l + m ≤ 40) : N.words_need_letters l m = .ok () := by
  unfold N.words_need_letters
  rw [is_in_ok l0 (by omega), R.bind_ok]
  simp only [Bool.not_true, Bool.false_eq_true, if_false]
  rw [is_in_ok m0 (by omega), R.bind_ok, R.bind_ok]
  have : (!(decide ((1 : Int) ≤ (l + m)) && decide ((l + m) ≤ (40 : Int)))) = false := by rw [decide_eq_true h1, decide_eq_true h2]; rfl
  simp only [Bool.not_true, Bool.false_eq_true, if_false, this]
theorem even_word_ok {l m : Int} (l0 : 0 ≤ l) (m0 : 0 ≤ m) (h1 : 1 ≤ l + m) (h2 : l + m ≤ 40) : ∃ w, N.words_even_word l m = .ok w ∧ w.cps.toList = (rg 0 (l + m).toNat).map fun j => sgn1 (evP l (l + m) j) := by
  obtain ⟨w, e, hw⟩ := join_map (p := evP l (l + m)) (n := (l + m).toNat) (by omega)
  refine ⟨w, ?_, hw⟩
  unfold N.words_even_word
  rw [need_letters_ok l0 m0 h1 h2, R.bind_ok, rgR_0 (by omega) (by omega), R.bind_ok]
  rw [cmpR_ok (g := fun j => (-((-l * (j + 1)) / (l + m))) - (-((-l * j) / (l + m)))) (by rw [rg_len]; omega) (fun j hj => by
    obtain ⟨j0, j1⟩ := mem_rg.mp hj
    rw [mulR_64 (by omega) (by omega) (by omega) (by omega), R.bind_ok, divR_pos (by omega) (by omega), R.bind_ok, mulR_64 (by omega) (by omega) (by omega) (by omega), R.bind_ok, divR_pos (by omega) (by omega), R.bind_ok]), R.bind_ok]
  unfold mapP
  rw [if_pos (by rw [List.length_map, rg_len]; omega), R.bind_ok, List.map_map]
  have : (rg 0 (l + m).toNat).map ((fun (letter : Int) => (if (decide (letter = (1 : Int))) = true then (PySem.Str.ofString "L") else (PySem.Str.ofString "s"))) ∘ fun j => (-((-l * (j + 1)) / (l + m))) - (-((-l * j) / (l + m)))) = (rg 0 (l + m).toNat).map fun j => if evP l (l + m) j = true then sgL else sgS := rfl
  rw [this, e, R.bind_ok]
theorem cnt_I {xs : List Int} {k : Int} : cntR (xs.map eI) (eI k) = .ok ((xs.count k : Nat) : Int) := by
  have e : cntO (.lst (xs.map eI)) (eI k) = some (.int ((xs.count k : Nat) : Int)) := by
    show (intsT (xs.map eI)).map (fun ns => T.int ((ns.count k : Nat) : Int)) = _
    rw [NL.intsT_map]; rfl
  unfold cntR
  rw [e]
  unfold optR
  rw [R.bind_ok]; rfl
theorem gen_sizes_ok {z : Str} (h : Wd z) : ∃ l, N.words_generator_sizes z = .ok l ∧ l.length ≤ 1000 ∧ ∀ x ∈ l, 1 ≤ x ∧ x < z.length := by
  have h1 := h.l1
  have h2 := h.l2
  unfold N.words_generator_sizes
  rw [need_word_ok h, R.bind_ok, lenS_ok (by omega), R.bind_ok, rgR_ok (by decide) (by decide) (by omega) (by omega), R.bind_ok]
  obtain ⟨l, e, hl⟩ : ∃ l, forR (rg 1 ((z.length : Int) - 1).toNat) (fun (x : Int) (st1 : (List Int)) => (N.words_counts_of z x).bind fun told => (lsetXR ((eL eI) told)).bind fun n2 => (if (decide (n2 = (2 : Int))) = true then (mmR PySem.W.minD asI ((eL eI) told)).bind fun m => (cntR (told.map eI) (eI m)).bind fun n3 => (mmR PySem.W.maxD asI ((eL eI) told)).bind fun m2 => (cntR (told.map eI) (eI m2)).bind fun n4 => .ok (decide ((1 : Int) ∈ [n3, n4])) else .ok false).bind fun t => (if t = true then (appR st1 x).bind fun found => .ok found else .ok st1 : R (List Int)).bind fun st2 => .ok st2) [] = .ok l ∧ l.length ≤ 1000 ∧ ∀ x ∈ l, 1 ≤ x ∧ x < z.length := by
    have key : ∀ x ∈ rg 1 ((z.length : Int) - 1).toNat, ∃ t : Bool, ∀ st1 : List Int, st1.length + 1 ≤ 1000 → ((N.words_counts_of z x).bind fun told => (lsetXR ((eL eI) told)).bind fun n2 => (if (decide (n2 = (2 : Int))) = true then (mmR PySem.W.minD asI ((eL eI) told)).bind fun m => (cntR (told.map eI) (eI m)).bind fun n3 => (mmR PySem.W.maxD asI ((eL eI) told)).bind fun m2 => (cntR (told.map eI) (eI m2)).bind fun n4 => .ok (decide ((1 : Int) ∈ [n3, n4])) else .ok false).bind fun t => (if t = true then (appR st1 x).bind fun found => .ok found else .ok st1 : R (List Int)).bind fun st2 => .ok st2) = .ok (if t = true then st1 ++ [x] else st1) := fun x hx => by
      obtain ⟨x0, x1⟩ := mem_rg.mp hx
      have hc := counts_ok h (s := x) (by omega) (by omega)
      have hcl : ((cw z.cps.toList x.toNat).map fun (n : Nat) => (n : Int)).length = z.length := by rw [List.length_map, cw_len, len_cps]
      have last : ∀ (t : Bool) (st1 : List Int), st1.length + 1 ≤ 1000 → (if t = true then (appR st1 x).bind fun found => .ok found else .ok st1 : R (List Int)).bind (fun st2 => .ok st2) = .ok (if t = true then st1 ++ [x] else st1) := fun t st1 hs => by
        cases t
        · simp
        · simp only [if_true]
          rw [appR_ok (by omega)]
          simp
      by_cases c : ((dd ((cw z.cps.toList x.toNat).map fun (n : Nat) => (n : Int))).length : Int) = 2
      · refine ⟨decide ((1 : Int) ∈ [((((cw z.cps.toList x.toNat).map fun (n : Nat) => (n : Int)).count (mnN (cw z.cps.toList x.toNat) : Int) : Nat) : Int), ((((cw z.cps.toList x.toNat).map fun (n : Nat) => (n : Int)).count (mxN (cw z.cps.toList x.toNat) : Int) : Nat) : Int)]), fun st1 hs => ?_⟩
        rw [hc, R.bind_ok, lset_L (by omega), R.bind_ok, if_pos (decide_eq_true c), min_N (cw_ne h) (fun y hy => Nat.le_trans (cw_le y hy) (by omega)), R.bind_ok, cnt_I, R.bind_ok, max_N (cw_ne h), R.bind_ok, cnt_I, R.bind_ok, R.bind_ok]
        exact last _ st1 hs
      · refine ⟨false, fun st1 hs => ?_⟩
        rw [hc, R.bind_ok, lset_L (by omega), R.bind_ok, if_neg (by simpa using c), R.bind_ok]
        exact last _ st1 hs
    have go : ∀ (xs : List Int) (st : List Int), (∀ x ∈ xs, x ∈ rg 1 ((z.length : Int) - 1).toNat) → st.length + xs.length ≤ 1000 → (∀ x ∈ st, 1 ≤ x ∧ x < z.length) → ∃ l, forR xs (fun (x : Int) (st1 : (List Int)) => (N.words_counts_of z x).bind fun told => (lsetXR ((eL eI) told)).bind fun n2 => (if (decide (n2 = (2 : Int))) = true then (mmR PySem.W.minD asI ((eL eI) told)).bind fun m => (cntR (told.map eI) (eI m)).bind fun n3 => (mmR PySem.W.maxD asI ((eL eI) told)).bind fun m2 => (cntR (told.map eI) (eI m2)).bind fun n4 => .ok (decide ((1 : Int) ∈ [n3, n4])) else .ok false).bind fun t => (if t = true then (appR st1 x).bind fun found => .ok found else .ok st1 : R (List Int)).bind fun st2 => .ok st2) st = .ok l ∧ l.length ≤ 1000 ∧ ∀ x ∈ l, 1 ≤ x ∧ x < z.length := fun xs => by
      induction xs with
      | nil => exact fun st _ hl hs => ⟨st, rfl, by simpa using hl, hs⟩
      | cons x xs ih =>
        intro st hx hl hs
        rw [List.length_cons] at hl
        obtain ⟨t, ht⟩ := key x (hx x (List.mem_cons_self ..))
        obtain ⟨x0, x1⟩ := mem_rg.mp (hx x (List.mem_cons_self ..))
        obtain ⟨l, e, h3⟩ := ih (if t = true then st ++ [x] else st) (fun y hy => hx y (List.mem_cons_of_mem _ hy)) (by split <;> first | (simp; omega) | omega) (fun y hy => by
          split at hy
          · rcases List.mem_append.mp hy with hy | hy
            · exact hs y hy
            · rw [List.mem_singleton.mp hy]; omega
          · exact hs y hy)
        refine ⟨l, ?_, h3⟩
        refine (congrArg (fun r => R.bind r _) (ht st (by omega))).trans ?_
        rw [R.bind_ok]
        exact e
    exact go _ [] (fun x hx => hx) (by rw [rg_len]; simp; omega) (fun x hx => nomatch hx)
  exact ⟨l, by rw [e, R.bind_ok], hl⟩
end FL.NL


set_option maxHeartbeats 4000000
namespace Law
open PySem PySem.Spec FL FL.NL TW PySem.W FL.C1
theorem fs_congr {α β : Type} {f g : α → Option β} : ∀ {xs : List α}, (∀ x ∈ xs, f x = g x) → xs.findSome? f = xs.findSome? g
  | [], _ => rfl
  | x :: xs, h => by
    rw [List.findSome?_cons, List.findSome?_cons, h x (List.mem_cons_self ..), fs_congr fun y hy => h y (List.mem_cons_of_mem _ hy)]
theorem fs_or {α β : Type} {f : α → Option β} {x : α} {xs : List α} : (x :: xs).findSome? f = (f x).or (xs.findSome? f) := by
  rw [List.findSome?_cons]
  cases f x <;> rfl
def ctO {β : Type} : Option β → Ct Unit β
  | none => .nx ()
  | some b => .rt b
def lpO {β : Type} : Option β → Lp Unit β
  | none => .nx ()
  | some b => .rt b
theorem forC_fs {α β : Type} {body : α → Unit → R (Ct Unit β)} {f : α → Option β} : ∀ {xs : List α}, (∀ x ∈ xs, body x () = .ok (ctO (f x))) → forC xs body () = .ok (lpO (xs.findSome? f))
  | [], _ => rfl
  | x :: xs, h => by
    have ih := forC_fs (xs := xs) fun y hy => h y (List.mem_cons_of_mem _ hy)
    show (body x ()).bind _ = _
    rw [h x (List.mem_cons_self ..), R.bind_ok, fs_or]
    cases f x with
    | none => exact ih
    | some b => rfl
theorem forR_or {α β : Type} {body : α → Option β → R (Option β)} {f : α → Option β} : ∀ {xs : List α} {st : Option β}, (∀ x ∈ xs, ∀ st, body x st = .ok (st.or (f x))) → forR xs body st = .ok (st.or (xs.findSome? f))
  | [], st, _ => by
    rw [List.findSome?_nil, Option.or_none]; rfl
  | x :: xs, st, h => by
    show (body x st).bind _ = _
    rw [h x (List.mem_cons_self ..), R.bind_ok, fs_or, ← Option.or_assoc]
    exact forR_or fun y hy => h y (List.mem_cons_of_mem _ hy)
theorem forR_two {β : Type} {body : Int → Option β × List Int → R (Option β × List Int)} {f : Int → Option β} {p : Int → Bool} : ∀ {xs : List Int} {st : Option β × List Int}, st.2.length + xs.length ≤ 1000 →
    (∀ x ∈ xs, ∀ st : Option β × List Int, st.2.length + 1 ≤ 1000 → body x st = .ok (st.1.or (f x), if p x = true then st.2 ++ [x] else st.2)) → forR xs body st = .ok (st.1.or (xs.findSome? f), st.2 ++ xs.filter p)
  | [], st, _, _ => by
    rw [List.findSome?_nil, Option.or_none, List.filter_nil, List.append_nil]; rfl
  | x :: xs, st, hl, h => by
    rw [List.length_cons] at hl
    show (body x st).bind _ = _
    rw [h x (List.mem_cons_self ..) st (by omega), R.bind_ok, fs_or, ← Option.or_assoc]
    refine (forR_two (xs := xs) (by dsimp only; split <;> first | (rw [List.length_append, List.length_singleton]; omega) | omega) fun y hy => h y (List.mem_cons_of_mem _ hy)).trans ?_
    rw [List.filter_cons]
    by_cases c : p x = true
    · simp [c]
    · simp [c]
theorem forR_fil {body : Int → List Int → R (List Int)} {p : Int → Bool} : ∀ {xs : List Int} {st : List Int}, st.length + xs.length ≤ 1000 →
    (∀ x ∈ xs, ∀ st : List Int, st.length + 1 ≤ 1000 → body x st = .ok (if p x = true then st ++ [x] else st)) → forR xs body st = .ok (st ++ xs.filter p)
  | [], st, _, _ => by
    rw [List.filter_nil, List.append_nil]; rfl
  | x :: xs, st, hl, h => by
    rw [List.length_cons] at hl
    show (body x st).bind _ = _
    rw [h x (List.mem_cons_self ..) st (by omega), R.bind_ok]
    refine (forR_fil (xs := xs) (by split <;> first | (rw [List.length_append, List.length_singleton]; omega) | omega) fun y hy => h y (List.mem_cons_of_mem _ hy)).trans ?_
    rw [List.filter_cons]
    by_cases c : p x = true
    · simp [c]
    · simp [c]
theorem enum_fst {α : Type} : ∀ (xs : List α) (k : Nat), (enumL k xs).map (fun p => p.1) = rg (k : Int) xs.length
  | [], k => rfl
  | x :: xs, k => by
    unfold enumL
    rw [List.map_cons, List.length_cons, rg_succ, enum_fst xs (k + 1)]
    congr 1
abbrev Tri := Int × (Int × (Int × Unit))
/-- the numbers of L in the parts of a size -/
noncomputable def cs (z : Str) (x : Int) : List Int := (cw z.cps.toList x.toNat).map fun (n : Nat) => (n : Int)
theorem cs_len {z : Str} {x : Int} : (cs z x).length = z.length := by unfold cs; rw [List.length_map, cw_len, len_cps]
def hitF (C : List Int) (x a b : Int) : Option Tri := if absI (C.getD a.toNat 0 - C.getD b.toNat 0) > 1 then some (x, a, b, ()) else none
noncomputable def rowF (z : Str) (x a : Int) : Option Tri := (rg (a + 1) ((z.length : Int) - (a + 1)).toNat).findSome? (hitF (cs z x) x a)
noncomputable def sizF (z : Str) (x : Int) : Option Tri := (rg 0 z.length).findSome? (rowF z x)
noncomputable def dueF (z : Str) : Option Tri := (rg 1 ((z.length : Int) - 1).toNat).findSome? (sizF z)
theorem fs_map {α β γ : Type} {f : α → Option β} {g : β → γ} : ∀ {xs : List α}, xs.findSome? (fun x => (f x).map g) = (xs.findSome? f).map g
  | [] => rfl
  | x :: xs => by
    rw [fs_or, fs_or, fs_map (xs := xs)]
    cases f x <;> rfl
theorem clash_ok {z : Str} (h : Wd z) : N.words_word_clash z = .ok (dueF z) := by
  have h1 := h.l1
  have h2 := h.l2
  have hin : ∀ x ∈ rg 1 ((z.length : Int) - 1).toNat, ∀ p ∈ enumL 0 (cs z x), ∀ b ∈ rg (p.1 + 1) ((z.length : Int) - (p.1 + 1)).toNat, ((atR (cs z x) b).bind fun t => if (decide ((absI (p.2.1 - t)) > (1 : Int))) = true then .ok (.rt (some (x, p.1, b, ()))) else .ok (.nx ()) : R (Ct Unit (Option Tri))) = .ok (ctO ((hitF (cs z x) x p.1 b).map some)) := fun x hx p hp b hb => by
    obtain ⟨j, hj, rfl⟩ := enum_mem hp
    have hl : (cs z x).length = z.length := cs_len
    obtain ⟨b0, b1⟩ := mem_rg.mp hb
    dsimp only at b0 b1 ⊢
    rw [atR_D (by omega) (by omega), R.bind_ok]
    unfold hitF
    have e : (cs z x).getD ((((0 : Nat) : Int) + j)).toNat 0 = (cs z x)[j] := by
      have : ((((0 : Nat) : Int) + j)).toNat = j := by omega
      rw [this, List.getD_eq_getElem?_getD, List.getElem?_eq_getElem hj]; rfl
    rw [e]
    by_cases c : absI ((cs z x)[j] - (cs z x).getD b.toNat 0) > 1
    · rw [if_pos (decide_eq_true c), if_pos c]; rfl
    · rw [if_neg (by simpa using c), if_neg c]; rfl
  have row : ∀ x ∈ rg 1 ((z.length : Int) - 1).toNat, ∀ p ∈ enumL 0 (cs z x), ((rgR (p.1 + (1 : Int)) ((cs z x).length : Int)).bind fun r2 => (forC r2 (fun (x3 : Int) (st3 : Unit) => (atR (cs z x) x3).bind fun t => if (decide ((absI (p.2.1 - t)) > (1 : Int))) = true then .ok (.rt (some (x, p.1, x3, ()))) else .ok (.nx ())) () : R (Lp Unit (Option Tri)))) = .ok (lpO ((rowF z x p.1).map some)) := fun x hx p hp => by
    obtain ⟨p0, p1, _⟩ := enumL_mem hp
    rw [cs_len] at p1 ⊢
    rw [rgR_ok (by omega) (by omega) (by omega) (by omega), R.bind_ok, forC_fs (hin x hx p hp), fs_map]
    rfl
  have size : ∀ x ∈ rg 1 ((z.length : Int) - 1).toNat, (forC (enumL 0 (cs z x)) (fun (x2 : (Int × (Int × Unit))) (st2 : Unit) => (rgR (x2.1 + (1 : Int)) ((cs z x).length : Int)).bind fun r2 => (forC r2 (fun (x3 : Int) (st3 : Unit) => (atR (cs z x) x3).bind fun t => if (decide ((absI (x2.2.1 - t)) > (1 : Int))) = true then .ok (.rt (some (x, x2.1, x3, ()))) else .ok (.nx ())) () : R (Lp Unit (Option Tri))).bind fun lp => match lp with | .nx so => (.ok (.nx ())) | .rt b => .ok (.rt b)) () : R (Lp Unit (Option Tri))) = .ok (lpO ((sizF z x).map some)) := fun x hx => by
    rw [forC_fs (f := fun p => (rowF z x p.1).map some) (fun p hp => by
      rw [← R.bind_assoc, row x hx p hp, R.bind_ok]
      cases rowF z x p.1 <;> rfl)]
    have e := fs_map (f := fun p : Int × (Int × Unit) => rowF z x p.1) (g := some) (xs := enumL 0 (cs z x))
    rw [e]
    have e2 : (enumL 0 (cs z x)).findSome? (fun p => rowF z x p.1) = sizF z x := by
      unfold sizF
      have := enum_fst (cs z x) 0
      rw [cs_len] at this
      rw [show rg 0 z.length = rg ((0 : Nat) : Int) z.length from rfl, ← this, List.findSome?_map]
      rfl
    rw [e2]
  unfold N.words_word_clash
  rw [need_word_ok h, R.bind_ok, lenS_ok (by omega), R.bind_ok, rgR_ok (by decide) (by decide) (by omega) (by omega), R.bind_ok]
  rw [forC_fs (f := fun x => (sizF z x).map some) (fun x hx => by
    obtain ⟨x0, x1⟩ := mem_rg.mp hx
    rw [counts_ok h (by omega) (by omega), R.bind_ok]
    refine (congrArg (fun r => R.bind r _) (size x hx)).trans ?_
    rw [R.bind_ok]
    cases sizF z x <;> rfl), R.bind_ok, fs_map]
  show _ = R.ok (dueF z)
  unfold dueF
  cases (rg 1 ((z.length : Int) - 1).toNat).findSome? (sizF z) <;> rfl
/-- the last sizes: all parts but one alike -/
noncomputable def good (z : Str) (x : Int) : Bool := decide (((dd (cs z x)).length : Int) = 2) && decide ((1 : Int) ∈ (cs z x).map fun e => ((cs z x).count e : Int))
theorem two_vals {C : List Int} {m M : Int} (hm : m ∈ C) (hM : M ∈ C) (lo : ∀ y ∈ C, m ≤ y) (hi : ∀ y ∈ C, y ≤ M) (h : (dd C).length = 2) : decide ((1 : Int) ∈ [((C.count m : Nat) : Int), ((C.count M : Nat) : Int)]) = decide ((1 : Int) ∈ C.map fun e => ((C.count e : Nat) : Int)) := by
  refine decide_eq_decide.mpr ⟨fun q => ?_, fun q => ?_⟩
  · simp only [List.mem_cons, List.not_mem_nil, or_false] at q
    rcases q with q | q
    · exact List.mem_map.mpr ⟨m, hm, q.symm⟩
    · exact List.mem_map.mpr ⟨M, hM, q.symm⟩
  · obtain ⟨e, he, q⟩ := List.mem_map.mp q
    simp only [List.mem_cons, List.not_mem_nil, or_false]
    by_cases h1 : e = m
    · subst h1; exact .inl q.symm
    · by_cases h2 : e = M
      · subst h2; exact .inr q.symm
      · exfalso
        have a := lo e he
        have b := hi e he
        have := nodup_le (xs := [m, e, M]) (ys := dd C) (by simp; omega) (fun y hy => by
          simp only [List.mem_cons, List.not_mem_nil, or_false] at hy
          rw [dd_mem]
          rcases hy with rfl | rfl | rfl <;> assumption)
        simp at this
        omega
theorem gens_ok {z : Str} (h : Wd z) : N.words_generator_sizes z = .ok ((rg 1 ((z.length : Int) - 1).toNat).filter (good z)) := by
  have h1 := h.l1
  have h2 := h.l2
  unfold N.words_generator_sizes
  rw [need_word_ok h, R.bind_ok, lenS_ok (by omega), R.bind_ok, rgR_ok (by decide) (by decide) (by omega) (by omega), R.bind_ok]
  rw [forR_fil (p := good z) (by rw [rg_len]; simp; omega) (fun x hx st hs => by
    obtain ⟨x0, x1⟩ := mem_rg.mp hx
    have hc := counts_ok h (s := x) (by omega) (by omega)
    have last : ∀ (t : Bool), (if t = true then (appR st x).bind fun found => .ok found else .ok st : R (List Int)).bind (fun st2 => .ok st2) = .ok (if t = true then st ++ [x] else st) := fun t => by
      cases t
      · simp
      · simp only [if_true]
        rw [appR_ok (by omega)]
        simp
    rw [hc, R.bind_ok]
    show R.bind (lsetXR (eL eI (cs z x))) _ = _
    rw [lset_L (by rw [cs_len]; omega), R.bind_ok]
    by_cases c : ((dd (cs z x)).length : Int) = 2
    · obtain ⟨n1, n2⟩ := mnN_spec (cw_ne h (s := x.toNat)) (fun y hy => Nat.le_trans (cw_le y hy) (by omega))
      obtain ⟨m1, m2⟩ := mxN_spec (cw_ne h (s := x.toNat))
      have tv := two_vals (C := cs z x) (m := (mnN (cw z.cps.toList x.toNat) : Int)) (M := (mxN (cw z.cps.toList x.toNat) : Int)) (List.mem_map.mpr ⟨_, n1, rfl⟩) (List.mem_map.mpr ⟨_, m1, rfl⟩) (fun y hy => by
        obtain ⟨k, hk, rfl⟩ := List.mem_map.mp hy
        have := n2 k hk
        omega) (fun y hy => by
        obtain ⟨k, hk, rfl⟩ := List.mem_map.mp hy
        have := m2 k hk
        omega) (by omega)
      rw [if_pos (decide_eq_true c)]
      show R.bind (R.bind (mmR PySem.W.minD asI (eL eI ((cw z.cps.toList x.toNat).map fun (n : Nat) => (n : Int)))) _) _ = _
      rw [min_N (cw_ne h) (fun y hy => Nat.le_trans (cw_le y hy) (by omega)), R.bind_ok, cnt_I, R.bind_ok]
      show R.bind (R.bind (mmR PySem.W.maxD asI (eL eI ((cw z.cps.toList x.toNat).map fun (n : Nat) => (n : Int)))) _) _ = _
      rw [max_N (cw_ne h), R.bind_ok, cnt_I, R.bind_ok, R.bind_ok]
      refine (congrArg (fun t : Bool => (if t = true then (appR st x).bind fun found => .ok found else .ok st : R (List Int)).bind (fun st2 => .ok st2)) tv).trans ?_
      rw [last]
      unfold good
      rw [decide_eq_true c, Bool.true_and]
    · rw [if_neg (by simpa using c), R.bind_ok, last]
      unfold good
      rw [decide_eq_false c, Bool.false_and]), R.bind_ok]
  rfl
theorem balanced_due {z : Str} (h : Wd z) : balB z.cps.toList = (dueF z).isNone := by
  have h1 := h.l1
  have h2 := h.l2
  rw [Bool.eq_iff_iff]
  constructor
  · intro hb
    have a := word_clash_none h hb
    rw [clash_ok h] at a
    have a : dueF z = none := by injection a
    rw [a]; rfl
  · intro hd
    have hd : dueF z = none := Option.isNone_iff_eq_none.mp hd
    unfold balB
    rw [List.all_eq_true]
    intro s hs
    rw [List.mem_range, len_cps] at hs
    unfold flat
    rw [Nat.ble_eq]
    have pair : ∀ a b : Nat, a < b → b < z.length → absI ((cs z ((s + 1 : Nat) : Int)).getD a 0 - (cs z ((s + 1 : Nat) : Int)).getD b 0) ≤ 1 := fun a b hab hb => by
      unfold dueF at hd
      have d1 := List.findSome?_eq_none_iff.mp hd ((s + 1 : Nat) : Int) (mem_rg.mpr (by omega))
      unfold sizF at d1
      have d2 := List.findSome?_eq_none_iff.mp d1 (a : Int) (mem_rg.mpr (by omega))
      unfold rowF at d2
      have d3 := List.findSome?_eq_none_iff.mp d2 (b : Int) (mem_rg.mpr (by omega))
      unfold hitF at d3
      rw [Int.toNat_natCast, Int.toNat_natCast] at d3
      split at d3
      · cases d3
      · omega
    obtain ⟨n1, _⟩ := mnN_spec (cw_ne h (s := s + 1)) (fun y hy => Nat.le_trans (cw_le y hy) (by omega))
    obtain ⟨m1, _⟩ := mxN_spec (cw_ne h (s := s + 1))
    obtain ⟨a, ha, ea⟩ := List.mem_iff_getElem.mp n1
    obtain ⟨b, hb, eb⟩ := List.mem_iff_getElem.mp m1
    rw [cw_len, len_cps] at ha hb
    have at_ : ∀ i (hi : i < (cw z.cps.toList (s + 1)).length), (cs z ((s + 1 : Nat) : Int)).getD i 0 = (((cw z.cps.toList (s + 1))[i] : Nat) : Int) := fun i hi => by
      unfold cs
      rw [Int.toNat_natCast, List.getD_eq_getElem?_getD, List.getElem?_map, List.getElem?_eq_getElem hi]; rfl
    have va := at_ a (by rw [cw_len, len_cps]; exact ha)
    have vb := at_ b (by rw [cw_len, len_cps]; exact hb)
    rw [ea] at va
    rw [eb] at vb
    rcases Nat.lt_trichotomy a b with c | c | c
    · have := pair a b c hb
      rw [va, vb] at this
      unfold absI at this
      omega
    · subst c
      rw [va] at vb
      omega
    · have := pair b a c ha
      rw [va, vb] at this
      unfold absI at this
      omega
/-! modes -/
theorem dc_nd {kk : Int → R Str} {g : Int → Str} : ∀ (xs : List Int) (d : Dic Str Bool), (∀ x ∈ xs, kk x = .ok (g x)) → d.length + xs.length ≤ 4000 → (mK d).Nodup → ∃ d', (dcGo (fun (part : Int) => .ok true) kk (fun (part : Int) => .ok true) xs d : R (Dic Str Bool)) = .ok d' ∧ (mK d').Nodup ∧ ∀ a, a ∈ mK d' ↔ a ∈ mK d ∨ a ∈ xs.map g
  | [], d, _, _, n => ⟨d, rfl, n, fun a => by simp⟩
  | x :: xs, d, hk, hl, n => by
    rw [List.length_cons] at hl
    obtain ⟨d', e, n', h'⟩ := dc_nd (kk := kk) (g := g) xs (mSt d (g x) true) (fun y hy => hk y (List.mem_cons_of_mem _ hy)) (by have := mSt_ln (d := d) (k := g x) (v := true); omega) (mSt_nd n)
    refine ⟨d', ?_, n', fun a => ?_⟩
    · unfold dcGo
      simp only [R.noX_ok, R.bind_ok, if_true, hk x (List.mem_cons_self ..), msR_ok (d := d) (k := g x) (v := true) (by omega)]
      exact e
    · rw [h', mSt_mem, List.map_cons, List.mem_cons, or_assoc]
def rots (z : Str) : List Str := (rg 0 z.length).map (rot z)
theorem rot_ok {z : Str} (h : z.length ≤ 40) {x : Int} (x0 : 0 ≤ x) (x1 : x ≤ z.length) : ((slS z (some x) none).bind fun s => (slS z none (some x)).bind fun s2 => (catS s s2).bind fun t => .ok t) = .ok (rot z x) := by
  rw [slS_from x0 (by omega) (by omega), R.bind_ok, slS_to x0 (by omega) (by omega), R.bind_ok, catS_ok (by
    rw [← len_cps, ← len_cps, List.toList_toArray, List.toList_toArray, List.length_drop, List.length_take, len_cps]; omega), R.bind_ok]
  congr 1
  refine str_ext ?_
  rw [cps_app, List.toList_toArray, List.toList_toArray]
  unfold rot
  rw [List.toList_toArray]
theorem modes_e {z : Str} (h : Wd z) : N.words_modes z = .ok (sdS (rots z)) := by
  have h1 := h.l1
  have h2 := h.l2
  obtain ⟨d, e, nd, hd⟩ := dc_nd (kk := fun (at1 : Int) => (slS z (some at1) none).bind fun s => (slS z none (some at1)).bind fun s2 => (catS s s2).bind fun t => .ok t) (g := rot z) (rg 0 z.length) [] (fun x hx => by
    obtain ⟨x0, x1⟩ := mem_rg.mp hx
    exact rot_ok h2 x0 (by omega)) (by rw [rg_len]; simp; omega) List.nodup_nil
  unfold N.words_modes
  rw [need_word_ok h, R.bind_ok, lenS_ok (by omega), R.bind_ok, rgR_0 (by omega) (by omega), R.bind_ok, Int.toNat_natCast, e, R.bind_ok, sMR_S, R.bind_ok]
  congr 1
  show (mK d).mergeSort leS = _
  exact sdS_of nd fun j => by
    rw [hd]
    have : mK ([] : Dic Str Bool) = [] := rfl
    rw [this]
    simp [rots]
def tail (many : Int) (st2 : Str) : R Bool := (rgR (1 : Int) many).bind fun r2 => (forR r2 (fun (x : Int) (st3 : ((Option (Int × (Int × (Int × Unit)))) × (List Int))) => (rgR (0 : Int) many).bind fun r3 => (cmpR r3 (fun _ => .ok true) fun (at2 : Int) => (catS st2 st2).bind fun t3 => (slS t3 (some at2) (some (at2 + x))).bind fun s4 => .ok (scountI s4 (PySem.Str.ofString "L"))).bind fun told => (rgR (0 : Int) many).bind fun r4 => (forR r4 (fun (x2 : Int) (st4 : (Option (Int × (Int × (Int × Unit))))) => (rgR (x2 + (1 : Int)) many).bind fun r5 => (forR r5 (fun (x3 : Int) (st5 : (Option (Int × (Int × (Int × Unit))))) => (if st5.isNone = true then (atR told x2).bind fun t4 => (atR told x3).bind fun t5 => .ok (decide ((absI (t4 - t5)) > (1 : Int))) else .ok false).bind fun t6 => (if t6 = true then .ok (some (x, x2, x3, ())) else .ok st5 : R (Option (Int × (Int × (Int × Unit))))).bind fun st6 => .ok st6) st4).bind fun so => .ok so) st3.1).bind fun so2 => (lsetXR ((eL eI) told)).bind fun n => (if (decide (n = (2 : Int))) = true then (cmpR told (fun _ => .ok true) fun (entry : Int) => (cntR (told.map eI) (eI entry)).bind fun n2 => .ok n2).bind fun l3 => .ok (decide ((1 : Int) ∈ l3)) else .ok false).bind fun t7 => (if t7 = true then (appR st3.2 x).bind fun sizes => .ok sizes else .ok st3.2 : R (List Int)).bind fun st7 => .ok (so2, st7)) (none, [])).bind fun so3 => (N.words_word_clash st2).bind fun c3 => (alikeR (eO (eP (aC eI (aC eI (aC eI aN))))) c3 so3.1).bind fun b1 => (if (!b1) = true then .ok true else (N.words_is_balanced st2).bind fun c4 => (alikeR eB c4 so3.1.isNone).bind fun b2 => .ok (!b2)).bind fun t8 => if t8 = true then .ok false else (N.words_modes st2).bind fun c5 => (rgR (0 : Int) many).bind fun r6 => (cmpR r6 (fun _ => .ok true) fun (at3 : Int) => (slS st2 (some at3) none).bind fun s5 => (slS st2 none (some at3)).bind fun s6 => (catS s5 s6).bind fun t9 => .ok t9).bind fun l4 => (sxR l4).bind fun l5 => (alikeR (eL eS) c5 l5).bind fun b3 => if (!b3) = true then .ok false else (N.words_generator_sizes st2).bind fun c6 => (alikeR (eL eI) c6 so3.2).bind fun b4 => .ok b4
theorem told_ok {z : Str} (h : Wd z) {x : Int} (s0 : 0 ≤ x) (s1 : x ≤ z.length) : (cmpR (rg 0 z.length) (fun _ => .ok true) fun (at2 : Int) => (catS z z).bind fun t3 => (slS t3 (some at2) (some (at2 + x))).bind fun s4 => .ok (scountI s4 (PySem.Str.ofString "L"))) = .ok (cs z x) := by
  have e := counts_ok h s0 s1
  have h1 := h.l1
  have h2 := h.l2
  have hl : (z ++ z).length = z.length + z.length := by rw [← len_cps, cps_app, List.length_append, len_cps]
  unfold N.words_counts_of at e
  rw [catS_ok (by omega), R.bind_ok, lenS_ok (by omega), R.bind_ok, rgR_0 (by omega) (by omega), R.bind_ok, Int.toNat_natCast] at e
  have at_ : ∀ a ∈ rg 0 z.length, ((slS (z ++ z) (some a) (some (a + x))).bind fun s => R.ok (scountI s (PySem.Str.ofString "L"))) = .ok ((cntN 76 (((z.cps.toList ++ z.cps.toList).drop a.toNat).take x.toNat) : Nat) : Int) := fun a ha => by
    obtain ⟨a0, a1⟩ := mem_rg.mp ha
    rw [slS_win a0 s0 (by omega) (by omega), R.bind_ok, sc_L, cps_app]
  rw [cmpR_ok (g := fun a => ((cntN 76 (((z.cps.toList ++ z.cps.toList).drop a.toNat).take x.toNat) : Nat) : Int)) (by rw [rg_len]; omega) at_, R.bind_ok] at e
  rw [catS_ok (by omega), cmpR_ok (g := fun a => ((cntN 76 (((z.cps.toList ++ z.cps.toList).drop a.toNat).take x.toNat) : Nat) : Int)) (by rw [rg_len]; omega) (fun a ha => by rw [R.bind_ok]; exact at_ a ha)]
  exact e
theorem tail_ok {z : Str} (h : Wd z) : tail (z.length : Int) z = .ok true := by
  have h1 := h.l1
  have h2 := h.l2
  unfold tail
  rw [rgR_ok (by decide) (by decide) (by omega) (by omega), R.bind_ok]
  rw [forR_two (f := sizF z) (p := good z) (by rw [rg_len]; simp; omega) (fun x hx st hs => by
    obtain ⟨x0, x1⟩ := mem_rg.mp hx
    rw [rgR_0 (by omega) (by omega), R.bind_ok, Int.toNat_natCast, told_ok h (by omega) (by omega), R.bind_ok, R.bind_ok]
    rw [forR_or (f := rowF z x) (fun a ha st4 => by
      obtain ⟨a0, a1⟩ := mem_rg.mp ha
      rw [rgR_ok (by omega) (by omega) (by omega) (by omega), R.bind_ok]
      rw [forR_or (f := hitF (cs z x) x a) (fun b hb st5 => by
        obtain ⟨b0, b1⟩ := mem_rg.mp hb
        cases st5 with
        | some v => simp [R.bind_ok, Option.or]
        | none =>
          have hl : (cs z x).length = z.length := cs_len
          simp only [Option.isNone_none, if_true]
          rw [atR_D (by omega) (by omega), R.bind_ok, atR_D (by omega) (by omega), R.bind_ok, R.bind_ok, Option.none_or]
          unfold hitF
          by_cases c : absI ((cs z x).getD a.toNat 0 - (cs z x).getD b.toNat 0) > 1
          · rw [if_pos (decide_eq_true c), if_pos c, R.bind_ok]
          · rw [if_neg (by simpa using c), if_neg c, R.bind_ok]), R.bind_ok]
      rfl), R.bind_ok]
    rw [lset_L (by rw [cs_len]; omega), R.bind_ok]
    have last : ∀ (t : Bool), (if t = true then (appR st.2 x).bind fun found => .ok found else .ok st.2 : R (List Int)).bind (fun st7 => R.ok (st.1.or (sizF z x), st7)) = .ok (st.1.or (sizF z x), if t = true then st.2 ++ [x] else st.2) := fun t => by
      cases t
      · simp
      · simp only [if_true]
        rw [appR_ok (by omega)]
        simp
    by_cases c : ((dd (cs z x)).length : Int) = 2
    · rw [if_pos (decide_eq_true c), cmpR_ok (g := fun e => (((cs z x).count e : Nat) : Int)) (by rw [cs_len]; omega) (fun e _ => by rw [cnt_I, R.bind_ok]), R.bind_ok, R.bind_ok]
      refine (last _).trans ?_
      unfold good
      rw [decide_eq_true c, Bool.true_and]
    · rw [if_neg (by simpa using c), R.bind_ok]
      refine (last _).trans ?_
      unfold good
      rw [decide_eq_false c, Bool.false_and]), R.bind_ok, List.nil_append]
  have e0 : (none : Option Tri).or ((rg 1 ((z.length : Int) - 1).toNat).findSome? (sizF z)) = dueF z := rfl
  dsimp only
  rw [Option.none_or]
  show R.bind (N.words_word_clash z) _ = _
  rw [clash_ok h, R.bind_ok]
  have a1 : alikeR (eO (eP (aC eI (aC eI (aC eI aN))))) (dueF z) (dueF z) = .ok true := alikeR_of (by cases dueF z <;> rfl)
  have a1' : alikeR (eO (eP (aC eI (aC eI (aC eI aN))))) (dueF z) ((rg 1 ((z.length : Int) - 1).toNat).findSome? (sizF z)) = .ok true := a1
  rw [a1', R.bind_ok]
  simp only [Bool.not_true, Bool.false_eq_true, if_false]
  rw [is_balanced_ok h, R.bind_ok]
  have a2 : alikeR eB (balB z.cps.toList) ((rg 1 ((z.length : Int) - 1).toNat).findSome? (sizF z)).isNone = .ok true := alikeR_eq (balanced_due h) rfl
  rw [a2, R.bind_ok]
  simp only [Bool.not_true, R.bind_ok, Bool.false_eq_true, if_false]
  rw [modes_e h, R.bind_ok, rgR_0 (by omega) (by omega), R.bind_ok, Int.toNat_natCast]
  rw [cmpR_ok (g := rot z) (by rw [rg_len]; omega) (fun x hx => by
    obtain ⟨x0, x1⟩ := mem_rg.mp hx
    exact rot_ok h2 x0 (by omega)), R.bind_ok]
  have hx : sxR ((rg 0 z.length).map (rot z)) = .ok (sdS (rots z)) := by
    unfold sxR
    rw [if_pos (by rw [List.length_map, rg_len]; omega)]; rfl
  have hs : (sdS (rots z)).length ≤ 1000000 := by
    unfold sdS
    rw [List.length_mergeSort]
    have := dd_le (rots z)
    have e : (rots z).length = z.length := by unfold rots; rw [List.length_map, rg_len]
    omega
  rw [hx, R.bind_ok, alikeR_of (adat_L (k := 6) (fun a _ => rfl) hs), R.bind_ok]
  simp only [Bool.not_true, Bool.false_eq_true, if_false]
  rw [gens_ok h, R.bind_ok, alikeR_of (adat_L (k := 6) (fun a _ => adat_I a) (by
    have := List.length_filter_le (good z) (rg 1 ((z.length : Int) - 1).toNat)
    rw [rg_len] at this
    omega)), R.bind_ok]
/-! the draws -/
structure LS (z : Str) (n : Int) : Prop where
  l : (z.length : Int) = n
  a : ∀ c ∈ z.cps.toList, c = 76 ∨ c = 115
theorem LS.wd {z : Str} {n : Int} (h : LS z n) (h1 : 1 ≤ n) (h2 : n ≤ 40) : Wd z := by
  have := h.l
  refine Wd.of ?_
  unfold wdB
  rw [len_cps, decide_eq_true (by omega), decide_eq_true (by omega)]
  simp only [Bool.and_self, Bool.true_and, List.all_eq_true]
  intro c hc
  rcases h.a c hc with rfl | rfl <;> rfl
theorem LS.rt {z : Str} {n x : Int} (h : LS z n) : LS (rot z x) n := by
  refine ⟨?_, fun c hc => ?_⟩
  · rw [← h.l, ← len_cps, ← len_cps]
    unfold rot
    rw [List.toList_toArray, List.length_append, List.length_drop, List.length_take]
    omega
  · unfold rot at hc
    rw [List.toList_toArray] at hc
    rcases List.mem_append.mp hc with hc | hc
    · exact h.a c (List.mem_of_mem_drop hc)
    · exact h.a c (List.mem_of_mem_take hc)
theorem LS.rev {z : Str} {n : Int} (h : LS z n) : LS (revStr z) n := by
  refine ⟨by rw [revStr_len]; exact h.l, fun c hc => ?_⟩
  unfold revStr at hc
  rw [List.toList_toArray, List.mem_reverse] at hc
  exact h.a c hc
theorem join_LS {l : List Str} (hl : l.length ≤ 100) (h : ∀ w ∈ l, w = sgL ∨ w = sgS) : ∃ z, joinR (PySem.Str.ofString "") (eL eS l) = .ok z ∧ LS z l.length := by
  have e : (Txt.join (PySem.Str.ofString "") l).cps.toList = l.map fun w => if w = sgL then 76 else 115 := join_cps (by
    rw [List.map_map]
    refine List.map_congr_left fun w hw => ?_
    rcases h w hw with rfl | rfl <;> decide)
  refine ⟨_, joinR_ok (fun w hw => ?_) hl, ?_, fun c hc => ?_⟩
  · rcases h w hw with rfl | rfl <;> decide
  · rw [← len_cps, e, List.length_map]
  · rw [e] at hc
    obtain ⟨w, _, rfl⟩ := List.mem_map.mp hc
    by_cases c : w = sgL
    · rw [if_pos c]; exact .inl rfl
    · rw [if_neg c]; exact .inr rfl
theorem even_LS {l m : Int} (l0 : 0 ≤ l) (m0 : 0 ≤ m) (h1 : 1 ≤ l + m) (h2 : l + m ≤ 40) : ∃ w, N.words_even_word l m = .ok w ∧ LS w (l + m) := by
  obtain ⟨w, e, hw⟩ := even_word_ok l0 m0 h1 h2
  refine ⟨w, e, ?_, sig_map hw⟩
  rw [← len_cps, hw, List.length_map, rg_len]
  omega
theorem plain (ns : List Int) : R.All (fun b => b = true) (N.law ns) := by
  show R.All _ (((N._law_taken (20 : Int)).noX).bind fun d => ((.ok ((1 : Int) + d) : R Int)).bind fun many => (rgR (0 : Int) many).bind fun r => (cmpR r (fun _ => .ok true) fun (at1 : Int) => ((N._law_pick [(PySem.Str.ofString "L"), (PySem.Str.ofString "s")]).noX).bind fun c => .ok c).bind fun l => (joinR (PySem.Str.ofString "") ((eL eS) l)).bind fun word1 => ((N._law_taken (2 : Int)).noX).bind fun d2 => (if (decide (d2 = (0 : Int))) = true then ((N._law_taken (many + (1 : Int))).noX).bind fun large => (N.words_even_word large (many - large)).bind fun word2 => ((N._law_taken many).noX).bind fun spot => (slS word2 (some spot) none).bind fun s2 => (slS word2 none (some spot)).bind fun s3 => (catS s2 s3).bind fun word3 => .ok word3 else .ok word1 : R Str).bind fun st1 => ((N._law_taken (4 : Int)).noX).bind fun d5 => (if (decide (d5 = (0 : Int))) = true then (revSR st1 (-(1 : Int))).bind fun word4 => .ok word4 else .ok st1 : R Str).bind fun st2 => tail many st2)
  refine R.All.bind (R.All_noX (All_taken (by decide) (by decide) fun d d0 d1 => ?_))
  rw [R.bind_ok, rgR_0 (by omega) (by omega), R.bind_ok, R.All_bind]
  refine cmp_all (fun w : Str => w = sgL ∨ w = sgS) (by rw [rg_len]; omega) (fun i _ => ?_) fun l hl hq => ?_
  · rw [R.All_bind, R.All_nx]
    refine pick_all (by decide) (by decide) fun w hw => ?_
    simp only [List.mem_cons, List.not_mem_nil, or_false] at hw
    exact hw
  rw [rg_len] at hl
  obtain ⟨z0, e0, s0⟩ := join_LS (by omega) hq
  rw [e0, R.bind_ok]
  have s0 : LS z0 (1 + d) := ⟨by rw [s0.l]; omega, s0.a⟩
  refine R.All.bind (R.All_noX (All_taken (by decide) (by decide) fun d2 d20 d21 => ?_))
  have fin : ∀ z, LS z (1 + d) → R.All (fun b => b = true) (tail (1 + d) z) := fun z hz => by
    rw [← hz.l, tail_ok (hz.wd (by omega) (by omega))]
    exact rfl
  have rev : ∀ z, LS z (1 + d) → R.All (fun b => b = true) (((N._law_taken (4 : Int)).noX).bind fun d5 => (if (decide (d5 = (0 : Int))) = true then (revSR z (-(1 : Int))).bind fun word4 => .ok word4 else .ok z : R Str).bind fun st2 => tail (1 + d) st2) := fun z hz => by
    have := hz.l
    refine R.All.bind (R.All_noX (All_taken (by decide) (by decide) fun d5 _ _ => ?_))
    by_cases c : d5 = 0
    · rw [if_pos (decide_eq_true c), revSR_ok (by omega), R.bind_ok, R.bind_ok]
      exact fin _ hz.rev
    · rw [if_neg (by simpa using c), R.bind_ok]
      exact fin _ hz
  by_cases c : d2 = 0
  · rw [if_pos (decide_eq_true c), R.All_bind]
    refine R.All.bind (R.All_noX (All_taken (by omega) (by omega) fun g g0 g1 => ?_))
    obtain ⟨w, ew, sw⟩ := even_LS (l := g) (m := (1 + d) - g) (by omega) (by omega) (by omega) (by omega)
    have sw : LS w (1 + d) := ⟨by rw [sw.l]; omega, sw.a⟩
    have lw := sw.l
    rw [ew, R.bind_ok]
    refine R.All.bind (R.All_noX (All_taken (by omega) (by omega) fun sp sp0 sp1 => ?_))
    rw [rot_ok (by omega) sp0 (by omega)]
    exact rev _ (sw.rt (x := sp))
  · rw [if_neg (by simpa using c), R.bind_ok]
    exact rev _ s0
theorem law_true : ∀ ns : List Int, ns.length ≤ 63 → lw.F_law [.sl (ns.map T.int)] = .ok (.bl true) [] := fun ns _ => by
  obtain ⟨v, h1, h2⟩ := (n_N_law ns).ok.all (plain ns)
  have h1 : v = true := h1
  subst h1
  exact h2
end Law

set_option maxHeartbeats 4000000
namespace Law
open PySem PySem.Spec L2 FL TW
def topS (i : Nat) : Stmt := PySem.Challenge.pw_temperworks_k55_whole_words.main.body.getD i (.Pass ⟨0, 0, 0, 0⟩)
def initS (i : Nat) : Stmt := match topS i with
  | .ClassDef _ _ _ b .. => b.getD 0 (.Pass ⟨0, 0, 0, 0⟩)
  | s => s

structure Top (K : PySem.W.Frag) (mg : Str → Option Value) : Prop where
  b_abs : mg "abs" = none
  b_all : mg "all" = none
  b_bool : mg "bool" = none
  b_enumerate : mg "enumerate" = none
  b_int : mg "int" = none
  b_isinstance : mg "isinstance" = none
  b_len : mg "len" = none
  b_list : mg "list" = none
  b_max : mg "max" = none
  b_min : mg "min" = none
  b_range : mg "range" = none
  b_set : mg "set" = none
  b_sorted : mg "sorted" = none
  b_str : mg "str" = none
  b_tuple : mg "tuple" = none
  c_MOST_LETTERS : ∃ t, mg "MOST_LETTERS" = some (.int (40) t)
  f_is_int : ∃ f fd, Fun K "is_int" "is_int" (topS 5) f fd ∧ mg "is_int" = some (.ref f)
  f_need_word : ∃ f fd, Fun K "need_word" "need_word" (topS 11) f fd ∧ mg "need_word" = some (.ref f)
  f_counts_of : ∃ f fd, Fun K "counts_of" "counts_of" (topS 12) f fd ∧ mg "counts_of" = some (.ref f)
  f__law_taken : ∃ f fd, Fun K "_law_taken" "_law_taken" (topS 18) f fd ∧ mg "_law_taken" = some (.ref f)
  f_is_in : ∃ f fd, Fun K "is_in" "is_in" (topS 6) f fd ∧ mg "is_in" = some (.ref f)
  f_is_balanced : ∃ f fd, Fun K "is_balanced" "is_balanced" (topS 13) f fd ∧ mg "is_balanced" = some (.ref f)
  f_word_clash : ∃ f fd, Fun K "word_clash" "word_clash" (topS 14) f fd ∧ mg "word_clash" = some (.ref f)
  f_modes : ∃ f fd, Fun K "modes" "modes" (topS 15) f fd ∧ mg "modes" = some (.ref f)
  f_generator_sizes : ∃ f fd, Fun K "generator_sizes" "generator_sizes" (topS 16) f fd ∧ mg "generator_sizes" = some (.ref f)
  f__law_pick : ∃ f fd, Fun K "_law_pick" "_law_pick" (topS 19) f fd ∧ mg "_law_pick" = some (.ref f)
  f_need_letters : ∃ f fd, Fun K "need_letters" "need_letters" (topS 9) f fd ∧ mg "need_letters" = some (.ref f)
  f_even_word : ∃ f fd, Fun K "even_word" "even_word" (topS 10) f fd ∧ mg "even_word" = some (.ref f)
  f__law_alike : ∃ f fd, Fun K "_law_alike" "_law_alike" (topS 20) f fd ∧ mg "_law_alike" = some (.ref f)
  f_law : ∃ f fd, Fun K "law" "law" (topS 21) f fd ∧ mg "law" = some (.ref f)
theorem sc_is_int : FnScope ["value"] ["value"] (defScope (topS 5)) := ⟨rfl, rfl, rfl, by decide +kernel, rfl, by decide +kernel, by decide +kernel⟩
theorem k_is_int {P : Program} {w : World} {K : PySem.W.Frag} {mg : Str → Option Value} {base : Heap} (G : Top K mg) : Known P w K mg base 1 "is_int" limits.F_is_int := by
  obtain ⟨f, fd, F, hm⟩ := G.f_is_int
  have b_bool := G.b_bool
  have b_int := G.b_int
  have b_isinstance := G.b_isinstance
  refine ⟨f, fd, ["value"], hm, F.kp, F.binds (fun _ _ _ _ _ _ us hl => match us, hl with | [_], _ => rfl), fn_ok F sc_is_int fun cdv A outer s H E hr => ?_⟩
  have SC := sc_is_int
  exact fs_one (fs_ret (fe_and (fe_isi .int (by rfl) b_isinstance bt_isinstance (by rfl) b_int bt_int (fe_varA (i := 0))) (fe_one (fe_not (fe_isi .bl (by rfl) b_isinstance bt_isinstance (by rfl) b_bool bt_bool (fe_varA (i := 0)))))))
theorem sc_need_word : FnScope ["value", "sign"] ["value"] (defScope (topS 11)) := ⟨rfl, rfl, rfl, by decide +kernel, rfl, by decide +kernel, by decide +kernel⟩
theorem k_need_word {P : Program} {w : World} {K : PySem.W.Frag} {mg : Str → Option Value} {base : Heap} (G : Top K mg) : Known P w K mg base 1 "need_word" words.F_need_word := by
  obtain ⟨f, fd, F, hm⟩ := G.f_need_word
  obtain ⟨t_MOST_LETTERS, c_MOST_LETTERS⟩ := G.c_MOST_LETTERS
  have b_all := G.b_all
  have b_isinstance := G.b_isinstance
  have b_len := G.b_len
  have b_str := G.b_str
  refine ⟨f, fd, ["value"], hm, F.kp, F.binds (fun _ _ _ _ _ _ us hl => match us, hl with | [_], _ => rfl), fn_ok F sc_need_word fun cdv A outer s H E hr => ?_⟩
  have SC := sc_need_word
  exact fs_one (fs_if (ft_w (fw_or (ft_not (ft_val (fe_isi .str (by rfl) b_isinstance bt_isinstance (by rfl) b_str bt_str (fe_varA (i := 0))))) (fw_or (ft_not (ft_chain op_le ot_le op_le ot_le (fe_int) (fe_lenA (i := 0) (by rfl) b_len bt_len) (fe_gint (by rfl) c_MOST_LETTERS))) (fw_or1 (ft_not (ft_val (fe_callB (cr_all rfl) ct_all (by rfl) b_all bt_all (fa_cons (fe_new (fo_lc (own := [("sign", 1)]) rfl SC.nd (fi_seqA (fe_varA (i := 0))) (blkOk_by (by kernel_rfl)) (fun _ _ _ _ _ => fg_name SC.nd rfl (Or.inl rfl)) (by decide) (fun _ _ _ _ _ => fts_nil) (fun _ _ _ _ _ => fe_cmp (op_inA (units65 hr)) ot_in (fe_varA (i := 1)) (fe_str)))) (fa_nil))))))))) (fss_never) (fs_nil))
theorem sc_counts_of : FnScope ["word", "size", "double", "at"] ["word", "size"] (defScope (topS 12)) := ⟨rfl, rfl, rfl, by decide +kernel, rfl, by decide +kernel, by decide +kernel⟩
theorem k_counts_of {P : Program} {w : World} {K : PySem.W.Frag} {mg : Str → Option Value} {base : Heap} (G : Top K mg) : Known P w K mg base 1 "counts_of" words.F_counts_of := by
  obtain ⟨f, fd, F, hm⟩ := G.f_counts_of
  have b_len := G.b_len
  have b_range := G.b_range
  refine ⟨f, fd, ["word", "size"], hm, F.kp, F.binds (fun _ _ _ _ _ _ us hl => match us, hl with | [_, _], _ => rfl), fn_ok F sc_counts_of fun cdv A outer s H E hr => ?_⟩
  have SC := sc_counts_of
  exact fs_cons (fs_set SC.nd rfl (Or.inr rfl) (fx_t (fe_bin op_addT ot_add (fe_varA (i := 0)) (fe_varA (i := 0)))))
    (fs_one (fs_ret (fe_new (fo_lc (own := [("at", 3)]) rfl SC.nd (fi_range1 (by rfl) b_range (fa_cons (fe_lenA (i := 0) (by rfl) b_len bt_len) (fa_nil))) (blkOk_by (by kernel_rfl)) (fun _ _ _ _ _ => fg_name SC.nd rfl (Or.inl rfl)) (by decide) (fun _ _ _ _ _ => fts_nil) (fun _ _ _ _ _ => fe_scount (fe_slice (fe_varA (i := 2)) (fpo_some (fe_varA (i := 3))) (fpo_some (fe_bin op_addT ot_add (fe_varA (i := 3)) (fe_varA (i := 1))))) (fe_str))))))
theorem sc__law_taken : FnScope ["_law_row", "_law_many", "_law_cell", "_law_found"] ["_law_row", "_law_many"] (defScope (topS 18)) := ⟨rfl, rfl, rfl, by decide +kernel, rfl, by decide +kernel, by decide +kernel⟩
theorem k__law_taken {P : Program} {w : World} {K : PySem.W.Frag} {mg : Str → Option Value} {base : Heap} (G : Top K mg) : KnownM P w K mg base 1 "_law_taken" lw.F__law_taken := by
  obtain ⟨f, fd, F, hm⟩ := G.f__law_taken
  have b_int := G.b_int
  have b_len := G.b_len
  refine ⟨f, fd, ["_law_row", "_law_many"], hm, F.kp, F.binds (fun _ _ _ _ _ _ us hl => match us, hl with | [_, _], _ => rfl), fm_ok F sc__law_taken fun cdv A outer s H E hr => ?_⟩
  have SC := sc__law_taken
  exact fs_cons (fs_if (ft_cmp op_gt ot_gt (fe_ixA (i := 0) rfl (fe_int)) (fe_int)) (fs_cons (fs_set SC.nd rfl (Or.inl rfl) (fx_t (fe_bin op_modN ot_mod (fe_callTy call_int1 ct_intA (by rfl) b_int bt_int (fa_cons (fe_ixA (i := 0) rfl (fe_int)) (fa_nil))) (fe_varA (i := 1)))))
    (fs_cons (fs_setI (i := 0) rfl (by first | exact Or.inl rfl | exact Or.inr (Or.inl rfl) | exact Or.inr (Or.inr rfl)) (fe_int) (fe_bin op_divA ot_divA (fe_ixA (i := 0) rfl (fe_int)) (fe_varA (i := 1))))
    (fs_one (fs_ret (fe_varA (i := 3)))))) (fs_nil))
    (fs_cons (fs_setI (i := 0) rfl (by first | exact Or.inl rfl | exact Or.inr (Or.inl rfl) | exact Or.inr (Or.inr rfl)) (fe_int) (fe_bin op_addT ot_add (fe_ixA (i := 0) rfl (fe_int)) (fe_int)))
    (fs_cons (fs_if (ft_cmp op_gt ot_gt (fe_ixA (i := 0) rfl (fe_int)) (fe_callB call_len ct_len (by rfl) b_len bt_len (fa_cons (fe_ixA (i := 0) rfl (fe_int)) (fa_nil)))) (fs_cons (fs_setI (i := 0) rfl (by first | exact Or.inl rfl | exact Or.inr (Or.inl rfl) | exact Or.inr (Or.inr rfl)) (fe_int) (fe_bin op_modN ot_mod (fe_callTy call_int1 ct_intA (by rfl) b_int bt_int (fa_cons (fe_bin op_addT ot_add (fe_bin op_mulA ot_mulA (fe_ixA (i := 0) rfl (fe_int)) (fe_int)) (fe_int)) (fa_nil))) (fe_int)))
    (fs_one (fs_ret (fe_bin op_modN ot_mod (fe_callTy call_int1 ct_intA (by rfl) b_int bt_int (fa_cons (fe_bin op_divA ot_divA (fe_ixA (i := 0) rfl (fe_int)) (fe_int)) (fa_nil))) (fe_varA (i := 1)))))) (fs_nil))
    (fs_cons (fs_set SC.nd rfl (Or.inl rfl) (fx_t (fe_ix (fe_ixA (i := 0) rfl (fe_int)) (fe_bin op_subA ot_subA (fe_ixA (i := 0) rfl (fe_int)) (fe_int)))))
    (fs_cons (fs_setI (i := 0) rfl (by first | exact Or.inl rfl | exact Or.inr (Or.inl rfl) | exact Or.inr (Or.inr rfl)) (fe_int) (fe_bin op_modN ot_mod (fe_callTy call_int1 ct_intA (by rfl) b_int bt_int (fa_cons (fe_bin op_addT ot_add (fe_bin op_addT ot_add (fe_bin op_mulA ot_mulA (fe_ixA (i := 0) rfl (fe_int)) (fe_int)) (fe_varA (i := 2))) (fe_int)) (fa_nil))) (fe_int)))
    (fs_cons (fs_if (ft_cmp op_ge ot_ge (fe_varA (i := 2)) (fe_bin op_pow ot_pow (fe_int) (fe_int))) (fs_one (fs_setI (i := 0) rfl (by first | exact Or.inl rfl | exact Or.inr (Or.inl rfl) | exact Or.inr (Or.inr rfl)) (fe_int) (fe_bin op_divA ot_divA (fe_varA (i := 2)) (fe_varA (i := 1))))) (fs_nil))
    (fs_one (fs_ret (fe_bin op_modN ot_mod (fe_callTy call_int1 ct_intA (by rfl) b_int bt_int (fa_cons (fe_varA (i := 2)) (fa_nil))) (fe_varA (i := 1))))))))))
theorem sc_is_in : FnScope ["value", "least", "most"] ["value", "least", "most"] (defScope (topS 6)) := ⟨rfl, rfl, rfl, by decide +kernel, rfl, by decide +kernel, by decide +kernel⟩
theorem k_is_in {P : Program} {w : World} {K : PySem.W.Frag} {mg : Str → Option Value} {base : Heap} (G : Top K mg) : Known P w K mg base 2 "is_in" limits.F_is_in := by
  obtain ⟨f, fd, F, hm⟩ := G.f_is_in
  have k_is_int := (k_is_int (P := P) (w := w) (base := base) G).mono (show 1 ≤ 1 by decide)
  refine ⟨f, fd, ["value", "least", "most"], hm, F.kp, F.binds (fun _ _ _ _ _ _ us hl => match us, hl with | [_, _, _], _ => rfl), fn_ok F sc_is_in fun cdv A outer s H E hr => ?_⟩
  have SC := sc_is_in
  exact fs_one (fs_ret (fe_and (fe_call k_is_int hr (by rfl) (passes_call (takes_of rfl rfl rfl rfl) fun _ _ _ _ h => h) (fa_cons (fe_varA (i := 0)) (fa_nil))) (fe_one (fe_chain op_le ot_le op_le ot_le (fe_varA (i := 1)) (fe_varA (i := 0)) (fe_varA (i := 2))))))
theorem sc_is_balanced : FnScope ["word", "told", "size"] ["word"] (defScope (topS 13)) := ⟨rfl, rfl, rfl, by decide +kernel, rfl, by decide +kernel, by decide +kernel⟩
theorem k_is_balanced {P : Program} {w : World} {K : PySem.W.Frag} {mg : Str → Option Value} {base : Heap} (G : Top K mg) : Known P w K mg base 2 "is_balanced" words.F_is_balanced := by
  obtain ⟨f, fd, F, hm⟩ := G.f_is_balanced
  have b_all := G.b_all
  have b_len := G.b_len
  have b_max := G.b_max
  have b_min := G.b_min
  have b_range := G.b_range
  have k_counts_of := (k_counts_of (P := P) (w := w) (base := base) G).mono (show 1 ≤ 1 by decide)
  have k_need_word := (k_need_word (P := P) (w := w) (base := base) G).mono (show 1 ≤ 1 by decide)
  refine ⟨f, fd, ["word"], hm, F.kp, F.binds (fun _ _ _ _ _ _ us hl => match us, hl with | [_], _ => rfl), fn_ok F sc_is_balanced fun cdv A outer s H E hr => ?_⟩
  have SC := sc_is_balanced
  exact fs_cons (fs_expr (fe_call k_need_word hr (by rfl) (passes_call (takes_of rfl rfl rfl rfl) fun _ _ _ _ h => h) (fa_cons (fe_varA (i := 0)) (fa_nil))))
    (fs_one (fs_ret (fe_callB (cr_all rfl) ct_all (by rfl) b_all bt_all (fa_cons (fe_new (fo_lc (own := [("told", 1)]) rfl SC.nd (fi_seqA (fe_new (fo_lc (own := [("size", 2)]) rfl SC.nd (fi_range2 (by rfl) b_range (fa_cons (fe_int) (fa_cons (fe_lenA (i := 0) (by rfl) b_len bt_len) (fa_nil)))) (blkOk_by (by kernel_rfl)) (fun _ _ _ _ _ => fg_name SC.nd rfl (Or.inl rfl)) (by decide) (fun _ _ _ _ _ => fts_nil) (fun _ _ _ _ _ => fe_call k_counts_of hr (by rfl) passL (fa_cons (fe_varA (i := 0)) (fa_cons (fe_varA (i := 2)) (fa_nil))))))) (blkOk_by (by kernel_rfl)) (fun _ _ _ _ _ => fg_name SC.nd rfl (Or.inl rfl)) (by decide) (fun _ _ _ _ _ => fts_nil) (fun _ _ _ _ _ => fe_cmp op_lt ot_lt (fe_bin op_subA ot_subA (fe_callB (cr_maxD rfl (units66 hr)) ct_mm (by rfl) b_max bt_max (fa_cons (fe_varA (i := 1)) (fa_nil))) (fe_callB (cr_minD rfl (units66 hr)) ct_mm (by rfl) b_min bt_min (fa_cons (fe_varA (i := 1)) (fa_nil)))) (fe_int)))) (fa_nil)))))
theorem sc_word_clash : FnScope ["word", "size", "told", "at", "one", "more"] ["word"] (defScope (topS 14)) := ⟨rfl, rfl, rfl, by decide +kernel, rfl, by decide +kernel, by decide +kernel⟩
theorem k_word_clash {P : Program} {w : World} {K : PySem.W.Frag} {mg : Str → Option Value} {base : Heap} (G : Top K mg) : Known P w K mg base 2 "word_clash" words.F_word_clash := by
  obtain ⟨f, fd, F, hm⟩ := G.f_word_clash
  have b_abs := G.b_abs
  have b_enumerate := G.b_enumerate
  have b_len := G.b_len
  have b_range := G.b_range
  have k_counts_of := (k_counts_of (P := P) (w := w) (base := base) G).mono (show 1 ≤ 1 by decide)
  have k_need_word := (k_need_word (P := P) (w := w) (base := base) G).mono (show 1 ≤ 1 by decide)
  refine ⟨f, fd, ["word"], hm, F.kp, F.binds (fun _ _ _ _ _ _ us hl => match us, hl with | [_], _ => rfl), fn_ok F sc_word_clash fun cdv A outer s H E hr => ?_⟩
  have SC := sc_word_clash
  exact fs_cons (fs_expr (fe_call k_need_word hr (by rfl) (passes_call (takes_of rfl rfl rfl rfl) fun _ _ _ _ h => h) (fa_cons (fe_varA (i := 0)) (fa_nil))))
    (fs_cons (fs_for (passes_of rfl) rfl (fi_range2 (by rfl) b_range (fa_cons (fe_int) (fa_cons (fe_lenA (i := 0) (by rfl) b_len bt_len) (fa_nil)))) (fg_name SC.nd rfl (Or.inl rfl)) (fs_cons (fs_set SC.nd rfl (Or.inl rfl) (fx_t (fe_call k_counts_of hr (by rfl) (passes_call (takes_of rfl rfl rfl rfl) fun _ _ _ _ h => h) (fa_cons (fe_varA (i := 0)) (fa_cons (fe_varA (i := 1)) (fa_nil))))))
    (fs_one (fs_for (passes_of rfl) rfl (fi_enum (by rfl) b_enumerate (fa_cons (fe_varA (i := 2)) (fa_nil))) (fg_tup rfl (fgs_cons (fg_name SC.nd rfl (Or.inl rfl)) (fgs_cons (fg_name SC.nd rfl (Or.inl rfl)) (fgs_nil))) rfl rfl (gs_len (gs_len gs_len0))) (fs_one (fs_for (passes_of rfl) rfl (fi_range2 (by rfl) b_range (fa_cons (fe_bin op_addT ot_add (fe_varA (i := 3)) (fe_int)) (fa_cons (fe_lenA (i := 2) (by rfl) b_len bt_len) (fa_nil)))) (fg_name SC.nd rfl (Or.inl rfl)) (fs_one (fs_if (ft_cmp op_gt ot_gt (fe_callB call_abs ct_abs (by rfl) b_abs bt_abs (fa_cons (fe_bin op_subA ot_subA (fe_varA (i := 4)) (fe_ixA (i := 2) rfl (fe_varA (i := 5)))) (fa_nil))) (fe_int)) (fs_one (fs_ret (fe_tup (fa_cons (fe_varA (i := 1)) (fa_cons (fe_varA (i := 3)) (fa_cons (fe_varA (i := 5)) (fa_nil))))))) (fs_nil)))))))))
    (fs_one (fs_ret (fe_non))))
theorem sc_modes : FnScope ["word", "at"] ["word"] (defScope (topS 15)) := ⟨rfl, rfl, rfl, by decide +kernel, rfl, by decide +kernel, by decide +kernel⟩
theorem k_modes {P : Program} {w : World} {K : PySem.W.Frag} {mg : Str → Option Value} {base : Heap} (G : Top K mg) : Known P w K mg base 2 "modes" words.F_modes := by
  obtain ⟨f, fd, F, hm⟩ := G.f_modes
  have b_len := G.b_len
  have b_range := G.b_range
  have b_sorted := G.b_sorted
  have k_need_word := (k_need_word (P := P) (w := w) (base := base) G).mono (show 1 ≤ 1 by decide)
  refine ⟨f, fd, ["word"], hm, F.kp, F.binds (fun _ _ _ _ _ _ us hl => match us, hl with | [_], _ => rfl), fn_ok F sc_modes fun cdv A outer s H E hr => ?_⟩
  have SC := sc_modes
  exact fs_cons (fs_expr (fe_call k_need_word hr (by rfl) (passes_call (takes_of rfl rfl rfl rfl) fun _ _ _ _ h => h) (fa_cons (fe_varA (i := 0)) (fa_nil))))
    (fs_one (fs_ret (fe_new (fo_sortedD rfl (units66 hr) (by rfl) b_sorted bt_sorted (fa_cons (fe_new (fo_dc (own := [("at", 1)]) rfl SC.nd (fi_range1 (by rfl) b_range (fa_cons (fe_lenA (i := 0) (by rfl) b_len bt_len) (fa_nil))) (blkOk_by (by kernel_rfl)) (fun _ _ _ _ _ => fg_name SC.nd rfl (Or.inl rfl)) (by decide) (fun _ _ _ _ _ => fts_nil) (fun _ _ _ _ _ => fe_bin op_addT ot_add (fe_slice (fe_varA (i := 0)) (fpo_some (fe_varA (i := 1))) (fpo_none)) (fe_slice (fe_varA (i := 0)) (fpo_none) (fpo_some (fe_varA (i := 1))))) (fun _ _ _ _ _ => fe_bl))) (fa_nil))))))
theorem sc_generator_sizes : FnScope ["word", "found", "size", "told"] ["word"] (defScope (topS 16)) := ⟨rfl, rfl, rfl, by decide +kernel, rfl, by decide +kernel, by decide +kernel⟩
theorem k_generator_sizes {P : Program} {w : World} {K : PySem.W.Frag} {mg : Str → Option Value} {base : Heap} (G : Top K mg) : Known P w K mg base 2 "generator_sizes" words.F_generator_sizes := by
  obtain ⟨f, fd, F, hm⟩ := G.f_generator_sizes
  have b_len := G.b_len
  have b_max := G.b_max
  have b_min := G.b_min
  have b_range := G.b_range
  have b_set := G.b_set
  have k_counts_of := (k_counts_of (P := P) (w := w) (base := base) G).mono (show 1 ≤ 1 by decide)
  have k_need_word := (k_need_word (P := P) (w := w) (base := base) G).mono (show 1 ≤ 1 by decide)
  refine ⟨f, fd, ["word"], hm, F.kp, F.binds (fun _ _ _ _ _ _ us hl => match us, hl with | [_], _ => rfl), fn_ok F sc_generator_sizes fun cdv A outer s H E hr => ?_⟩
  have SC := sc_generator_sizes
  exact fs_cons (fs_expr (fe_call k_need_word hr (by rfl) (passes_call (takes_of rfl rfl rfl rfl) fun _ _ _ _ h => h) (fa_cons (fe_varA (i := 0)) (fa_nil))))
    (fs_cons (fs_set SC.nd rfl (Or.inl rfl) (fx_o (fo_lst (fa_nil))))
    (fs_cons (fs_for (passes_of rfl) rfl (fi_range2 (by rfl) b_range (fa_cons (fe_int) (fa_cons (fe_lenA (i := 0) (by rfl) b_len bt_len) (fa_nil)))) (fg_name SC.nd rfl (Or.inl rfl)) (fs_cons (fs_set SC.nd rfl (Or.inl rfl) (fx_t (fe_call k_counts_of hr (by rfl) (passes_call (takes_of rfl rfl rfl rfl) fun _ _ _ _ h => h) (fa_cons (fe_varA (i := 0)) (fa_cons (fe_varA (i := 2)) (fa_nil))))))
    (fs_one (fs_if (ft_w (fw_and (ft_cmp (op_eqT hr.units) ot_eq (fe_lensetX (units64 hr) (by rfl) b_len (by rfl) b_set (fe_varA (i := 3))) (fe_int)) (fw_and1 (ft_cmp (op_inA (units65 hr)) ot_in (fe_int) (fe_tup (fa_cons (fe_lcount (fe_varA (i := 3)) (fe_callB (cr_minD rfl (units66 hr)) ct_mm (by rfl) b_min bt_min (fa_cons (fe_varA (i := 3)) (fa_nil)))) (fa_cons (fe_lcount (fe_varA (i := 3)) (fe_callB (cr_maxD rfl (units66 hr)) ct_mm (by rfl) b_max bt_max (fa_cons (fe_varA (i := 3)) (fa_nil)))) (fa_nil)))))))) (fs_one (fs_expr (fe_append (i := 1) rfl (fe_varA (i := 2))))) (fs_nil)))))
    (fs_one (fs_ret (fe_varA (i := 1))))))
theorem sc__law_pick : FnScope ["_law_row", "_law_things"] ["_law_row", "_law_things"] (defScope (topS 19)) := ⟨rfl, rfl, rfl, by decide +kernel, rfl, by decide +kernel, by decide +kernel⟩
theorem k__law_pick {P : Program} {w : World} {K : PySem.W.Frag} {mg : Str → Option Value} {base : Heap} (G : Top K mg) : KnownM P w K mg base 2 "_law_pick" lw.F__law_pick := by
  obtain ⟨f, fd, F, hm⟩ := G.f__law_pick
  have b_len := G.b_len
  have k__law_taken := (k__law_taken (P := P) (w := w) (base := base) G).mono (show 1 ≤ 1 by decide)
  refine ⟨f, fd, ["_law_row", "_law_things"], hm, F.kp, F.binds (fun _ _ _ _ _ _ us hl => match us, hl with | [_, _], _ => rfl), fm_ok F sc__law_pick fun cdv A outer s H E hr => ?_⟩
  have SC := sc__law_pick
  exact fs_one (fs_ret (fe_ixA (i := 1) rfl (fe_callM (i := 0) k__law_taken hr (by rfl) passL rfl (fa_cons (fe_lenA (i := 1) (by rfl) b_len bt_len) (fa_nil)))))
theorem sc_need_letters : FnScope ["large", "small"] ["large", "small"] (defScope (topS 9)) := ⟨rfl, rfl, rfl, by decide +kernel, rfl, by decide +kernel, by decide +kernel⟩
theorem k_need_letters {P : Program} {w : World} {K : PySem.W.Frag} {mg : Str → Option Value} {base : Heap} (G : Top K mg) : Known P w K mg base 3 "need_letters" words.F_need_letters := by
  obtain ⟨f, fd, F, hm⟩ := G.f_need_letters
  obtain ⟨t_MOST_LETTERS, c_MOST_LETTERS⟩ := G.c_MOST_LETTERS
  have k_is_in := (k_is_in (P := P) (w := w) (base := base) G).mono (show 2 ≤ 2 by decide)
  refine ⟨f, fd, ["large", "small"], hm, F.kp, F.binds (fun _ _ _ _ _ _ us hl => match us, hl with | [_, _], _ => rfl), fn_ok F sc_need_letters fun cdv A outer s H E hr => ?_⟩
  have SC := sc_need_letters
  exact fs_cons (fs_if (ft_w (fw_or (ft_not (ft_val (fe_call k_is_in hr (by rfl) (passes_call (takes_of rfl rfl rfl rfl) fun _ _ _ _ h => h) (fa_cons (fe_varA (i := 0)) (fa_cons (fe_int) (fa_cons (fe_gint (by rfl) c_MOST_LETTERS) (fa_nil))))))) (fw_or1 (ft_not (ft_val (fe_call k_is_in hr (by rfl) (passes_call (takes_of rfl rfl rfl rfl) fun _ _ _ _ h => h) (fa_cons (fe_varA (i := 1)) (fa_cons (fe_int) (fa_cons (fe_gint (by rfl) c_MOST_LETTERS) (fa_nil)))))))))) (fss_never) (fs_nil))
    (fs_one (fs_if (ft_not (ft_chain op_le ot_le op_le ot_le (fe_int) (fe_bin op_addT ot_add (fe_varA (i := 0)) (fe_varA (i := 1))) (fe_gint (by rfl) c_MOST_LETTERS))) (fss_never) (fs_nil)))
theorem sc_even_word : FnScope ["large", "small", "many", "told", "at", "letter"] ["large", "small"] (defScope (topS 10)) := ⟨rfl, rfl, rfl, by decide +kernel, rfl, by decide +kernel, by decide +kernel⟩
theorem k_even_word {P : Program} {w : World} {K : PySem.W.Frag} {mg : Str → Option Value} {base : Heap} (G : Top K mg) : Known P w K mg base 4 "even_word" words.F_even_word := by
  obtain ⟨f, fd, F, hm⟩ := G.f_even_word
  have b_range := G.b_range
  have k_need_letters := (k_need_letters (P := P) (w := w) (base := base) G).mono (show 3 ≤ 3 by decide)
  refine ⟨f, fd, ["large", "small"], hm, F.kp, F.binds (fun _ _ _ _ _ _ us hl => match us, hl with | [_, _], _ => rfl), fn_ok F sc_even_word fun cdv A outer s H E hr => ?_⟩
  have SC := sc_even_word
  exact fs_cons (fs_expr (fe_call k_need_letters hr (by rfl) (passes_call (takes_of rfl rfl rfl rfl) fun _ _ _ _ h => h) (fa_cons (fe_varA (i := 0)) (fa_cons (fe_varA (i := 1)) (fa_nil)))))
    (fs_cons (fs_set SC.nd rfl (Or.inr rfl) (fx_t (fe_bin op_addT ot_add (fe_varA (i := 0)) (fe_varA (i := 1)))))
    (fs_cons (fs_setLcF (own := [("at", 4)]) rfl SC.nd rfl rfl (sw_true rfl rfl rfl (by decide +kernel)) (fi_range1 (by rfl) b_range (fa_cons (fe_varA (i := 2)) (fa_nil))) (blkOk_by (by kernel_rfl)) (fun _ _ _ _ _ => fg_name SC.nd rfl (Or.inl rfl)) (by decide) (fun _ _ _ _ _ => fts_nil) (fun _ _ _ _ _ => fe_bin op_subA ot_subA (fe_neg (fe_bin op_divA ot_divA (fe_bin op_mulA ot_mulA (fe_neg (fe_varA (i := 0))) (fe_bin op_addT ot_add (fe_varA (i := 4)) (fe_int))) (fe_varA (i := 2)))) (fe_neg (fe_bin op_divA ot_divA (fe_bin op_mulA ot_mulA (fe_neg (fe_varA (i := 0))) (fe_varA (i := 4))) (fe_varA (i := 2))))))
    (fs_one (fs_ret (fe_sjoin (fe_str) (fe_new (fo_lc (own := [("letter", 5)]) rfl SC.nd (fi_seqA (fe_varA (i := 3))) (blkOk_by (by kernel_rfl)) (fun _ _ _ _ _ => fg_name SC.nd rfl (Or.inl rfl)) (by decide) (fun _ _ _ _ _ => fts_nil) (fun _ _ _ _ _ => fe_if (ft_cmp (op_eqT hr.units) ot_eq (fe_varA (i := 5)) (fe_int)) (fe_str) (fe_str)))))))))
theorem sc__law_alike : FnScope ["_law_found", "_law_due", "_law_k"] ["_law_found", "_law_due"] (defScope (topS 20)) := ⟨rfl, rfl, rfl, by decide +kernel, rfl, by decide +kernel, by decide +kernel⟩
theorem kk__law_alike {P : Program} {w : World} {K : PySem.W.Frag} {mg : Str → Option Value} {base : Heap} (G : Top K mg) : ∀ n : Nat, Known P w K mg base (1 + n) "_law_alike" (lw.F__law_alike n) := by
  obtain ⟨f, fd, F, hm⟩ := G.f__law_alike
  have b_bool := G.b_bool
  have b_int := G.b_int
  have b_isinstance := G.b_isinstance
  have b_len := G.b_len
  have b_list := G.b_list
  have b_range := G.b_range
  have b_str := G.b_str
  have b_tuple := G.b_tuple
  intro n
  induction n with
  | zero => exact ⟨f, fd, ["_law_found", "_law_due"], hm, F.kp, F.binds (fun _ _ _ _ _ _ us hl => match us, hl with | [_, _], _ => rfl), ⟨fun vs H Q E h => (bad_sp h).elim, fun A outer s H args us vs Q E _ _ _ _ h => (bad_sp h).elim⟩⟩
  | succ n ih =>
  have k__law_alike := ih
  refine ⟨f, fd, ["_law_found", "_law_due"], hm, F.kp, F.binds (fun _ _ _ _ _ _ us hl => match us, hl with | [_, _], _ => rfl), fn_ok F sc__law_alike fun cdv A outer s H E hr => ?_⟩
  have SC := sc__law_alike
  exact fs_cons (fs_if (ft_val (fe_isi2 .tup .lst (by rfl) b_isinstance bt_isinstance (by rfl) b_tuple bt_tuple (by rfl) b_list bt_list (fe_varA (i := 1)))) (fs_cons (fs_if (ft_w (fw_or (ft_not (ft_val (fe_isi2 .tup .lst (by rfl) b_isinstance bt_isinstance (by rfl) b_tuple bt_tuple (by rfl) b_list bt_list (fe_varA (i := 0))))) (fw_or1 (ft_cmp (op_neT hr.units) ot_ne (fe_isi .lst (by rfl) b_isinstance bt_isinstance (by rfl) b_list bt_list (fe_varA (i := 0))) (fe_isi .lst (by rfl) b_isinstance bt_isinstance (by rfl) b_list bt_list (fe_varA (i := 1))))))) (fs_one (fs_ret (fe_bl))) (fs_nil))
    (fs_cons (fs_if (ft_cmp (op_neT hr.units) ot_ne (fe_lenA (i := 0) (by rfl) b_len bt_len) (fe_lenA (i := 1) (by rfl) b_len bt_len)) (fs_one (fs_ret (fe_bl))) (fs_nil))
    (fs_one (fs_ret (fe_cmp (op_eqT hr.units) ot_eq (fe_new (fo_lc (own := [("_law_k", 2)]) rfl SC.nd (fi_range1 (by rfl) b_range (fa_cons (fe_lenA (i := 1) (by rfl) b_len bt_len) (fa_nil))) (blkOk_by (by kernel_rfl)) (fun _ _ _ _ _ => fg_name SC.nd rfl (Or.inl rfl)) (by decide) (fun _ _ _ _ _ => fts_one (ft_not (ft_val (fe_call k__law_alike hr (by rfl) passL (fa_cons (fe_ixA (i := 0) rfl (fe_varA (i := 2))) (fa_cons (fe_ixA (i := 1) rfl (fe_varA (i := 2))) (fa_nil))))))) (fun _ _ _ _ _ => fe_varA (i := 2)))) (fe_new (fo_lst (fa_nil)))))))) (fs_nil))
    (fs_cons (fs_if (ft_w (fw_or (ft_cmp op_isT ot_is (fe_varA (i := 1)) (fe_non)) (fw_or1 (ft_val (fe_isi .str (by rfl) b_isinstance bt_isinstance (by rfl) b_str bt_str (fe_varA (i := 1))))))) (fs_one (fs_ret (fe_and (fe_cmp (op_eqT hr.units) ot_eq (fe_varA (i := 0)) (fe_varA (i := 1))) (fe_one (fe_cmp (op_eqT hr.units) ot_eq (fe_isi .str (by rfl) b_isinstance bt_isinstance (by rfl) b_str bt_str (fe_varA (i := 0))) (fe_isi .str (by rfl) b_isinstance bt_isinstance (by rfl) b_str bt_str (fe_varA (i := 1)))))))) (fs_nil))
    (fs_one (fs_ret (fe_and (fe_isi .int (by rfl) b_isinstance bt_isinstance (by rfl) b_int bt_int (fe_varA (i := 0))) (fe_and (fe_cmp (op_eqT hr.units) ot_eq (fe_isi .bl (by rfl) b_isinstance bt_isinstance (by rfl) b_bool bt_bool (fe_varA (i := 0))) (fe_isi .bl (by rfl) b_isinstance bt_isinstance (by rfl) b_bool bt_bool (fe_varA (i := 1)))) (fe_one (fe_cmp (op_eqT hr.units) ot_eq (fe_varA (i := 0)) (fe_varA (i := 1)))))))))
theorem k__law_alike {P : Program} {w : World} {K : PySem.W.Frag} {mg : Str → Option Value} {base : Heap} (G : Top K mg) : Known P w K mg base 9 "_law_alike" (lw.F__law_alike 8) := kk__law_alike G 8
theorem sc_law : FnScope ["_law_script", "_law_row", "_law_many", "_law_word", "_law_size", "_law_large", "_law_spot", "_law_due", "_law_sizes", "_law_told", "_law_one", "_law_other", "_law_at", "_law_entry"] ["_law_script"] (defScope (topS 21)) := ⟨rfl, rfl, rfl, by decide +kernel, rfl, by decide +kernel, by decide +kernel⟩
theorem k_law_at {P : Program} {w : World} {K : PySem.W.Frag} {mg : Str → Option Value} {base : Heap} (G : Top K mg) {f c0 P0 : Addr} {fd : FuncData} (F : Fun K "law" "law" (topS 21) f fd) (hc : fd.code = .ref c0) (TB : LamX.TabB base mg c0 P0) (LT : LawTab K mg P0) : FnOk P w K mg base (L2.CX P w) 10 f fd ["_law_script"] (spF K mg lw.F_law) := by
  have b_abs := G.b_abs
  have b_len := G.b_len
  have b_range := G.b_range
  have b_set := G.b_set
  have b_sorted := G.b_sorted
  have k__law_alike := (k__law_alike (P := P) (w := w) (base := base) G).mono (show 9 ≤ 9 by decide)
  have k__law_pick := (k__law_pick (P := P) (w := w) (base := base) G).mono (show 2 ≤ 9 by decide)
  have k__law_taken := (k__law_taken (P := P) (w := w) (base := base) G).mono (show 1 ≤ 9 by decide)
  have k_even_word := (k_even_word (P := P) (w := w) (base := base) G).mono (show 4 ≤ 9 by decide)
  have k_generator_sizes := (k_generator_sizes (P := P) (w := w) (base := base) G).mono (show 2 ≤ 9 by decide)
  have k_is_balanced := (k_is_balanced (P := P) (w := w) (base := base) G).mono (show 2 ≤ 9 by decide)
  have k_modes := (k_modes (P := P) (w := w) (base := base) G).mono (show 2 ≤ 9 by decide)
  have k_word_clash := (k_word_clash (P := P) (w := w) (base := base) G).mono (show 2 ≤ 9 by decide)
  refine law_ok F hc sc_law fun A outer s H E hr => ?_
  have SC := sc_law
  exact fs_cons (fs_set SC.nd rfl (Or.inr rfl) (fx_o (fo_lst (fa_cons (fe_varA (i := 0)) (fa_cons (fe_int) (fa_cons (fe_int) (fa_cons (fe_int) (fa_nil))))))))
    (fs_cons (fs_set SC.nd rfl (Or.inl rfl) (fx_t (fe_bin op_addT ot_add (fe_int) (fe_callM (i := 1) k__law_taken hr (by rfl) passL rfl (fa_cons (fe_int) (fa_nil))))))
    (fs_cons (fs_set SC.nd rfl (Or.inr rfl) (fx_t (fe_sjoin (fe_str) (fe_new (fo_lc (own := [("_law_at", 12)]) rfl SC.nd (fi_range1 (by rfl) b_range (fa_cons (fe_varA (i := 2)) (fa_nil))) (blkOk_by (by kernel_rfl)) (fun _ _ _ _ _ => fg_name SC.nd rfl (Or.inl rfl)) (by decide) (fun _ _ _ _ _ => fts_nil) (fun _ _ _ _ _ => fe_callM (i := 1) k__law_pick hr (by rfl) passL rfl (fa_cons (fe_new (fo_lst (fa_cons (fe_str) (fa_cons (fe_str) (fa_nil))))) (fa_nil))))))))
    (fs_cons (fs_if (ft_cmp (op_eqT hr.units) ot_eq (fe_callM (i := 1) k__law_taken hr (by rfl) passL rfl (fa_cons (fe_int) (fa_nil))) (fe_int)) (fs_cons (fs_set SC.nd rfl (Or.inl rfl) (fx_t (fe_callM (i := 1) k__law_taken hr (by rfl) passL rfl (fa_cons (fe_bin op_addT ot_add (fe_varA (i := 2)) (fe_int)) (fa_nil)))))
    (fs_cons (fs_set SC.nd rfl (Or.inr rfl) (fx_t (fe_call k_even_word hr (by rfl) (passes_call (takes_of rfl rfl rfl rfl) fun _ _ _ _ h => h) (fa_cons (fe_varA (i := 5)) (fa_cons (fe_bin op_subA ot_subA (fe_varA (i := 2)) (fe_varA (i := 5))) (fa_nil))))))
    (fs_cons (fs_set SC.nd rfl (Or.inl rfl) (fx_t (fe_callM (i := 1) k__law_taken hr (by rfl) passL rfl (fa_cons (fe_varA (i := 2)) (fa_nil)))))
    (fs_one (fs_set SC.nd rfl (Or.inr rfl) (fx_t (fe_bin op_addT ot_add (fe_slice (fe_varA (i := 3)) (fpo_some (fe_varA (i := 6))) (fpo_none)) (fe_slice (fe_varA (i := 3)) (fpo_none) (fpo_some (fe_varA (i := 6))))))))))) (fs_nil))
    (fs_cons (fs_if (ft_cmp (op_eqT hr.units) ot_eq (fe_callM (i := 1) k__law_taken hr (by rfl) passL rfl (fa_cons (fe_int) (fa_nil))) (fe_int)) (fs_one (fs_set SC.nd rfl (Or.inr rfl) (fx_t (fe_revS (fe_varA (i := 3)) (fe_neg (fe_int)))))) (fs_nil))
    (fs_cons (fs_par rfl SC.nd (i := 7) (j := 8) rfl rfl (by decide) rfl rfl (fxs_cons (fx_t (fe_non)) (fxs_cons (fx_o (fo_lst (fa_nil))) (fxs_nil))) rfl)
    (fs_cons (fs_for (passes_of rfl) rfl (fi_range2 (by rfl) b_range (fa_cons (fe_int) (fa_cons (fe_varA (i := 2)) (fa_nil)))) (fg_name SC.nd rfl (Or.inr rfl)) (fs_cons (fs_set SC.nd rfl (Or.inr rfl) (fx_t (fe_new (fo_lc (own := [("_law_at", 12)]) rfl SC.nd (fi_range1 (by rfl) b_range (fa_cons (fe_varA (i := 2)) (fa_nil))) (blkOk_by (by kernel_rfl)) (fun _ _ _ _ _ => fg_name SC.nd rfl (Or.inl rfl)) (by decide) (fun _ _ _ _ _ => fts_nil) (fun _ _ _ _ _ => fe_scount (fe_slice (fe_bin op_addT ot_add (fe_varA (i := 3)) (fe_varA (i := 3))) (fpo_some (fe_varA (i := 12))) (fpo_some (fe_bin op_addT ot_add (fe_varA (i := 12)) (fe_varA (i := 4))))) (fe_str))))))
    (fs_cons (fs_for (passes_of rfl) rfl (fi_range1 (by rfl) b_range (fa_cons (fe_varA (i := 2)) (fa_nil))) (fg_name SC.nd rfl (Or.inl rfl)) (fs_one (fs_for (passes_of rfl) rfl (fi_range2 (by rfl) b_range (fa_cons (fe_bin op_addT ot_add (fe_varA (i := 10)) (fe_int)) (fa_cons (fe_varA (i := 2)) (fa_nil)))) (fg_name SC.nd rfl (Or.inl rfl)) (fs_one (fs_if (ft_w (fw_and (ft_cmp op_isT ot_is (fe_varA (i := 7)) (fe_non)) (fw_and1 (ft_cmp op_gt ot_gt (fe_callB call_abs ct_abs (by rfl) b_abs bt_abs (fa_cons (fe_bin op_subA ot_subA (fe_ixA (i := 9) rfl (fe_varA (i := 10))) (fe_ixA (i := 9) rfl (fe_varA (i := 11)))) (fa_nil))) (fe_int))))) (fs_one (fs_set SC.nd rfl (Or.inl rfl) (fx_t (fe_tup (fa_cons (fe_varA (i := 4)) (fa_cons (fe_varA (i := 10)) (fa_cons (fe_varA (i := 11)) (fa_nil)))))))) (fs_nil))))))
    (fs_one (fs_if (ft_w (fw_and (ft_cmp (op_eqT hr.units) ot_eq (fe_lensetX (units64 hr) (by rfl) b_len (by rfl) b_set (fe_varA (i := 9))) (fe_int)) (fw_and1 (ft_cmp (op_inA (units65 hr)) ot_in (fe_int) (fe_new (fo_lc (own := [("_law_entry", 13)]) rfl SC.nd (fi_seqA (fe_varA (i := 9))) (blkOk_by (by kernel_rfl)) (fun _ _ _ _ _ => fg_name SC.nd rfl (Or.inl rfl)) (by decide) (fun _ _ _ _ _ => fts_nil) (fun _ _ _ _ _ => fe_lcount (fe_varA (i := 9)) (fe_varA (i := 13))))))))) (fs_one (fs_expr (fe_append (i := 8) rfl (fe_varA (i := 4))))) (fs_nil))))))
    (fs_cons (fs_if (ft_w (fw_or (ft_not (ft_val (fe_call k__law_alike hr (by rfl) (passes_call (takes_of rfl rfl rfl rfl) fun _ _ _ _ h => h) (fa_cons (fe_call k_word_clash hr (by rfl) (passes_call (takes_of rfl rfl rfl rfl) fun _ _ _ _ h => h) (fa_cons (fe_varA (i := 3)) (fa_nil))) (fa_cons (fe_varA (i := 7)) (fa_nil)))))) (fw_or1 (ft_not (ft_val (fe_call k__law_alike hr (by rfl) (passes_call (takes_of rfl rfl rfl rfl) fun _ _ _ _ h => h) (fa_cons (fe_call k_is_balanced hr (by rfl) (passes_call (takes_of rfl rfl rfl rfl) fun _ _ _ _ h => h) (fa_cons (fe_varA (i := 3)) (fa_nil))) (fa_cons (fe_cmp op_isT ot_is (fe_varA (i := 7)) (fe_non)) (fa_nil))))))))) (fs_one (fs_ret (fe_bl))) (fs_nil))
    (fs_cons (fs_if (ft_not (ft_val (fe_call k__law_alike hr (by rfl) (passes_call (takes_of rfl rfl rfl rfl) fun _ _ _ _ h => h) (fa_cons (fe_call k_modes hr (by rfl) (passes_call (takes_of rfl rfl rfl rfl) fun _ _ _ _ h => h) (fa_cons (fe_varA (i := 3)) (fa_nil))) (fa_cons (fe_new (fo_sortsetX rfl (units66 hr) (by rfl) b_sorted bt_sorted (by rfl) b_set bt_set (fa_cons (fe_new (fo_lc (own := [("_law_at", 12)]) rfl SC.nd (fi_range1 (by rfl) b_range (fa_cons (fe_varA (i := 2)) (fa_nil))) (blkOk_by (by kernel_rfl)) (fun _ _ _ _ _ => fg_name SC.nd rfl (Or.inl rfl)) (by decide) (fun _ _ _ _ _ => fts_nil) (fun _ _ _ _ _ => fe_bin op_addT ot_add (fe_slice (fe_varA (i := 3)) (fpo_some (fe_varA (i := 12))) (fpo_none)) (fe_slice (fe_varA (i := 3)) (fpo_none) (fpo_some (fe_varA (i := 12))))))) (fa_nil)))) (fa_nil)))))) (fs_one (fs_ret (fe_bl))) (fs_nil))
    (fs_one (fs_ret (fe_call k__law_alike hr (by rfl) (passes_call (takes_of rfl rfl rfl rfl) fun _ _ _ _ h => h) (fa_cons (fe_call k_generator_sizes hr (by rfl) (passes_call (takes_of rfl rfl rfl rfl) fun _ _ _ _ h => h) (fa_cons (fe_varA (i := 3)) (fa_nil))) (fa_cons (fe_varA (i := 8)) (fa_nil))))))))))))))
end Law

namespace Law
open PySem PySem.Spec L2 FL TW
theorem all_mk {l : PySem.W.OpenLaw} {w : World} {K : PySem.W.Frag} {h : Heap} {mg : Str → Option Value} {fa : Addr} (X : K.In h) (G : h.Ns mainGlobals mg) (hfa : mg "law" = some (.ref fa))
    (z_abs : PySem.W.nsIn K mainGlobals "abs" = some none)
    (z_all : PySem.W.nsIn K mainGlobals "all" = some none)
    (z_bool : PySem.W.nsIn K mainGlobals "bool" = some none)
    (z_enumerate : PySem.W.nsIn K mainGlobals "enumerate" = some none)
    (z_int : PySem.W.nsIn K mainGlobals "int" = some none)
    (z_isinstance : PySem.W.nsIn K mainGlobals "isinstance" = some none)
    (z_len : PySem.W.nsIn K mainGlobals "len" = some none)
    (z_list : PySem.W.nsIn K mainGlobals "list" = some none)
    (z_max : PySem.W.nsIn K mainGlobals "max" = some none)
    (z_min : PySem.W.nsIn K mainGlobals "min" = some none)
    (z_range : PySem.W.nsIn K mainGlobals "range" = some none)
    (z_set : PySem.W.nsIn K mainGlobals "set" = some none)
    (z_sorted : PySem.W.nsIn K mainGlobals "sorted" = some none)
    (z_str : PySem.W.nsIn K mainGlobals "str" = some none)
    (z_tuple : PySem.W.nsIn K mainGlobals "tuple" = some none)
    {t_MOST_LETTERS : Tok} (z_MOST_LETTERS : PySem.W.nsIn K mainGlobals "MOST_LETTERS" = some (some (.int (40) t_MOST_LETTERS)))
    {f0 : Addr} {od0 an0 : Option Addr} {sl0 : Array (Option Value)} {oc0 kV0 dc0 pm0 ct0 : Value} {cd0 : Value}
    (a0 : PySem.W.nsIn K mainGlobals "is_int" = some (some (.ref f0))) (l0 : K.lookup f0 = some ⟨oc0, od0, .func (PySem.W.fnOf "is_int" "is_int" (defArgs (topS 5)) (defBody (topS 5)) (defScope (topS 5)) .none kV0 dc0 pm0 an0 cd0 ct0), sl0⟩) (c0 : PySem.W.codeIn K cd0 "is_int" = true) (k0 : PySem.W.keepIn K (.ref f0) = true)
    {f1 : Addr} {od1 an1 : Option Addr} {sl1 : Array (Option Value)} {oc1 kV1 dc1 pm1 ct1 : Value} {cd1 : Value}
    (a1 : PySem.W.nsIn K mainGlobals "need_word" = some (some (.ref f1))) (l1 : K.lookup f1 = some ⟨oc1, od1, .func (PySem.W.fnOf "need_word" "need_word" (defArgs (topS 11)) (defBody (topS 11)) (defScope (topS 11)) .none kV1 dc1 pm1 an1 cd1 ct1), sl1⟩) (c1 : PySem.W.codeIn K cd1 "need_word" = true) (k1 : PySem.W.keepIn K (.ref f1) = true)
    {f2 : Addr} {od2 an2 : Option Addr} {sl2 : Array (Option Value)} {oc2 kV2 dc2 pm2 ct2 : Value} {cd2 : Value}
    (a2 : PySem.W.nsIn K mainGlobals "counts_of" = some (some (.ref f2))) (l2 : K.lookup f2 = some ⟨oc2, od2, .func (PySem.W.fnOf "counts_of" "counts_of" (defArgs (topS 12)) (defBody (topS 12)) (defScope (topS 12)) .none kV2 dc2 pm2 an2 cd2 ct2), sl2⟩) (c2 : PySem.W.codeIn K cd2 "counts_of" = true) (k2 : PySem.W.keepIn K (.ref f2) = true)
    {f3 : Addr} {od3 an3 : Option Addr} {sl3 : Array (Option Value)} {oc3 kV3 dc3 pm3 ct3 : Value} {cd3 : Value}
    (a3 : PySem.W.nsIn K mainGlobals "_law_taken" = some (some (.ref f3))) (l3 : K.lookup f3 = some ⟨oc3, od3, .func (PySem.W.fnOf "_law_taken" "_law_taken" (defArgs (topS 18)) (defBody (topS 18)) (defScope (topS 18)) .none kV3 dc3 pm3 an3 cd3 ct3), sl3⟩) (c3 : PySem.W.codeIn K cd3 "_law_taken" = true) (k3 : PySem.W.keepIn K (.ref f3) = true)
    {f4 : Addr} {od4 an4 : Option Addr} {sl4 : Array (Option Value)} {oc4 kV4 dc4 pm4 ct4 : Value} {cd4 : Value}
    (a4 : PySem.W.nsIn K mainGlobals "is_in" = some (some (.ref f4))) (l4 : K.lookup f4 = some ⟨oc4, od4, .func (PySem.W.fnOf "is_in" "is_in" (defArgs (topS 6)) (defBody (topS 6)) (defScope (topS 6)) .none kV4 dc4 pm4 an4 cd4 ct4), sl4⟩) (c4 : PySem.W.codeIn K cd4 "is_in" = true) (k4 : PySem.W.keepIn K (.ref f4) = true)
    {f5 : Addr} {od5 an5 : Option Addr} {sl5 : Array (Option Value)} {oc5 kV5 dc5 pm5 ct5 : Value} {cd5 : Value}
    (a5 : PySem.W.nsIn K mainGlobals "is_balanced" = some (some (.ref f5))) (l5 : K.lookup f5 = some ⟨oc5, od5, .func (PySem.W.fnOf "is_balanced" "is_balanced" (defArgs (topS 13)) (defBody (topS 13)) (defScope (topS 13)) .none kV5 dc5 pm5 an5 cd5 ct5), sl5⟩) (c5 : PySem.W.codeIn K cd5 "is_balanced" = true) (k5 : PySem.W.keepIn K (.ref f5) = true)
    {f6 : Addr} {od6 an6 : Option Addr} {sl6 : Array (Option Value)} {oc6 kV6 dc6 pm6 ct6 : Value} {cd6 : Value}
    (a6 : PySem.W.nsIn K mainGlobals "word_clash" = some (some (.ref f6))) (l6 : K.lookup f6 = some ⟨oc6, od6, .func (PySem.W.fnOf "word_clash" "word_clash" (defArgs (topS 14)) (defBody (topS 14)) (defScope (topS 14)) .none kV6 dc6 pm6 an6 cd6 ct6), sl6⟩) (c6 : PySem.W.codeIn K cd6 "word_clash" = true) (k6 : PySem.W.keepIn K (.ref f6) = true)
    {f7 : Addr} {od7 an7 : Option Addr} {sl7 : Array (Option Value)} {oc7 kV7 dc7 pm7 ct7 : Value} {cd7 : Value}
    (a7 : PySem.W.nsIn K mainGlobals "modes" = some (some (.ref f7))) (l7 : K.lookup f7 = some ⟨oc7, od7, .func (PySem.W.fnOf "modes" "modes" (defArgs (topS 15)) (defBody (topS 15)) (defScope (topS 15)) .none kV7 dc7 pm7 an7 cd7 ct7), sl7⟩) (c7 : PySem.W.codeIn K cd7 "modes" = true) (k7 : PySem.W.keepIn K (.ref f7) = true)
    {f8 : Addr} {od8 an8 : Option Addr} {sl8 : Array (Option Value)} {oc8 kV8 dc8 pm8 ct8 : Value} {cd8 : Value}
    (a8 : PySem.W.nsIn K mainGlobals "generator_sizes" = some (some (.ref f8))) (l8 : K.lookup f8 = some ⟨oc8, od8, .func (PySem.W.fnOf "generator_sizes" "generator_sizes" (defArgs (topS 16)) (defBody (topS 16)) (defScope (topS 16)) .none kV8 dc8 pm8 an8 cd8 ct8), sl8⟩) (c8 : PySem.W.codeIn K cd8 "generator_sizes" = true) (k8 : PySem.W.keepIn K (.ref f8) = true)
    {f9 : Addr} {od9 an9 : Option Addr} {sl9 : Array (Option Value)} {oc9 kV9 dc9 pm9 ct9 : Value} {cd9 : Value}
    (a9 : PySem.W.nsIn K mainGlobals "_law_pick" = some (some (.ref f9))) (l9 : K.lookup f9 = some ⟨oc9, od9, .func (PySem.W.fnOf "_law_pick" "_law_pick" (defArgs (topS 19)) (defBody (topS 19)) (defScope (topS 19)) .none kV9 dc9 pm9 an9 cd9 ct9), sl9⟩) (c9 : PySem.W.codeIn K cd9 "_law_pick" = true) (k9 : PySem.W.keepIn K (.ref f9) = true)
    {f10 : Addr} {od10 an10 : Option Addr} {sl10 : Array (Option Value)} {oc10 kV10 dc10 pm10 ct10 : Value} {cd10 : Value}
    (a10 : PySem.W.nsIn K mainGlobals "need_letters" = some (some (.ref f10))) (l10 : K.lookup f10 = some ⟨oc10, od10, .func (PySem.W.fnOf "need_letters" "need_letters" (defArgs (topS 9)) (defBody (topS 9)) (defScope (topS 9)) .none kV10 dc10 pm10 an10 cd10 ct10), sl10⟩) (c10 : PySem.W.codeIn K cd10 "need_letters" = true) (k10 : PySem.W.keepIn K (.ref f10) = true)
    {f11 : Addr} {od11 an11 : Option Addr} {sl11 : Array (Option Value)} {oc11 kV11 dc11 pm11 ct11 : Value} {cd11 : Value}
    (a11 : PySem.W.nsIn K mainGlobals "even_word" = some (some (.ref f11))) (l11 : K.lookup f11 = some ⟨oc11, od11, .func (PySem.W.fnOf "even_word" "even_word" (defArgs (topS 10)) (defBody (topS 10)) (defScope (topS 10)) .none kV11 dc11 pm11 an11 cd11 ct11), sl11⟩) (c11 : PySem.W.codeIn K cd11 "even_word" = true) (k11 : PySem.W.keepIn K (.ref f11) = true)
    {f12 : Addr} {od12 an12 : Option Addr} {sl12 : Array (Option Value)} {oc12 kV12 dc12 pm12 ct12 : Value} {cd12 : Value}
    (a12 : PySem.W.nsIn K mainGlobals "_law_alike" = some (some (.ref f12))) (l12 : K.lookup f12 = some ⟨oc12, od12, .func (PySem.W.fnOf "_law_alike" "_law_alike" (defArgs (topS 20)) (defBody (topS 20)) (defScope (topS 20)) .none kV12 dc12 pm12 an12 cd12 ct12), sl12⟩) (c12 : PySem.W.codeIn K cd12 "_law_alike" = true) (k12 : PySem.W.keepIn K (.ref f12) = true)
    {f13 : Addr} {od13 an13 : Option Addr} {sl13 : Array (Option Value)} {oc13 kV13 dc13 pm13 ct13 : Value}
    {cL : Addr} (a13 : PySem.W.nsIn K mainGlobals "law" = some (some (.ref f13))) (l13 : K.lookup f13 = some ⟨oc13, od13, .func (PySem.W.fnOf "law" "law" (defArgs (topS 21)) (defBody (topS 21)) (defScope (topS 21)) .none kV13 dc13 pm13 an13 (.ref cL) ct13), sl13⟩) (c13 : PySem.W.codeIn K (.ref cL) "law" = true) (k13 : PySem.W.keepIn K (.ref f13) = true)
    {P0 : Addr} {dd0 : Option Addr} {vs0 : Array Value} {sl0 : Array (Option Value)} {file0 : Str} {tf0 tg0 tt0 : Tok} {flags0 text0 : Int} {inF0 : Bool} (y1 : K.lookup cL = some ⟨.type "code", dd0, .fields vs0, sl0⟩) (y2 : vs0[11]? = some (.ref P0)) (y3 : vs0.getD 18 .none = .str file0 tf0) (y4 : vs0.getD 7 .none = .int flags0 tg0) (y5 : vs0.getD 9 .none = .bool inF0) (y6 : vs0.getD 10 .none = .int text0 tt0) (y7 : cL ≠ P0) (y8 : K.lookup P0 = none)
    (own : LamX.OwnTab K fa h) : LamX.LawAtS l w K (L2.CX l.prog w) 10 63 "_law_script" mg fa h := by
  have T : Top K mg := ⟨PySem.W.mg_none_of X G z_abs, PySem.W.mg_none_of X G z_all, PySem.W.mg_none_of X G z_bool, PySem.W.mg_none_of X G z_enumerate, PySem.W.mg_none_of X G z_int, PySem.W.mg_none_of X G z_isinstance, PySem.W.mg_none_of X G z_len, PySem.W.mg_none_of X G z_list, PySem.W.mg_none_of X G z_max, PySem.W.mg_none_of X G z_min, PySem.W.mg_none_of X G z_range, PySem.W.mg_none_of X G z_set, PySem.W.mg_none_of X G z_sorted, PySem.W.mg_none_of X G z_str, PySem.W.mg_none_of X G z_tuple, ⟨t_MOST_LETTERS, PySem.W.mg_of X G z_MOST_LETTERS⟩, ⟨f0, _, fun_mk (st := topS 5) l0 c0 k0, PySem.W.mg_of X G a0⟩, ⟨f1, _, fun_mk (st := topS 11) l1 c1 k1, PySem.W.mg_of X G a1⟩, ⟨f2, _, fun_mk (st := topS 12) l2 c2 k2, PySem.W.mg_of X G a2⟩, ⟨f3, _, fun_mk (st := topS 18) l3 c3 k3, PySem.W.mg_of X G a3⟩, ⟨f4, _, fun_mk (st := topS 6) l4 c4 k4, PySem.W.mg_of X G a4⟩, ⟨f5, _, fun_mk (st := topS 13) l5 c5 k5, PySem.W.mg_of X G a5⟩, ⟨f6, _, fun_mk (st := topS 14) l6 c6 k6, PySem.W.mg_of X G a6⟩, ⟨f7, _, fun_mk (st := topS 15) l7 c7 k7, PySem.W.mg_of X G a7⟩, ⟨f8, _, fun_mk (st := topS 16) l8 c8 k8, PySem.W.mg_of X G a8⟩, ⟨f9, _, fun_mk (st := topS 19) l9 c9 k9, PySem.W.mg_of X G a9⟩, ⟨f10, _, fun_mk (st := topS 9) l10 c10 k10, PySem.W.mg_of X G a10⟩, ⟨f11, _, fun_mk (st := topS 10) l11 c11 k11, PySem.W.mg_of X G a11⟩, ⟨f12, _, fun_mk (st := topS 20) l12 c12 k12, PySem.W.mg_of X G a12⟩, ⟨f13, _, fun_mk (st := topS 21) l13 c13 k13, PySem.W.mg_of X G a13⟩⟩
  have e := hfa.symm.trans (PySem.W.mg_of X G a13)
  cases e
  exact law_end X hfa l13 rfl ⟨⟨_, _, _, _, _, _, _, _, _, _, y1, y2, y3, y4, y5, y6, y7, y8⟩⟩ own (fun s v => .of_eq rfl) fun base _ _ TB LT => law_imp (k_law_at T (fun_mk (st := topS 21) l13 c13 k13) rfl TB LT) law_true
end Law
open PySem PySem.W PyProof.Rows
set_option maxHeartbeats 0 in
theorem PySem.Challenge.cw_temperworks_k55_whole_words_holds : PySem.Challenge.rw_temperworks_k55_whole_words.Holds := by
  w_on; o_law; k_head; (case hw => w_witness2)
  k_fill
  refine LamX.walk_ofOwn (l := PySem.Challenge.rw_temperworks_k55_whole_words) (n := 63) (k := 10) (x := "_law_script") (CX := fun w => L2.CX (PySem.W.OpenLaw.prog PySem.Challenge.rw_temperworks_k55_whole_words) w) rfl (by decide) rfl ⟨rfl, by decide, by decide⟩ (by kernel_rfl) (fun w h Y => by first | exact PySem.W.kIn_of Y | exact PySem.W.km_in_of Y) ?F (fun _ _ _ _ _ h => FL.noE0 h)
  case F =>
    intro w mg fa h _ KX G hmg own
    refine' Law.all_mk KX G hmg ?z_abs ?z_all ?z_bool ?z_enumerate ?z_int ?z_isinstance ?z_len ?z_list ?z_max ?z_min ?z_range ?z_set ?z_sorted ?z_str ?z_tuple ?z_MOST_LETTERS ?a0 ?l0 ?c0 ?k0 ?a1 ?l1 ?c1 ?k1 ?a2 ?l2 ?c2 ?k2 ?a3 ?l3 ?c3 ?k3 ?a4 ?l4 ?c4 ?k4 ?a5 ?l5 ?c5 ?k5 ?a6 ?l6 ?c6 ?k6 ?a7 ?l7 ?c7 ?k7 ?a8 ?l8 ?c8 ?k8 ?a9 ?l9 ?c9 ?k9 ?a10 ?l10 ?c10 ?k10 ?a11 ?l11 ?c11 ?k11 ?a12 ?l12 ?c12 ?k12 ?a13 ?l13 ?c13 ?k13 ?y1 ?y2 ?y3 ?y4 ?y5 ?y6 ?y7 ?y8 own
    (case z_abs => k_is); (case z_all => k_is); (case z_bool => k_is); (case z_enumerate => k_is); (case z_int => k_is); (case z_isinstance => k_is); (case z_len => k_is); (case z_list => k_is); (case z_max => k_is); (case z_min => k_is); (case z_range => k_is); (case z_set => k_is); (case z_sorted => k_is); (case z_str => k_is); (case z_tuple => k_is); (case z_MOST_LETTERS => k_is); (case a0 => k_is); (case l0 => k_is); (case c0 => k_is); (case k0 => k_is); (case a1 => k_is); (case l1 => k_is); (case c1 => k_is); (case k1 => k_is); (case a2 => k_is); (case l2 => k_is); (case c2 => k_is); (case k2 => k_is); (case a3 => k_is); (case l3 => k_is); (case c3 => k_is); (case k3 => k_is); (case a4 => k_is); (case l4 => k_is); (case c4 => k_is); (case k4 => k_is); (case a5 => k_is); (case l5 => k_is); (case c5 => k_is); (case k5 => k_is); (case a6 => k_is); (case l6 => k_is); (case c6 => k_is); (case k6 => k_is); (case a7 => k_is); (case l7 => k_is); (case c7 => k_is); (case k7 => k_is); (case a8 => k_is); (case l8 => k_is); (case c8 => k_is); (case k8 => k_is); (case a9 => k_is); (case l9 => k_is); (case c9 => k_is); (case k9 => k_is); (case a10 => k_is); (case l10 => k_is); (case c10 => k_is); (case k10 => k_is); (case a11 => k_is); (case l11 => k_is); (case c11 => k_is); (case k11 => k_is); (case a12 => k_is); (case l12 => k_is); (case c12 => k_is); (case k12 => k_is); (case a13 => k_is); (case l13 => k_is); (case c13 => k_is); (case k13 => k_is); (case y1 => k_is); (case y2 => rfl); (case y3 => rfl); (case y4 => rfl); (case y5 => rfl); (case y6 => rfl); (case y7 => decide); (case y8 => kernel_rfl)

